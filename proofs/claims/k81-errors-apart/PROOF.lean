import PyProof.Rows.All
import Wide.All
import OpenK.AllK
import Wide.FinOn
import HandS.ForMost
import HandS.ForExc
import HandS.ExcInit
import KE.GoesEnum
import HandS.CallSlots
import HandS.Defaults
import HandS.More
import HandS.IsInst
import HandS.Deep
import HandS.TupAny
import HandS.Text
import HandS.SetFor
import Flt.Ops
import PyProof.StrOps2
import KE.KExcInit
import HandS.ExcIs
import HandS.ExcField
import HandS.ExcValue
import KE.KExcIs
import HandS.HeadEnd
import HandS.HeadHook4
import KE.KStateDown
import HandS.Head0
import HandS.Head1
import HandS.Head2
import HandS.HeadHook1
import HandS.HeadHook2
import HandS.HeadHook3
import PySem.Challenge.RW_steadycover_k81_errors_apart
set_option Elab.async false
set_option linter.all false
set_option maxRecDepth 100000
set_option autoImplicit false
namespace Py
open PySem PySem.Spec PyProof.Rows L2

/-! ### plain values -/
abbrev Txt := List Nat
def sv (s : Txt) : Str := ⟨s.toArray⟩
inductive Val where
  | non | bl (b : Bool) | int (i : Int) | str (s : Txt)
  | tup (vs : List Val) | lst (vs : List Val) | scr (vs : List Val) | dic (kvs : List (Txt × Val))
  | obj (c : String) (fs : List (String × Val)) | ref (n : Nat)
  | exc0 (c : String) | exc1 (c : String) (v : Val)
  deriving Inhabited
inductive SO where
  | lst (vs : List Val) | obj (c : String) (fs : List (String × Val)) | dead
  deriving Inhabited
abbrev Sto := List SO
structure Exn where
  cls : String
  arg : Option Val
inductive R (α : Type) where
  | ok (a : α) (st : Sto) | ex (x : Exn) (st : Sto) | bad
def R.bind {α β : Type} (r : R α) (f : α → Sto → R β) : R β := match r with
  | .ok a st => f a st
  | .ex x st => .ex x st
  | .bad => .bad
@[simp] theorem R.bind_ok {α β : Type} (a : α) (st : Sto) (f : α → Sto → R β) : (R.ok a st).bind f = f a st := rfl
@[simp] theorem R.bind_ex {α β : Type} (x : Exn) (st : Sto) (f : α → Sto → R β) : (R.ex x st : R α).bind f = .ex x st := rfl
@[simp] theorem R.bind_bad {α β : Type} (f : α → Sto → R β) : (R.bad : R α).bind f = .bad := rfl
inductive Slot where
  | no | vl (v : Val) | ow (v : Val) | bw (v : Val) | exn (x : Exn)
  deriving Inhabited
abbrev Env := List Slot
inductive SR where
  | nx (e : Env) (st : Sto) | rt (v : Val) (fr : Bool) (e : Env) (st : Sto) | bk (e : Env) (st : Sto) | ct (e : Env) (st : Sto) | rs (x : Exn) (e : Env) (st : Sto) | bad

/-- an expression: its value and whether it is a new object of its own -/
abbrev EX := Env → Sto → R (Val × Bool)
abbrev TX := Env → Sto → R Bool
abbrev AX := Env → Sto → R (List Val)
abbrev SX := Env → Sto → SR
/-- a def: arguments, store -/
abbrev FX := List Val → Sto → R (Val × Bool)

/-! ### what stands for a value -/
/-- the fields of the program's classes -/
def attOk (c f : String) : Bool := match c with
  | "Table" => f == "text" || f == "n"
  | "Demand" => f == "table" || f == "changes" || f == "steep" || f == "off_list"
  | "Word" => f == "text" || f == "zeros" || f == "ones"
  | "Search" => f == "sets_to_meet" || f == "best" || f == "found"
  | "SheetReader" => f == "table" || f == "changes" || f == "cubes"
  | "TreeReader" => f == "signs" || f == "place" || f == "leaves"
  | "Desk" => f == "table" || f == "now" || f == "past" || f == "future" || f == "mark"
  | _ => false
/-- the field of an error's class -/
def excAttr : String → String
  | "InvalidTable" => "why" | "InvalidTree" => "path" | "InvalidPlay" => "path" | "InvalidText" => "line" | "InvalidName" => "name"
  | "LimitExceeded" => "limit" | "UnknownName" => "name" | "NothingLeft" => "word" | _ => "at"
structure G where
  exc : String → Bool
  K : PySem.W.Frag
  cls : String → Addr
  has : String → Bool
  att : ∀ c f, has c = true → attOk c f = true → Cls K (cls c) ∧ NoAttr K (cls c) (Str.ofString f)
structure Wd where
  ph : Nat → Addr
  F : Addr → Prop
  H : Hp
  st : Sto
def fz (ks : List String) (xs : List V) : List (Str × V) := List.zipWith (fun k x => (Str.ofString k, x)) ks xs
def dz (ks : List Txt) (xs : List V) : List (Key × V) := List.zipWith (fun k x => ((Sum.inr (sv k) : Key), x)) ks xs
/-- a sequence object that stays as it is -/
def FRd (u : Wd) (a : Addr) (o : HO) : Prop := u.F a ∧ Rd u.H a o
section
variable (g : G) (u : Wd)
mutual
inductive VR : Val → V → Prop
  | non : VR .non .non
  | bl (b) : VR (.bl b) (.bl b)
  | int (i) : VR (.int i) (.int i)
  | str (s) : VR (.str s) (.str (sv s))
  | tup {vs xs a} : FRd u a (.tup xs) → VRs vs xs → VR (.tup vs) (.ref a)
  | tupK {vs xs a} : (∀ H, SqT g.K H a xs) → VRs vs xs → VR (.tup vs) (.ref a)
  | lst {vs xs a} : u.F a → u.H a = some (.lst xs) → VRs vs xs → VR (.lst vs) (.ref a)
  | scr {vs xs a} : FRd u a (.lst xs) ∨ (∀ H, SqL g.K H a xs) → VRs vs xs → VR (.scr vs) (.ref a)
  | dic {kvs xs a} : u.F a → u.H a = some (.dK (dz (kvs.map Prod.fst) xs)) → VRs (kvs.map Prod.snd) xs → VR (.dic kvs) (.ref a)
  | obj {c fs a dx xs} : g.has c = true → u.F a → u.H a = some (.ins (g.cls c) dx (fz (fs.map Prod.fst) xs)) → VRs (fs.map Prod.snd) xs → VR (.obj c fs) (.ref a)
  | ref {n} : n < u.st.length → VR (.ref n) (.ref (u.ph n))
  | exc0 {c a} : g.exc c = true → u.F a → u.H a = some (exo a (g.cls c) none) → VR (.exc0 c) (.ref a)
  | exc1 {c v y a d} : g.exc c = true → u.F a → u.F d → u.H a = some (exo a (g.cls c) (some d)) → u.H d = some (.xd [(Str.ofString (excAttr c), y)]) → VR v y → VR (.exc1 c v) (.ref a)
inductive VRs : List Val → List V → Prop
  | nil : VRs [] []
  | cons {v x vs xs} : VR v x → VRs vs xs → VRs (v :: vs) (x :: xs)
end
end
/-- what an object holds that may still change -/
def Cont (g : G) (u : Wd) : Val → Addr → Prop
  | .lst vs, a => ∃ xs, u.H a = some (.lst xs) ∧ VRs g u vs xs
  | .dic kvs, a => ∃ xs, u.H a = some (.dK (dz (kvs.map Prod.fst) xs)) ∧ VRs g u (kvs.map Prod.snd) xs
  | .obj c fs, a => g.has c = true ∧ ∃ dx xs, u.H a = some (.ins (g.cls c) dx (fz (fs.map Prod.fst) xs)) ∧ VRs g u (fs.map Prod.snd) xs
  | _, _ => False
def SO.val : SO → Val
  | .lst vs => .lst vs
  | .obj c fs => .obj c fs
  | .dead => .non
structure SRel (g : G) (u : Wd) : Prop where
  at_ : ∀ m, m < u.st.length → u.st[m]? = some .dead ∨ ∃ o, u.st[m]? = some o ∧ ¬ u.F (u.ph m) ∧ Cont g u o.val (u.ph m)
  inj : ∀ m k, m < u.st.length → k < u.st.length → u.ph m = u.ph k → m = k
  dom : ∀ m, m < u.st.length → u.H (u.ph m) ≠ none
  fdom : ∀ a, u.F a → u.H a ≠ none
structure Prot (P : Addr → Prop) (u : Wd) : Prop where
  dom : ∀ a, P a → u.H a ≠ none
  nf : ∀ a, P a → ¬ u.F a
  ns : ∀ a, P a → ∀ m, m < u.st.length → u.ph m ≠ a
structure Le (P : Addr → Prop) (u u' : Wd) : Prop where
  n : u.st.length ≤ u'.st.length
  ph : ∀ m, m < u.st.length → u'.ph m = u.ph m
  F : ∀ a, u.F a → u'.F a
  FH : ∀ a, u.F a → u'.H a = u.H a
  PH : ∀ a, P a → u'.H a = u.H a
  nF : ∀ a, P a → ¬ u.F a → ¬ u'.F a
  ns : ∀ a, P a → (∀ m, m < u.st.length → u.ph m ≠ a) → ∀ m, m < u'.st.length → u'.ph m ≠ a
  dom : ∀ a, u.H a ≠ none → u'.H a ≠ none
theorem Le.refl (P : Addr → Prop) (u : Wd) : Le P u u := ⟨Nat.le_refl _, fun _ _ => rfl, fun _ h => h, fun _ _ => rfl, fun _ _ => rfl, fun _ _ h => h, fun _ _ h => h, fun _ h => h⟩
theorem Le.trans {P : Addr → Prop} {u v w : Wd} (a : Le P u v) (b : Le P v w) : Le P u w where
  n := Nat.le_trans a.n b.n
  ph := fun m h => (b.ph m (Nat.lt_of_lt_of_le h a.n)).trans (a.ph m h)
  F := fun x h => b.F x (a.F x h)
  FH := fun x h => (b.FH x (a.F x h)).trans (a.FH x h)
  PH := fun x h => (b.PH x h).trans (a.PH x h)
  nF := fun x h q => b.nF x h (a.nF x h q)
  ns := fun x h q => b.ns x h (a.ns x h q)
  dom := fun x h => b.dom x (a.dom x h)
theorem Le.mono {P Q : Addr → Prop} {u v : Wd} (a : Le P u v) (h : ∀ x, Q x → P x) : Le Q u v := ⟨a.n, a.ph, a.F, a.FH, fun x q => a.PH x (h x q), fun x q => a.nF x (h x q), fun x q => a.ns x (h x q), a.dom⟩
theorem Prot.le {P : Addr → Prop} {u v : Wd} (p : Prot P u) (a : Le P u v) : Prot P v where
  dom := fun x h => a.dom x (p.dom x h)
  nf := fun x h => a.nF x h (p.nf x h)
  ns := fun x h => a.ns x h (p.ns x h)
section
variable {g : G} {P : Addr → Prop} {u u' : Wd}
theorem FRd.le {a : Addr} {o : HO} (l : Le P u u') (h : FRd u a o) : FRd u' a o := ⟨l.F a h.1, by
  have e := l.FH a h.1
  unfold Rd
  rw [e]
  exact h.2⟩
mutual
theorem VR.le (l : Le P u u') : ∀ {v : Val} {x : V}, VR g u v x → VR g u' v x
  | _, _, .non => .non
  | _, _, .bl b => .bl b
  | _, _, .int i => .int i
  | _, _, .str s => .str s
  | _, _, .tup h r => .tup (h.le l) (VRs.le l r)
  | _, _, .tupK h r => .tupK h (VRs.le l r)
  | _, _, .lst h e r => .lst (l.F _ h) ((l.FH _ h).trans e) (VRs.le l r)
  | _, _, .scr h r => .scr (h.imp (fun z => z.le l) id) (VRs.le l r)
  | _, _, .dic h e r => .dic (l.F _ h) ((l.FH _ h).trans e) (VRs.le l r)
  | _, _, .obj z h e r => .obj z (l.F _ h) ((l.FH _ h).trans e) (VRs.le l r)
  | _, _, .ref h => by
    rw [← l.ph _ h]
    exact .ref (Nat.lt_of_lt_of_le h l.n)
  | _, _, .exc0 z h e => .exc0 z (l.F _ h) ((l.FH _ h).trans e)
  | _, _, .exc1 z h h' e e' r => .exc1 z (l.F _ h) (l.F _ h') ((l.FH _ h).trans e) ((l.FH _ h').trans e') (VR.le l r)
theorem VRs.le (l : Le P u u') : ∀ {vs : List Val} {xs : List V}, VRs g u vs xs → VRs g u' vs xs
  | _, _, .nil => .nil
  | _, _, .cons r t => .cons (VR.le l r) (VRs.le l t)
end
theorem Cont.le (l : Le P u u') {v : Val} {a : Addr} (e : u'.H a = u.H a) (h : Cont g u v a) : Cont g u' v a := by
  unfold Cont at *
  split at h
  · obtain ⟨xs, h1, h2⟩ := h
    exact ⟨xs, e.trans h1, h2.le l⟩
  · obtain ⟨xs, h1, h2⟩ := h
    exact ⟨xs, e.trans h1, h2.le l⟩
  · obtain ⟨z, dx, xs, h1, h2⟩ := h
    exact ⟨z, dx, xs, e.trans h1, h2.le l⟩
  · exact h.elim
end
/-! ### the slots -/
def SlotR (g : G) (u : Wd) (Z D : Addr → Prop) (o : Option (Option V)) : Slot → Prop
  | .no => True
  | .vl v => ∃ x, o = some (some x) ∧ VR g u v x
  | .ow v => ∃ a, o = some (some (.ref a)) ∧ Cont g u v a ∧ ¬ u.F a ∧ (∀ m, m < u.st.length → u.ph m ≠ a) ∧ ¬ D a
  | .bw v => ∃ a, o = some (some (.ref a)) ∧ Cont g u v a ∧ Z a
  | .exn _ => True
structure ERel (g : G) (u : Wd) (Z D : Addr → Prop) (σ : L2.St) (env : Env) : Prop where
  len : σ.length = env.length
  at_ : ∀ (i : Nat) (s : Slot), env[i]? = some s → SlotR g u Z D σ[i]? s
  dis : ∀ (i j : Nat) (v w : Val) (a : Addr), env[i]? = some (.ow v) → env[j]? = some (.ow w) → σ[i]? = some (some (.ref a)) → σ[j]? = some (some (.ref a)) → i = j
def Own (σ : L2.St) (env : Env) (a : Addr) : Prop := ∃ (i : Nat) (v : Val), env[i]? = some (.ow v) ∧ σ[i]? = some (some (.ref a))
structure Ok (g : G) (Z D : Addr → Prop) (u0 : Wd) (σ : L2.St) (env : Env) (u : Wd) : Prop where
  s : SRel g u
  z : Prot Z u
  zd : ∀ a, Z a → D a
  d : ∀ a, D a → u.H a ≠ none
  le : Le Z u0 u
  e : ERel g u Z D σ env
/-- what an expression leaves alone -/
def Pr (Z : Addr → Prop) (σ : L2.St) (env : Env) (a : Addr) : Prop := Z a ∨ Own σ env a
theorem Ok.pr {g : G} {Z D : Addr → Prop} {u0 u : Wd} {σ : L2.St} {env : Env} (k : Ok g Z D u0 σ env u) : Prot (Pr Z σ env) u where
  dom := fun a h => by
    rcases h with h | ⟨i, v, h1, h2⟩
    · exact k.z.dom a h
    · obtain ⟨b, e, c, _⟩ := k.e.at_ i _ h1
      rw [h2] at e
      cases e
      unfold Cont at c
      intro z
      split at c
      · obtain ⟨xs, q, _⟩ := c; rw [z] at q; cases q
      · obtain ⟨xs, q, _⟩ := c; rw [z] at q; cases q
      · obtain ⟨_, dx, xs, q, _⟩ := c; rw [z] at q; cases q
      · exact c
  nf := fun a h => by
    rcases h with h | ⟨i, v, h1, h2⟩
    · exact k.z.nf a h
    · obtain ⟨b, e, c, q, _⟩ := k.e.at_ i _ h1
      rw [h2] at e
      cases e
      exact q
  ns := fun a h => by
    rcases h with h | ⟨i, v, h1, h2⟩
    · exact k.z.ns a h
    · obtain ⟨b, e, c, _, q, _⟩ := k.e.at_ i _ h1
      rw [h2] at e
      cases e
      exact q
/-- on to a later world -/
theorem Ok.on {g : G} {Z D : Addr → Prop} {u0 u u' : Wd} {σ : L2.St} {env : Env} (k : Ok g Z D u0 σ env u) (l : Le (Pr Z σ env) u u') (s : SRel g u') : Ok g Z D u0 σ env u' := by
  have p := k.pr.le l
  have lz : Le Z u u' := l.mono fun a h => .inl h
  refine ⟨s, k.z.le lz, k.zd, fun a h => l.dom a (k.d a h), k.le.trans lz, k.e.len, fun i sl h => ?_, k.e.dis⟩
  have q := k.e.at_ i sl h
  cases sl with
  | no => trivial
  | exn x => trivial
  | vl v =>
    obtain ⟨x, e, r⟩ := q
    exact ⟨x, e, r.le l⟩
  | bw v =>
    obtain ⟨a, e, c, z⟩ := q
    exact ⟨a, e, c.le l (l.PH a (.inl z)), z⟩
  | ow v =>
    obtain ⟨a, e, c, _, _, nd⟩ := q
    have ow : Pr Z σ env a := .inr ⟨i, v, h, e⟩
    exact ⟨a, e, c.le l (l.PH a ow), p.nf a ow, p.ns a ow, nd⟩
/-- a value and its newness, behind an expression begun where D, the slots stood -/
def PV (g : G) (Z D : Addr → Prop) (σ : L2.St) (env : Env) (u : Wd) (fr : Bool) (v : Val) (x : V) : Prop :=
  (fr = false ∧ VR g u v x) ∨ (fr = true ∧ ∃ a, x = .ref a ∧ Cont g u v a ∧ ¬ u.F a ∧ (∀ m, m < u.st.length → u.ph m ≠ a) ∧ ¬ D a ∧ ¬ Own σ env a ∧ ¬ Z a)
end Py

namespace Py
open PySem PySem.Spec PyProof.Rows L2

/-! ### readings of expressions -/
def ExR (g : G) (u : Wd) (e : Exn) (cls : Value) (d : Option Addr) : Prop :=
  cls = .ref (g.cls e.cls) ∧ ∀ v, e.arg = some v → ∃ dd y, d = some dd ∧ u.F dd ∧ u.H dd = some (.xd [(Str.ofString (excAttr e.cls), y)]) ∧ VR g u v y
theorem ExR.le {g : G} {P : Addr → Prop} {u u' : Wd} (l : Le P u u') {e : Exn} {cls : Value} {d : Option Addr} (h : ExR g u e cls d) : ExR g u' e cls d :=
  ⟨h.1, fun v q => let ⟨dd, y, a, b, c, r⟩ := h.2 v q; ⟨dd, y, a, l.F _ b, (l.FH _ b).trans c, r.le l⟩⟩
section
variable (g : G) (Z D : Addr → Prop) (u0 : Wd) (σ : L2.St) (env : Env) (u : Wd) (W : WX)
def OutX (e : Exn) (st' : Sto) : Prop := ∀ u' cls d, u'.st = st' → Ok g Z D u0 σ env u' → ExR g u' e cls d → W cls d σ u'.H
def OutE (Q : VK) : R (Val × Bool) → Prop
  | .ok (v, fr) st' => ∀ u' x, u'.st = st' → Le (Pr Z σ env) u u' → Ok g Z D u0 σ env u' → PV g Z D σ env u' fr v x → Q x u'.H
  | .ex e st' => OutX g Z D u0 σ env W e st'
  | .bad => False
/-- a value that stays, or what a slot of our own holds -/
def BV (v : Val) (x : V) : Prop := VR g u v x ∨ ∃ a, x = .ref a ∧ Cont g u v a ∧ Pr Z σ env a
def OutB (Q : VK) : R (Val × Bool) → Prop
  | .ok (v, _) st' => ∀ u' x, u'.st = st' → Le (Pr Z σ env) u u' → Ok g Z D u0 σ env u' → BV g Z σ env u' v x → Q x u'.H
  | .ex e st' => OutX g Z D u0 σ env W e st'
  | .bad => False
def OutT (Q : Bool → Hp → Prop) : R Bool → Prop
  | .ok b st' => ∀ u', u'.st = st' → Le (Pr Z σ env) u u' → Ok g Z D u0 σ env u' → Q b u'.H
  | .ex e st' => OutX g Z D u0 σ env W e st'
  | .bad => False
def OutA (Q : List V → Hp → Prop) : R (List Val) → Prop
  | .ok vs st' => ∀ u' xs, u'.st = st' → Le (Pr Z σ env) u u' → Ok g Z D u0 σ env u' → VRs g u' vs xs → Q xs u'.H
  | .ex e st' => OutX g Z D u0 σ env W e st'
  | .bad => False
end
def RE (g : G) (W : WX) (A : EX) : TE := fun σ H Q => ∃ Z D u0 env u, u.H = H ∧ Ok g Z D u0 σ env u ∧ OutE g Z D u0 σ env u W Q (A env u.st)
def RB (g : G) (W : WX) (A : EX) : TE := fun σ H Q => ∃ Z D u0 env u, u.H = H ∧ Ok g Z D u0 σ env u ∧ OutB g Z D u0 σ env u W Q (A env u.st)
def RT (g : G) (W : WX) (A : TX) : TT := fun σ H Q => ∃ Z D u0 env u, u.H = H ∧ Ok g Z D u0 σ env u ∧ OutT g Z D u0 σ env u W Q (A env u.st)
def RA (g : G) (W : WX) (A : AX) : TA := fun σ H Q => ∃ Z D u0 env u, u.H = H ∧ Ok g Z D u0 σ env u ∧ OutA g Z D u0 σ env u W Q (A env u.st)
def PEx (g : G) (X : Cx) (W : WX) (e : Expr) (A : EX) : Prop := PE X e (RE g W A)
def PEb (g : G) (X : Cx) (W : WX) (e : Expr) (A : EX) : Prop := PE X e (RB g W A)
def PTx (g : G) (X : Cx) (W : WX) (e : Expr) (A : TX) : Prop := PT X e (RT g W A)
def PAx (g : G) (X : Cx) (W : WX) (es : List Expr) (A : AX) : Prop := PA X es (RA g W A)
theorem PE.imp {X : Cx} {e : Expr} {t t' : TE} (h : PE X e t) (i : ∀ σ H Q, t' σ H Q → t σ H Q) : PE X e t' := ⟨fun pins s σ H Q I q => h.run pins s σ H Q I (i _ _ _ q)⟩
theorem PT.imp {X : Cx} {e : Expr} {t t' : TT} (h : PT X e t) (i : ∀ σ H Q, t' σ H Q → t σ H Q) : PT X e t' := ⟨fun pins s σ H Q I q => h.run pins s σ H Q I (i _ _ _ q)⟩
theorem PA.imp {X : Cx} {es : List Expr} {t t' : TA} (h : PA X es t) (i : ∀ σ H Q, t' σ H Q → t σ H Q) : PA X es t' := ⟨fun pos pins s σ H Q I q => h.run pos pins s σ H Q I (i _ _ _ q)⟩
section
variable {g : G} {Z D : Addr → Prop} {u0 u u' : Wd} {σ : L2.St} {env : Env} {W : WX}
/-- a new object stays as it is from now on -/
theorem PV.froze (k : Ok g Z D u0 σ env u) {fr : Bool} {v : Val} {x : V} (p : PV g Z D σ env u fr v x) :
    ∃ u', u'.st = u.st ∧ u'.H = u.H ∧ Le (Pr Z σ env) u u' ∧ Ok g Z D u0 σ env u' ∧ VR g u' v x := by
  rcases p with ⟨_, h⟩ | ⟨_, a, rfl, c, nf, ns, nd, no, nz⟩
  · exact ⟨u, rfl, rfl, Le.refl _ _, k, h⟩
  · have l : Le (Pr Z σ env) u ⟨u.ph, fun b => u.F b ∨ b = a, u.H, u.st⟩ := ⟨Nat.le_refl _, fun _ _ => rfl, fun _ h => .inl h, fun _ _ => rfl, fun _ _ => rfl, fun b pb nb q => by
      rcases q with q | q
      · exact nb q
      · subst q
        rcases pb with pb | pb
        · exact nz pb
        · exact no pb, fun _ _ h => h, fun _ h => h⟩
    have ca : u.H a ≠ none := by
      unfold Cont at c
      intro z
      split at c
      · obtain ⟨xs, q, _⟩ := c; rw [z] at q; cases q
      · obtain ⟨xs, q, _⟩ := c; rw [z] at q; cases q
      · obtain ⟨_, dx, xs, q, _⟩ := c; rw [z] at q; cases q
      · exact c
    have s : SRel g ⟨u.ph, fun b => u.F b ∨ b = a, u.H, u.st⟩ := ⟨fun m hm => by
      rcases k.s.at_ m hm with h | ⟨o, h1, h2, h3⟩
      · exact .inl h
      · refine .inr ⟨o, h1, fun q => ?_, h3.le l rfl⟩
        rcases q with q | q
        · exact h2 q
        · exact ns m hm q, k.s.inj, k.s.dom, fun b hb => by
      rcases hb with hb | hb
      · exact k.s.fdom b hb
      · subst hb
        exact ca⟩
    refine ⟨⟨u.ph, fun b => u.F b ∨ b = a, u.H, u.st⟩, rfl, rfl, l, k.on l s, ?_⟩
    have c2 := c.le l rfl
    unfold Cont at c2
    split at c2
    · obtain ⟨xs, q, r⟩ := c2
      exact .lst (.inr rfl) q r
    · obtain ⟨xs, q, r⟩ := c2
      exact .dic (.inr rfl) q r
    · obtain ⟨z, dx, xs, q, r⟩ := c2
      exact .obj z (.inr rfl) q r
    · exact c2.elim
theorem OutE.toB {Q : VK} {r : R (Val × Bool)} (h : OutB g Z D u0 σ env u W Q r) : OutE g Z D u0 σ env u W Q r := by
  cases r with
  | bad => exact h
  | ex e st => exact h
  | ok p st =>
    obtain ⟨v, fr⟩ := p
    intro u' x e l k pv
    obtain ⟨u2, e2, eH, l2, k2, r⟩ := pv.froze k
    rw [← eH]
    exact h u2 x (e2.trans e) (l.trans l2) k2 (.inl r)
theorem BV.le {v : Val} {x : V} (l : Le (Pr Z σ env) u u') (h : BV g Z σ env u v x) : BV g Z σ env u' v x := by
  rcases h with h | ⟨a, e, c, o⟩
  · exact .inl (h.le l)
  · exact .inr ⟨a, e, c.le l (l.PH a o), o⟩
end
theorem PEx.b {g : G} {X : Cx} {W : WX} {e : Expr} {A : EX} (h : PEx g X W e A) : PEb g X W e A := PE.imp h fun σ H Q ⟨Z, D, u0, env, u, e, k, o⟩ => ⟨Z, D, u0, env, u, e, k, OutE.toB o⟩

/-! ### pure operations -/
structure LeA (u u' : Wd) : Prop where
  st : u'.st = u.st
  ph : u'.ph = u.ph
  F : ∀ a, u.F a → u'.F a
  H : ∀ a, u.H a ≠ none → u'.H a = u.H a
  nF : ∀ a, u'.F a → u.F a ∨ u.H a = none
theorem LeA.refl (u : Wd) : LeA u u := ⟨rfl, rfl, fun _ h => h, fun _ _ => rfl, fun _ h => .inl h⟩
theorem LeA.le {g : G} {P : Addr → Prop} {u u' : Wd} (a : LeA u u') (s : SRel g u) (p : Prot P u) : Le P u u' where
  n := by rw [a.st]; exact Nat.le_refl _
  ph := fun m _ => by rw [a.ph]
  F := a.F
  FH := fun b h => a.H b (s.fdom b h)
  PH := fun b h => a.H b (p.dom b h)
  nF := fun b h q z => by
    rcases a.nF b z with z | z
    · exact q z
    · exact p.dom b h z
  ns := fun b h q m hm => by
    rw [a.ph]
    exact q m (by rw [← a.st]; exact hm)
  dom := fun b h => by rw [a.H b h]; exact h
theorem LeA.srel {g : G} {u u' : Wd} (a : LeA u u') (s : SRel g u) (fd : ∀ b, u'.F b → u'.H b ≠ none) : SRel g u' where
  at_ := fun m hm => by
    have hm' : m < u.st.length := by rw [← a.st]; exact hm
    have l : Le (fun _ => False) u u' := a.le s ⟨fun _ h => h.elim, fun _ h => h.elim, fun _ h => h.elim⟩
    rw [a.st, a.ph]
    rcases s.at_ m hm' with h | ⟨o, h1, h2, h3⟩
    · exact .inl h
    · refine .inr ⟨o, h1, fun q => ?_, h3.le l (a.H _ (s.dom m hm'))⟩
      rcases a.nF _ q with q | q
      · exact h2 q
      · exact s.dom m hm' q
  inj := by rw [a.st, a.ph]; exact s.inj
  dom := fun m hm => by
    rw [a.st] at hm
    rw [a.ph, a.H _ (s.dom m hm)]
    exact s.dom m hm
  fdom := fd
/-- behind a pure operation: a value that stays, or a new object -/
def PVn (g : G) (u u' : Wd) (fr : Bool) (v : Val) (x : V) : Prop :=
  (fr = false ∧ VR g u' v x) ∨ (fr = true ∧ ∃ a, x = .ref a ∧ u.H a = none ∧ Cont g u' v a ∧ ¬ u'.F a)
theorem PVn.pv {g : G} {Z D : Addr → Prop} {u0 u u' : Wd} {σ : L2.St} {env : Env} (k : Ok g Z D u0 σ env u) (a : LeA u u') {fr : Bool} {v : Val} {x : V} (p : PVn g u u' fr v x) : PV g Z D σ env u' fr v x := by
  rcases p with h | ⟨e, b, ex, hb, c, nf⟩
  · exact .inl h
  · refine .inr ⟨e, b, ex, c, nf, fun m hm z => ?_, fun z => k.d b z hb, fun z => k.pr.dom b (.inr z) hb, fun z => k.pr.dom b (.inl z) hb⟩
    rw [a.st] at hm
    rw [a.ph] at z
    exact k.s.dom m hm (by rw [z]; exact hb)
def OutP (g : G) (u : Wd) (Q : VK) : R (Val × Bool) → Prop
  | .ok (v, fr) st' => st' = u.st → ∀ u' z, LeA u u' → SRel g u' → PVn g u u' fr v z → Q z u'.H
  | _ => False
/-- a value to be read -/
def BW (g : G) (u : Wd) (v : Val) (x : V) : Prop := VR g u v x ∨ ∃ a, x = .ref a ∧ Cont g u v a
theorem BV.w {g : G} {Z : Addr → Prop} {u : Wd} {σ : L2.St} {env : Env} {v : Val} {x : V} (h : BV g Z σ env u v x) : BW g u v x := by
  rcases h with h | ⟨a, e, c, _⟩
  · exact .inl h
  · exact .inr ⟨a, e, c⟩
end Py

namespace Py
open PySem PySem.Spec PyProof.Rows L2

/-! ### operations on read values -/
abbrev P1 := Val → Sto → R (Val × Bool)
abbrev P2 := Val → Val → Sto → R (Val × Bool)
abbrev PN := List Val → Sto → R (Val × Bool)
def a1 (p : P1) (A : EX) : EX := fun env st => (A env st).bind fun a s1 => p a.1 s1
def a2 (p : P2) (A B : EX) : EX := fun env st => (A env st).bind fun a s1 => (B env s1).bind fun b s2 => p a.1 b.1 s2
def aN (p : PN) (A : AX) : EX := fun env st => (A env st).bind fun vs s1 => p vs s1
def S1 (g : G) (r : V → Hp → VK → Prop) (p : P1) : Prop := ∀ (u : Wd) (v : Val) (x : V) (Q : VK), SRel g u → BW g u v x → OutP g u Q (p v u.st) → r x u.H Q
def S2 (g : G) (r : R2) (p : P2) : Prop := ∀ (u : Wd) (v w : Val) (x y : V) (Q : VK), SRel g u → BW g u v x → BW g u w y → OutP g u Q (p v w u.st) → r x y u.H Q
def SN (g : G) (r : List V → Hp → VK → Prop) (p : PN) : Prop := ∀ (u : Wd) (vs : List Val) (xs : List V) (Q : VK), SRel g u → VRs g u vs xs → OutP g u Q (p vs u.st) → r xs u.H Q
section
variable {g : G} {Z D : Addr → Prop} {u0 u u' : Wd} {σ : L2.St} {env : Env} {W : WX} {Q : VK}
theorem OutP.of {r : R (Val × Bool)} (k : Ok g Z D u0 σ env u) (h : OutE g Z D u0 σ env u W Q r) (np : ∀ e s, r ≠ .ex e s) : OutP g u Q r := by
  cases r with
  | bad => exact h.elim
  | ex e s => exact absurd rfl (np e s)
  | ok p st =>
    obtain ⟨v, fr⟩ := p
    intro es u' z la sr pv
    exact h u' z (la.st.trans es.symm) (la.le k.s k.pr) (k.on (la.le k.s k.pr) sr) (pv.pv k la)
/-- an outcome seen from a later world -/
theorem OutE.later {r : R (Val × Bool)} (l : Le (Pr Z σ env) u u') (h : OutE g Z D u0 σ env u W Q r) : OutE g Z D u0 σ env u' W Q r := by
  cases r with
  | bad => exact h
  | ex e s => exact h
  | ok p st =>
    obtain ⟨v, fr⟩ := p
    exact fun u2 x e l2 k2 pv => h u2 x e (l.trans l2) k2 pv
end
/-- an operation that raises nothing -/
def NoX1 (p : P1) : Prop := ∀ v s e s', p v s ≠ .ex e s'
def NoX2 (p : P2) : Prop := ∀ v w s e s', p v w s ≠ .ex e s'
def NoXN (p : PN) : Prop := ∀ vs s e s', p vs s ≠ .ex e s'
section
variable {g : G} {X : Cx} {W : WX} {A B : EX} {C : AX}
theorem t1_sound {r : V → Hp → VK → Prop} {p : P1} (hp : S1 g r p) (nx : NoX1 p) (σ : L2.St) (H : Hp) (Q : VK) (h : RE g W (a1 p A) σ H Q) : RB g W A σ H fun x H1 => r x H1 Q := by
  obtain ⟨Z, D, u0, env, u, rfl, k, o⟩ := h
  refine ⟨Z, D, u0, env, u, rfl, k, ?_⟩
  unfold a1 at o
  cases hA : A env u.st with
  | bad => rw [hA] at o; exact o.elim
  | ex e s => rw [hA] at o; exact o
  | ok a s1 =>
    rw [hA] at o
    obtain ⟨v, fr⟩ := a
    intro u1 x e1 l1 k1 b1
    subst e1
    exact hp u1 v x Q k1.s b1.w (OutP.of k1 (OutE.later l1 o) (nx _ _))
theorem t2_sound {r : R2} {p : P2} (hp : S2 g r p) (nx : NoX2 p) (σ : L2.St) (H : Hp) (Q : VK) (h : RE g W (a2 p A B) σ H Q) : RB g W A σ H fun x H1 => RB g W B σ H1 fun y H2 => r x y H2 Q := by
  obtain ⟨Z, D, u0, env, u, rfl, k, o⟩ := h
  refine ⟨Z, D, u0, env, u, rfl, k, ?_⟩
  unfold a2 at o
  cases hA : A env u.st with
  | bad => rw [hA] at o; exact o.elim
  | ex e s => rw [hA] at o; exact o
  | ok a s1 =>
    rw [hA] at o
    obtain ⟨v, fr⟩ := a
    intro u1 x e1 l1 k1 b1
    subst e1
    refine ⟨Z, D, u0, env, u1, rfl, k1, ?_⟩
    have o' : OutE g Z D u0 σ env u W Q ((B env u1.st).bind fun b s2 => p v b.1 s2) := o
    cases hB : B env u1.st with
    | bad => rw [hB] at o'; exact o'.elim
    | ex e s => rw [hB] at o'; exact o'
    | ok b s2 =>
      rw [hB] at o'
      obtain ⟨w, fr2⟩ := b
      intro u2 y e2 l2 k2 b2
      subst e2
      exact hp u2 v w x y Q k2.s (b1.le l2).w b2.w (OutP.of k2 (OutE.later (l1.trans l2) o') (nx _ _ _))
theorem tN_sound {r : List V → Hp → VK → Prop} {p : PN} (hp : SN g r p) (nx : NoXN p) (σ : L2.St) (H : Hp) (Q : VK) (h : RE g W (aN p C) σ H Q) : RA g W C σ H fun xs H1 => r xs H1 Q := by
  obtain ⟨Z, D, u0, env, u, rfl, k, o⟩ := h
  refine ⟨Z, D, u0, env, u, rfl, k, ?_⟩
  unfold aN at o
  cases hA : C env u.st with
  | bad => rw [hA] at o; exact o.elim
  | ex e s => rw [hA] at o; exact o
  | ok vs s1 =>
    rw [hA] at o
    intro u1 xs e1 l1 k1 b1
    subst e1
    exact hp u1 vs xs Q k1.s b1 (OutP.of k1 (OutE.later l1 o) (nx _ _))

/-! ### names, constants -/
def aC (v : Val) : EX := fun _ st => .ok (v, false) st
def aV (i : Nat) : EX := fun env st => match env[i]? with
  | some (.vl v) => .ok (v, false) st
  | _ => .bad
def aB (i : Nat) : EX := fun env st => match env[i]? with
  | some (.ow v) => .ok (v, false) st
  | some (.vl v) => .ok (v, false) st
  | some (.bw v) => .ok (v, false) st
  | _ => .bad
theorem RE_const {v : Val} {x : V} (h : ∀ u, VR g u v x) (σ : L2.St) (H : Hp) (Q : VK) (q : RE g W (aC v) σ H Q) : tC x σ H Q := by
  obtain ⟨Z, D, u0, env, u, rfl, k, o⟩ := q
  exact o u x rfl (Le.refl _ _) k (.inl ⟨rfl, h u⟩)
theorem e_int {i : Int} {j : Nat} {pos : Pos} : PEx g X W (.Constant (.int i) j pos) (aC (.int i)) := PE.imp pe_int (RE_const fun _ => .int i)
theorem e_bl {b : Bool} {j : Nat} {pos : Pos} : PEx g X W (.Constant (.bool b) j pos) (aC (.bl b)) := PE.imp pe_bl (RE_const fun _ => .bl b)
theorem e_non {j : Nat} {pos : Pos} : PEx g X W (.Constant .none j pos) (aC .non) := PE.imp pe_non (RE_const fun _ => .non)
theorem e_str {s : Txt} {x : Str} {j : Nat} {pos : Pos} (h : x = sv s := by rfl) : PEx g X W (.Constant (.str x) j pos) (aC (.str s)) := PE.imp pe_str (RE_const fun u => h ▸ .str s)
theorem e_var (i : Nat) {x : Str} {pos : Pos} (hN : X.N[i]? = some x := by rfl) (hv : Vis X.env.scope x := by first | exact Or.inl rfl | exact Or.inr (Or.inl rfl) | exact Or.inr (Or.inr rfl)) (hd : (x == ("__debug__" : Str)) = false := by decide)
    (hcd : (x == ("__classdict__" : Str)) = false := by decide) : PEx g X W (.Name x pos) (aV i) := PE.imp (pe_var hN hv hd hcd) fun σ H Q h => by
  obtain ⟨Z, D, u0, env, u, rfl, k, o⟩ := h
  unfold aV at o
  cases e : env[i]? with
  | none => rw [e] at o; exact o.elim
  | some s =>
    rw [e] at o
    cases s with
    | vl v =>
      obtain ⟨x, ex, r⟩ := k.e.at_ i _ e
      exact ⟨x, ex, o u x rfl (Le.refl _ _) k (.inl ⟨rfl, r⟩)⟩
    | _ => exact o.elim
theorem e_bor (i : Nat) {x : Str} {pos : Pos} (hN : X.N[i]? = some x := by rfl) (hv : Vis X.env.scope x := by first | exact Or.inl rfl | exact Or.inr (Or.inl rfl) | exact Or.inr (Or.inr rfl)) (hd : (x == ("__debug__" : Str)) = false := by decide)
    (hcd : (x == ("__classdict__" : Str)) = false := by decide) : PEb g X W (.Name x pos) (aB i) := PE.imp (pe_var hN hv hd hcd) fun σ H Q h => by
  obtain ⟨Z, D, u0, env, u, rfl, k, o⟩ := h
  unfold aB at o
  cases e : env[i]? with
  | none => rw [e] at o; exact o.elim
  | some s =>
    rw [e] at o
    cases s with
    | vl v =>
      obtain ⟨x, ex, r⟩ := k.e.at_ i _ e
      exact ⟨x, ex, o u x rfl (Le.refl _ _) k (.inl r)⟩
    | ow v =>
      obtain ⟨a, ex, c, _⟩ := k.e.at_ i _ e
      exact ⟨.ref a, ex, o u _ rfl (Le.refl _ _) k (.inr ⟨a, rfl, c, .inr ⟨i, v, e, ex⟩⟩)⟩
    | bw v =>
      obtain ⟨a, ex, c, z⟩ := k.e.at_ i _ e
      exact ⟨.ref a, ex, o u _ rfl (Le.refl _ _) k (.inr ⟨a, rfl, c, .inl z⟩)⟩
    | _ => exact o.elim

/-! ### argument lists -/
def aNil : AX := fun _ st => .ok [] st
def aCons (A : EX) (C : AX) : AX := fun env st => (A env st).bind fun a s1 => (C env s1).bind fun vs s2 => .ok (a.1 :: vs) s2
theorem OutA.later {Z D : Addr → Prop} {u0 u u' : Wd} {σ : L2.St} {env : Env} {Q : List V → Hp → Prop} {r : R (List Val)} (l : Le (Pr Z σ env) u u') (h : OutA g Z D u0 σ env u W Q r) : OutA g Z D u0 σ env u' W Q r := by
  cases r with
  | bad => exact h
  | ex e s => exact h
  | ok p st => exact fun u2 x e l2 k2 pv => h u2 x e (l.trans l2) k2 pv
theorem x_nil : PAx g X W [] aNil := PA.imp pa_nil fun σ H Q ⟨Z, D, u0, env, u, e, k, o⟩ => by
  subst e
  exact o u [] rfl (Le.refl _ _) k .nil
/-- an outcome whose value stays from now on -/
theorem OutE.ofA {Z D : Addr → Prop} {u0 u : Wd} {σ : L2.St} {env : Env} {Q : VK} {r : R (Val × Bool)}
    (h : match r with
      | .ok (v, _) st' => ∀ u' x, u'.st = st' → Le (Pr Z σ env) u u' → Ok g Z D u0 σ env u' → VR g u' v x → Q x u'.H
      | .ex e st' => OutX g Z D u0 σ env W e st'
      | .bad => False) : OutE g Z D u0 σ env u W Q r := by
  cases r with
  | bad => exact h
  | ex e s => exact h
  | ok p st =>
    obtain ⟨v, fr⟩ := p
    intro u' x e l k pv
    obtain ⟨u2, e2, eH, l2, k2, r⟩ := pv.froze k
    rw [← eH]
    exact h u2 x (e2.trans e) (l.trans l2) k2 r
theorem x_cons {e : Expr} {es : List Expr} (ha : PEx g X W e A) (hr : PAx g X W es C) (hs : starEach (e :: es) X.env = (false, eval e X.env) :: starEach es X.env := by rfl) : PAx g X W (e :: es) (aCons A C) :=
  PA.imp (pa_cons ha hr hs) fun σ H Q h => by
    obtain ⟨Z, D, u0, env, u, rfl, k, o⟩ := h
    refine ⟨Z, D, u0, env, u, rfl, k, OutE.ofA ?_⟩
    unfold aCons at o
    cases hA : A env u.st with
    | bad => rw [hA] at o; exact o.elim
    | ex e s => rw [hA] at o; exact o
    | ok a s1 =>
      rw [hA] at o
      obtain ⟨v, fr⟩ := a
      intro u1 x e1 l1 k1 b1
      subst e1
      refine ⟨Z, D, u0, env, u1, rfl, k1, ?_⟩
      have o' : OutA g Z D u0 σ env u W Q ((C env u1.st).bind fun vs s2 => .ok (v :: vs) s2) := o
      cases hB : C env u1.st with
      | bad => rw [hB] at o'; exact o'.elim
      | ex e s => rw [hB] at o'; exact o'
      | ok b s2 =>
        rw [hB] at o'
        intro u2 y e2 l2 k2 b2
        subst e2
        exact o' u2 (x :: y) rfl (l1.trans l2) k2 (.cons (b1.le l2) b2)
end
end Py

namespace Py
open PySem PySem.Spec PyProof.Rows L2

/-! ### tests -/
def sizeOk (n : Nat) : Bool := decide (n ≤ 1000000)
theorem sizeOk_line {n : Nat} (h : sizeOk n = true) : n ≤ sizeLine := by
  rw [sizeLine_eq]
  have := of_decide_eq_true h
  omega
def truth : Val → Sto → R Bool
  | .non, st => .ok false st
  | .bl b, st => .ok b st
  | .int i, st => .ok (i != 0) st
  | .str s, st => if sizeOk s.length = true then .ok (!s.isEmpty) st else .bad
  | .tup vs, st => .ok (!vs.isEmpty) st
  | .lst vs, st => .ok (!vs.isEmpty) st
  | .dic kvs, st => .ok (!kvs.isEmpty) st
  | _, _ => .bad
def tV (A : EX) : TX := fun env st => (A env st).bind fun a s1 => truth a.1 s1
def tNt (T : TX) : TX := fun env st => (T env st).bind fun b s1 => .ok (!b) s1
def tAn (T U : TX) : TX := fun env st => (T env st).bind fun b s1 => if b = true then U env s1 else .ok false s1
def tOr' (T U : TX) : TX := fun env st => (T env st).bind fun b s1 => if b = true then .ok true s1 else U env s1
theorem VRs.length {g : G} {u : Wd} : ∀ {vs : List Val} {xs : List V}, VRs g u vs xs → vs.length = xs.length
  | _, _, .nil => rfl
  | _, _, .cons _ t => congrArg (· + 1) (VRs.length t)
theorem VRs.isEmpty {g : G} {u : Wd} {vs : List Val} {xs : List V} (h : VRs g u vs xs) : vs.isEmpty = xs.isEmpty := by
  cases h <;> rfl
theorem FRd.L {g : G} {u : Wd} {a : Addr} {xs : List V} (h : FRd u a (.lst xs)) : SqL g.K u.H a xs := .inl h.2
theorem FRd.T {g : G} {u : Wd} {a : Addr} {xs : List V} (h : FRd u a (.tup xs)) : SqT g.K u.H a xs := .inl h.2
/-- a list, a tuple to be read -/
theorem BW.lst {g : G} {u : Wd} {vs : List Val} {x : V} (h : BW g u (.lst vs) x) : ∃ a xs, x = .ref a ∧ SqL g.K u.H a xs ∧ VRs g u vs xs := by
  rcases h with h | ⟨a, e, c⟩
  · cases h with
    | lst f e r => exact ⟨_, _, rfl, SqL.of e, r⟩
  · obtain ⟨xs, q, r⟩ := c
    exact ⟨a, xs, e, SqL.of q, r⟩
theorem BW.tup {g : G} {u : Wd} {vs : List Val} {x : V} (h : BW g u (.tup vs) x) : ∃ a xs, x = .ref a ∧ SqT g.K u.H a xs ∧ VRs g u vs xs := by
  rcases h with h | ⟨a, e, c⟩
  · cases h with
    | tup f r => exact ⟨_, _, rfl, f.T, r⟩
    | tupK f r => exact ⟨_, _, rfl, f u.H, r⟩
  · exact c.elim
theorem BW.str {g : G} {u : Wd} {s : Txt} {x : V} (h : BW g u (.str s) x) : x = .str (sv s) := by
  rcases h with h | ⟨a, e, c⟩
  · cases h; rfl
  · exact c.elim
theorem BW.int {g : G} {u : Wd} {i : Int} {x : V} (h : BW g u (.int i) x) : x = .int i := by
  rcases h with h | ⟨a, e, c⟩
  · cases h; rfl
  · exact c.elim
theorem BW.bl {g : G} {u : Wd} {i : Bool} {x : V} (h : BW g u (.bl i) x) : x = .bl i := by
  rcases h with h | ⟨a, e, c⟩
  · cases h; rfl
  · exact c.elim
theorem BW.non {g : G} {u : Wd} {x : V} (h : BW g u .non x) : x = .non := by
  rcases h with h | ⟨a, e, c⟩
  · cases h; rfl
  · exact c.elim
theorem BW.dic {g : G} {u : Wd} {kvs : List (Txt × Val)} {x : V} (h : BW g u (.dic kvs) x) : ∃ a xs, x = .ref a ∧ u.H a = some (.dK (dz (kvs.map Prod.fst) xs)) ∧ VRs g u (kvs.map Prod.snd) xs := by
  rcases h with h | ⟨a, e, c⟩
  · cases h with
    | dic f q r => exact ⟨_, _, rfl, q, r⟩
  · obtain ⟨xs, q, r⟩ := c
    exact ⟨a, xs, e, q, r⟩
theorem BW.obj {g : G} {u : Wd} {c : String} {fs : List (String × Val)} {x : V} (h : BW g u (.obj c fs) x) : g.has c = true ∧ ∃ a dx xs, x = .ref a ∧ u.H a = some (.ins (g.cls c) dx (fz (fs.map Prod.fst) xs)) ∧ VRs g u (fs.map Prod.snd) xs := by
  rcases h with h | ⟨a, e, c⟩
  · cases h with
    | obj z f q r => exact ⟨z, _, _, _, rfl, q, r⟩
  · obtain ⟨z, dx, xs, q, r⟩ := c
    exact ⟨z, a, dx, xs, e, q, r⟩
theorem sv_len (s : Txt) : (sv s).length = s.length := by simp [sv, Str.length]
theorem truth_sound {g : G} {u : Wd} {v : Val} {x : V} {b : Bool} {st st' : Sto} (h : BW g u v x) (e : truth v st = .ok b st') : st' = st ∧ TruV g.K x u.H b := by
  cases v with
  | non => rw [h.non]; cases e; exact ⟨rfl, rfl⟩
  | bl k => rw [h.bl]; cases e; exact ⟨rfl, rfl⟩
  | int i => rw [h.int]; cases e; exact ⟨rfl, rfl⟩
  | str s =>
    rw [h.str]
    have e' : (if sizeOk s.length = true then R.ok (!s.isEmpty) st else .bad) = R.ok b st' := e
    by_cases q : sizeOk s.length = true
    · rw [if_pos q] at e'
      cases e'
      refine ⟨rfl, ?_, ?_⟩
      · rw [sv_len]; exact sizeOk_line q
      · rw [sv_len]
        cases s with
        | nil => rfl
        | cons a t =>
          show true = ((((a :: t).length : Nat) : Int) != 0)
          have : (((a :: t).length : Nat) : Int) ≠ 0 := by simp only [List.length_cons]; omega
          exact (bne_iff_ne.mpr this).symm
    · rw [if_neg q] at e'
      cases e'
  | tup vs =>
    obtain ⟨a, xs, rfl, q, r⟩ := h.tup
    cases e
    exact ⟨rfl, .inr (.inl ⟨xs, q, by rw [r.isEmpty]⟩)⟩
  | lst vs =>
    obtain ⟨a, xs, rfl, q, r⟩ := h.lst
    cases e
    exact ⟨rfl, .inl ⟨xs, q, by rw [r.isEmpty]⟩⟩
  | dic kvs =>
    obtain ⟨a, xs, rfl, q, r⟩ := h.dic
    cases e
    refine ⟨rfl, .inr (.inr ⟨_, q, ?_⟩)⟩
    have l := r.length
    cases kvs with
    | nil => rfl
    | cons p t =>
      cases xs with
      | nil => simp at l
      | cons y ys => rfl
  | obj c fs => cases e
  | ref n => cases e
  | scr vs => cases e
  | exc0 c => cases e
  | exc1 c v => cases e
theorem truth_nox (v : Val) (s : Sto) (e : Exn) (s' : Sto) : truth v s ≠ .ex e s' := by
  cases v with
  | str x =>
    intro q
    have q' : (if sizeOk x.length = true then R.ok (!x.isEmpty) s else .bad) = R.ex e s' := q
    by_cases z : sizeOk x.length = true
    · rw [if_pos z] at q'; cases q'
    · rw [if_neg z] at q'; cases q'
  | _ => intro q; cases q
section
variable {g : G} {Z D : Addr → Prop} {u0 u u' : Wd} {σ : L2.St} {env : Env} {W : WX} {X : Cx}
theorem OutT.later {Q : Bool → Hp → Prop} {r : R Bool} (l : Le (Pr Z σ env) u u') (h : OutT g Z D u0 σ env u W Q r) : OutT g Z D u0 σ env u' W Q r := by
  cases r with
  | bad => exact h
  | ex e s => exact h
  | ok p st => exact fun u2 e l2 k2 => h u2 e (l.trans l2) k2
theorem tV_sound {A : EX} {H : Hp} {Q : Bool → Hp → Prop} (h : RT g W (tV A) σ H Q) : RB g W A σ H fun x H' => ∃ k, TruV g.K x H' k ∧ Q k H' := by
  obtain ⟨Z, D, u0, env, u, rfl, k, o⟩ := h
  refine ⟨Z, D, u0, env, u, rfl, k, ?_⟩
  unfold tV at o
  cases hA : A env u.st with
  | bad => rw [hA] at o; exact o.elim
  | ex e s => rw [hA] at o; exact o
  | ok a s1 =>
    rw [hA] at o
    obtain ⟨v, fr⟩ := a
    intro u1 x e1 l1 k1 b1
    subst e1
    have o' : OutT g Z D u0 σ env u W Q (truth v u1.st) := o
    cases e : truth v u1.st with
    | bad => rw [e] at o'; exact o'.elim
    | ex x s => exact absurd e (truth_nox _ _ _ _)
    | ok b s2 =>
      rw [e] at o'
      obtain ⟨es, t⟩ := truth_sound b1.w e
      exact ⟨b, t, o' u1 es.symm l1 k1⟩
/-- an expression's truth -/
theorem p_tru {e : Expr} {A : EX} (hk : X.K = g.K) (h : PEb g X W e A) (he : ∀ whole, isTrue e X.env whole = (do let v ← whole; standAt e.pos; holding [v] (truthy v)) := by intro _; rfl) : PTx g X W e (tV A) :=
  PT.imp (pt_truth h he) fun σ H Q q => by
    rw [hk]
    exact tV_sound q
theorem p_not {e : Expr} {T : TX} {pos : Pos} (h : PTx g X W e T) : PTx g X W (.UnaryOp .Not e pos) (tNt T) := PT.imp (pt_not h) fun σ H Q q => by
  obtain ⟨Z, D, u0, env, u, rfl, k, o⟩ := q
  refine ⟨Z, D, u0, env, u, rfl, k, ?_⟩
  unfold tNt at o
  cases hA : T env u.st with
  | bad => rw [hA] at o; exact o.elim
  | ex e s => rw [hA] at o; exact o
  | ok b s1 => rw [hA] at o; exact o
def PWx (g : G) (X : Cx) (W : WX) (e : Expr) (A : TX) : Prop := PW X e (RT g W A)
theorem PW.imp {e : Expr} {t t' : TT} (h : PW X e t) (i : ∀ σ H Q, t' σ H Q → t σ H Q) : PW X e t' := ⟨fun wh pins s σ H Q I q => h.run wh pins s σ H Q I (i _ _ _ q)⟩
theorem w_and1 {a : Expr} {T : TX} {pos : Pos} (h : PTx g X W a T) : PWx g X W (.BoolOp .And [a] pos) T := pw_and1 h
theorem w_or1 {a : Expr} {T : TX} {pos : Pos} (h : PTx g X W a T) : PWx g X W (.BoolOp .Or [a] pos) T := pw_or1 h
theorem w_and {a b : Expr} {rest : List Expr} {T U : TX} {pos : Pos} (ha : PTx g X W a T) (hb : PWx g X W (.BoolOp .And (b :: rest) pos) U) : PWx g X W (.BoolOp .And (a :: b :: rest) pos) (tAn T U) :=
  PW.imp (pw_and ha hb) fun σ H Q q => by
    obtain ⟨Z, D, u0, env, u, rfl, k, o⟩ := q
    refine ⟨Z, D, u0, env, u, rfl, k, ?_⟩
    unfold tAn at o
    cases hA : T env u.st with
    | bad => rw [hA] at o; exact o.elim
    | ex e s => rw [hA] at o; exact o
    | ok b s1 =>
      rw [hA] at o
      intro u1 e1 l1 k1
      subst e1
      have o' : OutT g Z D u0 σ env u W Q (if b = true then U env u1.st else .ok false u1.st) := o
      cases b with
      | true =>
        rw [if_pos rfl] at o' ⊢
        exact ⟨Z, D, u0, env, u1, rfl, k1, o'.later l1⟩
      | false =>
        rw [if_neg Bool.false_ne_true] at o' ⊢
        exact o' u1 rfl l1 k1
theorem w_or {a b : Expr} {rest : List Expr} {T U : TX} {pos : Pos} (ha : PTx g X W a T) (hb : PWx g X W (.BoolOp .Or (b :: rest) pos) U) : PWx g X W (.BoolOp .Or (a :: b :: rest) pos) (tOr' T U) :=
  PW.imp (pw_or ha hb) fun σ H Q q => by
    obtain ⟨Z, D, u0, env, u, rfl, k, o⟩ := q
    refine ⟨Z, D, u0, env, u, rfl, k, ?_⟩
    unfold tOr' at o
    cases hA : T env u.st with
    | bad => rw [hA] at o; exact o.elim
    | ex e s => rw [hA] at o; exact o
    | ok b s1 =>
      rw [hA] at o
      intro u1 e1 l1 k1
      subst e1
      have o' : OutT g Z D u0 σ env u W Q (if b = true then .ok true u1.st else U env u1.st) := o
      cases b with
      | true =>
        rw [if_pos rfl] at o' ⊢
        exact o' u1 rfl l1 k1
      | false =>
        rw [if_neg Bool.false_ne_true] at o' ⊢
        exact ⟨Z, D, u0, env, u1, rfl, k1, o'.later l1⟩
theorem p_w {e : Expr} {T : TX} (h : PWx g X W e T) : PTx g X W e T := PW.pt h
/-- a comparison as a test -/
theorem p_cmp {op : CmpOp} {r : R2} {p : P2} {a b : Expr} {A B : EX} {pos : Pos} (ho : OpR X (compareOp op) r) (hp : S2 g r p) (nx : NoX2 p) (ha : PEb g X W a A) (hb : PEb g X W b B) (hm : behindInMarks op b = false) (hbl : ∀ v w s x fr s', p v w s = .ok (x, fr) s' → ∃ k, x = .bl k) :
    PTx g X W (.Compare a [op] [b] pos) (tV (a2 p A B)) := PT.imp (pt_cmpR ho ha hb hm) fun σ H Q q => by
  show tOp r (RB g W A) (RB g W B) σ H fun x H' => ∃ k, x = .bl k ∧ Q k H'
  refine t2_sound hp nx σ H _ ?_
  obtain ⟨Z, D, u0, env, u, rfl, k, o⟩ := q
  refine ⟨Z, D, u0, env, u, rfl, k, ?_⟩
  unfold tV at o
  have hc : ∀ x fr s, a2 p A B env u.st = .ok (x, fr) s → ∃ k, x = .bl k := fun x fr s e => by
    unfold a2 at e
    cases hA : A env u.st with
    | bad => rw [hA] at e; cases e
    | ex y s => rw [hA] at e; cases e
    | ok a1 s1 =>
      rw [hA] at e
      simp only [R.bind_ok] at e
      cases hB : B env s1 with
      | bad => rw [hB] at e; cases e
      | ex y s => rw [hB] at e; cases e
      | ok b1 s2 =>
        rw [hB] at e
        exact hbl _ _ _ _ _ _ e
  cases hA : a2 p A B env u.st with
  | bad => rw [hA] at o; exact o.elim
  | ex e s => rw [hA] at o; exact o
  | ok a s1 =>
    obtain ⟨v, fr⟩ := a
    obtain ⟨kb, rfl⟩ := hc _ _ _ hA
    rw [hA] at o
    intro u1 x e1 l1 k1 pv
    subst e1
    have o' : OutT g Z D u0 σ env u W Q (.ok kb u1.st) := o
    rcases pv with ⟨_, r⟩ | ⟨_, a, _, c, _⟩
    · cases r
      exact ⟨kb, rfl, o' u1 rfl l1 k1⟩
    · exact c.elim
end
end Py

namespace Py
open PySem PySem.Spec PyProof.Rows L2

/-! ### statements -/
section
variable (g : G) (Z D : Addr → Prop) (u0 : Wd) (W : WX) (Dn : Ends)
def OutS : SR → Prop
  | .nx env' st' => ∀ σ' u', u'.st = st' → Ok g Z D u0 σ' env' u' → Dn.nx σ' u'.H
  | .bk env' st' => ∀ σ' u', u'.st = st' → Ok g Z D u0 σ' env' u' → Dn.bk σ' u'.H
  | .ct env' st' => ∀ σ' u', u'.st = st' → Ok g Z D u0 σ' env' u' → Dn.ct σ' u'.H
  | .rt v fr env' st' => ∀ σ' u' x, u'.st = st' → Ok g Z D u0 σ' env' u' → PV g Z D σ' env' u' fr v x → Dn.rt x u'.H
  | .rs e env' st' => ∀ σ' u' cls d, u'.st = st' → Ok g Z D u0 σ' env' u' → ExR g u' e cls d → W cls d σ' u'.H
  | .bad => False
end
def RS (g : G) (W : WX) (A : SX) : TS := fun Dn σ H => ∃ Z D u0 env u, u.H = H ∧ Ok g Z D u0 σ env u ∧ OutS g Z D u0 W Dn (A env u.st)
def PSx (g : G) (X : Cx) (W : WX) (s : Stmt) (A : SX) : Prop := PS X s (RS g W A)
def PBx (g : G) (X : Cx) (W : WX) (s : List Stmt) (A : SX) : Prop := PSs X s (RS g W A)
theorem PS.imp {X : Cx} {s : Stmt} {t t' : TS} (h : PS X s t) (i : ∀ Dn σ H, t' Dn σ H → t Dn σ H) : PS X s t' := ⟨fun pins s σ H Dn I q => h.run pins s σ H Dn I (i _ _ _ q)⟩
theorem PSs.imp {X : Cx} {s : List Stmt} {t t' : TS} (h : PSs X s t) (i : ∀ Dn σ H, t' Dn σ H → t Dn σ H) : PSs X s t' := ⟨fun pins s σ H Dn I q => h.run pins s σ H Dn I (i _ _ _ q)⟩
def SR.bind (r : SR) (f : Env → Sto → SR) : SR := match r with
  | .nx e st => f e st
  | r => r
@[simp] theorem SR.bind_nx (e : Env) (st : Sto) (f : Env → Sto → SR) : (SR.nx e st).bind f = f e st := rfl
@[simp] theorem SR.bind_rt (v : Val) (fr : Bool) (e : Env) (st : Sto) (f : Env → Sto → SR) : (SR.rt v fr e st).bind f = .rt v fr e st := rfl
@[simp] theorem SR.bind_bk (e : Env) (st : Sto) (f : Env → Sto → SR) : (SR.bk e st).bind f = .bk e st := rfl
@[simp] theorem SR.bind_ct (e : Env) (st : Sto) (f : Env → Sto → SR) : (SR.ct e st).bind f = .ct e st := rfl
@[simp] theorem SR.bind_rs (x : Exn) (e : Env) (st : Sto) (f : Env → Sto → SR) : (SR.rs x e st).bind f = .rs x e st := rfl
@[simp] theorem SR.bind_bad (f : Env → Sto → SR) : SR.bad.bind f = .bad := rfl
/-- an expression's outcome, then a statement -/
def R.then_ {α : Type} (r : R α) (env : Env) (f : α → Sto → SR) : SR := match r with
  | .ok a st => f a st
  | .ex x st => .rs x env st
  | .bad => .bad
@[simp] theorem R.then_ok {α : Type} (a : α) (st : Sto) (env : Env) (f : α → Sto → SR) : (R.ok a st).then_ env f = f a st := rfl
@[simp] theorem R.then_ex {α : Type} (x : Exn) (st : Sto) (env : Env) (f : α → Sto → SR) : (R.ex x st : R α).then_ env f = .rs x env st := rfl
@[simp] theorem R.then_bad {α : Type} (env : Env) (f : α → Sto → SR) : (R.bad : R α).then_ env f = .bad := rfl
def sSkip : SX := fun env st => .nx env st
def sSeq (A B : SX) : SX := fun env st => (A env st).bind B
def sIf (T : TX) (A B : SX) : SX := fun env st => (T env st).then_ env fun b s1 => if b = true then A env s1 else B env s1
def sSet (i : Nat) (A : EX) : SX := fun env st => (A env st).then_ env fun a s1 => .nx (env.set i (.vl a.1)) s1
def sOwn (i : Nat) (A : EX) : SX := fun env st => (A env st).then_ env fun a s1 => if a.2 = true then .nx (env.set i (.ow a.1)) s1 else .bad
def sRet (A : EX) : SX := fun env st => (A env st).then_ env fun a s1 => .rt a.1 a.2 env s1
def sEx (A : EX) : SX := fun env st => (A env st).then_ env fun _ s1 => .nx env s1
def sBrk : SX := fun env st => .bk env st
def sCnt : SX := fun env st => .ct env st
/-- slots that are not asked any more -/
def forget : List Nat → Env → Env
  | [], env => env
  | i :: is, env => forget is (env.set i .no)
/-- a slot's own object stays as it is from now on -/
def freeze (i : Nat) (env : Env) : Env := match env[i]? with
  | some (.ow v) => env.set i (.vl v)
  | _ => env
/-- ahead of a statement: slots are forgotten, frozen -/
def sPre (f : Env → Env) (A : SX) : SX := fun env st => A (f env) st
def sPost (A : SX) (f : Env → Env) : SX := fun env st => (A env st).bind fun e s => .nx (f e) s
section
variable {g : G} {Z D : Addr → Prop} {u0 u u' : Wd} {σ : L2.St} {env : Env} {W : WX} {Dn : Ends} {X : Cx}
/-- how an outcome of an expression is taken by a statement -/
theorem then_out {α : Type} {P : α → Sto → SR} {r : R α} {K : α → Sto → Prop} (hok : ∀ a st, r = .ok a st → OutS g Z D u0 W Dn (P a st) → K a st) (hex : ∀ e st, r = .ex e st → OutX g Z D u0 σ env W e st → Prop)
    (o : OutS g Z D u0 W Dn (r.then_ env P)) : match r with | .ok a st => K a st | .ex e st => True | .bad => False := by
  cases r with
  | ok a st => exact hok a st rfl o
  | ex e st => trivial
  | bad => exact o
/-- a slot is stored: a value that stays -/
theorem Ok.setV (k : Ok g Z D u0 σ env u) {i : Nat} {v : Val} {x : V} (r : VR g u v x) : Ok g Z D u0 (σ.set i (some x)) (env.set i (.vl v)) u := by
  refine ⟨k.s, k.z, k.zd, k.d, k.le, ?_, fun j sl h => ?_, fun j j' v' w' a h1 h2 h3 h4 => ?_⟩
  · rw [List.length_set, List.length_set]; exact k.e.len
  · by_cases e : i = j
    · subst e
      by_cases hi : i < env.length
      · rw [List.getElem?_set_self hi] at h
        cases h
        refine ⟨x, ?_, r⟩
        rw [List.getElem?_set_self (by rw [k.e.len]; exact hi)]
      · rw [List.getElem?_eq_none (by rw [List.length_set]; omega)] at h
        cases h
    · rw [List.getElem?_set_ne e] at h ⊢
      exact k.e.at_ j sl h
  · have nj : ∀ {j : Nat} {v' : Val}, (env.set i (.vl v))[j]? = some (.ow v') → i ≠ j := fun {j v'} h e => by
      subst e
      by_cases hi : i < env.length
      · rw [List.getElem?_set_self hi] at h; cases h
      · rw [List.getElem?_eq_none (by rw [List.length_set]; omega)] at h; cases h
    have n1 := nj h1
    have n2 := nj h2
    rw [List.getElem?_set_ne n1] at h1 h3
    rw [List.getElem?_set_ne n2] at h2 h4
    exact k.e.dis j j' v' w' a h1 h2 h3 h4
/-- a slot is stored: a new object of its own -/
theorem Ok.setO (k : Ok g Z D u0 σ env u) {i : Nat} {v : Val} {x : V} (p : PV g Z D σ env u true v x) : Ok g Z D u0 (σ.set i (some x)) (env.set i (.ow v)) u := by
  rcases p with ⟨e, _⟩ | ⟨_, a, rfl, c, nf, ns, nd, no, nz⟩
  · cases e
  refine ⟨k.s, k.z, k.zd, k.d, k.le, ?_, fun j sl h => ?_, fun j j' v' w' b h1 h2 h3 h4 => ?_⟩
  · rw [List.length_set, List.length_set]; exact k.e.len
  · by_cases e : i = j
    · subst e
      by_cases hi : i < env.length
      · rw [List.getElem?_set_self hi] at h
        cases h
        refine ⟨a, ?_, c, nf, ns, nd⟩
        rw [List.getElem?_set_self (by rw [k.e.len]; exact hi)]
      · rw [List.getElem?_eq_none (by rw [List.length_set]; omega)] at h
        cases h
    · rw [List.getElem?_set_ne e] at h ⊢
      exact k.e.at_ j sl h
  · have key : ∀ {j j' : Nat} {w' : Val}, i = j → i ≠ j' → (env.set i (.ow v))[j']? = some (.ow w') → (σ.set i (some (.ref a)))[j]? = some (some (.ref b)) → (σ.set i (some (.ref a)))[j']? = some (some (.ref b)) → j < env.length → False :=
      fun {j j' w'} e n h h3 h4 hl => by
        subst e
        rw [List.getElem?_set_self (by rw [k.e.len]; exact hl)] at h3
        cases h3
        rw [List.getElem?_set_ne n] at h h4
        exact no ⟨j', w', h, h4⟩
    have lt : ∀ {j : Nat} {w' : Val}, (env.set i (.ow v))[j]? = some (.ow w') → j < env.length := fun {j w'} h => by
      have := (List.getElem?_eq_some_iff.mp h).1
      rw [List.length_set] at this
      exact this
    by_cases e1 : i = j
    · by_cases e2 : i = j'
      · rw [← e1, ← e2]
      · exact (key e1 e2 h2 h3 h4 (lt h1)).elim
    · by_cases e2 : i = j'
      · exact (key e2 e1 h1 h4 h3 (lt h2)).elim
      · rw [List.getElem?_set_ne e1] at h1 h3
        rw [List.getElem?_set_ne e2] at h2 h4
        exact k.e.dis j j' v' w' b h1 h2 h3 h4
theorem Ok.drop (k : Ok g Z D u0 σ env u) (i : Nat) : Ok g Z D u0 σ (env.set i .no) u := by
  refine ⟨k.s, k.z, k.zd, k.d, k.le, ?_, fun j sl h => ?_, fun j j' v' w' a h1 h2 h3 h4 => ?_⟩
  · rw [List.length_set]; exact k.e.len
  · by_cases e : i = j
    · subst e
      by_cases hi : i < env.length
      · rw [List.getElem?_set_self hi] at h; cases h; trivial
      · rw [List.getElem?_eq_none (by rw [List.length_set]; omega)] at h; cases h
    · rw [List.getElem?_set_ne e] at h
      exact k.e.at_ j sl h
  · have nj : ∀ {j : Nat} {v' : Val}, (env.set i .no)[j]? = some (.ow v') → i ≠ j := fun {j v'} h e => by
      subst e
      by_cases hi : i < env.length
      · rw [List.getElem?_set_self hi] at h; cases h
      · rw [List.getElem?_eq_none (by rw [List.length_set]; omega)] at h; cases h
    have n1 := nj h1
    have n2 := nj h2
    rw [List.getElem?_set_ne n1] at h1
    rw [List.getElem?_set_ne n2] at h2
    exact k.e.dis j j' v' w' a h1 h2 h3 h4
theorem Ok.forget : ∀ (is : List Nat) {env : Env}, Ok g Z D u0 σ env u → Ok g Z D u0 σ (Py.forget is env) u
  | [], _, k => k
  | i :: is, _, k => Ok.forget is (k.drop i)
/-- what the slot i holds of its own, as a new object -/
theorem Ok.ownPV (k : Ok g Z D u0 σ env u) {i : Nat} {v : Val} (h : env[i]? = some (.ow v)) : ∃ a, σ[i]? = some (some (.ref a)) ∧ PV g Z D σ (env.set i .no) u true v (.ref a) := by
  obtain ⟨a, e, c, nf, ns, nd⟩ := k.e.at_ i _ h
  refine ⟨a, e, .inr ⟨rfl, a, rfl, c, nf, ns, nd, fun ⟨j, w, h1, h2⟩ => ?_, fun z => nd (k.zd a z)⟩⟩
  by_cases q : i = j
  · subst q
    by_cases hi : i < env.length
    · rw [List.getElem?_set_self hi] at h1; cases h1
    · rw [List.getElem?_eq_none (by rw [List.length_set]; omega)] at h1; cases h1
  · rw [List.getElem?_set_ne q] at h1
    exact q (k.e.dis i j v w a h h1 e h2)
theorem Ok.freeze (k : Ok g Z D u0 σ env u) (i : Nat) : ∃ u', u'.st = u.st ∧ u'.H = u.H ∧ Ok g Z D u0 σ (Py.freeze i env) u' := by
  unfold Py.freeze
  split
  · rename_i v h
    obtain ⟨a, e, p⟩ := k.ownPV h
    obtain ⟨u', e1, e2, l, k', r⟩ := p.froze (k.drop i)
    refine ⟨u', e1, e2, ?_⟩
    have q := k'.setV (i := i) r
    have hs : σ.set i (some (.ref a)) = σ := by
      apply List.ext_getElem?
      intro j
      by_cases z : i = j
      · subst z
        obtain ⟨hl, _⟩ := List.getElem?_eq_some_iff.mp e
        rw [List.getElem?_set_self hl, e]
      · rw [List.getElem?_set_ne z]
    rw [hs, List.set_set] at q
    exact q
  · exact ⟨u, rfl, rfl, k⟩
theorem b_nil : PBx g X W [] sSkip := PSs.imp pss_nil fun Dn σ H ⟨Z, D, u0, env, u, e, k, o⟩ => by
  subst e
  exact o σ u rfl k
theorem seq_sound {A B : SX} {H : Hp} (h : RS g W (sSeq A B) Dn σ H) : tSeq (RS g W A) (RS g W B) Dn σ H := by
  obtain ⟨Z, D, u0, env, u, rfl, k, o⟩ := h
  refine ⟨Z, D, u0, env, u, rfl, k, ?_⟩
  unfold sSeq at o
  cases hA : A env u.st with
  | nx e s =>
    rw [hA] at o
    intro σ' u' e' k'
    subst e'
    exact ⟨Z, D, u0, e, u', rfl, k', o⟩
  | _ => rw [hA] at o; exact o
theorem b_cons {s : Stmt} {ss : List Stmt} {A B : SX} (h1 : PSx g X W s A) (h2 : PBx g X W ss B) : PBx g X W (s :: ss) (sSeq A B) := PSs.imp (pss_cons h1 h2) fun Dn σ H h => seq_sound h
theorem b_one {s : Stmt} {A : SX} (h1 : PSx g X W s A) : PBx g X W [s] A := pss_one h1
theorem b_pre {ss : List Stmt} {A : SX} {f : Env → Env} (hf : ∀ {g : G} {Z D : Addr → Prop} {u0 u : Wd} {σ : L2.St} {env : Env}, Ok g Z D u0 σ env u → ∃ u', u'.st = u.st ∧ u'.H = u.H ∧ Ok g Z D u0 σ (f env) u') (h : PBx g X W ss A) : PBx g X W ss (sPre f A) :=
  PSs.imp h fun Dn σ H ⟨Z, D, u0, env, u, e, k, o⟩ => by
    subst e
    obtain ⟨u', e1, e2, k'⟩ := hf k
    rw [← e2]
    refine ⟨Z, D, u0, f env, u', rfl, k', ?_⟩
    rw [e1]
    exact o
theorem s_pre {s : Stmt} {A : SX} {f : Env → Env} (hf : ∀ {g : G} {Z D : Addr → Prop} {u0 u : Wd} {σ : L2.St} {env : Env}, Ok g Z D u0 σ env u → ∃ u', u'.st = u.st ∧ u'.H = u.H ∧ Ok g Z D u0 σ (f env) u') (h : PSx g X W s A) : PSx g X W s (sPre f A) :=
  PS.imp h fun Dn σ H ⟨Z, D, u0, env, u, e, k, o⟩ => by
    subst e
    obtain ⟨u', e1, e2, k'⟩ := hf k
    rw [← e2]
    refine ⟨Z, D, u0, f env, u', rfl, k', ?_⟩
    rw [e1]
    exact o
theorem ok_fz (i : Nat) {g : G} {Z D : Addr → Prop} {u0 u : Wd} {σ : L2.St} {env : Env} (k : Ok g Z D u0 σ env u) : ∃ u', u'.st = u.st ∧ u'.H = u.H ∧ Ok g Z D u0 σ (Py.freeze i env) u' := k.freeze i
theorem ok_fg (is : List Nat) {g : G} {Z D : Addr → Prop} {u0 u : Wd} {σ : L2.St} {env : Env} (k : Ok g Z D u0 σ env u) : ∃ u', u'.st = u.st ∧ u'.H = u.H ∧ Ok g Z D u0 σ (Py.forget is env) u' := ⟨u, rfl, rfl, Ok.forget is k⟩
/-- slots are forgotten behind a statement -/
theorem s_post {s : Stmt} {A : SX} (is : List Nat) (h : PSx g X W s A) : PSx g X W s (sPost A (forget is)) := PS.imp h fun Dn σ H ⟨Z, D, u0, env, u, e, k, o⟩ => by
  subst e
  refine ⟨Z, D, u0, env, u, rfl, k, ?_⟩
  unfold sPost at o
  cases hA : A env u.st with
  | nx e s =>
    rw [hA] at o
    intro σ' u' e' k'
    exact o σ' u' e' (k'.forget is)
  | _ => rw [hA] at o; exact o
theorem b_post {ss : List Stmt} {A : SX} (is : List Nat) (h : PBx g X W ss A) : PBx g X W ss (sPost A (forget is)) := PSs.imp h fun Dn σ H ⟨Z, D, u0, env, u, e, k, o⟩ => by
  subst e
  refine ⟨Z, D, u0, env, u, rfl, k, ?_⟩
  unfold sPost at o
  cases hA : A env u.st with
  | nx e s =>
    rw [hA] at o
    intro σ' u' e' k'
    exact o σ' u' e' (k'.forget is)
  | _ => rw [hA] at o; exact o
/-- a statement over an expression: te is run, then what follows -/
theorem over {A : EX} {P : Env → Val × Bool → Sto → SR} {H : Hp} {Q : VK} (h : RS g W (fun env st => (A env st).then_ env (P env)) Dn σ H)
    (hok : ∀ Z D u0 env u' x v fr, Ok g Z D u0 σ env u' → PV g Z D σ env u' fr v x → OutS g Z D u0 W Dn (P env (v, fr) u'.st) → Q x u'.H) : RE g W A σ H Q := by
  obtain ⟨Z, D, u0, env, u, rfl, k, o⟩ := h
  refine ⟨Z, D, u0, env, u, rfl, k, ?_⟩
  cases hA : A env u.st with
  | bad => simp only [hA] at o; exact o
  | ex e s =>
    simp only [hA] at o
    exact fun u' cls d e1 k1 x => o σ u' cls d e1 k1 x
  | ok a s1 =>
    simp only [hA] at o
    obtain ⟨v, fr⟩ := a
    intro u1 x e1 l1 k1 pv
    subst e1
    exact hok Z D u0 env u1 x v fr k1 pv o
theorem overT {T : TX} {P : Env → Bool → Sto → SR} {H : Hp} {Q : Bool → Hp → Prop} (h : RS g W (fun env st => (T env st).then_ env (P env)) Dn σ H)
    (hok : ∀ Z D u0 env u' b, Ok g Z D u0 σ env u' → OutS g Z D u0 W Dn (P env b u'.st) → Q b u'.H) : RT g W T σ H Q := by
  obtain ⟨Z, D, u0, env, u, rfl, k, o⟩ := h
  refine ⟨Z, D, u0, env, u, rfl, k, ?_⟩
  cases hA : T env u.st with
  | bad => simp only [hA] at o; exact o
  | ex e s =>
    simp only [hA] at o
    exact fun u' cls d e1 k1 x => o σ u' cls d e1 k1 x
  | ok a s1 =>
    simp only [hA] at o
    intro u1 e1 l1 k1
    subst e1
    exact hok Z D u0 env u1 a k1 o
end
end Py

namespace Py
open PySem PySem.Spec PyProof.Rows L2
section
variable {g : G} {W : WX} {X : Cx} {A B : EX} {T : TX} {pos : Pos}
theorem s_if {c : Expr} {a b : List Stmt} {A B : SX} (hc : PTx g X W c T) (ha : PBx g X W a A) (hb : PBx g X W b B) : PSx g X W (.If c a b pos) (sIf T A B) := PS.imp (ps_if hc ha hb) fun Dn σ H h => by
  refine overT (P := fun env b s1 => if b = true then A env s1 else B env s1) h fun Z D u0 env u' b k o => ?_
  cases b with
  | true =>
    rw [if_pos rfl] at o ⊢
    exact ⟨Z, D, u0, env, u', rfl, k, o⟩
  | false =>
    rw [if_neg Bool.false_ne_true] at o ⊢
    exact ⟨Z, D, u0, env, u', rfl, k, o⟩
theorem s_ret {e : Expr} (he : PEx g X W e A) : PSx g X W (.Return (some e) pos) (sRet A) := PS.imp (ps_ret he) fun Dn σ H h =>
  over (P := fun env a s1 => .rt a.1 a.2 env s1) h fun Z D u0 env u' x v fr k pv o => o σ u' x rfl k pv
theorem s_retN : PSx g X W (.Return none pos) (sRet (aC .non)) := PS.imp ps_retN fun Dn σ H ⟨Z, D, u0, env, u, e, k, o⟩ => by
  subst e
  exact o σ u .non rfl k (.inl ⟨rfl, .non⟩)
/-- return x, x a slot's own object -/
def sRetO (i : Nat) : SX := fun env st => match env[i]? with
  | some (.ow v) => .rt v true (env.set i .no) st
  | _ => .bad
theorem s_retO (i : Nat) {x : Str} {p : Pos} (hN : X.N[i]? = some x := by rfl) (hv : Vis X.env.scope x := by first | exact Or.inl rfl | exact Or.inr (Or.inl rfl) | exact Or.inr (Or.inr rfl)) (hd : (x == ("__debug__" : Str)) = false := by decide)
    (hcd : (x == ("__classdict__" : Str)) = false := by decide) : PSx g X W (.Return (some (.Name x p)) pos) (sRetO i) := PS.imp (ps_ret (pe_var hN hv hd hcd)) fun Dn σ H h => by
  obtain ⟨Z, D, u0, env, u, rfl, k, o⟩ := h
  unfold sRetO at o
  cases e : env[i]? with
  | none => rw [e] at o; exact o.elim
  | some s =>
    rw [e] at o
    cases s with
    | ow v =>
      obtain ⟨a, ea, pv⟩ := k.ownPV e
      exact ⟨.ref a, ea, o σ u (.ref a) rfl (k.drop i) pv⟩
    | _ => exact o.elim
theorem s_set (i : Nat) {x : Str} {e : Expr} {pos' : Pos} (he : PEx g X W e A) (hN : X.N.Nodup) (hi : X.N[i]? = some x := by rfl) (hx : Loc X.env.scope x := by first | exact Or.inl rfl | exact Or.inr rfl) (hs : swapsWith e (some (.Name x pos')) pos.line X.env = pure false := by rfl) (hf : X.fn x = true ∨ X.env.scope.names.lookup x = some .local := by first | exact .inl rfl | exact .inr rfl | assumption) :
    PSx g X W (.Assign [.Name x pos'] e pos) (sSet i A) := PS.imp (ps_set hN hi hx he hs hf) fun Dn σ H h =>
  over (P := fun env a s1 => .nx (env.set i (.vl a.1)) s1) h fun Z D u0 env u' x v fr k pv o => by
    obtain ⟨u2, e1, e2, l, k2, r⟩ := pv.froze k
    show Dn.nx (σ.set i (some x)) u'.H
    rw [← e2]
    exact o _ u2 e1 (k2.setV r)
theorem s_own (i : Nat) {x : Str} {e : Expr} {pos' : Pos} (he : PEx g X W e A) (hN : X.N.Nodup) (hi : X.N[i]? = some x := by rfl) (hx : Loc X.env.scope x := by first | exact Or.inl rfl | exact Or.inr rfl) (hs : swapsWith e (some (.Name x pos')) pos.line X.env = pure false := by rfl) (hf : X.fn x = true ∨ X.env.scope.names.lookup x = some .local := by first | exact .inl rfl | exact .inr rfl | assumption) :
    PSx g X W (.Assign [.Name x pos'] e pos) (sOwn i A) := PS.imp (ps_set hN hi hx he hs hf) fun Dn σ H h =>
  over (P := fun env a s1 => if a.2 = true then .nx (env.set i (.ow a.1)) s1 else .bad) h fun Z D u0 env u' x v fr k pv o => by
    show Dn.nx (σ.set i (some x)) u'.H
    cases fr with
    | false => exact o.elim
    | true => exact o _ u' rfl (k.setO pv)
theorem s_ex {e : Expr} (he : PEx g X W e A) (hs : swapsWith e none pos.line X.env = pure false := by rfl) : PSx g X W (.Expr e pos) (sEx A) := PS.imp (ps_expr he hs) fun Dn σ H h =>
  over (P := fun env _ s1 => .nx env s1) h fun Z D u0 env u' x v fr k pv o => o σ u' rfl k
theorem s_pass : PSx g X W (.Pass pos) sSkip := PS.imp ps_pass fun Dn σ H ⟨Z, D, u0, env, u, e, k, o⟩ => by
  subst e
  exact o σ u rfl k
theorem s_brk : PSx g X W (.Break pos) sBrk := PS.imp ps_break fun Dn σ H ⟨Z, D, u0, env, u, e, k, o⟩ => by
  subst e
  exact o σ u rfl k
theorem s_cnt : PSx g X W (.Continue pos) sCnt := PS.imp ps_continue fun Dn σ H ⟨Z, D, u0, env, u, e, k, o⟩ => by
  subst e
  exact o σ u rfl k

/-! ### targets -/
abbrev GX := Val → Env → Option Env
def gV (i : Nat) : GX := fun v env => some (env.set i (.vl v))
def gNilX : List Val → Env → Option Env := fun vs env => match vs with
  | [] => some env
  | _ => none
def gConsX (G : GX) (Gs : List Val → Env → Option Env) : List Val → Env → Option Env := fun vs env => match vs with
  | v :: r => (G v env).bind (Gs r)
  | [] => none
def gT (n : Nat) (Gs : List Val → Env → Option Env) : GX := fun v env => match v with
  | .tup vs => if vs.length = n then Gs vs env else none
  | _ => none
/-- all but these slots are as they were -/
def Off (is : List Nat) (σ σ' : L2.St) : Prop := σ'.length = σ.length ∧ ∀ j, j ∉ is → σ'[j]? = σ[j]?
theorem Off.set (i : Nat) (σ : L2.St) (x : Option V) : Off [i] σ (σ.set i x) := ⟨List.length_set, fun j h => by rw [List.getElem?_set_ne (fun e => h (by simp [e]))]⟩
def RG (g : G) (is : List Nat) (G : GX) : TG := fun x σ H Q => ∃ (Z D : Addr → Prop) (u0 : Wd) (env : Env) (u : Wd) (v : Val), u.H = H ∧ Ok g Z D u0 σ env u ∧ VR g u v x ∧ ∃ env', G v env = some env' ∧ ∀ σ', Ok g Z D u0 σ' env' u → Off is σ σ' → Q σ' u.H
def RGs (g : G) (is : List Nat) (Gs : List Val → Env → Option Env) : TGs := fun xs σ H Q => ∃ (Z D : Addr → Prop) (u0 : Wd) (env : Env) (u : Wd) (vs : List Val), u.H = H ∧ Ok g Z D u0 σ env u ∧ VRs g u vs xs ∧ ∃ env', Gs vs env = some env' ∧ ∀ σ', Ok g Z D u0 σ' env' u → Off is σ σ' → Q σ' u.H
theorem PG.imp {tg : Expr} {t t' : TG} (h : PG X tg t) (i : ∀ x σ H Q, t' x σ H Q → t x σ H Q) : PG X tg t' := ⟨fun pins s σ H v u Q I r q => h.run pins s σ H v u Q I r (i _ _ _ _ q)⟩
theorem PGs.imp {tg : List Expr} {t t' : TGs} (h : PGs X tg t) (i : ∀ x σ H Q, t' x σ H Q → t x σ H Q) : PGs X tg t' := ⟨fun pins s σ H v u Q I r q => h.run pins s σ H v u Q I r (i _ _ _ _ q)⟩
def PGx (g : G) (X : Cx) (tg : Expr) (is : List Nat) (G : GX) : Prop := PG X tg (RG g is G)
def PGsx (g : G) (X : Cx) (tg : List Expr) (is : List Nat) (G : List Val → Env → Option Env) : Prop := PGs X tg (RGs g is G)
theorem g_name (i : Nat) {x : Str} {p : Pos} (hN : X.N.Nodup) (hi : X.N[i]? = some x := by rfl) (hx : Loc X.env.scope x := by first | exact Or.inl rfl | exact Or.inr rfl) (hf : X.fn x = true ∨ X.env.scope.names.lookup x = some .local := by first | exact .inl rfl | exact .inr rfl | assumption) : PGx g X (.Name x p) [i] (gV i) :=
  PG.imp (pg_name hN hi hx hf) fun x σ H Q ⟨Z, D, u0, env, u, v, e, k, r, env', e1, q⟩ => by
    subst e
    cases e1
    exact q _ (k.setV r) (Off.set _ _ _)
theorem gs_nil : PGsx g X [] [] gNilX := PGs.imp pgs_nil fun xs σ H Q ⟨Z, D, u0, env, u, vs, e, k, r, env', e1, q⟩ => by
  subst e
  cases r with
  | nil =>
    cases e1
    exact ⟨rfl, q σ k ⟨rfl, fun _ _ => rfl⟩⟩
  | cons _ _ => cases e1
theorem gs_cons {e : Expr} {es : List Expr} {is js : List Nat} {G : GX} {Gs : List Val → Env → Option Env} (h1 : PGx g X e is G) (h2 : PGsx g X es js Gs) (ha : (assignEach (e :: es) X.env).map (·.2) = assign e X.env :: (assignEach es X.env).map (·.2) := by rfl) : PGsx g X (e :: es) (is ++ js) (gConsX G Gs) :=
  PGs.imp (pgs_cons h1 h2 ha) fun xs σ H Q ⟨Z, D, u0, env, u, vs, e, k, r, env', e1, q⟩ => by
    subst e
    cases r with
    | nil => cases e1
    | @cons v x vs xs rv rt =>
      have e1' : (G v env).bind (Gs vs) = some env' := e1
      cases hG : G v env with
      | none => rw [hG] at e1'; cases e1'
      | some en1 =>
        rw [hG] at e1'
        refine ⟨x, xs, rfl, Z, D, u0, env, u, v, rfl, k, rv, en1, hG, fun σ' k' of => ?_⟩
        exact ⟨Z, D, u0, en1, u, vs, rfl, k', rt, env', e1', fun σ2 k2 of2 => q σ2 k2 ⟨of2.1.trans of.1, fun j h => by
          simp only [List.mem_append, not_or] at h
          rw [of2.2 j h.2, of.2 j h.1]⟩⟩
theorem g_tup {es : List Expr} {k : Nat} {is : List Nat} {Gs : List Val → Env → Option Env} {n : Nat} (hk : X.K = g.K) (hc : X.calm = true) (h : PGsx g X es is Gs) (hn : (assignEach es X.env).length = n := by rfl) (hst : (assignEach es X.env).findIdx? (·.1) = none := by rfl) : PGx g X (.Tuple es k pos) is (gT n Gs) :=
  PG.imp (pg_tup hc h hn hst) fun x σ H Q ⟨Z, D, u0, env, u, v, e, k, r, env', e1, q⟩ => by
    subst e
    cases v with
    | tup vs =>
      have e1' : (if vs.length = n then Gs vs env else none) = some env' := e1
      by_cases hl : vs.length = n
      · rw [if_pos hl] at e1'
        obtain ⟨a, xs, rfl, qt, rr⟩ := (show BW g u (.tup vs) x from .inl r).tup
        rw [hk]
        exact ⟨a, xs, rfl, qt, by rw [← rr.length]; exact hl, Z, D, u0, env, u, vs, rfl, k, rr, env', e1', q⟩
      · rw [if_neg hl] at e1'
        cases e1'
    | _ => cases e1
/-- target = e -/
def sAsg (G : GX) (A : EX) : SX := fun env st => (A env st).then_ env fun a s1 => match G a.1 env with
  | some e => .nx e s1
  | none => .bad
theorem s_asg {tg e : Expr} {is : List Nat} {G : GX} (he : PEx g X W e A) (hg : PGx g X tg is G) (hs : swapsWithSole [tg] e pos.line X.env = pure false := by rfl) (hw : swappedStores [tg] e X.env = pure none := by rfl) (h1 : (assignEach [tg] X.env).map (·.2) = [assign tg X.env] := by rfl) : PSx g X W (.Assign [tg] e pos) (sAsg G A) :=
  PS.imp (ps_asg he hg hs hw h1) fun Dn σ H h => over (P := fun env a s1 => match G a.1 env with
  | some e => .nx e s1
  | none => .bad) h fun Z D u0 env u' x v fr k pv o => by
    obtain ⟨u2, e1, e2, l, k2, r⟩ := pv.froze k
    show RG g is G x σ u'.H Dn.nx
    rw [← e2]
    cases hG : G v env with
    | none =>
      simp only [hG] at o
      exact o.elim
    | some en =>
      simp only [hG] at o
      exact ⟨Z, D, u0, env, u2, v, rfl, k2, r, en, hG, fun σ' k' _ => o σ' u2 e1 k'⟩
end
end Py

namespace Py
open PySem PySem.Spec PyProof.Rows L2
/-! ### enumerate(v) of a tuple, of a text -/
set_option maxHeartbeats 1000000 in
theorem meets_enumerate_newB1 {v : Value} {o : Obj} {H : Heap → Prop} (B : Begins v o H) :
    Meets (Builtin.«enumerate.__new__» ⟨[.type "enumerate", v], []⟩) (fun _ R s => H s.heap ∧
      R (.ok (.ret (.ref (s.heap.push o).objs.size))) { s with heap := (s.heap.push o).push { cls := .type "enumerate", data := .fields #[.none, .bool false, .ref s.heap.objs.size, rawInt 0, .none, .none] } }) :=
  .of_wp fun prog w A R s h => by
    obtain ⟨hp, g, d, tk, os⟩ := s; obtain ⟨h1, h⟩ := h
    have hsub := sub_enumerate
    have q1 : ∀ {A' : Around} {E : Value → Shared → Prop} {Q : Value → Shared → Prop}, Q (.ref hp.objs.size) ⟨hp.push o, g, d, tk, os⟩ → wpAny (model prog w) A' (pyIter v) Q E ⟨hp, g, d, tk, os⟩ :=
      fun q => B.iter prog w _ _ ⟨hp, g, d, tk, os⟩ _ h1 q
    wp_walk using q1
    refine wpAny_stack_any fun st => wpAny_pure ?_
    split
    · rename_i c _ _ _ _ _
      cases (c == Value.type "enumerate")
      · wp_walk using q1
        exact ⟨_, rfl, h⟩
      · wp_walk using q1
        exact ⟨_, rfl, h⟩
    · wp_walk using q1
      exact ⟨_, rfl, h⟩
theorem enum_begins1 {prog : Program} {w : World} {A : Around} {E : Value → Shared → Prop} {s : Shared} {v : Value} {o : Obj} {H : Heap → Prop} {Q : Value → Shared → Prop} (B : Begins v o H) (h1 : H s.heap)
    (h : ∀ h', IsEnum h' (s.heap.objs.size + 1) s.heap.objs.size 0 .none → h'.get? s.heap.objs.size = some o → h'.objs.size = s.heap.objs.size + 2 →
      (∀ b o, s.heap.get? b = some o → h'.get? b = some o) → Q (.ref (s.heap.objs.size + 1)) { s with heap := h' }) :
    wpAny (model prog w) A (call (.type "enumerate") [v]) Q E s := by
  refine callType_new F.called_enumerate (by decide) (F.typeCall_enumerate_1 _) (F.newCall_enumerate_1 _) (fun obj => F.args_object_init_2 obj _) F.entry_enumerate_new
    (meets_enumerate_newB1 B) ⟨h1, ?_⟩
  have hz : (s.heap.push o).objs.size = s.heap.objs.size + 1 := Heap.size_push ..
  show _ ∧ _
  rw [hz]
  have he : IsEnum ((s.heap.push o).push { cls := .type "enumerate", data := .fields #[.none, .bool false, .ref s.heap.objs.size, rawInt 0, .none, .none] }) (s.heap.objs.size + 1) s.heap.objs.size 0 .none := by
    have := Heap.get?_push_size (s.heap.push o) (o := { cls := .type "enumerate", data := .fields #[.none, .bool false, .ref s.heap.objs.size, rawInt 0, .none, .none] }) rfl
    rw [hz] at this; exact this
  refine ⟨⟨_, he, rfl⟩, h _ he (Heap.get?_push_of_some _ (Heap.get?_push_size _ B.free)) (by rw [Heap.size_push, hz]) fun b o x => Heap.get?_push_of_some _ (Heap.get?_push_of_some _ x)⟩
def IteT (K : PySem.W.Frag) (a : Addr) : It :=
  ⟨fun i H => ∃ (xs : List V) (x : V), SqT K H a xs ∧ xs[i]? = some x, fun i H v H' => ∃ T x, v = .ref T ∧ H T = none ∧ H' = upd H T (.tup [.int (i : Nat), x]) ∧ ∀ xs, SqT K H a xs → xs[i]? = some x, fun i H => ∃ xs : List V, SqT K H a xs ∧ xs.length = i⟩
theorem turn_enumT {P : Program} {w : World} {K : PySem.W.Frag} {elts : List Expr} {kk : Nat} {tpos : Pos} (a e it : Addr) :
    Turn P w K (.Tuple elts kk tpos) (IteT K a) [e, it] e (fun i h => (∃ old, IsEnum h e it ((i : Nat) : Int) old) ∧ h.IsTupleIter it a i ∧ e ≠ it ∧ a ≠ it ∧ e ≠ a) where
  mem := by simp
  obj := fun i h st b hb => by
    obtain ⟨⟨old, he⟩, ⟨o, ho, hc, hd⟩, _⟩ := st
    have e' : b = e ∨ b = it := by simpa using hb
    rcases e' with z | z
    · rw [z]; exact ⟨_, he, fun v q => nomatch q⟩
    · rw [z]; exact ⟨o, ho, fun v q => by rw [hd] at q; cases q⟩
  keep := fun i h h' st k => let ⟨⟨old, he⟩, hi, hne⟩ := st; ⟨⟨old, k e (by simp) _ he⟩, hi.at fun o q => k it (by simp) o q, hne⟩
  item := by
    intro X hP hw hK hc i pins s σ H E I hf st hg
    subst hP hw hK
    obtain ⟨⟨old, he⟩, hit, hne, hai, hea⟩ := st
    obtain ⟨xs, x, hq, hx⟩ := hg
    obtain ⟨its, rv, p, hz⟩ := I.tuple hq
    obtain ⟨u, hu, ru⟩ := rv.get hx
    have hel : e < s.heap.objs.size := Heap.lt_size he
    have hil : it < s.heap.objs.size := by obtain ⟨_, q, _⟩ := hit; exact Heap.lt_size q
    have hlt : i < its.toArray.size := by
      have := (List.getElem?_eq_some_iff.mp hu).1
      simpa using this
    have D := Draws.tuple (prog := X.prog) (w := X.w) (A := X.A.in1) (by show X.A.handled = none; exact I.ok.hd hc) it a hai its.toArray
    refine wpAny_pyNext_enum_itemC D he ⟨hit, p⟩ hlt hne (by simp [hne, hea]) fun v h' tk hv ho hst' hT hsz hk => ?_
    obtain ⟨hit', _⟩ := hst'
    have ev : v = u := by
      have e1 : its.toArray[i]? = some u := by simpa using hu
      rw [e1] at hv
      cases hv
      rfl
    subst ev
    refine ⟨_, rfl, wpAny_letOwnedTupleGo_enum (s := { s with heap := h', toks := tk + 1 }) ho fun h'' he' sb => ?_⟩
    have hT2 : h''.get? s.heap.objs.size = some { cls := .type "tuple", data := .seq #[.int i tk, v] } := (sb.2 _ (Nat.ne_of_gt hel)).trans hT
    have new : ObjOk X.prog X.w (upd H s.heap.objs.size (.tup [.int (i : Nat), x])) h'' s.heap.objs.size (.tup [.int (i : Nat), x]) :=
      ⟨by show 2 ≤ sizeLine; decide, [.int i tk, v], .cons ⟨_, rfl⟩ (.cons ru .nil), ⟨_, hT2, rfl, _, rfl⟩⟩
    have I1 : Inv X pins σ (upd H s.heap.objs.size (.tup [.int (i : Nat), x])) { s with heap := h'', toks := tk + 1 } :=
      I.turnedNew (ch := [e, it]) (fun b ob hb q => (sb.2 b (fun z => hb (by simp [z]))).trans (hk b ob (fun z => hb (by simp [z])) (fun z => hb (by simp [z])) q)) hf (Nat.le_refl _) new
    refine ⟨.ref s.heap.objs.size, _, I1, rfl, ⟨_, x, rfl, I.hok.fresh (Nat.le_refl _), rfl, fun ys hy => by rw [I.tuple_inj hy hq]; exact hx⟩, ⟨⟨v, ?_⟩, hit'.at fun o q => (sb.2 it (Ne.symm hne)).trans q, hne, hai, hea⟩, fun b hb => ?_⟩
    · have e1 : ((i + 1 : Nat) : Int) = (i : Int) + 1 := by omega
      rw [e1]; exact he'
    · have hb' : b < s.heap.objs.size := by
        have e' : b = e ∨ b = it := by simpa using hb
        rcases e' with z | z
        · rw [z]; exact hel
        · rw [z]; exact hil
      rw [upd_ne (Nat.ne_of_lt hb')]
      exact (hf b hb).1
  done := by
    intro X hP hw hK hc i pins s σ H E I hf st hg
    subst hP hw hK
    obtain ⟨⟨old, he⟩, hit, hne, hai, hea⟩ := st
    obtain ⟨xs, hq, hx⟩ := hg
    obtain ⟨its, rv, p, hz⟩ := I.tuple hq
    obtain ⟨f0, f1, f2, f3, f4, f5⟩ := hf it (by simp)
    have hl := rv.length
    have D := Draws.tuple (prog := X.prog) (w := X.w) (A := X.A.in1) (by show X.A.handled = none; exact I.ok.hd hc) it a hai its.toArray
    have hn : its.toArray.size = i := by simp; omega
    exact wpAny_pyNext_enum_endD D he (by rw [hn]; exact ⟨hit, p⟩) fun h' eb => ⟨rfl, I.turned (t' := s.toks) (fun b o hb q => eb b o hb q) f0 f1 f3 f4 f5⟩
  self := fun A i s Q E st h => let ⟨⟨_, he⟩, _⟩ := st; wpAny_pyIter_enum he h
def iEnumT (K : PySem.W.Frag) (ta : TA) : TI := fun σ H R => ta σ H fun vs H1 => ∃ a xs, vs = [.ref a] ∧ SqT K H1 a xs ∧ R (IteT K a) H1
theorem pi_enumT {X : Cx} {e : Expr} {ta : TA} {p pos tpos : Pos} {elts : List Expr} {kk : Nat} (hg : Gl X "enumerate") (hm : X.mg "enumerate" = none) (ha : PA X [e] ta) (hs : starEach [e] X.env = [(false, eval e X.env)] := by rfl) :
    PI X (.Tuple elts kk tpos) (.Call (.Name "enumerate" p) [e] [] pos) (iEnumT X.K ta) := by
  refine ⟨fun pins s σ H R I h => ?_⟩
  refine Call_ (ld_blt I hg hm boot_enumerate (PyProof.Rows.callWith_type1 (thn (ha.run pos pins s σ H _ I h) fun us s1 ⟨vs, H1, I1, r1, q1⟩ => ?_) hs rfl))
  obtain ⟨a, xs, ex, hq, q⟩ := q1
  subst ex
  cases r1 with
  | cons r rr =>
    cases rr
    cases r
    obtain ⟨its, rv, p', hz⟩ := I1.tuple hq
    have hal : a < s1.heap.objs.size := by obtain ⟨_, q', _⟩ := p'; exact Heap.lt_size q'
    refine enum_begins1 (begins_tuple a its.toArray) p' fun h' he hit hsz hk => wpAny_pyIter_enum he ?_
    have I2 : Inv X pins σ H1 { s1 with heap := h' } := I1.kept (t' := s1.toks) hk
    refine ⟨s1.heap.objs.size + 1, [s1.heap.objs.size + 1, s1.heap.objs.size], _, _, H1, rfl, I2, turn_enumT a (s1.heap.objs.size + 1) s1.heap.objs.size, ⟨⟨.none, he⟩, ⟨_, hit, rfl, rfl⟩, Nat.succ_ne_self _, Nat.ne_of_lt hal, Nat.ne_of_gt (Nat.lt_succ_of_lt hal)⟩, fun b hb => ?_, q⟩
    have e' : b = s1.heap.objs.size + 1 ∨ b = s1.heap.objs.size := by simpa using hb
    have hle : s1.heap.objs.size ≤ b := by
      rcases e' with z | z
      · rw [z]; exact Nat.le_add_right _ _
      · rw [z]; exact Nat.le_refl _
    exact I1.fpOk hle (I1.hok.fresh hle)
def IteS (x : Str) : It :=
  ⟨fun i _ => i < x.cps.size, fun i H v H' => ∃ T c, v = .ref T ∧ H T = none ∧ H' = upd H T (.tup [.int (i : Nat), .str ⟨#[c]⟩]) ∧ x.cps[i]? = some c, fun i _ => x.cps.size = i⟩
theorem turn_enumS {P : Program} {w : World} {K : PySem.W.Frag} {elts : List Expr} {kk : Nat} {tpos : Pos} (x : Str) (t : Tok) (e it : Addr) :
    Turn P w K (.Tuple elts kk tpos) (IteS x) [e, it] e (fun i h => (∃ old, IsEnum h e it ((i : Nat) : Int) old) ∧ h.IsStrIter it (strIterType x) x t i ∧ e ≠ it) where
  mem := by simp
  obj := fun i h st b hb => by
    obtain ⟨⟨old, he⟩, ⟨o, ho, hc, hd⟩, _⟩ := st
    have e' : b = e ∨ b = it := by simpa using hb
    rcases e' with z | z
    · rw [z]; exact ⟨_, he, fun v q => nomatch q⟩
    · rw [z]; exact ⟨o, ho, fun v q => by rw [hd] at q; cases q⟩
  keep := fun i h h' st k => let ⟨⟨old, he⟩, ⟨o, ho, r⟩, hne⟩ := st; ⟨⟨old, k e (by simp) _ he⟩, ⟨o, k it (by simp) o ho, r⟩, hne⟩
  item := by
    intro X hP hw hK hc i pins s σ H E I hf st hg
    subst hP hw hK
    obtain ⟨⟨old, he⟩, hit, hne⟩ := st
    have hel : e < s.heap.objs.size := Heap.lt_size he
    have hil : it < s.heap.objs.size := by obtain ⟨_, q, _⟩ := hit; exact Heap.lt_size q
    have D := Draws.text (prog := X.prog) (w := X.w) (A := X.A.in1) (by show X.A.handled = none; exact I.ok.hd hc) it x t
    refine wpAny_pyNext_enum_itemC D he hit hg hne (by simp [hne]) fun v h' tk hv ho hit' hT hsz hk => ?_
    obtain ⟨c, tc, hcx, rfl⟩ := hv
    refine ⟨_, rfl, wpAny_letOwnedTupleGo_enum (s := { s with heap := h', toks := tk + 1 }) ho fun h'' he' sb => ?_⟩
    have hT2 : h''.get? s.heap.objs.size = some { cls := .type "tuple", data := .seq #[.int i tk, .str ⟨#[c]⟩ tc] } := (sb.2 _ (Nat.ne_of_gt hel)).trans hT
    have new : ObjOk X.prog X.w (upd H s.heap.objs.size (.tup [.int (i : Nat), .str ⟨#[c]⟩])) h'' s.heap.objs.size (.tup [.int (i : Nat), .str ⟨#[c]⟩]) :=
      ⟨by show 2 ≤ sizeLine; decide, [.int i tk, .str ⟨#[c]⟩ tc], .cons ⟨_, rfl⟩ (.cons ⟨_, rfl⟩ .nil), ⟨_, hT2, rfl, _, rfl⟩⟩
    have I1 : Inv X pins σ (upd H s.heap.objs.size (.tup [.int (i : Nat), .str ⟨#[c]⟩])) { s with heap := h'', toks := tk + 1 } :=
      I.turnedNew (ch := [e, it]) (fun b ob hb q => (sb.2 b (fun z => hb (by simp [z]))).trans (hk b ob (fun z => hb (by simp [z])) (fun z => hb (by simp [z])) q)) hf (Nat.le_refl _) new
    obtain ⟨oi, ei, ri⟩ := hit'
    refine ⟨.ref s.heap.objs.size, _, I1, rfl, ⟨_, c, rfl, I.hok.fresh (Nat.le_refl _), rfl, hcx⟩, ⟨⟨.str ⟨#[c]⟩ tc, ?_⟩, ⟨oi, (sb.2 it (Ne.symm hne)).trans ei, ri⟩, hne⟩, fun b hb => ?_⟩
    · have e1 : ((i + 1 : Nat) : Int) = (i : Int) + 1 := by omega
      rw [e1]; exact he'
    · have hb' : b < s.heap.objs.size := by
        have e' : b = e ∨ b = it := by simpa using hb
        rcases e' with z | z
        · rw [z]; exact hel
        · rw [z]; exact hil
      rw [upd_ne (Nat.ne_of_lt hb')]
      exact (hf b hb).1
  done := by
    intro X hP hw hK hc i pins s σ H E I hf st hg
    subst hP hw hK
    obtain ⟨⟨old, he⟩, hit, hne⟩ := st
    obtain ⟨f0, f1, f2, f3, f4, f5⟩ := hf it (by simp)
    have D := Draws.text (prog := X.prog) (w := X.w) (A := X.A.in1) (by show X.A.handled = none; exact I.ok.hd hc) it x t
    have hg' : x.cps.size = i := hg
    exact wpAny_pyNext_enum_endD D he (by rw [hg']; exact hit) fun h' eb => ⟨rfl, I.turned (t' := s.toks) (fun b o hb q => eb b o hb q) f0 f1 f3 f4 f5⟩
  self := fun A i s Q E st h => let ⟨⟨_, he⟩, _⟩ := st; wpAny_pyIter_enum he h
def iEnumS (ta : TA) : TI := fun σ H R => ta σ H fun vs H1 => ∃ x, vs = [.str x] ∧ R (IteS x) H1
theorem pi_enumS {X : Cx} {e : Expr} {ta : TA} {p pos tpos : Pos} {elts : List Expr} {kk : Nat} (hg : Gl X "enumerate") (hm : X.mg "enumerate" = none) (ha : PA X [e] ta) (hs : starEach [e] X.env = [(false, eval e X.env)] := by rfl) :
    PI X (.Tuple elts kk tpos) (.Call (.Name "enumerate" p) [e] [] pos) (iEnumS ta) := by
  refine ⟨fun pins s σ H R I h => ?_⟩
  refine Call_ (ld_blt I hg hm boot_enumerate (PyProof.Rows.callWith_type1 (thn (ha.run pos pins s σ H _ I h) fun us s1 ⟨vs, H1, I1, r1, q1⟩ => ?_) hs rfl))
  obtain ⟨x, ex, q⟩ := q1
  subst ex
  cases r1 with
  | cons r rr =>
    cases rr
    obtain ⟨t, rfl⟩ := r
    refine enum_begins1 (begins_text x t) trivial fun h' he hit hsz hk => wpAny_pyIter_enum he ?_
    have I2 : Inv X pins σ H1 { s1 with heap := h' } := I1.kept (t' := s1.toks) hk
    refine ⟨s1.heap.objs.size + 1, [s1.heap.objs.size + 1, s1.heap.objs.size], _, _, H1, rfl, I2, turn_enumS x t (s1.heap.objs.size + 1) s1.heap.objs.size, ⟨⟨.none, he⟩, ⟨_, hit, rfl, rfl⟩, Nat.succ_ne_self _⟩, fun b hb => ?_, q⟩
    have e' : b = s1.heap.objs.size + 1 ∨ b = s1.heap.objs.size := by simpa using hb
    have hle : s1.heap.objs.size ≤ b := by
      rcases e' with z | z
      · rw [z]; exact Nat.le_add_right _ _
      · rw [z]; exact Nat.le_refl _
    exact I1.fpOk hle (I1.hok.fresh hle)
end Py

namespace Py
open PySem PySem.Spec PyProof.Rows L2

/-! ### what is walked -/
abbrev IX := Env → Sto → R (List Val)
/-- J walks over vs, from the world w on, while Z is left alone -/
def Wk (g : G) (Z : Addr → Prop) (w : Wd) (J : It) (vs : List Val) : Prop := ∀ u, Le Z w u → SRel g u → ∀ i : Nat,
  (∀ v, vs[i]? = some v → J.go i u.H ∧ ∀ x H', J.yld i u.H x H' → ∃ u', u'.H = H' ∧ LeA u u' ∧ SRel g u' ∧ VR g u' v x) ∧ (i = vs.length → J.stop i u.H)
section
variable (g : G) (Z D : Addr → Prop) (u0 : Wd) (σ : L2.St) (env : Env) (u : Wd) (W : WX)
def OutI (Rr : It → Hp → Prop) : R (List Val) → Prop
  | .ok vs st' => ∀ u' J, u'.st = st' → Le (Pr Z σ env) u u' → Ok g Z D u0 σ env u' → Wk g Z u' J vs → Rr J u'.H
  | .ex e st' => OutX g Z D u0 σ env W e st'
  | .bad => False
end
def RI (g : G) (W : WX) (I : IX) : TI := fun σ H Rr => ∃ Z D u0 env u, u.H = H ∧ Ok g Z D u0 σ env u ∧ OutI g Z D u0 σ env u W Rr (I env u.st)
def PIx (g : G) (X : Cx) (W : WX) (tg it : Expr) (I : IX) : Prop := PI X tg it (RI g W I)
theorem PI.imp {X : Cx} {tg e : Expr} {t t' : TI} (h : PI X tg e t) (i : ∀ σ H Q, t' σ H Q → t σ H Q) : PI X tg e t' := ⟨fun pins s σ H Q I q => h.run pins s σ H Q I (i _ _ _ q)⟩
theorem PI.or {X : Cx} {tg e : Expr} {t t' : TI} (h : PI X tg e t) (h' : PI X tg e t') : PI X tg e (fun σ H Q => t σ H Q ∨ t' σ H Q) := ⟨fun pins s σ H Q I q => q.elim (h.run pins s σ H Q I) (h'.run pins s σ H Q I)⟩
/-- the items of a value -/
def itemsOf : Val → Sto → R (List Val)
  | .lst vs, st => .ok vs st
  | .tup vs, st => .ok vs st
  | .str s, st => .ok (s.map fun c => .str [c]) st
  | _, _ => .bad
def pairsOf (k : Nat) : List Val → List Val
  | [] => []
  | v :: vs => .tup [.int (k : Int), v] :: pairsOf (k + 1) vs
def iSq (A : EX) : IX := fun env st => (A env st).bind fun a s1 => itemsOf a.1 s1
def iEn (A : EX) : IX := fun env st => (A env st).bind fun a s1 => (itemsOf a.1 s1).bind fun vs s2 => .ok (pairsOf 0 vs) s2
theorem pairsOf_get : ∀ (vs : List Val) (k i : Nat), (pairsOf k vs)[i]? = vs[i]?.map fun v => .tup [.int ((k + i : Nat) : Int), v]
  | [], k, i => by simp [pairsOf]
  | v :: vs, k, 0 => by simp [pairsOf]
  | v :: vs, k, i + 1 => by
    simp only [pairsOf, List.getElem?_cons_succ]
    rw [pairsOf_get vs (k + 1) i]
    simp only [Nat.add_comm i 1, Nat.add_assoc]
theorem pairsOf_len : ∀ (vs : List Val) (k : Nat), (pairsOf k vs).length = vs.length
  | [], _ => rfl
  | _ :: vs, k => congrArg (· + 1) (pairsOf_len vs (k + 1))
theorem VRs.get {g : G} {u : Wd} : ∀ {vs : List Val} {xs : List V} {i : Nat} {v : Val}, VRs g u vs xs → vs[i]? = some v → ∃ x, xs[i]? = some x ∧ VR g u v x
  | _, _, _, _, .nil, h => by simp at h
  | _, _, 0, _, .cons r _, h => by
    simp at h
    subst h
    exact ⟨_, rfl, r⟩
  | _, _, i + 1, v, .cons _ t, h => by
    obtain ⟨x, h1, h2⟩ := VRs.get (i := i) (v := v) t (by simpa using h)
    exact ⟨x, by simpa using h1, h2⟩
theorem srel_prot {g : G} {u : Wd} (s : SRel g u) : Prot (fun _ => False) u := ⟨fun _ h => h.elim, fun _ h => h.elim, fun _ h => h.elim⟩
theorem LeA.le0 {g : G} {u u' : Wd} (a : LeA u u') (s : SRel g u) : Le (fun _ => False) u u' := a.le s (srel_prot s)
/-- a new object that stays -/
theorem laid {g : G} {u : Wd} (s : SRel g u) {T : Addr} (hT : u.H T = none) (o : HO) :
    LeA u ⟨u.ph, fun b => u.F b ∨ b = T, upd u.H T o, u.st⟩ ∧ SRel g ⟨u.ph, fun b => u.F b ∨ b = T, upd u.H T o, u.st⟩ := by
  have l : LeA u ⟨u.ph, fun b => u.F b ∨ b = T, upd u.H T o, u.st⟩ := ⟨rfl, rfl, fun _ h => .inl h, fun a h => upd_ne (fun e => h (by rw [e]; exact hT)), fun a h => by
    rcases h with h | h
    · exact .inl h
    · exact .inr (by rw [h]; exact hT)⟩
  refine ⟨l, l.srel s fun b h => ?_⟩
  by_cases e : b = T
  · subst e
    show upd u.H b o b ≠ none
    rw [upd_same]
    exact fun z => nomatch z
  · show upd u.H T o b ≠ none
    rw [upd_ne e]
    rcases h with h | h
    · exact s.fdom b h
    · exact absurd h e
theorem laid_tup {g : G} {u : Wd} (s : SRel g u) {T : Addr} (hT : u.H T = none) {vs : List Val} {xs : List V} (r : VRs g u vs xs) :
    ∃ u', u'.H = upd u.H T (.tup xs) ∧ LeA u u' ∧ SRel g u' ∧ VR g u' (.tup vs) (.ref T) := by
  obtain ⟨l, s'⟩ := laid s hT (.tup xs)
  exact ⟨_, rfl, l, s', .tup ⟨.inr rfl, .inl upd_same⟩ (r.le (l.le0 s))⟩
section
variable {g : G} {Z D : Addr → Prop} {u0 u u' w : Wd} {σ : L2.St} {env : Env} {W : WX} {X : Cx} {tg : Expr} {A : EX}
theorem wk_list {a : Addr} {vs : List Val} {xs : List V} (h : FRd w a (.lst xs)) (r : VRs g w vs xs) : Wk g Z w (Itl g.K a) vs := fun u l s i => by
  have h' := h.le l
  refine ⟨fun v hv => ?_, fun e => ⟨xs, h'.L, by rw [e, r.length]; exact Nat.le_refl _⟩⟩
  obtain ⟨x, hx, rx⟩ := (r.le l).get hv
  refine ⟨⟨xs, x, h'.L, hx⟩, fun y H' q => ?_⟩
  obtain ⟨e, q⟩ := q
  have := q xs h'.L
  rw [hx] at this
  cases this
  exact ⟨u, e.symm, LeA.refl u, s, rx⟩
theorem wk_tup {a : Addr} {vs : List Val} {xs : List V} (h : ∀ u, Le Z w u → SqT g.K u.H a xs) (r : VRs g w vs xs) : Wk g Z w (Itt g.K a) vs := fun u l s i => by
  have h' := h u l
  refine ⟨fun v hv => ?_, fun e => ⟨xs, h', by rw [e, r.length]; exact Nat.le_refl _⟩⟩
  obtain ⟨x, hx, rx⟩ := (r.le l).get hv
  refine ⟨⟨xs, x, h', hx⟩, fun y H' q => ?_⟩
  obtain ⟨e, q⟩ := q
  have := q xs h'
  rw [hx] at this
  cases this
  exact ⟨u, e.symm, LeA.refl u, s, rx⟩
theorem wk_str {s : Txt} : Wk g Z w (Its (sv s)) (s.map fun c => .str [c]) := fun u l sr i => by
  have hz : (sv s).cps.size = s.length := by simp [sv]
  refine ⟨fun v hv => ?_, fun e => ?_⟩
  · rw [List.getElem?_map] at hv
    cases hs : s[i]? with
    | none => rw [hs] at hv; cases hv
    | some c =>
      rw [hs] at hv
      cases hv
      have hlt := (List.getElem?_eq_some_iff.mp hs).1
      refine ⟨by show i < (sv s).cps.size; rw [hz]; exact hlt, fun x H' q => ?_⟩
      obtain ⟨e, c', hc, rfl⟩ := q
      have e2 : (sv s).cps[i]? = some c := by simpa [sv] using hs
      rw [e2] at hc
      cases hc
      exact ⟨u, e.symm, LeA.refl u, sr, .str [c]⟩
  · show (sv s).cps.size ≤ i
    rw [hz, e, List.length_map]
    exact Nat.le_refl _
theorem wk_enum {a : Addr} {vs : List Val} {xs : List V} (h : FRd w a (.lst xs)) (r : VRs g w vs xs) : Wk g Z w (Ite g.K a) (pairsOf 0 vs) := fun u l s i => by
  have h' := h.le l
  refine ⟨fun v hv => ?_, fun e => ⟨xs, h'.L, by rw [e, pairsOf_len, r.length]; exact Nat.le_refl _⟩⟩
  rw [pairsOf_get] at hv
  cases hs : vs[i]? with
  | none => rw [hs] at hv; cases hv
  | some v0 =>
    rw [hs] at hv
    cases hv
    obtain ⟨x, hx, rx⟩ := (r.le l).get hs
    refine ⟨⟨xs, x, h'.L, hx⟩, fun y H' q => ?_⟩
    obtain ⟨T, x', rfl, hT, e, q⟩ := q
    have := q xs h'.L
    rw [hx] at this
    cases this
    subst e
    obtain ⟨u', e', la, sr, rv⟩ := laid_tup s hT (.cons (.int ((i : Nat) : Int)) (.cons rx .nil))
    exact ⟨u', e', la, sr, by rw [Nat.zero_add]; exact rv⟩
theorem wk_enumT {a : Addr} {vs : List Val} {xs : List V} (h : ∀ u, Le Z w u → SqT g.K u.H a xs) (r : VRs g w vs xs) : Wk g Z w (IteT g.K a) (pairsOf 0 vs) := fun u l s i => by
  have h' := h u l
  refine ⟨fun v hv => ?_, fun e => ⟨xs, h', by rw [e, pairsOf_len, r.length]⟩⟩
  rw [pairsOf_get] at hv
  cases hs : vs[i]? with
  | none => rw [hs] at hv; cases hv
  | some v0 =>
    rw [hs] at hv
    cases hv
    obtain ⟨x, hx, rx⟩ := (r.le l).get hs
    refine ⟨⟨xs, x, h', hx⟩, fun y H' q => ?_⟩
    obtain ⟨T, x', rfl, hT, e, q⟩ := q
    have := q xs h'
    rw [hx] at this
    cases this
    subst e
    obtain ⟨u', e', la, sr, rv⟩ := laid_tup s hT (.cons (.int ((i : Nat) : Int)) (.cons rx .nil))
    exact ⟨u', e', la, sr, by rw [Nat.zero_add]; exact rv⟩
theorem wk_enumS {t : Txt} : Wk g Z w (IteS (sv t)) (pairsOf 0 (t.map fun c => .str [c])) := fun u l s i => by
  have hz : (sv t).cps.size = t.length := by simp [sv]
  refine ⟨fun v hv => ?_, fun e => by show (sv t).cps.size = i; rw [hz, e, pairsOf_len, List.length_map]⟩
  rw [pairsOf_get, List.getElem?_map] at hv
  cases hs : t[i]? with
  | none => rw [hs] at hv; cases hv
  | some c =>
    rw [hs] at hv
    cases hv
    have hlt := (List.getElem?_eq_some_iff.mp hs).1
    refine ⟨by show i < (sv t).cps.size; rw [hz]; exact hlt, fun y H' q => ?_⟩
    obtain ⟨T, c', rfl, hT, e, hc⟩ := q
    have e2 : (sv t).cps[i]? = some c := by simpa [sv] using hs
    rw [e2] at hc
    cases hc
    subst e
    obtain ⟨u', e', la, sr, rv⟩ := laid_tup s hT (.cons (.int ((i : Nat) : Int)) (.cons (.str [c]) .nil))
    exact ⟨u', e', la, sr, by rw [Nat.zero_add]; exact rv⟩
theorem tupAt {vs : List Val} {x : V} (r : VR g w (.tup vs) x) : ∃ a xs, x = .ref a ∧ (∀ u, Le Z w u → SqT g.K u.H a xs) ∧ VRs g w vs xs := by
  cases r with
  | tup f q => exact ⟨_, _, rfl, fun u l => (f.le l).T, q⟩
  | tupK f q => exact ⟨_, _, rfl, fun u l => f u.H, q⟩
theorem OutI.later {Rr : It → Hp → Prop} {r : R (List Val)} (l : Le (Pr Z σ env) u u') (h : OutI g Z D u0 σ env u W Rr r) : OutI g Z D u0 σ env u' W Rr r := by
  cases r with
  | bad => exact h
  | ex e s => exact h
  | ok p st => exact fun u2 J e l2 k2 wk => h u2 J e (l.trans l2) k2 wk
/-- for x in v: a list, a tuple, a text -/
theorem i_seq {e : Expr} (hk : X.K = g.K) (h : PEx g X W e A) : PIx g X W tg e (iSq A) := PI.imp (PI.or (pi_list h) (PI.or (pi_tup h) (pi_str h))) fun σ H Rr q => by
  obtain ⟨Z, D, u0, env, u, rfl, k, o⟩ := q
  unfold iSq at o
  cases hA : A env u.st with
  | bad => rw [hA] at o; exact o.elim
  | ex e s => rw [hA] at o; exact .inl ⟨Z, D, u0, env, u, rfl, k, by rw [hA]; exact o⟩
  | ok a s1 =>
    obtain ⟨v, fr⟩ := a
    rw [hA] at o
    cases v with
    | lst vs =>
      refine .inl ⟨Z, D, u0, env, u, rfl, k, OutE.ofA ?_⟩
      rw [hA]
      intro u1 x e1 l1 k1 r
      cases r with
      | lst f e r =>
        rw [hk]
        exact ⟨_, rfl, ⟨_, SqL.of e⟩, o u1 _ e1 l1 k1 (wk_list ⟨f, .inl e⟩ r)⟩
    | tup vs =>
      refine .inr (.inl ⟨Z, D, u0, env, u, rfl, k, OutE.ofA ?_⟩)
      rw [hA]
      intro u1 x e1 l1 k1 r
      obtain ⟨a, xs, rfl, f, r⟩ := tupAt (Z := Z) r
      rw [hk]
      exact ⟨a, rfl, ⟨xs, f u1 (Le.refl _ _)⟩, o u1 _ e1 l1 k1 (wk_tup f r)⟩
    | str s =>
      refine .inr (.inr ⟨Z, D, u0, env, u, rfl, k, OutE.ofA ?_⟩)
      rw [hA]
      intro u1 x e1 l1 k1 r
      cases r
      exact ⟨_, rfl, o u1 _ e1 l1 k1 wk_str⟩
    | _ => exact o.elim
theorem i_enum {e : Expr} {p pos tpos : Pos} {elts : List Expr} {kk : Nat} (hk : X.K = g.K) (h : PEx g X W e A) (hm : X.mg "enumerate" = none) (hg : Gl X "enumerate" := by rfl)
    (hs : starEach [e] X.env = [(false, eval e X.env)] := by rfl) (hs2 : starEach (e :: []) X.env = (false, eval e X.env) :: starEach [] X.env := by rfl) : PIx g X W (.Tuple elts kk tpos) (.Call (.Name "enumerate" p) [e] [] pos) (iEn A) :=
  have ha := x_cons h (x_nil (g := g) (X := X) (W := W)) hs2
  PI.imp (PI.or (pi_enum hg hm ha hs) (PI.or (pi_enumT hg hm ha hs) (pi_enumS hg hm ha hs))) fun σ H Rr q => by
  obtain ⟨Z, D, u0, env, u, rfl, k, o⟩ := q
  unfold iEn at o
  have hc : aCons A aNil env u.st = (A env u.st).bind fun a s1 => .ok [a.1] s1 := rfl
  cases hA : A env u.st with
  | bad => rw [hA] at o; exact o.elim
  | ex e s => rw [hA] at o; exact .inl ⟨Z, D, u0, env, u, rfl, k, by rw [hc, hA]; exact o⟩
  | ok a s1 =>
    obtain ⟨v, fr⟩ := a
    rw [hA] at o
    cases v with
    | lst vs =>
      refine .inl ⟨Z, D, u0, env, u, rfl, k, ?_⟩
      rw [hc, hA]
      intro u1 xs e1 l1 k1 r
      cases r with
      | cons r rt =>
        cases rt
        cases r with
        | lst f e r =>
          rw [hk]
          exact ⟨_, _, rfl, SqL.of e, o u1 _ e1 l1 k1 (wk_enum ⟨f, .inl e⟩ r)⟩
    | tup vs =>
      refine .inr (.inl ⟨Z, D, u0, env, u, rfl, k, ?_⟩)
      rw [hc, hA]
      intro u1 xs e1 l1 k1 r
      cases r with
      | cons r rt =>
        cases rt
        obtain ⟨a, xs, rfl, f, r⟩ := tupAt (Z := Z) r
        rw [hk]
        exact ⟨a, xs, rfl, f u1 (Le.refl _ _), o u1 _ e1 l1 k1 (wk_enumT f r)⟩
    | str s =>
      refine .inr (.inr ⟨Z, D, u0, env, u, rfl, k, ?_⟩)
      rw [hc, hA]
      intro u1 xs e1 l1 k1 r
      cases r with
      | cons r rt =>
        cases rt
        cases r
        exact ⟨_, rfl, o u1 _ e1 l1 k1 wk_enumS⟩
    | _ => exact o.elim
/-- lo, lo + 1, .. : n of them -/
def rangeOf (lo : Int) (n : Nat) : List Val := (List.range n).map fun (i : Nat) => .int (lo + (i : Int))
def rngOk (i : Int) : Bool := Nat.ble i.natAbs 4611686018427387903
theorem two62 : (2 : Int) ^ 62 = 4611686018427387904 := by decide
theorem rngOk_iff {i : Int} (h : rngOk i = true) : -(2 ^ 62) ≤ i ∧ i < 2 ^ 62 := by
  have := Nat.le_of_ble_eq_true h
  rw [two62]
  omega
theorem wk_range {lo : Int} {n : Nat} : Wk g Z w (Itr lo n) (rangeOf lo n) := fun u l s i => by
  refine ⟨fun v hv => ?_, fun e => ?_⟩
  · unfold rangeOf at hv
    rw [List.getElem?_map] at hv
    by_cases hi : i < n
    · rw [List.getElem?_range hi] at hv
      cases hv
      refine ⟨hi, fun x H' q => ?_⟩
      obtain ⟨e, rfl⟩ := q
      exact ⟨u, e.symm, LeA.refl u, s, .int _⟩
    · rw [List.getElem?_eq_none (by simpa using hi)] at hv
      cases hv
  · show n ≤ i
    rw [e]
    simp [rangeOf]
def iRg1 (A : EX) : IX := fun env st => (A env st).bind fun a s1 => match a.1 with
  | .int j => if rngOk j = true then .ok (rangeOf 0 j.toNat) s1 else .bad
  | _ => .bad
def iRg2 (A B : EX) : IX := fun env st => (A env st).bind fun a s1 => (B env s1).bind fun b s2 => match a.1, b.1 with
  | .int i, .int j => if (rngOk i && rngOk j) = true then .ok (rangeOf i (j - i).toNat) s2 else .bad
  | _, _ => .bad
theorem i_range1 {e : Expr} {p pos : Pos} (h : PEx g X W e A) (hm : X.mg "range" = none) (hg : Gl X "range" := by rfl) (hs : starEach [e] X.env = [(false, eval e X.env)] := by rfl) (hs2 : starEach (e :: []) X.env = (false, eval e X.env) :: starEach [] X.env := by rfl) :
    PIx g X W tg (.Call (.Name "range" p) [e] [] pos) (iRg1 A) :=
  have ha := x_cons h (x_nil (g := g) (X := X) (W := W)) hs2
  PI.imp (pi_range1 hg hm ha hs) fun σ H Rr q => by
  obtain ⟨Z, D, u0, env, u, rfl, k, o⟩ := q
  unfold iRg1 at o
  have hc : aCons A aNil env u.st = (A env u.st).bind fun a s1 => .ok [a.1] s1 := rfl
  refine ⟨Z, D, u0, env, u, rfl, k, ?_⟩
  cases hA : A env u.st with
  | bad => rw [hA] at o; exact o.elim
  | ex e s => rw [hA] at o; rw [hc, hA]; exact o
  | ok a s1 =>
    obtain ⟨v, fr⟩ := a
    rw [hA] at o
    rw [hc, hA]
    intro u1 xs e1 l1 k1 r
    cases r with
    | cons r rt =>
      cases rt
      cases v with
      | int j =>
        cases r
        have o' : OutI g Z D u0 σ env u W Rr (if rngOk j = true then .ok (rangeOf 0 j.toNat) s1 else .bad) := o
        by_cases hj : rngOk j = true
        · rw [if_pos hj] at o'
          exact ⟨j, rfl, (rngOk_iff hj).1, (rngOk_iff hj).2, o' u1 _ e1 l1 k1 wk_range⟩
        · rw [if_neg hj] at o'
          exact o'.elim
      | _ => exact o.elim
theorem i_range2 {B : EX} {e f : Expr} {p pos : Pos} (h : PEx g X W e A) (h' : PEx g X W f B) (hm : X.mg "range" = none) (hg : Gl X "range" := by rfl) (hs : starEach [e, f] X.env = [(false, eval e X.env), (false, eval f X.env)] := by rfl) (hs2 : starEach (e :: [f]) X.env = (false, eval e X.env) :: starEach [f] X.env := by rfl) (hs3 : starEach (f :: []) X.env = (false, eval f X.env) :: starEach [] X.env := by rfl) :
    PIx g X W tg (.Call (.Name "range" p) [e, f] [] pos) (iRg2 A B) :=
  have ha := x_cons h (x_cons h' (x_nil (g := g) (X := X) (W := W)) hs3) hs2
  PI.imp (pi_range2 hg hm ha hs hs3) fun σ H Rr q => by
  obtain ⟨Z, D, u0, env, u, rfl, k, o⟩ := q
  unfold iRg2 at o
  have hc : aCons A (aCons B aNil) env u.st = (A env u.st).bind fun a s1 => (B env s1).bind fun b s2 => .ok [a.1, b.1] s2 := by
    unfold aCons aNil
    cases A env u.st with
    | ok a s =>
      show ((B env s).bind fun a s1 => .ok [a.1] s1).bind _ = (B env s).bind _
      cases B env s <;> rfl
    | _ => rfl
  refine ⟨Z, D, u0, env, u, rfl, k, ?_⟩
  rw [hc]
  cases hA : A env u.st with
  | bad => rw [hA] at o; exact o.elim
  | ex e s => rw [hA] at o; exact o
  | ok a s1 =>
    obtain ⟨v, fr⟩ := a
    rw [hA] at o
    simp only [R.bind_ok] at o ⊢
    cases hB : B env s1 with
    | bad => rw [hB] at o; exact o.elim
    | ex e s => rw [hB] at o; exact o
    | ok b s2 =>
      obtain ⟨w, fr2⟩ := b
      rw [hB] at o
      intro u1 xs e1 l1 k1 r
      cases r with
      | cons r rt =>
        cases rt with
        | cons r2 rt =>
          cases rt
          cases v with
          | int i =>
            cases w with
            | int j =>
              cases r
              cases r2
              have o' : OutI g Z D u0 σ env u W Rr (if (rngOk i && rngOk j) = true then .ok (rangeOf i (j - i).toNat) s2 else .bad) := o
              by_cases hj : (rngOk i && rngOk j) = true
              · rw [if_pos hj] at o'
                have h2 := Bool.and_eq_true_iff.mp hj
                exact ⟨i, j, rfl, ⟨(rngOk_iff h2.1).1, (rngOk_iff h2.1).2, (rngOk_iff h2.2).1, (rngOk_iff h2.2).2⟩, o' u1 _ e1 l1 k1 wk_range⟩
              · rw [if_neg hj] at o'
                exact o'.elim
            | _ => exact o.elim
          | _ => exact o.elim
end
end Py

namespace Py
open PySem PySem.Spec PyProof.Rows L2
theorem Ok.rebase {g : G} {Z D : Addr → Prop} {u0 u1 u : Wd} {σ : L2.St} {env : Env} (k : Ok g Z D u1 σ env u) (l : Le Z u0 u1) : Ok g Z D u0 σ env u := ⟨k.s, k.z, k.zd, k.d, l.trans k.le, k.e⟩
theorem Ok.base {g : G} {Z D : Addr → Prop} {u0 u : Wd} {σ : L2.St} {env : Env} (k : Ok g Z D u0 σ env u) : Ok g Z D u σ env u := ⟨k.s, k.z, k.zd, k.d, Le.refl _ _, k.e⟩
/-! ### for -/
def forL (G : GX) (B : SX) : List Val → Env → Sto → SR
  | [], env, st => .nx env st
  | v :: vs, env, st => match G v env with
    | none => .bad
    | some e1 => match B e1 st with
      | .nx e s => forL G B vs e s
      | .ct e s => forL G B vs e s
      | .bk e s => .nx e s
      | r => r
def sFor (I : IX) (G : GX) (B : SX) : SX := fun env st => (I env st).then_ env fun vs s1 => forL G B vs env s1
section
variable {g : G} {W : WX} {X : Cx} {I : IX} {G : GX} {B : SX} {T : TX}
theorem for_sound {is : List Nat} {Dn : Ends} {σ : L2.St} {H : Hp} (h : RS g W (sFor I G B) Dn σ H) : tFor (RI g W I) (RG g is G) (RS g W B) Dn σ H := by
  obtain ⟨Z, D, u0, env, u, rfl, k, o⟩ := h
  refine ⟨Z, D, u0, env, u, rfl, k, ?_⟩
  unfold sFor at o
  cases hI : I env u.st with
  | bad => rw [hI] at o; exact o.elim
  | ex e s => rw [hI] at o; exact fun u' cls d e1 k1 x => o σ u' cls d e1 k1 x
  | ok vs s1 =>
    rw [hI] at o
    intro u1 J e1 l1 k1 wk
    subst e1
    have o1 : OutS g Z D u0 W Dn (forL G B vs env u1.st) := o
    have lz : Le Z u0 u1 := k1.le
    refine ⟨fun i m σ' H' => ∃ env' u', u'.H = H' ∧ Ok g Z D u1 σ' env' u' ∧ m = vs.length - i ∧ i ≤ vs.length ∧ OutS g Z D u0 W Dn (forL G B (vs.drop i) env' u'.st),
      ⟨vs.length, env, u1, rfl, k1.base, by simp, Nat.zero_le _, o1⟩, ?_⟩
    rintro i m σ' H' ⟨env', u', rfl, k', rfl, hi, o'⟩
    have wki := wk u' k'.le k'.s i
    by_cases hlt : i < vs.length
    · right
      have hd : vs.drop i = vs[i] :: vs.drop (i + 1) := List.drop_eq_getElem_cons hlt
      obtain ⟨go, yld⟩ := wki.1 vs[i] (List.getElem?_eq_getElem hlt)
      refine ⟨go, fun σ2 H2 => ∃ env2 u2, u2.H = H2 ∧ Ok g Z D u1 σ2 env2 u2 ∧ OutS g Z D u0 W Dn (forL G B (vs.drop (i + 1)) env2 u2.st), ?_, ?_⟩
      · rintro σ2 H2 ⟨env2, u2, rfl, k2, o2⟩
        exact ⟨vs.length - (i + 1), by omega, env2, u2, rfl, k2, rfl, hlt, o2⟩
      · intro x H2 y
        obtain ⟨u2, rfl, la, sr, vr⟩ := yld x H2 y
        have l2 := la.le k'.s k'.pr
        have k2 := k'.on l2 sr
        rw [hd] at o'
        unfold forL at o'
        cases hG : G vs[i] env' with
        | none => rw [hG] at o'; exact o'.elim
        | some en1 =>
          rw [hG] at o'
          refine ⟨Z, D, u1, env', u2, vs[i], rfl, k2, vr, en1, hG, fun σ3 k3 _ => ⟨Z, D, u1, en1, u2, rfl, k3, ?_⟩⟩
          rw [la.st]
          have o3 : OutS g Z D u0 W Dn (match B en1 u'.st with
            | .nx e s => forL G B (vs.drop (i + 1)) e s
            | .ct e s => forL G B (vs.drop (i + 1)) e s
            | .bk e s => .nx e s
            | r => r) := o'
          cases hB : B en1 u'.st with
          | nx e s =>
            rw [hB] at o3
            intro σ4 u4 e4 k4
            subst e4
            exact ⟨e, u4, rfl, k4, o3⟩
          | ct e s =>
            rw [hB] at o3
            intro σ4 u4 e4 k4
            subst e4
            exact ⟨e, u4, rfl, k4, o3⟩
          | bk e s =>
            rw [hB] at o3
            exact fun σ4 u4 e4 k4 => o3 σ4 u4 e4 (k4.rebase lz)
          | rt v fr e s =>
            rw [hB] at o3
            exact fun σ4 u4 x e4 k4 pv => o3 σ4 u4 x e4 (k4.rebase lz) pv
          | rs x e s =>
            rw [hB] at o3
            exact fun σ4 u4 cls d e4 k4 r => o3 σ4 u4 cls d e4 (k4.rebase lz) r
          | bad => rw [hB] at o3; exact o3
    · left
      have e : i = vs.length := by omega
      subst e
      refine ⟨wki.2 rfl, ?_⟩
      rw [List.drop_length] at o'
      exact o' σ' u' rfl (k'.rebase lz)
theorem s_for {tg it : Expr} {is : List Nat} {body : List Stmt} {pos : Pos} (hp : PassesOwn (model X.prog X.w) X.A X.env X.xe) (hc : X.calm = true) (hi : PIx g X W tg it I) (hg : PGx g X tg is G) (hb : PBx g X W body B) (hs : ∀ x, foldedSetIterable it X.env x = pure x := by intro _; rfl) :
    PSx g X W (.For tg it body [] pos) (sFor I G B) := PS.imp (ps_for hp hc hi hg hb hs) fun Dn σ H h => for_sound h
/-! ### while -/
def whileL (T : TX) (B : SX) : Nat → Env → Sto → SR
  | 0, _, _ => .bad
  | n + 1, env, st => (T env st).then_ env fun b s => if b = true then (match B env s with
      | .nx e s => whileL T B n e s
      | .ct e s => whileL T B n e s
      | .bk e s => .nx e s
      | r => r) else .nx env s
def sWhile (n : Nat) (T : TX) (B : SX) : SX := fun env st => whileL T B n env st
theorem while_sound {n : Nat} {Dn : Ends} {σ : L2.St} {H : Hp} (h : RS g W (sWhile n T B) Dn σ H) : tWhile (RT g W T) (RS g W B) Dn σ H := by
  obtain ⟨Z, D, u0, env, u, rfl, k, o⟩ := h
  refine ⟨fun m σ H => ∃ env u, u.H = H ∧ Ok g Z D u0 σ env u ∧ OutS g Z D u0 W Dn (whileL T B m env u.st), ⟨n, env, u, rfl, k, o⟩, ?_⟩
  rintro m σ H ⟨env, u, rfl, k, o⟩
  cases m with
  | zero => exact o.elim
  | succ m =>
    unfold whileL at o
    refine ⟨Z, D, u0, env, u, rfl, k, ?_⟩
    cases hT : T env u.st with
    | bad => rw [hT] at o; exact o.elim
    | ex e s => rw [hT] at o; exact fun u' cls d e1 k1 x => o σ u' cls d e1 k1 x
    | ok b s1 =>
      rw [hT] at o
      intro u1 e1 l1 k1
      subst e1
      simp only [R.then_ok] at o
      cases b with
      | false =>
        rw [if_neg Bool.false_ne_true] at o ⊢
        exact o σ u1 rfl k1
      | true =>
        rw [if_pos rfl] at o ⊢
        refine ⟨fun σ' H' => ∃ env u, u.H = H' ∧ Ok g Z D u0 σ' env u ∧ OutS g Z D u0 W Dn (whileL T B m env u.st), fun σ' H' q => ⟨m, Nat.lt_succ_self m, q⟩, Z, D, u0, env, u1, rfl, k1, ?_⟩
        cases hB : B env u1.st with
        | nx e s =>
          rw [hB] at o
          intro σ4 u4 e4 k4
          subst e4
          exact ⟨e, u4, rfl, k4, o⟩
        | ct e s =>
          rw [hB] at o
          intro σ4 u4 e4 k4
          subst e4
          exact ⟨e, u4, rfl, k4, o⟩
        | bk e s => rw [hB] at o; exact o
        | rt v fr e s => rw [hB] at o; exact o
        | rs x e s => rw [hB] at o; exact o
        | bad => rw [hB] at o; exact o
theorem s_while (n : Nat) {c : Expr} {body : List Stmt} {pos : Pos} (hp : PassesOwn (model X.prog X.w) X.A X.env X.xe) (hc : PTx g X W c T) (hb : PBx g X W body B) : PSx g X W (.While c body [] pos) (sWhile n T B) := PS.imp (ps_while hp hc hb) fun Dn σ H h => while_sound h
end
/-! ### list comprehensions -/
def W0 : WX := fun _ _ _ _ => False
def R.nox {α : Type} : R α → R α
  | .ok a st => .ok a st
  | _ => .bad
@[simp] theorem R.nox_ok {α : Type} (a : α) (st : Sto) : (R.ok a st).nox = .ok a st := rfl
@[simp] theorem R.nox_ex {α : Type} (x : Exn) (st : Sto) : (R.ex x st : R α).nox = .bad := rfl
@[simp] theorem R.nox_bad {α : Type} : (R.bad : R α).nox = .bad := rfl
def lend : Slot → Slot
  | .ow v => .bw v
  | s => s
def wipeE : List Nat → Env → Env
  | [], env => env
  | i :: is, env => (wipeE is env).set i .no
def compE (own : List Nat) (env : Env) : Env := wipeE own (env.map lend)
def compL (G : GX) (T : TX) (A : EX) (env : Env) : List Val → Sto → R (List Val)
  | [], st => .ok [] st
  | v :: vs, st => match G v env with
    | none => .bad
    | some e1 => (T e1 st).nox.bind fun b s1 => if b = true then (A e1 s1).nox.bind fun a s2 => (compL G T A env vs s2).bind fun r s3 => .ok (a.1 :: r) s3 else compL G T A env vs s1
def aComp (own : List Nat) (I : IX) (G : GX) (T : TX) (A : EX) : EX := fun env st => (I env st).bind fun vs s1 => if sizeOk vs.length = true then (compL G T A (compE own env) vs s1).bind fun r s2 => .ok (.lst r, true) s2 else .bad
def tYesX : TX := fun _ st => .ok true st
theorem compL_nox (G : GX) (T : TX) (A : EX) (env : Env) : ∀ (vs : List Val) (st : Sto) (e : Exn) (s : Sto), compL G T A env vs st ≠ .ex e s
  | [], st, e, s => fun h => nomatch h
  | v :: vs, st, e, s => fun h => by
    unfold compL at h
    cases hG : G v env with
    | none => rw [hG] at h; cases h
    | some e1 =>
      rw [hG] at h
      simp only at h
      cases hT : T e1 st with
      | bad => rw [hT] at h; cases h
      | ex x s' => rw [hT] at h; cases h
      | ok b s1 =>
        rw [hT] at h
        simp only [R.nox_ok, R.bind_ok] at h
        cases b with
        | false => simp only [Bool.false_eq_true, if_false] at h; exact compL_nox G T A env vs _ _ _ h
        | true =>
          simp only [if_true] at h
          cases hA : A e1 s1 with
          | bad => rw [hA] at h; cases h
          | ex x s' => rw [hA] at h; cases h
          | ok a s2 =>
            rw [hA] at h
            simp only [R.nox_ok, R.bind_ok] at h
            cases hC : compL G T A env vs s2 with
            | bad => rw [hC] at h; cases h
            | ex x s' => exact compL_nox G T A env vs _ _ _ hC
            | ok r s3 => rw [hC] at h; cases h
theorem wipeE_len : ∀ (is : List Nat) (env : Env), (wipeE is env).length = env.length
  | [], _ => rfl
  | i :: is, env => by unfold wipeE; rw [List.length_set, wipeE_len is env]
theorem compE_get {own : List Nat} {env : Env} {i : Nat} {s : Slot} : ∀ {is : List Nat}, (wipeE is (env.map lend))[i]? = some s → s = .no ∨ (i ∉ is ∧ ∃ s0, env[i]? = some s0 ∧ s = lend s0)
  | [], h => by
    have h' : (env.map lend)[i]? = some s := h
    rw [List.getElem?_map] at h'
    cases e : env[i]? with
    | none => rw [e] at h'; cases h'
    | some s0 =>
      rw [e] at h'
      cases h'
      exact .inr ⟨by simp, s0, rfl, rfl⟩
  | j :: is, h => by
    unfold wipeE at h
    by_cases q : j = i
    · subst q
      by_cases hj : j < (wipeE is (env.map lend)).length
      · rw [List.getElem?_set_self hj] at h
        cases h
        exact .inl rfl
      · rw [List.getElem?_eq_none (by rw [List.length_set]; omega)] at h
        cases h
    · rw [List.getElem?_set_ne q] at h
      rcases compE_get (own := own) h with h | ⟨n, h⟩
      · exact .inl h
      · exact .inr ⟨by simp only [List.mem_cons, not_or]; exact ⟨fun e => q e.symm, n⟩, h⟩
theorem wipe_get_ne {σ : L2.St} {i : Nat} : ∀ {vs : List Nat}, i ∉ vs → (wipe σ vs)[i]? = σ[i]?
  | [], _ => rfl
  | v :: vs, h => by
    simp only [List.mem_cons, not_or] at h
    unfold wipe
    rw [List.getElem?_set_ne (fun e => h.1 e.symm)]
    exact wipe_get_ne h.2
/-- the block's own world: what was owned is lent, the new list is left alone -/
theorem Ok.block {g : G} {Z D : Addr → Prop} {u0 u : Wd} {σ : L2.St} {env : Env} (k : Ok g Z D u0 σ env u) {L : Addr} (hL : u.H L = none) (own : List Nat) {u1 : Wd} (e1 : u1 = { u with H := upd u.H L (.lst []) }) :
    Ok g (fun a => Pr Z σ env a ∨ a = L) (fun a => D a ∨ Own σ env a ∨ a = L) u1 (wipe σ own) (compE own env) u1 := by
  have la : LeA u u1 := by
    subst e1
    exact ⟨rfl, rfl, fun _ h => h, fun a h => upd_ne (fun e => h (by rw [e]; exact hL)), fun _ h => .inl h⟩
  have nd : ∀ b, u.H b ≠ none → u1.H b ≠ none := fun b h => by rw [la.H b h]; exact h
  have sr : SRel g u1 := la.srel k.s fun b h => by
    subst e1
    exact nd b (k.s.fdom b h)
  have l := la.le k.s k.pr
  have p := k.pr
  have hLne : u1.H L ≠ none := by subst e1; show upd u.H L (.lst []) L ≠ none; rw [upd_same]; exact fun z => nomatch z
  refine ⟨sr, ⟨fun a h => ?_, fun a h => ?_, fun a h => ?_⟩, fun a h => ?_, fun a h => ?_, Le.refl _ _, ?_, fun i s h => ?_, fun i j v w a h1 h2 h3 h4 => ?_⟩
  · rcases h with h | h
    · exact nd a (p.dom a h)
    · subst h; exact hLne
  · rcases h with h | h
    · exact (p.le l).nf a h
    · subst h
      subst e1
      exact fun z => k.s.fdom a z hL
  · rcases h with h | h
    · exact (p.le l).ns a h
    · subst h
      intro m hm z
      rw [la.st] at hm
      rw [la.ph] at z
      exact k.s.dom m hm (by rw [z]; exact hL)
  · rcases h with (h | h) | h
    · exact .inl (k.zd a h)
    · exact .inr (.inl h)
    · exact .inr (.inr h)
  · rcases h with h | h | h
    · exact nd a (k.d a h)
    · exact nd a (p.dom a (.inr h))
    · subst h; exact hLne
  · rw [wipe_length, k.e.len]
    unfold compE
    rw [wipeE_len, List.length_map]
  · rcases compE_get (own := own) h with h | ⟨ni, s0, h0, rfl⟩
    · subst h; trivial
    · have q := k.e.at_ i s0 h0
      rw [wipe_get_ne ni]
      cases s0 with
      | no => trivial
      | exn x => trivial
      | vl v =>
        obtain ⟨x, ex, r⟩ := q
        exact ⟨x, ex, r.le l⟩
      | bw v =>
        obtain ⟨a, ea, c, z⟩ := q
        exact ⟨a, ea, c.le l (l.PH a (.inl z)), .inl (.inl z)⟩
      | ow v =>
        obtain ⟨a, ea, c, _⟩ := q
        exact ⟨a, ea, c.le l (l.PH a (.inr ⟨i, v, h0, ea⟩)), .inl (.inr ⟨i, v, h0, ea⟩)⟩
  · have no : ∀ {i : Nat} {v : Val}, (compE own env)[i]? = some (.ow v) → False := fun {i v} h => by
      rcases compE_get (own := own) h with h | ⟨_, s0, _, e⟩
      · cases h
      · cases s0 <;> cases e
    exact (no h1).elim
theorem VRs.app {g : G} {u : Wd} : ∀ {vs ws : List Val} {xs ys : List V}, VRs g u vs xs → VRs g u ws ys → VRs g u (vs ++ ws) (xs ++ ys)
  | _, _, _, _, .nil, h => h
  | _, _, _, _, .cons r t, h => .cons r (VRs.app t h)
theorem wipe_wipe (σ : L2.St) : ∀ (own is : List Nat), (∀ j, j ∈ is → j ∈ own) → wipe (wipe σ own) is = wipe σ own
  | own, [], _ => rfl
  | own, i :: is, h => by
    have ih := wipe_wipe σ own is (fun j hj => h j (List.mem_cons_of_mem _ hj))
    show (wipe (wipe σ own) is).set i none = wipe σ own
    rw [ih]
    apply List.ext_getElem?
    intro j
    by_cases e : i = j
    · subst e
      by_cases hj : i < (wipe σ own).length
      · rw [List.getElem?_set_self hj]
        cases q : (wipe σ own)[i]? with
        | none => rw [List.getElem?_eq_none_iff] at q; omega
        | some o =>
          cases o with
          | none => rfl
          | some x => exact absurd (h i List.mem_cons_self) (wipe_some q).2
      · rw [List.getElem?_eq_none (by rw [List.length_set]; omega), List.getElem?_eq_none (by omega)]
    · rw [List.getElem?_set_ne e]
theorem wipe_in (σ : L2.St) {i : Nat} : ∀ {is : List Nat}, i ∈ is → i < σ.length → (wipe σ is)[i]? = some none
  | j :: is, h, hl => by
    unfold wipe
    by_cases e : j = i
    · subst e
      rw [List.getElem?_set_self (by rw [wipe_length]; exact hl)]
    · rw [List.getElem?_set_ne e]
      rcases List.mem_cons.mp h with h | h
      · exact absurd h.symm e
      · exact wipe_in σ h hl
theorem Off.wipe {own is : List Nat} {σ σ' : L2.St} (h : Off is (wipe σ own) σ') (hs : ∀ j, j ∈ is → j ∈ own) : L2.wipe σ' own = L2.wipe σ own := by
  have hl : σ'.length = σ.length := h.1.trans (wipe_length σ own)
  apply List.ext_getElem?
  intro j
  by_cases q : j ∈ own
  · by_cases hj : j < σ.length
    · rw [wipe_in σ' q (by omega), wipe_in σ q hj]
    · rw [List.getElem?_eq_none (by rw [wipe_length]; omega), List.getElem?_eq_none (by rw [wipe_length]; omega)]
  · rw [wipe_get_ne q, h.2 j fun z => q (hs j z)]
section
variable {g : G} {W : WX} {X : Cx} {I : IX} {G : GX} {A : EX} {T : TX}
theorem lc_sound {is own : List Nat} (his : ∀ j, j ∈ is → j ∈ own) {σ : L2.St} {H : Hp} {Q : VK} (h : RE g W (aComp own I G T A) σ H Q) : tLc (RI g W I) (RG g is G) (RT g W0 T) (RE g W0 A) own σ H Q := by
  obtain ⟨Z, D, u0, env, u, rfl, k, o⟩ := h
  refine ⟨Z, D, u0, env, u, rfl, k, ?_⟩
  unfold aComp at o
  cases hI : I env u.st with
  | bad => rw [hI] at o; exact o.elim
  | ex e s => rw [hI] at o; exact o
  | ok vs s1 =>
    rw [hI] at o
    intro u1 J e1 l1 k1 wk
    subst e1
    intro L hL
    have o1 : OutE g Z D u0 σ env u W Q (if sizeOk vs.length = true then (compL G T A (compE own env) vs u1.st).bind fun r s2 => .ok (.lst r, true) s2 else .bad) := o
    by_cases hz : sizeOk vs.length = true
    · rw [if_pos hz] at o1
      have hlen : vs.length ≤ 1000000 := of_decide_eq_true hz
      generalize hv : ({ u1 with H := upd u1.H L (.lst []) } : Wd) = v1
      have kb := k1.block hL own hv.symm
      have l01 : Le (Pr Z σ env) u1 v1 := by
        subst hv
        have la : LeA u1 { u1 with H := upd u1.H L (.lst []) } := ⟨rfl, rfl, fun _ h => h, fun a h => upd_ne (fun e => h (by rw [e]; exact hL)), fun _ h => .inl h⟩
        exact la.le k1.s k1.pr
      refine ⟨fun i m H' => ∃ u' acc xs rest st', u'.H = H' ∧ Ok g (fun a => Pr Z σ env a ∨ a = L) (fun a => D a ∨ Own σ env a ∨ a = L) u' (wipe σ own) (compE own env) u' ∧ Le (Pr Z σ env) u1 u' ∧ m = vs.length - i ∧ i ≤ vs.length ∧ u'.H L = some (.lst xs) ∧
          VRs g u' acc xs ∧ acc.length ≤ i ∧ compL G T A (compE own env) (vs.drop i) u'.st = .ok rest st' ∧ OutE g Z D u0 σ env u W Q (.ok (.lst (acc ++ rest), true) st'), ?_, ?_⟩
      · cases hC : compL G T A (compE own env) vs u1.st with
        | bad => rw [hC] at o1; exact o1.elim
        | ex e s => exact absurd hC (compL_nox _ _ _ _ _ _ _ _)
        | ok r s2 =>
          rw [hC] at o1
          refine ⟨vs.length, v1, [], [], r, s2, by rw [← hv], kb, l01, by simp, Nat.zero_le _, ?_, .nil, Nat.le_refl _, ?_, o1⟩
          · rw [← hv]
            exact upd_same
          · rw [← hv]
            exact hC
      · rintro i m H' ⟨u', acc, xs, rest, st', rfl, k', l1', rfl, hi, hLx, rv, hacc, hC, oo⟩
        have lz : Le Z u1 u' := l1'.mono fun a h => .inl h
        have wki := wk u' lz k'.s i
        have hnL : ¬ u'.F L := k'.z.nf L (.inr rfl)
        have hnS : ∀ m, m < u'.st.length → u'.ph m ≠ L := k'.z.ns L (.inr rfl)
        by_cases hlt : i < vs.length
        · right
          have hd : vs.drop i = vs[i] :: vs.drop (i + 1) := List.drop_eq_getElem_cons hlt
          obtain ⟨go, yld⟩ := wki.1 vs[i] (List.getElem?_eq_getElem hlt)
          refine ⟨go, fun H2 => ∃ u2 acc xs rest st', u2.H = H2 ∧ Ok g (fun a => Pr Z σ env a ∨ a = L) (fun a => D a ∨ Own σ env a ∨ a = L) u2 (wipe σ own) (compE own env) u2 ∧ Le (Pr Z σ env) u1 u2 ∧ u2.H L = some (.lst xs) ∧
            VRs g u2 acc xs ∧ acc.length ≤ i + 1 ∧ compL G T A (compE own env) (vs.drop (i + 1)) u2.st = .ok rest st' ∧ OutE g Z D u0 σ env u W Q (.ok (.lst (acc ++ rest), true) st'), ?_, ?_⟩
          · rintro H2 ⟨u2, acc, xs, rest, st', rfl, a1, a0, a2, a3, a4, a5, a6⟩
            exact ⟨vs.length - (i + 1), by omega, u2, acc, xs, rest, st', rfl, a1, a0, rfl, hlt, a2, a3, a4, a5, a6⟩
          · intro x H2 y
            obtain ⟨u2, rfl, la, sr, vr⟩ := yld x H2 y
            have l2 := la.le k'.s k'.pr
            have k2 := k'.on l2 sr
            rw [hd] at hC
            unfold compL at hC
            cases hG : G vs[i] (compE own env) with
            | none => rw [hG] at hC; cases hC
            | some en1 =>
              rw [hG] at hC
              simp only at hC
              refine ⟨_, _, u', compE own env, u2, vs[i], rfl, k2, vr, en1, hG, fun σ3 k3 of => ⟨of.wipe his, _, _, u', en1, u2, rfl, k3, ?_⟩⟩
              rw [la.st]
              have pL : ∀ {w w' : Wd} {σ' : L2.St} {e' : Env}, Le (Pr (fun a => Pr Z σ env a ∨ a = L) σ' e') w w' → w'.H L = w.H L := fun l => l.PH L (.inl (.inr rfl))
              cases hT : T en1 u'.st with
              | bad => rw [hT] at hC; cases hC
              | ex e s => rw [hT] at hC; cases hC
              | ok b s3 =>
                rw [hT] at hC
                simp only [R.nox_ok, R.bind_ok] at hC
                intro u3 e3 l3 k3'
                subst e3
                have back : ∀ {u4 : Wd} {σ4 : L2.St} {e4 : Env}, Ok g (fun a => Pr Z σ env a ∨ a = L) (fun a => D a ∨ Own σ env a ∨ a = L) u' σ4 e4 u4 → Le (fun a => Pr Z σ env a ∨ a = L) u' u4 → Ok g (fun a => Pr Z σ env a ∨ a = L) (fun a => D a ∨ Own σ env a ∨ a = L) u' (wipe σ own) (compE own env) u4 := fun {u4 σ4 e4} q l => by
                  have no : ∀ a, ¬ Own (wipe σ own) (compE own env) a := fun a ⟨i, v, h1, _⟩ => by
                    rcases compE_get (own := own) h1 with h | ⟨_, s0, _, e⟩
                    · cases h
                    · cases s0 <;> cases e
                  exact k'.on (l.mono fun a h => h.elim id fun z => absurd z (no a)) q.s
                have l23 : Le (fun a => Pr Z σ env a ∨ a = L) u' u3 := (l2.mono fun a h => .inl h).trans (l3.mono fun a h => .inl h)
                cases b with
                | false =>
                  rw [if_neg Bool.false_ne_true] at hC ⊢
                  exact ⟨u3, acc, xs, rest, st', rfl, (back k3' l23).base, l1'.trans (l23.mono fun a h => .inl h), (l23.PH L (.inr rfl)).trans hLx, rv.le l23, Nat.le_succ_of_le hacc, hC, oo⟩
                | true =>
                  rw [if_pos rfl] at hC ⊢
                  refine ⟨_, _, u', en1, u3, rfl, k3', OutE.ofA ?_⟩
                  cases hA : A en1 u3.st with
                  | bad => rw [hA] at hC; cases hC
                  | ex e s => rw [hA] at hC; cases hC
                  | ok a s4 =>
                    rw [hA] at hC
                    obtain ⟨v, fr⟩ := a
                    simp only [R.nox_ok, R.bind_ok] at hC
                    intro u4 y4 e4 l4 k4 r4
                    subst e4
                    cases hR : compL G T A (compE own env) (vs.drop (i + 1)) u4.st with
                    | bad => rw [hR] at hC; cases hC
                    | ex e s => rw [hR] at hC; cases hC
                    | ok r s5 =>
                      rw [hR] at hC
                      simp only [R.bind_ok] at hC
                      cases hC
                      have l24 : Le (fun a => Pr Z σ env a ∨ a = L) u' u4 := l23.trans (l4.mono fun a h => .inl h)
                      have hL4 : u4.H L = some (.lst xs) := (l24.PH L (.inr rfl)).trans hLx
                      have rv4 := rv.le l24
                      have nL4 : ¬ u4.F L := k4.z.nf L (.inr rfl)
                      have nS4 : ∀ m, m < u4.st.length → u4.ph m ≠ L := k4.z.ns L (.inr rfl)
                      -- the new list grows
                      have k4' := back k4 l24
                      refine ⟨xs, hL4, ?_, ?_⟩
                      · rw [← rv4.length, sizeLine_eq]
                        omega
                      · generalize hw : ({ u4 with H := upd u4.H L (.lst (xs ++ [y4])) } : Wd) = w4
                        have lw : Le (Pr Z σ env) u4 w4 := by
                          subst hw
                          have pp : ∀ a, Pr Z σ env a → a ≠ L := fun a h e => by
                            rw [e] at h
                            exact k1.pr.dom L h hL
                          exact ⟨Nat.le_refl _, fun _ _ => rfl, fun _ h => h, fun a h => upd_ne (fun e => nL4 (by rw [← e]; exact h)), fun a h => upd_ne (pp a h), fun _ _ h => h, fun _ _ h => h, fun a h => by
                            by_cases e : a = L
                            · subst e; show upd u4.H a _ a ≠ none; rw [upd_same]; exact fun z => nomatch z
                            · show upd u4.H L _ a ≠ none; rw [upd_ne e]; exact h⟩
                        have fd : ∀ b, b ≠ L → w4.H b = u4.H b := fun b hb => by subst hw; exact upd_ne hb
                        have l0 : Le (fun _ => False) u4 w4 := lw.mono fun _ h => h.elim
                        have sw : SRel g w4 := by
                          have est : w4.st = u4.st := by subst hw; rfl
                          have eph : w4.ph = u4.ph := by subst hw; rfl
                          have eF : w4.F = u4.F := by subst hw; rfl
                          refine ⟨fun m hm => ?_, by rw [est, eph]; exact k4.s.inj, fun m hm => ?_, fun a h => l0.dom a (k4.s.fdom a (by rw [← eF]; exact h))⟩
                          · rw [est] at hm ⊢
                            rw [eph]
                            rcases k4.s.at_ m hm with h | ⟨o, h1, h2, h3⟩
                            · exact .inl h
                            · exact .inr ⟨o, h1, by rw [eF]; exact h2, h3.le l0 (fd _ (nS4 m hm))⟩
                          · rw [est] at hm
                            rw [eph]
                            exact l0.dom _ (k4.s.dom m hm)
                        -- the block's world with the list grown: the list itself is left out of what is kept
                        have kw : Ok g (fun a => Pr Z σ env a ∨ a = L) (fun a => D a ∨ Own σ env a ∨ a = L) w4 (wipe σ own) (compE own env) w4 := by
                          have est : w4.st = u4.st := by subst hw; rfl
                          have eph : w4.ph = u4.ph := by subst hw; rfl
                          have eF : w4.F = u4.F := by subst hw; rfl
                          refine ⟨sw, ⟨fun a h => l0.dom a (k4'.z.dom a h), fun a h => by rw [eF]; exact k4'.z.nf a h, fun a h => by rw [est, eph]; exact k4'.z.ns a h⟩, k4'.zd, fun a h => l0.dom a (k4'.d a h), Le.refl _ _, k4'.e.len, fun j s hs => ?_, k4'.e.dis⟩
                          have q := k4'.e.at_ j s hs
                          cases s with
                          | no => trivial
                          | exn x => trivial
                          | vl v =>
                            obtain ⟨x, ex, r⟩ := q
                            exact ⟨x, ex, r.le l0⟩
                          | bw v =>
                            obtain ⟨a, ea, c, z⟩ := q
                            have hs0 := k1.pr
                            rcases compE_get (own := own) hs with h | ⟨nj, s0, h0, e0⟩
                            · cases h
                            · have ha : a ≠ L := by
                                rw [wipe_get_ne nj] at ea
                                cases s0 with
                                | ow w =>
                                  intro e
                                  rw [e] at ea
                                  exact hs0.dom L (.inr ⟨j, w, h0, ea⟩) hL
                                | bw w =>
                                  obtain ⟨b, eb, _, zb⟩ := k1.e.at_ j _ h0
                                  rw [ea] at eb
                                  cases eb
                                  intro e
                                  rw [e] at zb
                                  exact hs0.dom L (.inl zb) hL
                                | _ => cases e0
                              exact ⟨a, ea, c.le l0 (fd a ha), z⟩
                          | ow v =>
                            rcases compE_get (own := own) hs with h | ⟨_, s0, _, e0⟩
                            · cases h
                            · cases s0 <;> cases e0
                        refine ⟨w4, acc ++ [v], xs ++ [y4], r, st', by rw [← hw], kw, (l1'.trans (l24.mono fun a h => .inl h)).trans lw, by rw [← hw]; exact upd_same, VRs.app (rv4.le l0) (.cons (r4.le l0) .nil), ?_, ?_, ?_⟩
                        · simp only [List.length_append, List.length_cons, List.length_nil]
                          omega
                        · rw [← hw]
                          exact hR
                        · rw [List.append_assoc]
                          exact oo
        · left
          have e : i = vs.length := by omega
          subst e
          refine ⟨wki.2 rfl, ?_⟩
          rw [List.drop_length] at hC
          unfold compL at hC
          cases hC
          rw [List.append_nil] at oo
          have pd : ∀ a, Pr Z σ env a → a ≠ L := fun a h e => by
            rw [e] at h
            exact k1.pr.dom L h hL
          exact oo u' (.ref L) rfl (l1.trans l1') (k1.on l1' k'.s) (.inr ⟨rfl, L, rfl, ⟨xs, hLx, rv⟩, hnL, hnS, fun h => k1.d L h hL, fun h => pd L (.inr h) rfl, fun h => pd L (.inl h) rfl⟩)
    · rw [if_neg hz] at o1
      exact o1.elim
end
end Py

namespace Py
open PySem PySem.Spec PyProof.Rows L2
/-! ### comprehensions, as terms -/
section
variable {g : G} {W : WX} {X : Cx} {I : IX} {Gt : GX} {A : EX} {T : TX}
theorem q_none (X : Cx) : PTs X [] (RT g W0 tYesX) := ⟨fun pins s σ H Q I q => by
  refine pts_nil.run pins s σ H Q I ?_
  obtain ⟨Z, D, u0, env, u, rfl, k, o⟩ := q
  exact o u rfl (Le.refl _ _) k⟩
theorem q_one {X : Cx} {c : Expr} (h : PTx g X W0 c T) : PTs X [c] (RT g W0 T) := pts_one h
theorem e_lc {elt tg it : Expr} {ifs : List Expr} {scope : Scope} {is : List Nat} {own : List (Str × Nat)} {pos : Pos} (hc : X.calm = true) (hN : X.N.Nodup) (hi : PIx g X W tg it I) (ok : BlkOk X.N X.env.scope scope own)
    (hg : ∀ (s : Shared) (H : Hp) (C : Addr) (cl : List (Str × Addr)) (fp : List Addr), PGx g (X.blk s H scope (compEnvC scope cl C X.env) fp) tg is Gt)
    (ht : ∀ (s : Shared) (H : Hp) (C : Addr) (cl : List (Str × Addr)) (fp : List Addr), PTs (X.blk s H scope (compEnvC scope cl C X.env) fp) ifs (RT g W0 T))
    (he : ∀ (s : Shared) (H : Hp) (C : Addr) (cl : List (Str × Addr)) (fp : List Addr), PEx g (X.blk s H scope (compEnvC scope cl C X.env) fp) W0 elt A) (his : ∀ j, j ∈ is → j ∈ own.map (·.2) := by decide) (hs : ∀ x, foldedSetIterable it X.env x = pure x := by intro _; rfl) :
    PEx g X W (.ListComp elt [⟨tg, it, ifs, 0⟩] scope pos) (aComp (own.map (·.2)) I Gt T A) := PE.imp (pe_lc hc hN hi ok hg ht he hs) fun σ H Q h => lc_sound his h
theorem s_setLc (i : Nat) {y : Str} {py : Pos} {elt tg it : Expr} {ifs : List Expr} {scope : Scope} {is : List Nat} {own : List (Str × Nat)} {pos spos : Pos} (hc : X.calm = true) (hN : X.N.Nodup) (hi : PIx g X W tg it I) (ok : BlkOk X.N X.env.scope scope own)
    (hg : ∀ (s : Shared) (H : Hp) (C : Addr) (cl : List (Str × Addr)) (fp : List Addr), PGx g (X.blk s H scope (compEnvC scope cl C X.env) fp) tg is Gt)
    (ht : ∀ (s : Shared) (H : Hp) (C : Addr) (cl : List (Str × Addr)) (fp : List Addr), PTs (X.blk s H scope (compEnvC scope cl C X.env) fp) ifs (RT g W0 T))
    (he : ∀ (s : Shared) (H : Hp) (C : Addr) (cl : List (Str × Addr)) (fp : List Addr), PEx g (X.blk s H scope (compEnvC scope cl C X.env) fp) W0 elt A)
    (hy : X.N[i]? = some y := by rfl) (hyl : X.env.scope.names.lookup y = some .local := by rfl)
    (hsw : swapsWith (.ListComp elt [⟨tg, it, ifs, 0⟩] scope pos) (some (.Name y py)) spos.line X.env = pure true := by exact sw_true rfl rfl rfl (by decide +kernel)) (his : ∀ j, j ∈ is → j ∈ own.map (·.2) := by decide) (hs : ∀ x, foldedSetIterable it X.env x = pure x := by intro _; rfl) :
    PSx g X W (.Assign [.Name y py] (.ListComp elt [⟨tg, it, ifs, 0⟩] scope pos) spos) (sSet i (aComp (own.map (·.2)) I Gt T A)) := PS.imp (ps_setLc hc hN hy hyl hsw hi ok hg ht he hs) fun Dn σ H h =>
  lc_sound his (over (P := fun env a s1 => .nx (env.set i (.vl a.1)) s1) h fun Z D u0 env u' x v fr k pv o => by
    obtain ⟨u2, e1, e2, l, k2, r⟩ := pv.froze k
    show Dn.nx (σ.set i (some x)) u'.H
    rw [← e2]
    exact o _ u2 e1 (k2.setV r))
theorem s_ownLc (i : Nat) {y : Str} {py : Pos} {elt tg it : Expr} {ifs : List Expr} {scope : Scope} {is : List Nat} {own : List (Str × Nat)} {pos spos : Pos} (hc : X.calm = true) (hN : X.N.Nodup) (hi : PIx g X W tg it I) (ok : BlkOk X.N X.env.scope scope own)
    (hg : ∀ (s : Shared) (H : Hp) (C : Addr) (cl : List (Str × Addr)) (fp : List Addr), PGx g (X.blk s H scope (compEnvC scope cl C X.env) fp) tg is Gt)
    (ht : ∀ (s : Shared) (H : Hp) (C : Addr) (cl : List (Str × Addr)) (fp : List Addr), PTs (X.blk s H scope (compEnvC scope cl C X.env) fp) ifs (RT g W0 T))
    (he : ∀ (s : Shared) (H : Hp) (C : Addr) (cl : List (Str × Addr)) (fp : List Addr), PEx g (X.blk s H scope (compEnvC scope cl C X.env) fp) W0 elt A)
    (hy : X.N[i]? = some y := by rfl) (hyl : X.env.scope.names.lookup y = some .local := by rfl)
    (hsw : swapsWith (.ListComp elt [⟨tg, it, ifs, 0⟩] scope pos) (some (.Name y py)) spos.line X.env = pure true := by exact sw_true rfl rfl rfl (by decide +kernel)) (his : ∀ j, j ∈ is → j ∈ own.map (·.2) := by decide) (hs : ∀ x, foldedSetIterable it X.env x = pure x := by intro _; rfl) :
    PSx g X W (.Assign [.Name y py] (.ListComp elt [⟨tg, it, ifs, 0⟩] scope pos) spos) (sOwn i (aComp (own.map (·.2)) I Gt T A)) := PS.imp (ps_setLc hc hN hy hyl hsw hi ok hg ht he hs) fun Dn σ H h =>
  lc_sound his (over (P := fun env a s1 => if a.2 = true then .nx (env.set i (.ow a.1)) s1 else .bad) h fun Z D u0 env u' x v fr k pv o => by
    show Dn.nx (σ.set i (some x)) u'.H
    cases fr with
    | false => exact o.elim
    | true => exact o _ u' rfl (k.setO pv))
end
/-! ### what a def promises -/
def PVc (g : G) (u u' : Wd) (fr : Bool) (v : Val) (x : V) : Prop :=
  (fr = false ∧ VR g u' v x) ∨ (fr = true ∧ ∃ a, x = .ref a ∧ Cont g u' v a ∧ ¬ u'.F a ∧ (∀ m, m < u'.st.length → u'.ph m ≠ a) ∧ u.H a = none)
def OutC (g : G) (Z : Addr → Prop) (u : Wd) (Q : VK) (E : XK) : R (Val × Bool) → Prop
  | .ok (v, fr) st' => ∀ u' x, u'.st = st' → Le Z u u' → SRel g u' → PVc g u u' fr v x → Q x u'.H
  | .ex e st' => ∀ u' cls d, u'.st = st' → Le Z u u' → SRel g u' → ExR g u' e cls d → E cls d u'.H
  | .bad => False
def spG (g : G) (n : Nat) (F : FX) : Sp := fun vs H Q E => ∃ (Z : Addr → Prop) (u : Wd) (args : List Val), u.H = H ∧ SRel g u ∧ Prot Z u ∧ VRs g u args vs ∧ args.length = n ∧ OutC g Z u Q E (F args u.st)
theorem spG_len {g : G} {n : Nat} {F : FX} (vs : List V) (H : Hp) (Q : VK) (E : XK) (h : spG g n F vs H Q E) : vs.length = n := by
  obtain ⟨Z, u, args, _, _, _, r, l, _⟩ := h
  rw [← r.length, l]
/-- a def of the module, ready to be called -/
structure FnX (g : G) (P : Program) (w : World) (mg : Str → Option Value) (base : Heap) (k : Nat) (f : Addr) (ps : List Str) (F : FX) : Prop where
  kp : PySem.W.keepIn g.K (.ref f) = true
  fn : ∃ fd, Binds g.K fd ps [] ∧ FnOk P w g.K mg base (L2.CX P w) k f fd ps (spG g ps.length F)
theorem FnX.mono {g : G} {P : Program} {w : World} {mg : Str → Option Value} {base : Heap} {j k : Nat} {f : Addr} {ps : List Str} {F : FX} (h : FnX g P w mg base j f ps F) (l : j ≤ k) : FnX g P w mg base k f ps F :=
  ⟨h.kp, let ⟨fd, b, o⟩ := h.fn; ⟨fd, b, o.mono l⟩⟩
/-- a def promises what another function tells, where that is told -/
def Ref (F F' : FX) (n : Nat) : Prop := ∀ args st, args.length = n → F' args st = .bad ∨ F' args st = F args st
theorem FnX.ref {g : G} {P : Program} {w : World} {mg : Str → Option Value} {base : Heap} {k : Nat} {f : Addr} {ps : List Str} {F F' : FX} (h : FnX g P w mg base k f ps F) (r : Ref F F' ps.length) : FnX g P w mg base k f ps F' :=
  ⟨h.kp, let ⟨fd, b, o⟩ := h.fn; ⟨fd, b, o.imp fun vs H Q E ⟨Z, u, args, e, s, p, rv, l, out⟩ => ⟨Z, u, args, e, s, p, rv, l, by
    rcases r args u.st l with z | z
    · rw [z] at out; exact out.elim
    · rw [← z]; exact out⟩⟩⟩
/-! ### calls -/
def aCall (F : FX) (C : AX) (dv : List Val) : EX := fun env st => (C env st).bind fun vs s1 => F (vs ++ dv) s1
/-- a value of written parts alone -/
structure Cv (g : G) (v : Val) (x : V) : Prop where
  r : ∀ u, VR g u v x
section
variable {g : G} {W : WX} {X : Cx} {C : AX} {A : EX} {F : FX}
theorem call_core {sp : Sp} {n : Nat} (hsp : sp = spG g n F) {Z D : Addr → Prop} {u0 u u1 : Wd} {σ : L2.St} {env : Env} {Q : VK} (k1 : Ok g Z D u0 σ env u1) (l1 : Le (Pr Z σ env) u u1) {args : List Val} {xs : List V} (r : VRs g u1 args xs) (hn : args.length = n)
    (o : OutE g Z D u0 σ env u W Q (F args u1.st)) : sp xs u1.H Q (fun cls d H => W cls d σ H) := by
  subst hsp
  refine ⟨Pr Z σ env, u1, args, rfl, k1.s, k1.pr, r, hn, ?_⟩
  cases hF : F args u1.st with
  | bad => rw [hF] at o; exact o
  | ex e s =>
    rw [hF] at o
    exact fun u' cls d e1 l sr x => o u' cls d e1 (k1.on l sr) x
  | ok p s =>
    rw [hF] at o
    obtain ⟨v, fr⟩ := p
    intro u' x e1 l sr pv
    refine o u' x e1 (l1.trans l) (k1.on l sr) ?_
    rcases pv with h | ⟨e, a, ex, c, nf, ns, hn⟩
    · exact .inl h
    · exact .inr ⟨e, a, ex, c, nf, ns, fun h => k1.d a h hn, fun h => k1.pr.dom a (.inr h) hn, fun h => k1.pr.dom a (.inl h) hn⟩
/-- so many arguments -/
def AL (C : AX) (n : Nat) : Prop := ∀ env st vs s', C env st = .ok vs s' → vs.length = n
theorem al_nil : AL aNil 0 := fun env st vs s' h => by
  cases h
  rfl
theorem al_cons {A : EX} {C : AX} {n : Nat} (h : AL C n) : AL (aCons A C) (n + 1) := fun env st vs s' e => by
  unfold aCons at e
  cases hA : A env st with
  | bad => rw [hA] at e; cases e
  | ex x s => rw [hA] at e; cases e
  | ok a s1 =>
    rw [hA] at e
    simp only [R.bind_ok] at e
    cases hC : C env s1 with
    | bad => rw [hC] at e; cases e
    | ex x s => rw [hC] at e; cases e
    | ok r s2 =>
      rw [hC] at e
      cases e
      exact congrArg (· + 1) (h _ _ _ _ hC)
theorem call_args {vs dv : List Val} {u : Wd} {xs ys : List V} (r : VRs g u vs xs) (d : ∀ u, VRs g u dv ys) : VRs g u (vs ++ dv) (xs ++ ys) := r.app (d u)
/-- f(e, ..) -/
theorem e_call {k n : Nat} {x : Str} {f : Addr} {ps : List Str} {p pos : Pos} {e : Expr} {es : List Expr} {dv : List Val} {ys : List V} {ds : List Value} {fd : FuncData} (hk : X.K = g.K) (tk : Takes X W) (hr : Room k X.A)
    (hm : X.mg x = some (.ref f)) (kp : PySem.W.keepIn g.K (.ref f) = true) (hb : Binds g.K fd ps ds) (hd : Vals ys ds) (hdv : ∀ u, VRs g u dv ys) (ok : FnOk X.prog X.w g.K X.mg X.base (L2.CX X.prog X.w) k f fd ps (spG g ps.length F))
    (ha : PAx g X W (e :: es) C) (hl : AL C n) (hn : n + dv.length = ps.length := by rfl)
    (hg : Gl X x := by rfl) (hdb : (x == ("__debug__" : Str)) = false := by decide) (he : starEach (e :: es) X.env = (false, eval e X.env) :: starEach es X.env := by rfl) (hpl : (backTo pos (starEach es X.env)).any (·.1) = false := by rfl) :
    PEx g X W (.Call (.Name x p) (e :: es) [] pos) (aCall F C dv) :=
  PE.imp (pe_callSD (E := fun σ cls d H => W cls d σ H) (dvs := ys) (ds := ds) (by rw [hk]; exact ok) hr hg hm (by rw [hk]; exact kp) (by rw [hk]; exact hb) hd (fun σ => passAt tk σ) ha hdb he hpl) fun σ H Q h => by
    obtain ⟨Z, D, u0, env, u, rfl, k, o⟩ := h
    refine ⟨Z, D, u0, env, u, rfl, k, ?_⟩
    unfold aCall at o
    cases hC : C env u.st with
    | bad => rw [hC] at o; exact o.elim
    | ex e s => rw [hC] at o; exact o
    | ok vs s1 =>
      rw [hC] at o
      intro u1 xs e1 l1 k1 r
      subst e1
      exact call_core rfl k1 l1 (call_args r hdv) (by rw [List.length_append, hl _ _ _ _ hC]; exact hn) o
end
/-! ### fields, methods -/
theorem strOf_inj {a b : String} (h : Str.ofString a = Str.ofString b) : a = b := by
  rw [Str.ofString_eq_toList, Str.ofString_eq_toList] at h
  injection h with h
  have h2 : a.toList.map Char.toNat = b.toList.map Char.toNat := by simpa using congrArg Array.toList h
  have h3 : a.toList = b.toList := (List.map_inj_right fun c d e => Char.ext (UInt32.toNat_inj.mp e)).mp h2
  exact String.toList_inj.mp h3
theorem fz_lookup {g : G} {u : Wd} (f : String) : ∀ {fs : List (String × Val)} {xs : List V}, VRs g u (fs.map Prod.snd) xs → match fs.lookup f with
    | some v => ∃ x, (fz (fs.map Prod.fst) xs).lookup (Str.ofString f) = some x ∧ VR g u v x
    | none => (fz (fs.map Prod.fst) xs).lookup (Str.ofString f) = none
  | [], _, h => by cases h; rfl
  | (k, v) :: fs, xs, h => by
    have h' : VRs g u (v :: fs.map Prod.snd) xs := h
    cases h' with
    | @cons _ x _ ys r t =>
      by_cases e : f = k
      · subst e
        rw [List.lookup_cons_self]
        exact ⟨x, by show ((Str.ofString f, x) :: fz (fs.map Prod.fst) ys).lookup _ = _; rw [List.lookup_cons_self], r⟩
      · have e1 : (f == k) = false := by simpa using e
        have e2 : (Str.ofString f == Str.ofString k) = false := by
          simp only [beq_eq_false_iff_ne, ne_eq]
          exact fun q => e (strOf_inj q)
        have ih := fz_lookup f t
        rw [List.lookup_cons, e1]
        have q : (fz ((k, v) :: fs |>.map Prod.fst) (x :: ys)).lookup (Str.ofString f) = (fz (fs.map Prod.fst) ys).lookup (Str.ofString f) := by
          show ((Str.ofString k, x) :: fz (fs.map Prod.fst) ys).lookup _ = _
          rw [List.lookup_cons, e2]
        rw [q]
        exact ih
/-- an instance: of a value that stays, or of the store -/
def insOf : Val → Sto → Option (String × List (String × Val))
  | .obj c fs, _ => some (c, fs)
  | .ref n, st => match st[n]? with
    | some (.obj c fs) => some (c, fs)
    | _ => none
  | _, _ => none
theorem insOf_at {g : G} {u : Wd} (s : SRel g u) {v : Val} {x : V} (h : BW g u v x) {c : String} {fs : List (String × Val)} (e : insOf v u.st = some (c, fs)) :
    g.has c = true ∧ ∃ a dx xs, x = .ref a ∧ u.H a = some (.ins (g.cls c) dx (fz (fs.map Prod.fst) xs)) ∧ VRs g u (fs.map Prod.snd) xs := by
  cases v with
  | obj c' fs' =>
    cases e
    exact h.obj
  | ref n =>
    rcases h with h | ⟨_, _, c⟩
    · cases h with
      | ref hn =>
        have e : (match u.st[n]? with
          | some (SO.obj c fs) => some (c, fs)
          | _ => none) = some (c, fs) := e
        rcases s.at_ n hn with q | ⟨o, q, _, ct⟩
        · rw [q] at e; cases e
        · rw [q] at e
          cases o with
          | obj c' fs' =>
            cases e
            obtain ⟨z, dx, xs, q1, q2⟩ := ct
            exact ⟨z, _, dx, xs, rfl, q1, q2⟩
          | _ => cases e
    · exact c.elim
  | _ => cases e
def pAtt (f : String) : P1 := fun v st => match insOf v st with
  | some (c, fs) => if attOk c f = true then (match fs.lookup f with
    | some w => .ok (w, false) st
    | none => .bad) else .bad
  | none => .bad
theorem pAtt_nx (f : String) : NoX1 (pAtt f) := fun v s e s' h => by
  unfold pAtt at h
  split at h
  · split at h
    · split at h <;> cases h
    · cases h
  · cases h
theorem pAtt_ok {g : G} (f : String) : S1 g (fun x H Q => ∃ a C dx fs v, x = .ref a ∧ H a = some (.ins C dx fs) ∧ Cls g.K C ∧ NoAttr g.K C (Str.ofString f) ∧ fs.lookup (Str.ofString f) = some v ∧ Q v H) (pAtt f) := fun u v x Q s b o => by
  unfold pAtt at o
  cases hi : insOf v u.st with
  | none => rw [hi] at o; exact o.elim
  | some p =>
    obtain ⟨c, fs⟩ := p
    rw [hi] at o
    simp only at o
    by_cases ha : attOk c f = true
    · rw [if_pos ha] at o
      obtain ⟨hc, a, dx, xs, rfl, hH, r⟩ := insOf_at s b hi
      obtain ⟨c1, c2⟩ := g.att c f hc ha
      have q := fz_lookup f r
      cases hl : fs.lookup f with
      | none => rw [hl] at o; exact o.elim
      | some w =>
        rw [hl] at o q
        obtain ⟨y, hy, ry⟩ := q
        exact ⟨a, _, dx, _, y, rfl, hH, c1, c2, hy, o rfl u y (LeA.refl u) s (.inl ⟨rfl, ry⟩)⟩
    · rw [if_neg ha] at o
      exact o.elim
section
variable {g : G} {W : WX} {X : Cx} {C : AX} {A : EX} {F : FX}
theorem e_att {e : Expr} {f : String} {pos : Pos} (hk : X.K = g.K) (he : PEb g X W e A) (hb : attributeBase e (Str.ofString f) X.env (eval e X.env) = eval e X.env := by rfl) : PEx g X W (.Attribute e (Str.ofString f) pos) (a1 (pAtt f) A) :=
  PE.imp (pe_fld he hb) fun σ H Q h => by
    rw [hk]
    exact t1_sound (pAtt_ok f) (pAtt_nx f) σ H Q h
end
end Py

namespace Py
open PySem PySem.Spec PyProof.Rows L2
/-! ### where code stands -/
structure Ctl (g : G) (X : Cx) (W : WX) (k : Nat) : Prop where
  K : X.K = g.K
  nd : X.N.Nodup
  cm : X.calm = true
  tk : Takes X W
  po : PassesOwn (model X.prog X.w) X.A X.env X.xe
  rm : Room k X.A
theorem Ctl.blk {g : G} {X : Cx} {W : WX} {k : Nat} (c : Ctl g X W k) {s : Shared} {H : Hp} {scope : Scope} {cenv : PySem.Env} {fp : List Addr} : Ctl g (X.blk s H scope cenv fp) W0 k :=
  ⟨c.K, c.nd, c.cm, fun u s' x => by
    obtain ⟨_, _, _, _, _, _, _, _, _, _, _, _, _, _, _, _, w⟩ := x
    exact w.elim, PassesOwn.never, c.rm⟩
def hu_c {g : G} {X : Cx} {W : WX} {k : Nat} (c : Ctl g X W k) : X.A.units + 64 < cLine := c.rm.units
/-! ### a def by its name -/
structure CallOk (g : G) (P : Program) (w : World) (mg : Str → Option Value) (base : Heap) (k : Nat) (x : Str) (n : Nat) (F : FX) : Prop where
  ex : ∃ (f : Addr) (fd : FuncData) (ps : List Str) (ds : List Value) (ys : List V) (dv : List Val) (F0 : FX), mg x = some (.ref f) ∧ PySem.W.keepIn g.K (.ref f) = true ∧ Binds g.K fd ps ds ∧ Vals ys ds ∧ (∀ u, VRs g u dv ys) ∧ n + dv.length = ps.length ∧
    FnOk P w g.K mg base (L2.CX P w) k f fd ps (spG g ps.length F0) ∧ ∀ vs st, F vs st = F0 (vs ++ dv) st
theorem CallOk.mono {g : G} {P : Program} {w : World} {mg : Str → Option Value} {base : Heap} {j k : Nat} {x : Str} {n : Nat} {F : FX} (h : CallOk g P w mg base j x n F) (l : j ≤ k) : CallOk g P w mg base k x n F := by
  obtain ⟨f, fd, ps, ds, ys, dv, F0, a1, a2, a3, a4, a5, a6, a7, a8⟩ := h.ex
  exact ⟨f, fd, ps, ds, ys, dv, F0, a1, a2, a3, a4, a5, a6, a7.mono l, a8⟩
def aCl (F : FX) (C : AX) : EX := fun env st => (C env st).bind fun vs s1 => F vs s1
def fin : SR → R (Val × Bool)
  | .nx _ st => .ok (.non, false) st
  | .rt v fr _ st => .ok (v, fr) st
  | .rs x _ st => .ex x st
  | _ => .bad
@[simp] theorem fin_nx (e : Env) (st : Sto) : fin (.nx e st) = .ok (.non, false) st := rfl
@[simp] theorem fin_rt (v : Val) (fr : Bool) (e : Env) (st : Sto) : fin (.rt v fr e st) = .ok (v, fr) st := rfl
@[simp] theorem fin_rs (x : Exn) (e : Env) (st : Sto) : fin (.rs x e st) = .ex x st := rfl
@[simp] theorem fin_bad : fin .bad = .bad := rfl
def env0 (n : Nat) (args : List Val) : Env := args.map .vl ++ List.replicate (n - args.length) .no
/-- a body as a function -/
def runB (n : Nat) (A : SX) : FX := fun args st => fin (A (env0 n args) st)
section
variable {g : G} {P : Program} {w : World} {mg : Str → Option Value} {base : Heap}
theorem Ok.enter {u : Wd} {Z : Addr → Prop} (s : SRel g u) (p : Prot Z u) {args : List Val} {vs : List V} (r : VRs g u args vs) (N : List Str) (hl : args.length ≤ N.length) : Ok g Z (fun a => u.H a ≠ none) u (L2.start N vs) (env0 N.length args) u := by
  have len := r.length
  refine ⟨s, p, p.dom, fun a h => h, Le.refl _ _, ?_, fun i sl h => ?_, fun i j v w a h1 => ?_⟩
  · unfold L2.start env0
    simp only [List.length_append, List.length_map, List.length_replicate]
    omega
  · unfold env0 at h
    by_cases hi : i < args.length
    · rw [List.getElem?_append_left (by simpa using hi), List.getElem?_map, List.getElem?_eq_getElem hi] at h
      cases h
      obtain ⟨x, hx, rx⟩ := r.get (List.getElem?_eq_getElem hi)
      refine ⟨x, ?_, rx⟩
      unfold L2.start
      rw [List.getElem?_append_left (by simp; omega), List.getElem?_map, hx]
      rfl
    · rw [List.getElem?_append_right (by simpa using hi), List.getElem?_replicate] at h
      split at h
      · cases h; trivial
      · cases h
  · unfold env0 at h1
    by_cases hi : i < args.length
    · rw [List.getElem?_append_left (by simpa using hi), List.getElem?_map, List.getElem?_eq_getElem hi] at h1
      cases h1
    · rw [List.getElem?_append_right (by simpa using hi), List.getElem?_replicate] at h1
      split at h1 <;> cases h1
theorem ctl_def {k : Nat} {N ps : List Str} {qual : Str} {scope : Scope} {f : Addr} {cdv : Value} {A : Around} {outer : List PySem.Env} {s : Shared} {H : Hp} {E : XK} (S : FnScope N ps scope) (hr : Room k (A.deeper (envOfC qual scope s.heap.objs.size f cdv))) :
    Ctl g (cxOf (L2.CX P w) P w g.K mg base N qual scope f cdv A outer s H E) (fun cls d _ H => E cls d H) k := ⟨rfl, S.nd, rfl, takes_of rfl rfl rfl rfl, passes_of rfl, hr⟩
/-- THE RULE for a def -/
theorem def_ok {x qual : Str} {params : Arguments} {body : List Stmt} {scope : Scope} {dvs : List V} {kws : List (Str × V)} {f : Addr} {fd : FuncData} {N ps : List Str} {k : Nat} {A : SX} {F : FX} (FD : FunD g.K x qual params body scope dvs kws f fd) (S : FnScope N ps scope)
    (hb : ∀ X W, X.prog = P → X.w = w → X.mg = mg → X.base = base → X.N = N → X.env.scope = scope → (∀ x, X.fn x = true) → Ctl g X W k → PBx g X W body A) (hF : ∀ args st, args.length = ps.length → F args st = .bad ∨ F args st = runB N.length A args st) :
    FnOk P w g.K mg base (L2.CX P w) (k + 1) f fd ps (spG g ps.length F) := by
  refine FD.ok S (fun vs H Q E h => spG_len vs H Q E h) fun cdv A' outer s H vs Q E hr h => ?_
  refine ⟨_, hb _ _ rfl rfl rfl rfl rfl rfl (fun _ => rfl) (ctl_def S hr), ?_⟩
  obtain ⟨Z, u, args, rfl, sr, p, rv, hl, out⟩ := h
  have hps : ps.length ≤ N.length := by have := congrArg List.length S.pre; rw [List.length_take] at this; omega
  refine ⟨Z, _, u, env0 N.length args, u, rfl, Ok.enter sr p rv N (by omega), ?_⟩
  rcases hF args u.st hl with z | z
  · rw [z] at out; exact out.elim
  · rw [z] at out
    unfold runB at out
    cases hA : A (env0 N.length args) u.st with
    | nx e st =>
      rw [hA] at out
      exact fun σ' u' e1 k' => out u' .non e1 k'.le k'.s (.inl ⟨rfl, .non⟩)
    | rt v fr e st =>
      rw [hA] at out
      intro σ' u' x e1 k' pv
      refine out u' x e1 k'.le k'.s ?_
      rcases pv with h | ⟨e, a, ex, c, nf, ns, nd, _, _⟩
      · exact .inl h
      · exact .inr ⟨e, a, ex, c, nf, ns, Classical.byContradiction nd⟩
    | bk e st => rw [hA] at out; exact out.elim
    | ct e st => rw [hA] at out; exact out.elim
    | rs x e st =>
      rw [hA] at out
      exact fun σ' u' cls d e1 k' r => out u' cls d e1 k'.le k'.s r
    | bad => rw [hA] at out; exact out.elim
theorem callOk {x qual : Str} {params : Arguments} {body : List Stmt} {scope : Scope} {kws : List (Str × V)} {f : Addr} {fd : FuncData} {ps : List Str} {k : Nat} {F : FX} (FD : FunD g.K x qual params body scope [] kws f fd) (hm : mg x = some (.ref f)) (hb : Binds g.K fd ps []) (ok : FnOk P w g.K mg base (L2.CX P w) k f fd ps (spG g ps.length F)) :
    CallOk g P w mg base k x ps.length F := ⟨f, fd, ps, [], [], [], F, hm, FD.kp, hb, .nil, fun _ => .nil, rfl, ok, fun vs st => by rw [List.append_nil]⟩
end
section
variable {g : G} {W : WX} {X : Cx} {C : AX} {A B : EX} {F : FX} {k : Nat} {I : IX} {Gt : GX} {T : TX}
theorem c_call {j n : Nat} {x : Str} {p pos : Pos} {e : Expr} {es : List Expr} (c : Ctl g X W k) (co : CallOk g X.prog X.w X.mg X.base j x n F) (ha : PAx g X W (e :: es) C) (hl : AL C n) (hj : j ≤ k := by decide)
    (hg : Gl X x := by rfl) (hdb : (x == ("__debug__" : Str)) = false := by decide) (he : starEach (e :: es) X.env = (false, eval e X.env) :: starEach es X.env := by rfl) (hpl : (backTo pos (starEach es X.env)).any (·.1) = false := by rfl) :
    PEx g X W (.Call (.Name x p) (e :: es) [] pos) (aCl F C) := by
  obtain ⟨f, fd, ps, ds, ys, dv, F0, a1, a2, a3, a4, a5, a6, a7, a8⟩ := co.ex
  have h := e_call (F := F0) (p := p) (pos := pos) c.K c.tk (c.rm.mono hj) a1 a2 a3 a4 a5 a7 ha hl a6 hg hdb he hpl
  have ee : aCall F0 C dv = aCl F C := by
    funext env st
    unfold aCall aCl
    congr 1
    funext vs s
    exact (a8 vs s).symm
  rw [← ee]
  exact h
end
end Py

namespace Py
open PySem PySem.Spec PyProof.Rows L2

/-! ### reading sequences -/
def rdL : Val → Sto → Option (List Val)
  | .lst vs, _ => some vs
  | .scr vs, _ => some vs
  | .ref n, st => match st[n]? with
    | some (.lst vs) => some vs
    | _ => none
  | _, _ => none
def exL : Val → Sto → Option (List Val)
  | .lst vs, _ => some vs
  | .ref n, st => match st[n]? with
    | some (.lst vs) => some vs
    | _ => none
  | _, _ => none
def rdSq : Val → Sto → Option (List Val)
  | .tup vs, _ => some vs
  | v, st => rdL v st
section
variable {g : G} {u u' : Wd} {v w : Val} {x y : V} {vs : List Val} {Q : VK}
theorem exL_ok (s : SRel g u) (h : BW g u v x) (e : exL v u.st = some vs) : ∃ a xs, x = .ref a ∧ u.H a = some (.lst xs) ∧ VRs g u vs xs := by
  cases v with
  | lst vs' =>
    cases e
    rcases h with h | ⟨a, e, c⟩
    · cases h with
      | lst f e r => exact ⟨_, _, rfl, e, r⟩
    · obtain ⟨xs, q, r⟩ := c
      exact ⟨a, xs, e, q, r⟩
  | ref n =>
    rcases h with h | ⟨_, _, c⟩
    · cases h with
      | ref hn =>
        have e : (match u.st[n]? with
          | some (SO.lst vs) => some vs
          | _ => none) = some vs := e
        rcases s.at_ n hn with q | ⟨o, q, _, ct⟩
        · rw [q] at e; cases e
        · rw [q] at e
          cases o with
          | lst ys =>
            cases e
            obtain ⟨xs, q1, q2⟩ := ct
            exact ⟨_, xs, rfl, q1, q2⟩
          | _ => cases e
    · exact c.elim
  | _ => cases e
theorem rdL_ok (s : SRel g u) (h : BW g u v x) (e : rdL v u.st = some vs) : ∃ a xs, x = .ref a ∧ SqL g.K u.H a xs ∧ VRs g u vs xs := by
  cases v with
  | scr vs' =>
    cases e
    rcases h with h | ⟨a, e, c⟩
    · cases h with
      | scr f r => exact ⟨_, _, rfl, f.elim (fun z => z.L) (fun z => z u.H), r⟩
    · exact c.elim
  | lst vs' =>
    obtain ⟨a, xs, h1, h2, h3⟩ := exL_ok s h (show exL (.lst vs') u.st = some vs from e)
    exact ⟨a, xs, h1, SqL.of h2, h3⟩
  | ref n =>
    obtain ⟨a, xs, h1, h2, h3⟩ := exL_ok s h (show exL (.ref n) u.st = some vs from e)
    exact ⟨a, xs, h1, SqL.of h2, h3⟩
  | _ => cases e
theorem rdSq_ok (s : SRel g u) (h : BW g u v x) (e : rdSq v u.st = some vs) : ∃ a xs, x = .ref a ∧ (SqL g.K u.H a xs ∨ SqT g.K u.H a xs) ∧ VRs g u vs xs := by
  cases v with
  | tup vs' =>
    cases e
    obtain ⟨a, xs, h1, h2, h3⟩ := h.tup
    exact ⟨a, xs, h1, .inr h2, h3⟩
  | lst vs' =>
    obtain ⟨a, xs, h1, h2, h3⟩ := rdL_ok s h (show rdL (.lst vs') u.st = some vs from e)
    exact ⟨a, xs, h1, .inl h2, h3⟩
  | scr vs' =>
    obtain ⟨a, xs, h1, h2, h3⟩ := rdL_ok s h (show rdL (.scr vs') u.st = some vs from e)
    exact ⟨a, xs, h1, .inl h2, h3⟩
  | ref n =>
    obtain ⟨a, xs, h1, h2, h3⟩ := rdL_ok s h (show rdL (.ref n) u.st = some vs from e)
    exact ⟨a, xs, h1, .inl h2, h3⟩
  | _ => cases e
/-! ### results -/
theorem OutP.pure (s : SRel g u) (r : VR g u v x) (o : OutP g u Q (.ok (v, false) u.st)) : Q x u.H := o rfl u x (LeA.refl u) s (.inl ⟨rfl, r⟩)
theorem OutP.lst (s : SRel g u) {p : Addr} (hp : u.H p = none) {xs : List V} (r : VRs g u vs xs) (o : OutP g u Q (.ok (.lst vs, true) u.st)) : Q (.ref p) (upd u.H p (.lst xs)) := by
  have l : LeA u ⟨u.ph, u.F, upd u.H p (.lst xs), u.st⟩ := ⟨rfl, rfl, fun _ h => h, fun a h => upd_ne (fun e => h (by rw [e]; exact hp)), fun a h => .inl h⟩
  have s' : SRel g ⟨u.ph, u.F, upd u.H p (.lst xs), u.st⟩ := l.srel s fun b h => by
    have := s.fdom b h
    show upd u.H p (.lst xs) b ≠ none
    rw [upd_ne (fun e => this (by rw [e]; exact hp))]
    exact this
  exact o rfl _ (.ref p) l s' (.inr ⟨rfl, p, rfl, hp, ⟨xs, upd_same, r.le (l.le0 s)⟩, fun z => s.fdom p z hp⟩)
theorem OutP.tup (s : SRel g u) {p : Addr} (hp : u.H p = none) {xs : List V} (r : VRs g u vs xs) (o : OutP g u Q (.ok (.tup vs, false) u.st)) : Q (.ref p) (upd u.H p (.tup xs)) := by
  obtain ⟨u', e, l, s', r'⟩ := laid_tup s hp r
  rw [← e]
  exact o rfl u' (.ref p) l s' (.inl ⟨rfl, r'⟩)
theorem OutP.of_lst (s : SRel g u) (hx : BW g u v x) (hv : exL v u.st = some vs) {a : Addr} {xs : List V} (h : x = .ref a) : True := trivial
end
/-! ### reading of what a sequence holds -/
theorem atI_VR {g : G} {u : Wd} {vs : List Val} {xs : List V} {i : Int} {v : Val} (r : VRs g u vs xs) (h : atI vs i = some v) : ∃ x, atI xs i = some x ∧ VR g u v x := by
  unfold atI at h ⊢
  rw [← r.length]
  cases hj : ixN vs.length i with
  | none => rw [hj] at h; cases h
  | some j =>
    rw [hj] at h
    exact r.get h
def pIx : P2 := fun v w st => match w with
  | .int i => match v with
    | .str s => if sizeOk s.length = true then (match atI s i with
      | some c => .ok (.str [c], false) st
      | none => .bad) else .bad
    | v => match rdSq v st with
      | some vs => (match atI vs i with
        | some y => .ok (y, false) st
        | none => .bad)
      | none => .bad
  | _ => .bad
theorem pIx_nx : NoX2 pIx := fun v w s e s' h => by
  unfold pIx at h
  repeat' (split at h)
  all_goals cases h
theorem pIx_ok {g : G} : S2 g (rIx g.K) pIx := fun u v w x y Q s bv bw o => by
  unfold pIx at o
  cases w with
  | int i =>
    rw [bw.int]
    simp only at o
    have sq : ∀ {vs : List Val}, rdSq v u.st = some vs → OutP g u Q (match atI vs i with | some y => .ok (y, false) u.st | none => .bad) → rIx g.K x (.int i) u.H Q := fun {vs} e o => by
      obtain ⟨a, xs, rfl, q, r⟩ := rdSq_ok s bv e
      cases h : atI vs i with
      | none => rw [h] at o; exact o.elim
      | some z =>
        rw [h] at o
        obtain ⟨z', hz, rz⟩ := atI_VR r h
        rcases q with q | q
        · exact .inl ⟨a, xs, i, z', rfl, rfl, q, hz, o.pure s rz⟩
        · exact .inr (.inl ⟨a, xs, i, z', rfl, rfl, q, hz, o.pure s rz⟩)
    cases v with
    | str t =>
      simp only at o
      rw [bv.str]
      by_cases hz : sizeOk t.length = true
      · rw [if_pos hz] at o
        cases h : atI t i with
        | none => rw [h] at o; exact o.elim
        | some c =>
          rw [h] at o
          exact .inr (.inr ⟨sv t, i, c, rfl, rfl, by rw [sv_len]; exact sizeOk_line hz, h, o.pure s (.str [c])⟩)
      · rw [if_neg hz] at o; exact o.elim
    | tup vs => exact sq rfl o
    | lst vs => exact sq rfl o
    | scr vs => exact sq rfl o
    | ref n =>
      cases e : rdSq (.ref n) u.st with
      | none => simp only [e] at o; exact o.elim
      | some vs => simp only [e] at o; exact sq e o
    | _ => exact o.elim
  | _ => exact o.elim
/-! ### numbers, texts, + and so on -/
def pAdd : P2 := fun v w st => match v, w with
  | .int i, .int j => .ok (.int (i + j), false) st
  | .str a, .str b => if sizeOk (a.length + b.length) = true then .ok (.str (a ++ b), false) st else .bad
  | .tup a, .tup b => if sizeOk (a.length + b.length) = true then .ok (.tup (a ++ b), false) st else .bad
  | v, w => match exL v st, exL w st with
    | some a, some b => if sizeOk (a.length + b.length) = true then .ok (.lst (a ++ b), true) st else .bad
    | _, _ => .bad
theorem VRs.append {g : G} {u : Wd} : ∀ {vs ws : List Val} {xs ys : List V}, VRs g u vs xs → VRs g u ws ys → VRs g u (vs ++ ws) (xs ++ ys)
  | _, _, _, _, .nil, h => h
  | _, _, _, _, .cons r t, h => .cons r (VRs.append t h)
theorem sv_append (a b : Txt) : sv a ++ sv b = sv (a ++ b) := TL.ext_tl (by rw [TL.tl_append]; rfl)
def rAdd (K : PySem.W.Frag) : R2 := fun x y H Q => rI0 (fun i j => .int (i + j)) x y H Q ∨ (∃ i j, x = .str i ∧ y = .str j ∧ i.length + j.length ≤ sizeLine ∧ Q (.str (i ++ j)) H) ∨ rCatA K x y H Q ∨ rCat x y H Q
theorem op_rAdd {X : Cx} : OpR X (binaryOp .Add) (rAdd X.K) := op_add.or (op_add_str.or (op_catA.or op_cat))
theorem pAdd_nx : NoX2 pAdd := fun v w s e s' h => by
  unfold pAdd at h
  repeat' (split at h)
  all_goals cases h
theorem sizeOk_pair {n m : Nat} (h : sizeOk (n + m) = true) : n + m ≤ sizeLine := sizeOk_line h
theorem pAdd_ok {g : G} : S2 g (rAdd g.K) pAdd := fun u v w x y Q s bv bw o => by
  have lc : ∀ {a b : List Val}, exL v u.st = some a → exL w u.st = some b → OutP g u Q (if sizeOk (a.length + b.length) = true then .ok (.lst (a ++ b), true) u.st else .bad) → rAdd g.K x y u.H Q := fun {a b} e1 e2 o => by
    obtain ⟨p, xs, rfl, h1, r1⟩ := exL_ok s bv e1
    obtain ⟨q, ys, rfl, h2, r2⟩ := exL_ok s bw e2
    by_cases hz : sizeOk (a.length + b.length) = true
    · rw [if_pos hz] at o
      exact .inr (.inr (.inr ⟨p, q, xs, ys, rfl, rfl, h1, h2, by rw [← r1.length, ← r2.length]; exact sizeOk_line hz, fun t ht => o.lst s ht (r1.append r2)⟩))
    · rw [if_neg hz] at o; exact o.elim
  have lc' : OutP g u Q (match exL v u.st, exL w u.st with
    | some a, some b => if sizeOk (a.length + b.length) = true then .ok (.lst (a ++ b), true) u.st else .bad
    | _, _ => .bad) → rAdd g.K x y u.H Q := fun o => by
    cases e1 : exL v u.st with
    | none => simp only [e1] at o; exact o.elim
    | some a =>
      cases e2 : exL w u.st with
      | none => simp only [e1, e2] at o; exact o.elim
      | some b => simp only [e1, e2] at o; exact lc e1 e2 o
  unfold pAdd at o
  split at o
  · rw [bv.int, bw.int]
    exact .inl ⟨_, _, rfl, rfl, o.pure s (.int _)⟩
  · rename_i a b
    rw [bv.str, bw.str]
    by_cases hz : sizeOk (a.length + b.length) = true
    · rw [if_pos hz] at o
      refine .inr (.inl ⟨_, _, rfl, rfl, by rw [sv_len, sv_len]; exact sizeOk_line hz, ?_⟩)
      rw [sv_append]
      exact o.pure s (.str _)
    · rw [if_neg hz] at o; exact o.elim
  · rename_i a b
    obtain ⟨p, xs, rfl, h1, r1⟩ := bv.tup
    obtain ⟨q, ys, rfl, h2, r2⟩ := bw.tup
    by_cases hz : sizeOk (a.length + b.length) = true
    · rw [if_pos hz] at o
      refine .inr (.inr (.inl ⟨p, q, xs, ys, rfl, rfl, h1, h2, by rw [← r1.length, ← r2.length]; exact sizeOk_line hz, fun e => ?_, fun e1 e2 => ?_, fun _ _ t ht => o.tup s ht (r1.append r2)⟩))
      · subst e
        cases r1
        rcases bw with z | ⟨_, _, z⟩
        · exact o.pure s z
        · exact z.elim
      · subst e2
        cases r2
        rw [List.append_nil] at o
        rcases bv with z | ⟨_, _, z⟩
        · exact o.pure s z
        · exact z.elim
    · rw [if_neg hz] at o; exact o.elim
  · exact lc' o
end Py

namespace Py
open PySem PySem.Spec PyProof.Rows L2

/-! ### ints -/
def pI (C : Int → Int → Bool) (f : Int → Int → Int) : P2 := fun v w st => match v, w with
  | .int i, .int j => if C i j = true then .ok (.int (f i j), false) st else .bad
  | _, _ => .bad
def pI0 (f : Int → Int → Int) : P2 := fun v w st => match v, w with
  | .int i, .int j => .ok (.int (f i j), false) st
  | _, _ => .bad
def pIB (f : Int → Int → Bool) : P2 := fun v w st => match v, w with
  | .int i, .int j => .ok (.bl (f i j), false) st
  | _, _ => .bad
theorem pI_nx (C : Int → Int → Bool) (f : Int → Int → Int) : NoX2 (pI C f) := fun v w s e s' h => by
  unfold pI at h
  repeat' (split at h)
  all_goals cases h
theorem pI0_nx (f : Int → Int → Int) : NoX2 (pI0 f) := fun v w s e s' h => by
  unfold pI0 at h
  repeat' (split at h)
  all_goals cases h
theorem pIB_nx (f : Int → Int → Bool) : NoX2 (pIB f) := fun v w s e s' h => by
  unfold pIB at h
  repeat' (split at h)
  all_goals cases h
theorem pI_ok {g : G} {C : Int → Int → Bool} {C' : Int → Int → Prop} {f : Int → Int → Int} (hC : ∀ i j, C i j = true → C' i j) : S2 g (rI C' fun i j => .int (f i j)) (pI C f) := fun u v w x y Q s bv bw o => by
  unfold pI at o
  split at o
  · rw [bv.int, bw.int]
    split at o
    · rename_i h
      exact ⟨_, _, rfl, rfl, hC _ _ h, o.pure s (.int _)⟩
    · exact o.elim
  · exact o.elim
theorem pI0_ok {g : G} {f : Int → Int → Int} : S2 g (rI0 fun i j => .int (f i j)) (pI0 f) := fun u v w x y Q s bv bw o => by
  unfold pI0 at o
  split at o
  · rw [bv.int, bw.int]
    exact ⟨_, _, rfl, rfl, o.pure s (.int _)⟩
  · exact o.elim
theorem pIB_ok {g : G} {f : Int → Int → Bool} : S2 g (rI0 fun i j => .bl (f i j)) (pIB f) := fun u v w x y Q s bv bw o => by
  unfold pIB at o
  split at o
  · rw [bv.int, bw.int]
    exact ⟨_, _, rfl, rfl, o.pure s (.bl _)⟩
  · exact o.elim
theorem pIB_bl {f : Int → Int → Bool} (v w : Val) (s : Sto) (x : Val) (fr : Bool) (s' : Sto) (h : pIB f v w s = .ok (x, fr) s') : ∃ k, x = .bl k := by
  unfold pIB at h
  split at h
  · cases h; exact ⟨_, rfl⟩
  · cases h
abbrev pSub : P2 := pI0 fun i j => i - j
abbrev pDiv : P2 := pI (fun i j => decide (0 < j) && decide (j < 1073741824)) fun i j => i / j
abbrev pMod : P2 := pI (fun i j => decide (0 < j)) fun i j => i % j
abbrev pPow : P2 := pI (fun i j => decide (0 ≤ j) && decide (j ≤ 1000000) && decide (i.natAbs < 2 ^ 64)) fun i j => i ^ j.toNat
abbrev pLt : P2 := pIB fun i j => decide (i < j)
abbrev pLe : P2 := pIB fun i j => decide (i ≤ j)
abbrev pGt : P2 := pIB fun i j => decide (j < i)
abbrev pGe : P2 := pIB fun i j => decide (j ≤ i)
theorem pDiv_ok {g : G} : S2 g (rI CDiv fun i j => .int (i / j)) pDiv := pI_ok fun i j h => by
  simp only [Bool.and_eq_true, decide_eq_true_eq] at h
  exact h
theorem pMod_ok {g : G} : S2 g (rI (fun _ j => 0 < j) fun i j => .int (i % j)) pMod := pI_ok fun i j h => of_decide_eq_true h
theorem pPow_ok {g : G} : S2 g (rI CPow fun i j => .int (i ^ j.toNat)) pPow := pI_ok fun i j h => by
  simp only [Bool.and_eq_true, decide_eq_true_eq] at h
  exact ⟨h.1.1, h.1.2, h.2⟩
def pNeg : P1 := fun v st => match v with
  | .int i => .ok (.int (-i), false) st
  | _ => .bad
theorem pNeg_nx : NoX1 pNeg := fun v s e s' h => by
  unfold pNeg at h
  repeat' (split at h)
  all_goals cases h
theorem pNeg_ok {g : G} : S1 g (rU fun i => .int (-i)) pNeg := fun u v x Q s bv o => by
  unfold pNeg at o
  split at o
  · rw [bv.int]
    exact ⟨_, rfl, o.pure s (.int _)⟩
  · exact o.elim
/-! ### times -/
def smallI (i : Int) : Bool := Nat.ble i.natAbs 18446744073709551615
theorem two64 : (2 : Int) ^ 64 = 18446744073709551616 := by decide
theorem smallI_iff {i : Int} (h : smallI i = true) : -(2 ^ 64) < i ∧ i < 2 ^ 64 := by
  have := Nat.le_of_ble_eq_true h
  rw [two64]
  omega
def repT (n : Nat) (s : Txt) : Txt := (List.replicate n s).flatten
def pMul : P2 := fun v w st => match v, w with
  | .int i, .int j => if (smallI i || smallI j) = true then .ok (.int (i * j), false) st else .bad
  | .str s, .int k => if (sizeOk (s.length * k.toNat) && (smallI k && sizeOk k.natAbs)) = true then .ok (.str (repT k.toNat s), false) st else .bad
  | v, .int k => match exL v st with
    | some vs => if (sizeOk (vs.length * k.toNat) && sizeOk k.natAbs) = true then .ok (.lst (List.replicate k.toNat vs).flatten, true) st else .bad
    | none => .bad
  | _, _ => .bad
theorem pMul_nx : NoX2 pMul := fun v w s e s' h => by
  unfold pMul at h
  repeat' (split at h)
  all_goals cases h
theorem foldl_cat (s : Txt) : ∀ (n : Nat) (acc : List Nat), List.foldl (fun x1 x2 => x1 ++ x2) acc.toArray (List.replicate n s.toArray) = (acc ++ repT n s).toArray
  | 0, acc => by simp [repT]
  | n + 1, acc => by
    rw [List.replicate_succ, List.foldl_cons]
    have e : acc.toArray ++ s.toArray = (acc ++ s).toArray := by simp
    rw [e, foldl_cat s n (acc ++ s)]
    simp [repT, List.replicate_succ]
theorem tooLong_small {n : Nat} (h : n ≤ 1000000) : Builtin.Str.tooLong n = false := by
  have hs : sizeLine = 16777216 := sizeLine_eq
  unfold Builtin.Str.tooLong
  refine decide_eq_false ?_
  omega
def rMulS : R2 := fun x y H Q => ∃ (s : Txt) (k : Int), x = .str (sv s) ∧ y = .int k ∧ s.length * k.toNat ≤ 1000000 ∧ k.natAbs ≤ 1000000 ∧ Q (.str (sv (repT k.toNat s))) H
theorem op_mulS {X : Cx} : OpR X (binaryOp .Mult) rMulS := by
  intro pins s σ H x y v u Q I rx ry h
  obtain ⟨z, k, rfl, rfl, h1, h2, q⟩ := h
  obtain ⟨t, rfl⟩ := rx
  obtain ⟨t', rfl⟩ := ry
  have two : (2 : Int) ^ 63 = 9223372036854775808 := by decide
  have hs : sizeLine = 16777216 := sizeLine_eq
  refine PySem.P.mul_str ?_ (fun a b => ?_) (fun a b => ?_) ?_
  · rw [two, Bool.or_eq_false_iff]
    exact ⟨decide_eq_false (by omega), decide_eq_false (by omega)⟩
  · rw [two]
    have hk : 0 < k := by omega
    have h3 : (z.length : Int) * k ≤ 1000000 := by
      have : ((z.length * k.toNat : Nat) : Int) ≤ ((1000000 : Nat) : Int) := Int.ofNat_le.mpr h1
      rw [Int.natCast_mul, Int.toNat_of_nonneg (by omega)] at this
      exact this
    have e : (sv z).length = z.length := sv_len z
    rw [e]
    have h4 : (9223372036854775808 - 1) / k ≥ (z.length : Int) := by
      apply Int.le_ediv_of_mul_le hk
      omega
    omega
  · rw [sv_len]
    exact tooLong_small (by omega)
  · split
    · have e : k.toNat = 0 := by omega
      rw [e] at q
      exact ⟨by decide, .str (sv []), H, I.tok _, ⟨_, rfl⟩, q⟩
    · split
      · rename_i h3
        have e : repT k.toNat z = z := by
          simp only [Bool.or_eq_true, beq_iff_eq] at h3
          rcases h3 with e | e
          · rw [e]; simp [repT]
          · rw [sv_len] at e
            have : z = [] := List.length_eq_zero_iff.mp e
            subst this
            simp [repT]
        rw [e] at q
        exact ⟨.str (sv z), H, I, ⟨_, rfl⟩, q⟩
      · have e := foldl_cat z k.toNat []
        rw [List.nil_append] at e
        have e2 : (⟨List.foldl (fun x1 x2 => x1 ++ x2) #[] (List.replicate k.toNat (sv z).cps)⟩ : Str) = sv (repT k.toNat z) := congrArg Str.mk e
        rw [e2]
        refine ⟨?_, .str (sv (repT k.toNat z)), H, I.tok _, ⟨_, rfl⟩, q⟩
        rw [sv_len, hs]
        have : (repT k.toNat z).length = z.length * k.toNat := by simp [repT, Nat.mul_comm]
        omega
def rMul (K : PySem.W.Frag) : R2 := fun x y H Q => rI CMul (fun i j => .int (i * j)) x y H Q ∨ rMulS x y H Q ∨ rRep x y H Q
theorem op_rMul {X : Cx} {K : PySem.W.Frag} : OpR X (binaryOp .Mult) (rMul K) := op_mul.or (op_mulS.or op_rep)
theorem VRs.rep {g : G} {u : Wd} {vs : List Val} {xs : List V} (r : VRs g u vs xs) : ∀ n : Nat, VRs g u (List.replicate n vs).flatten (List.replicate n xs).flatten
  | 0 => .nil
  | n + 1 => by
    rw [List.replicate_succ, List.replicate_succ, List.flatten_cons, List.flatten_cons]
    exact r.append (VRs.rep r n)
theorem pMul_ok {g : G} : S2 g (rMul g.K) pMul := fun u v w x y Q s bv bw o => by
  unfold pMul at o
  have two : (2 : Int) ^ 63 = 9223372036854775808 := by decide
  split at o
  · rw [bv.int, bw.int]
    split at o
    · rename_i h
      refine .inl ⟨_, _, rfl, rfl, ?_, o.pure s (.int _)⟩
      rw [Bool.or_eq_true] at h
      exact h.imp smallI_iff smallI_iff
    · exact o.elim
  · rw [bv.str, bw.int]
    split at o
    · rename_i h
      simp only [Bool.and_eq_true] at h
      have h1 := of_decide_eq_true h.1
      have h2 := of_decide_eq_true h.2.2
      exact .inr (.inl ⟨_, _, rfl, rfl, h1, h2, o.pure s (.str _)⟩)
    · exact o.elim
  · rename_i k _ _
    rw [bw.int]
    cases e : exL v u.st with
    | none => simp only [e] at o; exact o.elim
    | some vs =>
      simp only [e] at o
      obtain ⟨p, xs, rfl, h1, r1⟩ := exL_ok s bv e
      split at o
      · rename_i h
        simp only [Bool.and_eq_true] at h
        have h1' := of_decide_eq_true h.1
        have h2 := of_decide_eq_true h.2
        have hs : sizeLine = 16777216 := sizeLine_eq
        exact .inr (.inr ⟨p, k, xs, rfl, rfl, h1, by rw [two]; omega, by rw [two]; omega, by rw [← r1.length]; omega, fun t ht => o.lst s ht (r1.rep _)⟩)
      · exact o.elim
  · exact o.elim
/-! ### len -/
def pLen : P1 := fun v st => match v with
  | .str s => if sizeOk s.length = true then .ok (.int (s.length : Nat), false) st else .bad
  | v => match rdSq v st with
    | some vs => .ok (.int (vs.length : Nat), false) st
    | none => .bad
theorem pLen_nx : NoX1 pLen := fun v s e s' h => by
  unfold pLen at h
  repeat' (split at h)
  all_goals cases h
def rLen (K : PySem.W.Frag) : V → Hp → VK → Prop := fun x H Q => ∃ n, LenV K x H n ∧ Q (.int n) H
theorem pLen_ok {g : G} : S1 g (rLen g.K) pLen := fun u v x Q s bv o => by
  unfold pLen at o
  split at o
  · rw [bv.str]
    split at o
    · rename_i h
      refine ⟨_, ⟨?_, ?_⟩, o.pure s (.int _)⟩
      · rw [sv_len]; exact sizeOk_line h
      · rw [sv_len]
    · exact o.elim
  · cases e : rdSq v u.st with
    | none => simp only [e] at o; exact o.elim
    | some vs =>
      simp only [e] at o
      obtain ⟨a, xs, rfl, q, r⟩ := rdSq_ok s bv e
      refine ⟨(vs.length : Nat), ?_, o.pure s (.int _)⟩
      rcases q with q | q
      · exact .inl ⟨xs, q, by rw [r.length]⟩
      · exact .inr ⟨xs, q, by rw [r.length]⟩
end Py

namespace Py
open PySem PySem.Spec PyProof.Rows L2

/-! ### equality -/
theorem sv_inj {a b : Txt} (h : sv a = sv b) : a = b := by
  unfold sv at h
  injection h with h
  exact List.toArray_inj h
/-- the scalars that == tells apart -/
def eqS : Val → Val → Option Bool
  | .non, .non => some true
  | .non, .int _ => some false | .int _, .non => some false | .non, .bl _ => some false | .bl _, .non => some false | .non, .str _ => some false | .str _, .non => some false
  | .int i, .int j => some (decide (i = j)) | .bl i, .bl j => some (decide (i = j)) | .str i, .str j => some (decide (i = j))
  | .int _, .str _ => some false | .str _, .int _ => some false | .bl _, .str _ => some false | .str _, .bl _ => some false
  | _, _ => none
mutual
def dat : Val → Option PyData
  | .non => some .none
  | .bl b => some (.bool b)
  | .int i => some (.int i)
  | .str s => some (.str (sv s))
  | .tup vs => (dats vs).map .tuple
  | .lst vs => (dats vs).map .list
  | .scr vs => (dats vs).map .list
  | _ => none
def dats : List Val → Option (List PyData)
  | [] => some []
  | v :: vs => match dat v, dats vs with
    | some d, some ds => some (d :: ds)
    | _, _ => none
end
def der (st : Sto) : Val → Val
  | .ref n => match st[n]? with
    | some (.lst vs) => .lst vs
    | _ => .ref n
  | v => v
def eqP (v w : Val) (st : Sto) : Option Bool := match eqS v w with
  | some b => some b
  | none => match dat (der st v), dat (der st w) with
    | some d, some e => if (SeqAt.shaped d && SeqAt.shaped e) = true then some (PyData.eqv d e) else none
    | _, _ => none
def pEq : P2 := fun v w st => match eqP v w st with
  | some b => .ok (.bl b, false) st
  | none => .bad
def pNe : P2 := fun v w st => match eqP v w st with
  | some b => .ok (.bl (!b), false) st
  | none => .bad
theorem pEq_nx : NoX2 pEq := fun v w s e s' h => by
  unfold pEq at h
  repeat' (split at h)
  all_goals cases h
theorem pNe_nx : NoX2 pNe := fun v w s e s' h => by
  unfold pNe at h
  repeat' (split at h)
  all_goals cases h
theorem pEq_bl (v w : Val) (s : Sto) (x : Val) (fr : Bool) (s' : Sto) (h : pEq v w s = .ok (x, fr) s') : ∃ k, x = .bl k := by
  unfold pEq at h
  split at h
  · cases h; exact ⟨_, rfl⟩
  · cases h
theorem pNe_bl (v w : Val) (s : Sto) (x : Val) (fr : Bool) (s' : Sto) (h : pNe v w s = .ok (x, fr) s') : ∃ k, x = .bl k := by
  unfold pNe at h
  split at h
  · cases h; exact ⟨_, rfl⟩
  · cases h
section
variable {g : G} {u : Wd}
mutual
theorem dat_ok : ∀ {v : Val} {x : V} {d : PyData}, VR g u v x → dat v = some d → Dp g.K u.H x d
  | _, _, _, .non, h => by rw [dat] at h; cases h; exact .non
  | _, _, _, .bl b, h => by rw [dat] at h; cases h; exact .bl b
  | _, _, _, .int i, h => by rw [dat] at h; cases h; exact .int i
  | _, _, _, .str s, h => by rw [dat] at h; cases h; exact .str _
  | .tup vs, _, _, .tup f r, h => by
    rw [dat] at h
    cases e : dats vs with
    | none => rw [e] at h; cases h
    | some ds => rw [e] at h; cases h; exact .tup f.T (dats_ok r e)
  | .tup vs, _, _, .tupK f r, h => by
    rw [dat] at h
    cases e : dats vs with
    | none => rw [e] at h; cases h
    | some ds => rw [e] at h; cases h; exact .tup (f u.H) (dats_ok r e)
  | .lst vs, _, _, .lst f q r, h => by
    rw [dat] at h
    cases e : dats vs with
    | none => rw [e] at h; cases h
    | some ds => rw [e] at h; cases h; exact .lst (SqL.of q) (dats_ok r e)
  | .scr vs, _, _, .scr f r, h => by
    rw [dat] at h
    cases e : dats vs with
    | none => rw [e] at h; cases h
    | some ds => rw [e] at h; cases h; exact .lst (f.elim (fun z => z.L) (fun z => z u.H)) (dats_ok r e)
  | _, _, _, .dic _ _ _, h => by rw [dat] at h <;> first | cases h | simp
  | _, _, _, .obj _ _ _ _, h => by rw [dat] at h <;> first | cases h | simp
  | _, _, _, .ref _, h => by rw [dat] at h <;> first | cases h | simp
  | _, _, _, .exc0 _ _ _, h => by rw [dat] at h <;> first | cases h | simp
  | _, _, _, .exc1 _ _ _ _ _ _, h => by rw [dat] at h <;> first | cases h | simp
theorem dats_ok : ∀ {vs : List Val} {xs : List V} {ds : List PyData}, VRs g u vs xs → dats vs = some ds → DpAll g.K u.H xs ds
  | _, _, _, .nil, h => by rw [dats] at h; cases h; exact .nil
  | v :: vs, _, _, .cons r t, h => by
    rw [dats] at h
    cases e1 : dat v with
    | none => rw [e1] at h; cases h
    | some d =>
      cases e2 : dats vs with
      | none => rw [e1, e2] at h; cases h
      | some ds =>
        rw [e1, e2] at h
        cases h
        exact .cons (dat_ok r e1) (dats_ok t e2)
end
theorem datD_ok (s : SRel g u) {v : Val} {x : V} {d : PyData} (h : BW g u v x) (e : dat (der u.st v) = some d) : Dp g.K u.H x d := by
  have lst : ∀ {vs : List Val}, rdL v u.st = some vs → dat (.lst vs) = some d → Dp g.K u.H x d := fun {vs} e1 e => by
    obtain ⟨a, xs, rfl, q, r⟩ := rdL_ok s h e1
    rw [dat] at e
    cases e2 : dats vs with
    | none => rw [e2] at e; cases e
    | some ds => rw [e2] at e; cases e; exact .lst q (dats_ok r e2)
  cases v with
  | ref n =>
    have e' : dat (match u.st[n]? with
      | some (SO.lst vs) => Val.lst vs
      | _ => .ref n) = some d := e
    cases hs : u.st[n]? with
    | none => rw [hs] at e'; simp [dat] at e'
    | some o =>
      rw [hs] at e'
      cases o with
      | lst vs => exact lst (vs := vs) (by show (match u.st[n]? with | some (SO.lst vs) => some vs | _ => none) = some vs; rw [hs]) e'
      | obj c fs => simp [dat] at e'
      | dead => simp [dat] at e'
  | lst vs => exact lst (vs := vs) rfl e
  | scr vs => exact lst (vs := vs) rfl (by have e' : dat (.scr vs) = some d := e; rw [dat] at e'; rw [dat]; exact e')
  | tup vs =>
    obtain ⟨a, xs, rfl, q, r⟩ := h.tup
    have e' : dat (.tup vs) = some d := e
    rw [dat] at e'
    cases e2 : dats vs with
    | none => rw [e2] at e'; cases e'
    | some ds => rw [e2] at e'; cases e'; exact .tup q (dats_ok r e2)
  | dic kvs => have e' : dat (.dic kvs) = some d := e; simp [dat] at e'
  | obj c fs => have e' : dat (.obj c fs) = some d := e; simp [dat] at e'
  | _ =>
    rcases h with h | ⟨_, _, c⟩
    · exact dat_ok h e
    · exact c.elim
theorem eqS_ok {v w : Val} {x y : V} {b : Bool} (hv : BW g u v x) (hw : BW g u w y) (e : eqS v w = some b) : scal x y = true ∧ decide (x = y) = b := by
  unfold eqS at e
  split at e
  all_goals (try (cases e))
  all_goals (first | rw [hv.non] | rw [hv.int] | rw [hv.bl] | rw [hv.str])
  all_goals (first | rw [hw.non] | rw [hw.int] | rw [hw.bl] | rw [hw.str])
  all_goals refine ⟨rfl, ?_⟩
  all_goals first
    | rfl
    | (simp; done)
    | (rw [Bool.eq_iff_iff, decide_eq_true_iff, decide_eq_true_iff]; exact ⟨fun h => sv_inj (V.str.inj h), fun h => by rw [h]⟩)
end
def rEqA (K : PySem.W.Frag) : R2 := fun x y H Q => rEq x y H Q ∨ rEqD K x y H Q
def rNeA (K : PySem.W.Frag) : R2 := fun x y H Q => rNe x y H Q ∨ rNeD K x y H Q
theorem op_eqA {X : Cx} (hu : X.A.units + 64 < cLine) : OpR X (compareOp .Eq) (rEqA X.K) := op_eq.or (op_eqD hu)
theorem op_neA {X : Cx} (hu : X.A.units + 64 < cLine) : OpR X (compareOp .NotEq) (rNeA X.K) := op_ne.or (op_neD hu)
theorem eqP_ok {g : G} {u : Wd} {v w : Val} {x y : V} {b : Bool} (s : SRel g u) (hv : BW g u v x) (hw : BW g u w y) (e : eqP v w u.st = some b) :
    (scal x y = true ∧ decide (x = y) = b) ∨ ∃ d e, Dp g.K u.H x d ∧ Dp g.K u.H y e ∧ SeqAt.shaped d = true ∧ SeqAt.shaped e = true ∧ PyData.eqv d e = b := by
  unfold eqP at e
  split at e
  · rename_i b' h
    cases e
    exact .inl (eqS_ok hv hw h)
  · split at e
    · rename_i d e' h1 h2
      split at e
      · rename_i h3
        cases e
        rw [Bool.and_eq_true] at h3
        exact .inr ⟨d, e', datD_ok s hv h1, datD_ok s hw h2, h3.1, h3.2, rfl⟩
      · cases e
    · cases e
theorem pEq_ok {g : G} : S2 g (rEqA g.K) pEq := fun u v w x y Q s bv bw o => by
  unfold pEq at o
  split at o
  · rename_i b h
    rcases eqP_ok s bv bw h with ⟨h1, h2⟩ | ⟨d, e, h1, h2, h3, h4, h5⟩
    · exact .inl ⟨h1, by rw [h2]; exact o.pure s (.bl _)⟩
    · exact .inr ⟨d, e, h1, h2, h3, h4, by rw [h5]; exact o.pure s (.bl _)⟩
  · exact o.elim
theorem pNe_ok {g : G} : S2 g (rNeA g.K) pNe := fun u v w x y Q s bv bw o => by
  unfold pNe at o
  split at o
  · rename_i b h
    rcases eqP_ok s bv bw h with ⟨h1, h2⟩ | ⟨d, e, h1, h2, h3, h4, h5⟩
    · exact .inl ⟨h1, by rw [h2]; exact o.pure s (.bl _)⟩
    · exact .inr ⟨d, e, h1, h2, h3, h4, by rw [h5]; exact o.pure s (.bl _)⟩
  · exact o.elim
/-! ### in, not in -/
def flatW : Val → Bool
  | .non => true | .bl _ => true | .int _ => true | .str _ => true | _ => false
def eqF : Val → Val → Bool
  | .non, .non => true
  | .bl a, .bl b => a == b
  | .bl a, .int b => (if a then 1 else 0) == b
  | .int a, .bl b => a == (if b then 1 else 0)
  | .int a, .int b => a == b
  | .str a, .str b => a == b
  | _, _ => false
def inP (v w : Val) (st : Sto) : Option Bool := match w with
  | .str t => (match v with
    | .str [c] => some (decide (c ∈ t))
    | _ => none)
  | w => match rdSq w st with
    | some vs => if (flatW v && vs.all flatW) = true then some (vs.any fun z => eqF z v) else (match w, dat (der st v), dat (der st w) with
      | .tup _, _, _ => none
      | _, some d, some (.list ds) => if (SeqAt.shaped d && SeqAt.shaped (.list ds)) = true then some (ds.any fun z => PyData.eqv z d) else none
      | _, _, _ => none)
    | none => none
def pIn : P2 := fun v w st => match inP v w st with
  | some b => .ok (.bl b, false) st
  | none => .bad
def pNi : P2 := fun v w st => match inP v w st with
  | some b => .ok (.bl (!b), false) st
  | none => .bad
theorem pIn_nx : NoX2 pIn := fun v w s e s' h => by
  unfold pIn at h
  repeat' (split at h)
  all_goals cases h
theorem pNi_nx : NoX2 pNi := fun v w s e s' h => by
  unfold pNi at h
  repeat' (split at h)
  all_goals cases h
theorem pIn_bl (v w : Val) (s : Sto) (x : Val) (fr : Bool) (s' : Sto) (h : pIn v w s = .ok (x, fr) s') : ∃ k, x = .bl k := by
  unfold pIn at h
  split at h
  · cases h; exact ⟨_, rfl⟩
  · cases h
theorem pNi_bl (v w : Val) (s : Sto) (x : Val) (fr : Bool) (s' : Sto) (h : pNi v w s = .ok (x, fr) s') : ∃ k, x = .bl k := by
  unfold pNi at h
  split at h
  · cases h; exact ⟨_, rfl⟩
  · cases h
section
variable {g : G} {u : Wd}
theorem flatW_ok {v : Val} {x : V} (r : VR g u v x) (h : flatW v = true) : flatV x = true := by
  cases r <;> first | rfl | exact absurd (show false = true from h) Bool.false_ne_true
theorem eqF_ok {v w : Val} {x y : V} (r : VR g u v x) (q : VR g u w y) (h : flatW v = true) (h' : flatW w = true) : eqV x y = eqF v w := by
  cases r <;> first | exact absurd (show false = true from h) Bool.false_ne_true | skip
  all_goals (cases q <;> first | exact absurd (show false = true from h') Bool.false_ne_true | skip)
  all_goals first
    | rfl
    | (show (sv _ == sv _) = (_ == _)
       rw [Bool.eq_iff_iff, beq_iff_eq, beq_iff_eq]
       exact ⟨fun h => sv_inj h, fun h => by rw [h]⟩)
theorem flats_ok : ∀ {vs : List Val} {xs : List V}, VRs g u vs xs → vs.all flatW = true → xs.all flatV = true
  | _, _, .nil, _ => rfl
  | _, _, .cons r t, h => by
    simp only [List.all_cons, Bool.and_eq_true] at h ⊢
    exact ⟨flatW_ok r h.1, flats_ok t h.2⟩
theorem inV_ok {w : Val} {y : V} (q : VR g u w y) (hw : flatW w = true) : ∀ {vs : List Val} {xs : List V}, VRs g u vs xs → vs.all flatW = true → (xs.any fun z => eqV z y) = vs.any fun z => eqF z w
  | _, _, .nil, _ => rfl
  | _, _, .cons r t, h => by
    simp only [List.all_cons, Bool.and_eq_true] at h
    simp only [List.any_cons]
    rw [eqF_ok r q h.1 hw, inV_ok q hw t h.2]
theorem BW.flat {v : Val} {x : V} (h : BW g u v x) (f : flatW v = true) : VR g u v x := by
  rcases h with h | ⟨a, e, c⟩
  · exact h
  · cases v <;> first | exact c.elim | exact absurd (show false = true from f) Bool.false_ne_true
theorem inP_ok {v w : Val} {x y : V} {b : Bool} (s : SRel g u) (hv : BW g u v x) (hw : BW g u w y) (e : inP v w u.st = some b) :
    (∃ (c : Nat) (z : Str), x = .str ⟨#[c]⟩ ∧ y = .str z ∧ decide (c ∈ z.cps.toList) = b) ∨
    (∃ p xs, y = .ref p ∧ (SqL g.K u.H p xs ∨ SqT g.K u.H p xs) ∧ flatV x = true ∧ xs.all flatV = true ∧ inV x xs = b) ∨
    (∃ d ds, Dp g.K u.H x d ∧ Dp g.K u.H y (.list ds) ∧ SeqAt.shaped d = true ∧ SeqAt.shaped (.list ds) = true ∧ (ds.any fun z => PyData.eqv z d) = b) := by
  unfold inP at e
  split at e
  · rename_i t
    split at e
    · rename_i c
      cases e
      exact .inl ⟨c, sv t, hv.str, hw.str, rfl⟩
    · cases e
  · rename_i hns
    cases e1 : rdSq w u.st with
    | none => rw [e1] at e; cases e
    | some vs =>
      rw [e1] at e
      simp only at e
      split at e
      · rename_i h3
        rw [Bool.and_eq_true] at h3
        cases e
        obtain ⟨a, xs, rfl, q, r⟩ := rdSq_ok s hw e1
        have rv := hv.flat h3.1
        exact .inr (.inl ⟨a, xs, rfl, q, flatW_ok rv h3.1, flats_ok r h3.2, inV_ok rv h3.1 r h3.2⟩)
      · split at e
        · cases e
        · rename_i d ds _ h1 h2
          split at e
          · rename_i h3
            rw [Bool.and_eq_true] at h3
            cases e
            exact .inr (.inr ⟨d, ds, datD_ok s hv h1, datD_ok s hw h2, h3.1, h3.2, rfl⟩)
          · cases e
        · cases e
end
def rInA (K : PySem.W.Frag) : R2 := fun x y H Q => (∃ (c : Nat) (z : Str), x = .str ⟨#[c]⟩ ∧ y = .str z ∧ Q (.bl (decide (c ∈ z.cps.toList))) H) ∨ rIn K false x y H Q ∨ rInD K x y H Q
def rNiA (K : PySem.W.Frag) : R2 := fun x y H Q => (∃ (c : Nat) (z : Str), x = .str ⟨#[c]⟩ ∧ y = .str z ∧ Q (.bl (!decide (c ∈ z.cps.toList))) H) ∨ rIn K true x y H Q ∨ rNotInD K x y H Q
theorem op_inA {X : Cx} (hu : X.A.units + 65 < cLine) : OpR X (compareOp .In) (rInA X.K) := op_in_sign.or (op_in_seq.or (op_inD hu))
theorem op_niA {X : Cx} (hu : X.A.units + 65 < cLine) : OpR X (compareOp .NotIn) (rNiA X.K) := op_notIn_sign.or (op_notIn_seq.or (op_notInD hu))
theorem pIn_ok {g : G} : S2 g (rInA g.K) pIn := fun u v w x y Q s bv bw o => by
  unfold pIn at o
  split at o
  · rename_i b h
    rcases inP_ok s bv bw h with ⟨c, z, h1, h2, h3⟩ | ⟨p, xs, h1, h2, h3, h4, h5⟩ | ⟨d, ds, h1, h2, h3, h4, h5⟩
    · exact .inl ⟨c, z, h1, h2, by rw [h3]; exact o.pure s (.bl _)⟩
    · exact .inr (.inl ⟨p, xs, h1, h2, h3, h4, by rw [if_neg Bool.false_ne_true, h5]; exact o.pure s (.bl _)⟩)
    · exact .inr (.inr ⟨d, ds, h1, h2, h3, h4, by rw [h5]; exact o.pure s (.bl _)⟩)
  · exact o.elim
theorem pNi_ok {g : G} : S2 g (rNiA g.K) pNi := fun u v w x y Q s bv bw o => by
  unfold pNi at o
  split at o
  · rename_i b h
    rcases inP_ok s bv bw h with ⟨c, z, h1, h2, h3⟩ | ⟨p, xs, h1, h2, h3, h4, h5⟩ | ⟨d, ds, h1, h2, h3, h4, h5⟩
    · exact .inl ⟨c, z, h1, h2, by rw [h3]; exact o.pure s (.bl _)⟩
    · exact .inr (.inl ⟨p, xs, h1, h2, h3, h4, by rw [if_pos rfl, h5]; exact o.pure s (.bl _)⟩)
    · exact .inr (.inr ⟨d, ds, h1, h2, h3, h4, by rw [h5]; exact o.pure s (.bl _)⟩)
  · exact o.elim
end Py

namespace Py
open PySem PySem.Spec PyProof.Rows L2

theorem RE.mono {g : G} {W : WX} {A : EX} {σ : L2.St} {H : Hp} {Q Q' : VK} (h : RE g W A σ H Q) (i : ∀ x H, Q x H → Q' x H) : RE g W A σ H Q' := by
  obtain ⟨Z, D, u0, env, u, rfl, k, o⟩ := h
  refine ⟨Z, D, u0, env, u, rfl, k, ?_⟩
  cases hA : A env u.st with
  | bad => rw [hA] at o; exact o
  | ex e s => rw [hA] at o; exact o
  | ok a s1 => rw [hA] at o; exact fun u' x e l k p => i _ _ (o u' x e l k p)
section
variable {g : G} {W : WX} {X : Cx} {A B C1 : EX} {C : AX} {T : TX} {pos : Pos} {kc : Nat}
/-! ### expressions from operations -/
theorem e_bin {op : Operator} {r : R2} {p : P2} {a b : Expr} (ho : OpR X (binaryOp op) r) (hp : S2 g r p) (nx : NoX2 p) (ha : PEb g X W a A) (hb : PEb g X W b B) : PEx g X W (.BinOp a op b pos) (a2 p A B) :=
  PE.imp (pe_op ho ha hb) fun σ H Q q => t2_sound hp nx σ H Q q
theorem e_add (c : Ctl g X W kc) {a b : Expr} (ha : PEb g X W a A) (hb : PEb g X W b B) : PEx g X W (.BinOp a .Add b pos) (a2 pAdd A B) := e_bin (by rw [← c.K]; exact op_rAdd) pAdd_ok pAdd_nx ha hb
theorem e_sub {a b : Expr} (ha : PEb g X W a A) (hb : PEb g X W b B) : PEx g X W (.BinOp a .Sub b pos) (a2 pSub A B) := e_bin op_sub pI0_ok (pI0_nx _) ha hb
theorem e_mul {a b : Expr} (ha : PEb g X W a A) (hb : PEb g X W b B) : PEx g X W (.BinOp a .Mult b pos) (a2 pMul A B) := e_bin (op_rMul (K := g.K)) pMul_ok pMul_nx ha hb
theorem e_div {a b : Expr} (ha : PEb g X W a A) (hb : PEb g X W b B) : PEx g X W (.BinOp a .FloorDiv b pos) (a2 pDiv A B) := e_bin op_fdiv pDiv_ok (pI_nx _ _) ha hb
theorem e_mod {a b : Expr} (ha : PEb g X W a A) (hb : PEb g X W b B) : PEx g X W (.BinOp a .Mod b pos) (a2 pMod A B) := e_bin op_mod pMod_ok (pI_nx _ _) ha hb
theorem e_pow {a b : Expr} (ha : PEb g X W a A) (hb : PEb g X W b B) : PEx g X W (.BinOp a .Pow b pos) (a2 pPow A B) := e_bin op_pow pPow_ok (pI_nx _ _) ha hb
theorem e_neg {a : Expr} (ha : PEb g X W a A) : PEx g X W (.UnaryOp .USub a pos) (a1 pNeg A) := PE.imp (pe_un un_neg ha) fun σ H Q q => t1_sound pNeg_ok pNeg_nx σ H Q q
theorem e_ix (c : Ctl g X W kc) {a b : Expr} (ha : PEb g X W a A) (hb : PEb g X W b B) (hs : PlainIx b := by intro _ _; rfl) : PEx g X W (.Subscript a b pos) (a2 pIx A B) :=
  PE.imp (pe_ix ix_seq ha hb hs) fun σ H Q q => by
    rw [c.K]
    exact t2_sound pIx_ok pIx_nx σ H Q q
/-! ### comparisons -/
theorem e_cmp {op : CmpOp} {r : R2} {p : P2} {a b : Expr} (ho : OpR X (compareOp op) r) (hp : S2 g r p) (nx : NoX2 p) (ha : PEb g X W a A) (hb : PEb g X W b B) (hm : behindInMarks op b = false) : PEx g X W (.Compare a [op] [b] pos) (a2 p A B) :=
  PE.imp (pe_cmpR ho ha hb hm) fun σ H Q q => t2_sound hp nx σ H Q q
theorem o_eq (c : Ctl g X W kc) : OpR X (compareOp .Eq) (rEqA g.K) := by rw [← c.K]; exact op_eqA c.rm.units
theorem o_ne (c : Ctl g X W kc) : OpR X (compareOp .NotEq) (rNeA g.K) := by rw [← c.K]; exact op_neA c.rm.units
theorem units65 {k : Nat} {A : Around} (r : Room k A) : A.units + 65 < cLine := by have := r.un; omega
theorem o_in (c : Ctl g X W kc) : OpR X (compareOp .In) (rInA g.K) := by rw [← c.K]; exact op_inA (units65 c.rm)
theorem o_ni (c : Ctl g X W kc) : OpR X (compareOp .NotIn) (rNiA g.K) := by rw [← c.K]; exact op_niA (units65 c.rm)
theorem e_eq (c : Ctl g X W kc) {a b : Expr} (ha : PEb g X W a A) (hb : PEb g X W b B) : PEx g X W (.Compare a [.Eq] [b] pos) (a2 pEq A B) := e_cmp (o_eq c) pEq_ok pEq_nx ha hb (nomark _)
theorem p_eq (c : Ctl g X W kc) {a b : Expr} (ha : PEb g X W a A) (hb : PEb g X W b B) : PTx g X W (.Compare a [.Eq] [b] pos) (tV (a2 pEq A B)) := p_cmp (o_eq c) pEq_ok pEq_nx ha hb (nomark _) pEq_bl
theorem e_ne (c : Ctl g X W kc) {a b : Expr} (ha : PEb g X W a A) (hb : PEb g X W b B) : PEx g X W (.Compare a [.NotEq] [b] pos) (a2 pNe A B) := e_cmp (o_ne c) pNe_ok pNe_nx ha hb (nomark _)
theorem p_ne (c : Ctl g X W kc) {a b : Expr} (ha : PEb g X W a A) (hb : PEb g X W b B) : PTx g X W (.Compare a [.NotEq] [b] pos) (tV (a2 pNe A B)) := p_cmp (o_ne c) pNe_ok pNe_nx ha hb (nomark _) pNe_bl
theorem e_in (c : Ctl g X W kc) {a b : Expr} (ha : PEb g X W a A) (hb : PEb g X W b B) (hm : behindInMarks .In b = false := by with_unfolding_all rfl) : PEx g X W (.Compare a [.In] [b] pos) (a2 pIn A B) := e_cmp (o_in c) pIn_ok pIn_nx ha hb hm
theorem p_in (c : Ctl g X W kc) {a b : Expr} (ha : PEb g X W a A) (hb : PEb g X W b B) (hm : behindInMarks .In b = false := by with_unfolding_all rfl) : PTx g X W (.Compare a [.In] [b] pos) (tV (a2 pIn A B)) := p_cmp (o_in c) pIn_ok pIn_nx ha hb hm pIn_bl
theorem e_ni (c : Ctl g X W kc) {a b : Expr} (ha : PEb g X W a A) (hb : PEb g X W b B) (hm : behindInMarks .NotIn b = false := by with_unfolding_all rfl) : PEx g X W (.Compare a [.NotIn] [b] pos) (a2 pNi A B) := e_cmp (o_ni c) pNi_ok pNi_nx ha hb hm
theorem p_ni (c : Ctl g X W kc) {a b : Expr} (ha : PEb g X W a A) (hb : PEb g X W b B) (hm : behindInMarks .NotIn b = false := by with_unfolding_all rfl) : PTx g X W (.Compare a [.NotIn] [b] pos) (tV (a2 pNi A B)) := p_cmp (o_ni c) pNi_ok pNi_nx ha hb hm pNi_bl
theorem e_lt {a b : Expr} (ha : PEb g X W a A) (hb : PEb g X W b B) : PEx g X W (.Compare a [.Lt] [b] pos) (a2 pLt A B) := e_cmp op_lt pIB_ok (pIB_nx _) ha hb (nomark _)
theorem p_lt {a b : Expr} (ha : PEb g X W a A) (hb : PEb g X W b B) : PTx g X W (.Compare a [.Lt] [b] pos) (tV (a2 pLt A B)) := p_cmp op_lt pIB_ok (pIB_nx _) ha hb (nomark _) pIB_bl
theorem e_le {a b : Expr} (ha : PEb g X W a A) (hb : PEb g X W b B) : PEx g X W (.Compare a [.LtE] [b] pos) (a2 pLe A B) := e_cmp op_le pIB_ok (pIB_nx _) ha hb (nomark _)
theorem p_le {a b : Expr} (ha : PEb g X W a A) (hb : PEb g X W b B) : PTx g X W (.Compare a [.LtE] [b] pos) (tV (a2 pLe A B)) := p_cmp op_le pIB_ok (pIB_nx _) ha hb (nomark _) pIB_bl
theorem e_gt {a b : Expr} (ha : PEb g X W a A) (hb : PEb g X W b B) : PEx g X W (.Compare a [.Gt] [b] pos) (a2 pGt A B) := e_cmp op_gt pIB_ok (pIB_nx _) ha hb (nomark _)
theorem p_gt {a b : Expr} (ha : PEb g X W a A) (hb : PEb g X W b B) : PTx g X W (.Compare a [.Gt] [b] pos) (tV (a2 pGt A B)) := p_cmp op_gt pIB_ok (pIB_nx _) ha hb (nomark _) pIB_bl
theorem e_ge {a b : Expr} (ha : PEb g X W a A) (hb : PEb g X W b B) : PEx g X W (.Compare a [.GtE] [b] pos) (a2 pGe A B) := e_cmp op_ge pIB_ok (pIB_nx _) ha hb (nomark _)
theorem p_ge {a b : Expr} (ha : PEb g X W a A) (hb : PEb g X W b B) : PTx g X W (.Compare a [.GtE] [b] pos) (tV (a2 pGe A B)) := p_cmp op_ge pIB_ok (pIB_nx _) ha hb (nomark _) pIB_bl
/-! ### is None -/
def isN : Val → Bool
  | .non => true
  | _ => false
def pIsN : P2 := fun v w st => match w with
  | .non => .ok (.bl (isN v), false) st
  | _ => .bad
def pNtN : P2 := fun v w st => match w with
  | .non => .ok (.bl (!isN v), false) st
  | _ => .bad
theorem pIsN_nx : NoX2 pIsN := fun v w s e s' h => by
  unfold pIsN at h
  split at h <;> cases h
theorem pNtN_nx : NoX2 pNtN := fun v w s e s' h => by
  unfold pNtN at h
  split at h <;> cases h
theorem pIsN_bl (v w : Val) (s : Sto) (x : Val) (fr : Bool) (s' : Sto) (h : pIsN v w s = .ok (x, fr) s') : ∃ k, x = .bl k := by
  unfold pIsN at h
  split at h <;> cases h
  exact ⟨_, rfl⟩
theorem pNtN_bl (v w : Val) (s : Sto) (x : Val) (fr : Bool) (s' : Sto) (h : pNtN v w s = .ok (x, fr) s') : ∃ k, x = .bl k := by
  unfold pNtN at h
  split at h <;> cases h
  exact ⟨_, rfl⟩
theorem isN_ok {u : Wd} {v : Val} {x : V} (h : BW g u v x) : decide (x = .non) = isN v := by
  rcases h with h | ⟨a, rfl, c⟩
  · cases h <;> rfl
  · cases v <;> first | exact c.elim | rfl
theorem pIsN_ok : S2 g (fun x y H Q => y = .non ∧ Q (.bl (decide (x = .non))) H) pIsN := fun u v w x y Q s bv bw o => by
  unfold pIsN at o
  split at o
  · exact ⟨bw.non, by rw [isN_ok bv]; exact o.pure s (.bl _)⟩
  · exact o.elim
theorem pNtN_ok : S2 g (fun x y H Q => y = .non ∧ Q (.bl (!decide (x = .non))) H) pNtN := fun u v w x y Q s bv bw o => by
  unfold pNtN at o
  split at o
  · exact ⟨bw.non, by rw [isN_ok bv]; exact o.pure s (.bl _)⟩
  · exact o.elim
theorem e_isn {a b : Expr} (ha : PEb g X W a A) (hb : PEb g X W b B) : PEx g X W (.Compare a [.Is] [b] pos) (a2 pIsN A B) := e_cmp op_isN pIsN_ok pIsN_nx ha hb (nomark _)
theorem p_isn {a b : Expr} (ha : PEb g X W a A) (hb : PEb g X W b B) : PTx g X W (.Compare a [.Is] [b] pos) (tV (a2 pIsN A B)) := p_cmp op_isN pIsN_ok pIsN_nx ha hb (nomark _) pIsN_bl
theorem e_ntn {a b : Expr} (ha : PEb g X W a A) (hb : PEb g X W b B) : PEx g X W (.Compare a [.IsNot] [b] pos) (a2 pNtN A B) := e_cmp op_notN pNtN_ok pNtN_nx ha hb (nomark _)
theorem p_ntn {a b : Expr} (ha : PEb g X W a A) (hb : PEb g X W b B) : PTx g X W (.Compare a [.IsNot] [b] pos) (tV (a2 pNtN A B)) := p_cmp op_notN pNtN_ok pNtN_nx ha hb (nomark _) pNtN_bl
/-! ### a if t else b; and, or of bools -/
def aIf (T : TX) (A B : EX) : EX := fun env st => (T env st).bind fun b s1 => if b = true then A env s1 else B env s1
def asBl (r : R (Val × Bool)) (f : Bool → Sto → R (Val × Bool)) : R (Val × Bool) := r.bind fun a s1 => match a.1 with
  | .bl b => f b s1
  | _ => .bad
def aAnd (A B : EX) : EX := fun env st => asBl (A env st) fun b s1 => if b = true then B env s1 else .ok (.bl false, false) s1
def aOr (A B : EX) : EX := fun env st => asBl (A env st) fun b s1 => if b = true then .ok (.bl true, false) s1 else B env s1
theorem e_if {t a b : Expr} (ht : PTx g X W t T) (ha : PEx g X W a A) (hb : PEx g X W b B) : PEx g X W (.IfExp t a b pos) (aIf T A B) :=
  PE.imp (pe_ifExp ht ha hb) fun σ H Q h => by
    obtain ⟨Z, D, u0, env, u, rfl, k, o⟩ := h
    refine ⟨Z, D, u0, env, u, rfl, k, ?_⟩
    unfold aIf at o
    cases hA : T env u.st with
    | bad => rw [hA] at o; exact o.elim
    | ex e s => rw [hA] at o; exact o
    | ok b s1 =>
      rw [hA] at o
      intro u1 e1 l1 k1
      subst e1
      have o' : OutE g Z D u0 σ env u W Q (if b = true then A env u1.st else B env u1.st) := o
      cases b with
      | true =>
        rw [if_pos rfl] at o' ⊢
        exact ⟨Z, D, u0, env, u1, rfl, k1, o'.later l1⟩
      | false =>
        rw [if_neg Bool.false_ne_true] at o' ⊢
        exact ⟨Z, D, u0, env, u1, rfl, k1, o'.later l1⟩
/-- a value that is a bool, then more -/
theorem asBl_sound {f : Bool → Env → Sto → R (Val × Bool)} {σ : L2.St} {H : Hp} {Q : VK} (h : RE g W (fun env st => asBl (A env st) fun b s1 => f b env s1) σ H Q) : RE g W A σ H fun x H1 => ∃ c, x = .bl c ∧ RE g W (f c) σ H1 Q := by
  obtain ⟨Z, D, u0, env, u, rfl, k, o⟩ := h
  refine ⟨Z, D, u0, env, u, rfl, k, ?_⟩
  unfold asBl at o
  cases hA : A env u.st with
  | bad => simp only [hA] at o; exact o.elim
  | ex e s => simp only [hA] at o; exact o
  | ok a s1 =>
    obtain ⟨v, fr⟩ := a
    simp only [hA, R.bind_ok] at o
    intro u1 x e1 l1 k1 pv
    subst e1
    cases v with
    | bl b =>
      rcases pv with ⟨_, r⟩ | ⟨_, a, _, c, _⟩
      · cases r
        exact ⟨b, rfl, Z, D, u0, env, u1, rfl, k1, OutE.later l1 o⟩
      · exact c.elim
    | _ => exact o.elim
theorem RE.const {v : Val} {x : V} (hv : ∀ u, VR g u v x) {σ : L2.St} {H : Hp} {Q : VK} (h : RE g W (fun _ st => .ok (v, false) st) σ H Q) : Q x H := by
  obtain ⟨Z, D, u0, env, u, rfl, k, o⟩ := h
  exact o u x rfl (Le.refl _ _) k (.inl ⟨rfl, hv u⟩)
theorem e_and {a b : Expr} {rest : List Expr} (ha : PEx g X W a A) (hb : PEx g X W (.BoolOp .And (b :: rest) pos) B) : PEx g X W (.BoolOp .And (a :: b :: rest) pos) (aAnd A B) :=
  PE.imp (pe_and ha hb) fun σ H Q h => by
    have q := asBl_sound (f := fun b env s1 => if b = true then B env s1 else .ok (.bl false, false) s1) h
    show RE g W A σ H _
    refine RE.mono q fun x H1 => ?_
    rintro ⟨c, rfl, h⟩
    refine ⟨c, rfl, ?_⟩
    cases c with
    | true => rw [if_pos rfl]; exact h
    | false => rw [if_neg Bool.false_ne_true]; exact RE.const (fun _ => .bl false) h
theorem e_or {a b : Expr} {rest : List Expr} (ha : PEx g X W a A) (hb : PEx g X W (.BoolOp .Or (b :: rest) pos) B) : PEx g X W (.BoolOp .Or (a :: b :: rest) pos) (aOr A B) :=
  PE.imp (pe_or ha hb) fun σ H Q h => by
    have q := asBl_sound (f := fun b env s1 => if b = true then .ok (.bl true, false) s1 else B env s1) h
    show RE g W A σ H _
    refine RE.mono q fun x H1 => ?_
    rintro ⟨c, rfl, h⟩
    refine ⟨c, rfl, ?_⟩
    cases c with
    | true => rw [if_pos rfl]; exact RE.const (fun _ => .bl true) h
    | false => rw [if_neg Bool.false_ne_true]; exact h
def aNot (A : EX) : EX := fun env st => asBl (A env st) fun b s1 => .ok (.bl (!b), false) s1
theorem e_not {a : Expr} (ha : PEx g X W a A) : PEx g X W (.UnaryOp .Not a pos) (aNot A) :=
  PE.imp (pe_not ha) fun σ H Q h => by
    have q := asBl_sound (f := fun b env s1 => .ok (.bl (!b), false) s1) h
    show RE g W A σ H _
    refine RE.mono q fun x H1 => ?_
    rintro ⟨c, rfl, h⟩
    exact ⟨c, rfl, RE.const (fun _ => .bl _) h⟩
theorem e_one {op : BoolOp} {a : Expr} (ha : PEx g X W a A) : PEx g X W (.BoolOp op [a] pos) A := pe_one ha
end
end Py

namespace Py
open PySem PySem.Spec PyProof.Rows L2

/-! ### displays -/
def pTupN : PN := fun vs st => if sizeOk vs.length = true then .ok (.tup vs, false) st else .bad
def pLstN : PN := fun vs st => if sizeOk vs.length = true then .ok (.lst vs, true) st else .bad
theorem pTupN_nx : NoXN pTupN := fun vs s e s' h => by
  unfold pTupN at h
  split at h <;> cases h
theorem pLstN_nx : NoXN pLstN := fun vs s e s' h => by
  unfold pLstN at h
  split at h <;> cases h
theorem pTupN_ok {g : G} : SN g (fun xs H Q => xs.length ≤ sizeLine ∧ ∀ p, H p = none → Q (.ref p) (upd H p (.tup xs))) pTupN := fun u vs xs Q s r o => by
  unfold pTupN at o
  split at o
  · rename_i h
    exact ⟨by rw [← r.length]; exact sizeOk_line h, fun p hp => o.tup s hp r⟩
  · exact o.elim
theorem pLstN_ok {g : G} : SN g (fun xs H Q => xs.length ≤ sizeLine ∧ ∀ p, H p = none → Q (.ref p) (upd H p (.lst xs))) pLstN := fun u vs xs Q s r o => by
  unfold pLstN at o
  split at o
  · rename_i h
    exact ⟨by rw [← r.length]; exact sizeOk_line h, fun p hp => o.lst s hp r⟩
  · exact o.elim
section
variable {g : G} {W : WX} {X : Cx} {A B C1 : EX} {C : AX} {T : TX} {pos : Pos} {kc : Nat}
theorem e_tup {es : List Expr} {i : Nat} (h : PAx g X W es C) : PEx g X W (.Tuple es i pos) (aN pTupN C) := PE.imp (pe_tup h) fun σ H Q q => tN_sound pTupN_ok pTupN_nx σ H Q q
theorem e_lst {es : List Expr} (h : PAx g X W es C) : PEx g X W (.List es pos) (aN pLstN C) := PE.imp (pe_lst h) fun σ H Q q => tN_sound pLstN_ok pLstN_nx σ H Q q
end
/-! ### slices -/
abbrev OX := Env → Sto → R (Option Int)
def oN : OX := fun _ st => .ok none st
def oS (A : EX) : OX := fun env st => (A env st).bind fun a s1 => match a.1 with
  | .int i => .ok (some i) s1
  | _ => .bad
def cutL {α : Type} (xs : List α) (lo hi : Option Int) : List α := (xs.drop (HT.sIx xs.length 0 lo)).take (HT.sIx xs.length xs.length hi - HT.sIx xs.length 0 lo)
def pSl (v : Val) (lo hi : Option Int) (st : Sto) : R (Val × Bool) := match v with
  | .str s => if sizeOk s.length = true then .ok (.str (cutL s lo hi), false) st else .bad
  | .tup vs => .ok (.tup (cutL vs lo hi), false) st
  | v => match rdL v st with
    | some vs => .ok (.lst (cutL vs lo hi), true) st
    | none => .bad
def aSl (A : EX) (L U : OX) : EX := fun env st => (A env st).bind fun a s1 => (L env s1).bind fun lo s2 => (U env s2).bind fun hi s3 => pSl a.1 lo hi s3
section
variable (g : G) (Z D : Addr → Prop) (u0 : Wd) (σ : L2.St) (env : Env) (u : Wd) (W : WX)
def OutO (Q : Option Int → Hp → Prop) : R (Option Int) → Prop
  | .ok b st' => ∀ u', u'.st = st' → Le (Pr Z σ env) u u' → Ok g Z D u0 σ env u' → Q b u'.H
  | .ex e st' => OutX g Z D u0 σ env W e st'
  | .bad => False
end
def RO (g : G) (W : WX) (A : OX) : TO := fun σ H Q => ∃ Z D u0 env u, u.H = H ∧ Ok g Z D u0 σ env u ∧ OutO g Z D u0 σ env u W Q (A env u.st)
def POx (g : G) (X : Cx) (W : WX) (e : Option Expr) (A : OX) : Prop := PO X e (RO g W A)
theorem PO.imp {X : Cx} {e : Option Expr} {t t' : TO} (h : PO X e t) (i : ∀ σ H Q, t' σ H Q → t σ H Q) : PO X e t' := ⟨fun pins s σ H Q I q => h.run pins s σ H Q I (i _ _ _ q)⟩
theorem VRs.take {g : G} {u : Wd} : ∀ {vs : List Val} {xs : List V} (n : Nat), VRs g u vs xs → VRs g u (vs.take n) (xs.take n)
  | _, _, 0, _ => .nil
  | _, _, _ + 1, .nil => .nil
  | _, _, n + 1, .cons r t => .cons r (VRs.take n t)
theorem VRs.drop {g : G} {u : Wd} : ∀ {vs : List Val} {xs : List V} (n : Nat), VRs g u vs xs → VRs g u (vs.drop n) (xs.drop n)
  | _, _, 0, r => r
  | _, _, _ + 1, .nil => .nil
  | _, _, n + 1, .cons r t => VRs.drop n t
theorem VRs.cut {g : G} {u : Wd} {vs : List Val} {xs : List V} (r : VRs g u vs xs) (lo hi : Option Int) : VRs g u (cutL vs lo hi) (cutV xs lo hi) := by
  unfold cutL cutV
  rw [r.length]
  exact (r.drop _).take _
theorem sv_cut (s : Txt) (lo hi : Option Int) : cutS (sv s) lo hi = sv (cutL s lo hi) := by
  unfold cutS cutL sv
  simp [Str.length]
def rSl (K : PySem.W.Frag) : V → Option Int → Option Int → Hp → VK → Prop := fun x lo hi H Q => rSlS x lo hi H Q ∨ rSlA K x lo hi H Q ∨ rSlL K x lo hi H Q
theorem pSl_nx (v : Val) (lo hi : Option Int) (s : Sto) (e : Exn) (s' : Sto) : pSl v lo hi s ≠ .ex e s' := fun h => by
  unfold pSl at h
  repeat' (split at h)
  all_goals cases h
theorem pSl_ok {g : G} (u : Wd) (v : Val) (x : V) (lo hi : Option Int) (Q : VK) (s : SRel g u) (bv : BW g u v x) (o : OutP g u Q (pSl v lo hi u.st)) : rSl g.K x lo hi u.H Q := by
  have lst : ∀ {vs : List Val}, rdL v u.st = some vs → OutP g u Q (.ok (.lst (cutL vs lo hi), true) u.st) → rSl g.K x lo hi u.H Q := fun {vs} e o => by
    obtain ⟨a, xs, rfl, q, r⟩ := rdL_ok s bv e
    exact .inr (.inr ⟨a, xs, rfl, q, fun p hp => o.lst s hp (r.cut lo hi)⟩)
  unfold pSl at o
  split at o
  · rename_i t
    rw [bv.str]
    split at o
    · rename_i h
      exact .inl ⟨sv t, rfl, by rw [sv_len]; exact sizeOk_line h, by rw [sv_cut]; exact o.pure s (.str _)⟩
    · exact o.elim
  · rename_i vs
    have bv' := bv
    obtain ⟨a, xs, rfl, q, r⟩ := bv.tup
    refine .inr (.inl ⟨a, xs, rfl, q, fun h => ?_, fun _ p hp => o.tup s hp (r.cut lo hi)⟩)
    have e : cutL vs lo hi = vs := by
      unfold cutL
      rw [r.length, h.1, h.2, List.drop_zero, Nat.sub_zero, ← r.length, List.take_length]
    rw [e] at o
    rcases bv' with z | ⟨_, _, z⟩
    · exact o.pure s z
    · exact z.elim
  · cases e : rdL v u.st with
    | none => simp only [e] at o; exact o.elim
    | some vs => simp only [e] at o; exact lst e o
section
variable {g : G} {W : WX} {X : Cx} {A B C1 : EX} {C : AX} {T : TX} {pos : Pos} {kc : Nat} {L U : OX}
theorem o_none : POx g X W none oN := PO.imp po_none fun σ H Q h => by
  obtain ⟨Z, D, u0, env, u, rfl, k, o⟩ := h
  exact o u rfl (Le.refl _ _) k
theorem o_some {e : Expr} (h : PEx g X W e A) : POx g X W (some e) (oS A) := PO.imp (po_some h) fun σ H Q h => by
  obtain ⟨Z, D, u0, env, u, rfl, k, o⟩ := h
  refine ⟨Z, D, u0, env, u, rfl, k, ?_⟩
  unfold oS at o
  cases hA : A env u.st with
  | bad => rw [hA] at o; exact o.elim
  | ex e s => rw [hA] at o; exact o
  | ok a s1 =>
    obtain ⟨v, fr⟩ := a
    rw [hA] at o
    intro u1 x e1 l1 k1 pv
    subst e1
    cases v with
    | int i =>
      rcases pv with ⟨_, r⟩ | ⟨_, a, _, c, _⟩
      · cases r
        exact ⟨i, rfl, o u1 rfl l1 k1⟩
      · exact c.elim
    | _ => exact o.elim
theorem OutO.later {Z D : Addr → Prop} {u0 u u' : Wd} {σ : L2.St} {env : Env} {Q : Option Int → Hp → Prop} {r : R (Option Int)} (l : Le (Pr Z σ env) u u') (h : OutO g Z D u0 σ env u W Q r) : OutO g Z D u0 σ env u' W Q r := by
  cases r with
  | bad => exact h
  | ex e s => exact h
  | ok p st => exact fun u2 e l2 k2 => h u2 e (l.trans l2) k2
theorem e_sl (c : Ctl g X W kc) {e : Expr} {lo hi : Option Expr} {p2 : Pos} (he : PEb g X W e A) (hl : POx g X W lo L) (hu : POx g X W hi U) : PEx g X W (.Subscript e (.Slice lo hi none p2) pos) (aSl A L U) :=
  PE.imp (pe_slice (SlR.or sl_str (SlR.or sl_tupA sl_list)) he hl hu) fun σ H Q h => by
    obtain ⟨Z, D, u0, env, u, rfl, k, o⟩ := h
    refine ⟨Z, D, u0, env, u, rfl, k, ?_⟩
    unfold aSl at o
    cases hA : A env u.st with
    | bad => rw [hA] at o; exact o.elim
    | ex e s => rw [hA] at o; exact o
    | ok a s1 =>
      obtain ⟨v, fr⟩ := a
      rw [hA] at o
      intro u1 x e1 l1 k1 b1
      subst e1
      refine ⟨Z, D, u0, env, u1, rfl, k1, ?_⟩
      have o' : OutE g Z D u0 σ env u W Q ((L env u1.st).bind fun lo s2 => (U env s2).bind fun hi s3 => pSl v lo hi s3) := o
      cases hL : L env u1.st with
      | bad => rw [hL] at o'; exact o'.elim
      | ex e s => rw [hL] at o'; exact o'
      | ok lo s2 =>
        rw [hL] at o'
        intro u2 e2 l2 k2
        subst e2
        refine ⟨Z, D, u0, env, u2, rfl, k2, ?_⟩
        have o2 : OutE g Z D u0 σ env u W Q ((U env u2.st).bind fun hi s3 => pSl v lo hi s3) := o'
        cases hU : U env u2.st with
        | bad => rw [hU] at o2; exact o2.elim
        | ex e s => rw [hU] at o2; exact o2
        | ok hi s3 =>
          rw [hU] at o2
          intro u3 e3 l3 k3
          subst e3
          have q := pSl_ok u3 v x lo hi Q k3.s ((b1.le l2).le l3).w (OutP.of k3 (OutE.later ((l1.trans l2).trans l3) o2) (pSl_nx _ _ _ _))
          rw [c.K]
          exact q
/-! ### calls of builtins -/
/-- f(e), one argument -/
theorem e_fn1 {id : String} {x : Str} {p : Pos} {e : Expr} {r : List V → Hp → VK → Prop} {q : P1} (hc : CallR X (.builtin id) r) (hq : S1 g (fun x H Q => r [x] H Q) q) (nx : NoX1 q) (ha : PEb g X W e A) (hm : X.mg x = none) (hv : bootBuiltins x = some (.builtin id)) (hg : Gl X x := by rfl) (hn : x ≠ "__name__" := by decide) (hdb : (x == ("__debug__" : Str)) = false := by decide)
    (he : starEach (e :: []) X.env = (false, eval e X.env) :: starEach [] X.env := by rfl) : PEx g X W (.Call (.Name x p) [e] [] pos) (a1 q A) :=
  PE.imp (pe_callB hc hg hm hv (pa_cons ha pa_nil he) hn hdb he rfl) fun σ H Q h => t1_sound hq nx σ H Q h
theorem e_ty1 {id : String} {x : Str} {p : Pos} {e : Expr} {r : List V → Hp → VK → Prop} {q : P1} (hc : CallR X (.type id) r) (hq : S1 g (fun x H Q => r [x] H Q) q) (nx : NoX1 q) (ha : PEb g X W e A) (hm : X.mg x = none) (hv : bootBuiltins x = some (.type id)) (hg : Gl X x := by rfl) (hn : x ≠ "__name__" := by decide) (hdb : (x == ("__debug__" : Str)) = false := by decide)
    (he : starEach (e :: []) X.env = (false, eval e X.env) :: starEach [] X.env := by rfl) : PEx g X W (.Call (.Name x p) [e] [] pos) (a1 q A) :=
  PE.imp (pe_callTy hc hg hm hv (pa_cons ha pa_nil he) hn hdb he rfl) fun σ H Q h => t1_sound hq nx σ H Q h
theorem e_len (c : Ctl g X W kc) {p : Pos} {e : Expr} (ha : PEb g X W e A) (hm : X.mg "len" = none) (hg : Gl X "len" := by rfl) (he : starEach (e :: []) X.env = (false, eval e X.env) :: starEach [] X.env := by rfl) : PEx g X W (.Call (.Name "len" p) [e] [] pos) (a1 pLen A) :=
  e_fn1 call_len (fun u v x Q s bv o => by
    obtain ⟨n, h1, h2⟩ := pLen_ok u v x Q s bv o
    rw [c.K]
    exact ⟨x, n, rfl, h1, h2⟩) pLen_nx ha hm boot_len hg (by decide) (by decide) he
end
end Py

namespace Py
open PySem PySem.Spec PyProof.Rows L2

/-! ### isinstance of built-in types -/
def tyN : Val → Sto → Option String
  | .non, _ => some "NoneType"
  | .bl _, _ => some "bool"
  | .int _, _ => some "int"
  | .str _, _ => some "str"
  | .tup _, _ => some "tuple"
  | .lst _, _ => some "list"
  | .scr _, _ => some "list"
  | .dic _, _ => some "dict"
  | .ref n, st => match st[n]? with
    | some (.lst _) => some "list"
    | _ => none
  | _, _ => none
def tyL : List String := ["NoneType", "bool", "int", "str", "tuple", "list", "dict"]
theorem ty_ok {g : G} {u : Wd} {v : Val} {x : V} {t : String} (s : SRel g u) (h : BW g u v x) (e : tyN v u.st = some t) : TyX g.K u.H x (.type t) ∧ t ∈ tyL := by
  have own : ∀ {a : Addr} {xs : List V}, u.H a = some (.lst xs) → TyX g.K u.H (.ref a) (.type "list") := fun q => .base (.lst q)
  cases v with
  | non => rw [h.non]; cases e; exact ⟨.base .non, by simp [tyL]⟩
  | bl b => rw [h.bl]; cases e; exact ⟨.base (.bl b), by simp [tyL]⟩
  | int i => rw [h.int]; cases e; exact ⟨.base (.int i), by simp [tyL]⟩
  | str i => rw [h.str]; cases e; exact ⟨.base (.str _), by simp [tyL]⟩
  | tup vs =>
    cases e
    refine ⟨?_, by simp [tyL]⟩
    rcases h with h | ⟨_, _, c⟩
    · cases h with
      | tup f r =>
        rcases f.2 with q | ⟨o, q⟩
        · exact .base (.tup q)
        · exact .fTuple q
      | tupK f r =>
        rcases f (fun _ => none) with q | ⟨o, its, n, q, c, _⟩
        · rcases q with q | ⟨o, q⟩ <;> cases q
        · exact .kTuple q c
    · exact c.elim
  | lst vs =>
    cases e
    refine ⟨?_, by simp [tyL]⟩
    obtain ⟨a, xs, rfl, q, _⟩ := exL_ok s h rfl
    exact own q
  | scr vs =>
    cases e
    refine ⟨?_, by simp [tyL]⟩
    rcases h with h | ⟨_, _, c⟩
    · cases h with
      | scr f r =>
        rcases f with f | f
        · rcases f.2 with q | ⟨o, q⟩
          · exact own q
          · exact .base (.frz q)
        · rcases f (fun _ => none) with q | ⟨o, its, n, q, c, _⟩
          · rcases q with q | ⟨o, q⟩ <;> cases q
          · exact .kList q c
    · exact c.elim
  | dic kvs =>
    cases e
    refine ⟨?_, by simp [tyL]⟩
    obtain ⟨a, xs, rfl, q, _⟩ := h.dic
    exact .base (.dK q)
  | obj c fs => cases e
  | exc0 c => cases e
  | exc1 c v => cases e
  | ref n =>
    have e' : (match u.st[n]? with
      | some (SO.lst _) => some "list"
      | _ => none) = some t := e
    cases hs : u.st[n]? with
    | none => rw [hs] at e'; cases e'
    | some o =>
      rw [hs] at e'
      cases o with
      | lst vs =>
        cases e'
        refine ⟨?_, by simp [tyL]⟩
        obtain ⟨a, xs, rfl, q, _⟩ := exL_ok (vs := vs) s h (by show (match u.st[n]? with | some (SO.lst vs) => some vs | _ => none) = some vs; rw [hs])
        exact own q
      | _ => cases e'
def isiB (t T : String) : Bool := t == T || (t == "bool" && T == "int")
def basT : List String := ["int", "str", "bool", "list", "tuple", "dict"]
theorem kitB_all : (tyL.all fun t => basT.all fun T => kitB t T == some (isiB t T)) = true := by decide +kernel
theorem kitB_ok {t T : String} (h : t ∈ tyL) (h' : T ∈ basT) : kitB t T = some (isiB t T) := by
  have a := List.all_eq_true.mp kitB_all t h
  have b := List.all_eq_true.mp a T h'
  exact eq_of_beq b
theorem kitAny_ok {K : PySem.W.Frag} {t : String} (h : t ∈ tyL) : ∀ {Ts : List String}, (∀ T ∈ Ts, T ∈ basT) → PySem.W.kitAny K (.type t) (Ts.map Value.type) = some (Ts.any fun T => isiB t T)
  | [], _ => rfl
  | T :: Ts, q => by
    have e : PySem.W.kitOne K (.type t) (.type T) = some (isiB t T) := kit_ty (kitB_ok h (q T List.mem_cons_self))
    have r := kitAny_ok (K := K) h fun T' m => q T' (List.mem_cons_of_mem _ m)
    show (match PySem.W.kitOne K (.type t) (.type T) with
      | some true => some true
      | some false => PySem.W.kitAny K (.type t) (Ts.map Value.type)
      | none => none) = _
    rw [e]
    cases hb : isiB t T with
    | true => simp [hb]
    | false => simp [hb, r]
def pIsi (Ts : List String) : P1 := fun v st => match tyN v st with
  | some t => .ok (.bl (Ts.any fun T => isiB t T), false) st
  | none => .bad
theorem pIsi_nx (Ts : List String) : NoX1 (pIsi Ts) := fun v s e s' h => by
  unfold pIsi at h
  split at h <;> cases h
theorem pIsi_bl {Ts : List String} (v : Val) (s : Sto) (x : Val) (fr : Bool) (s' : Sto) (h : pIsi Ts v s = .ok (x, fr) s') : ∃ k, x = .bl k := by
  unfold pIsi at h
  split at h <;> cases h
  exact ⟨_, rfl⟩
theorem pIsi_ok {g : G} {T : String} (hT : T ∈ basT) : S1 g (fun x H Q => rIsi g.K [x, .ty T] H Q) (pIsi [T]) := fun u v x Q s bv o => by
  unfold pIsi at o
  cases e : tyN v u.st with
  | none => simp only [e] at o; exact o.elim
  | some t =>
    simp only [e] at o
    obtain ⟨h1, h2⟩ := ty_ok s bv e
    refine ⟨x, .ty T, .type t, .type T, isiB t T, rfl, .ty T, h1, kit_ty (kitB_ok h2 hT), ?_⟩
    have q : ([T].any fun T => isiB t T) = isiB t T := by simp
    rw [q] at o
    exact o.pure s (.bl _)
theorem BW.le {g : G} {P : Addr → Prop} {u u' : Wd} {v : Val} {x : V} (l : Le P u u') (hH : ∀ a, u.H a ≠ none → u'.H a = u.H a) (h : BW g u v x) : BW g u' v x := by
  rcases h with h | ⟨a, e, c⟩
  · exact .inl (h.le l)
  · refine .inr ⟨a, e, c.le l (hH a ?_)⟩
    unfold Cont at c
    intro z
    split at c
    · obtain ⟨xs, q, _⟩ := c; rw [z] at q; cases q
    · obtain ⟨xs, q, _⟩ := c; rw [z] at q; cases q
    · obtain ⟨_, dx, xs, q, _⟩ := c; rw [z] at q; cases q
    · exact c
/-- a further object, that nothing holds -/
theorem laid_any {g : G} {u : Wd} (s : SRel g u) {T : Addr} (hT : u.H T = none) (o : HO) : LeA u ⟨u.ph, u.F, upd u.H T o, u.st⟩ ∧ SRel g ⟨u.ph, u.F, upd u.H T o, u.st⟩ := by
  have l : LeA u ⟨u.ph, u.F, upd u.H T o, u.st⟩ := ⟨rfl, rfl, fun _ h => h, fun a h => upd_ne (fun e => h (by rw [e]; exact hT)), fun a h => .inl h⟩
  refine ⟨l, l.srel s fun b h => ?_⟩
  have := s.fdom b h
  show upd u.H T o b ≠ none
  rw [upd_ne (fun e => this (by rw [e]; exact hT))]
  exact this
theorem LeA.trans {u v w : Wd} (a : LeA u v) (b : LeA v w) : LeA u w := ⟨b.st.trans a.st, b.ph.trans a.ph, fun x h => b.F x (a.F x h), fun x h => by rw [b.H x (by rw [a.H x h]; exact h), a.H x h], fun x h => by
  rcases b.nF x h with q | q
  · exact a.nF x q
  · by_cases z : u.H x = none
    · exact .inr z
    · rw [a.H x z] at q
      exact absurd q z⟩
theorem pIsiT_ok {g : G} {Ts : List String} (hT : ∀ T ∈ Ts, T ∈ basT) : S1 g (fun x H Q => ∀ p, H p = none → rIsiT g.K [x, .ref p] (upd H p (.tup (Ts.map V.ty))) Q) (pIsi Ts) := fun u v x Q s bv o => by
  intro p hp
  unfold pIsi at o
  cases e : tyN v u.st with
  | none => simp only [e] at o; exact o.elim
  | some t =>
    simp only [e] at o
    obtain ⟨l, s'⟩ := laid_any (g := g) s hp (.tup (Ts.map V.ty))
    have bv' := bv.le (l.le0 s) l.H
    obtain ⟨h1, h2⟩ := ty_ok s' bv' e
    have pr : ∀ Ts : List String, Paired ClsV (Ts.map V.ty) (Ts.map Value.type) := fun Ts => by
      induction Ts with
      | nil => exact .nil
      | cons a r ih => exact .cons (.ty a) ih
    exact ⟨x, p, Ts.map V.ty, .type t, Ts.map Value.type, _, rfl, upd_same, pr Ts, h1, kitAny_ok h2 hT, o rfl _ _ l s' (.inl ⟨rfl, .bl _⟩)⟩
section
variable {g : G} {W : WX} {X : Cx} {A B C1 : EX} {C : AX} {T : TX} {pos : Pos} {kc : Nat}
theorem e_isi (c : Ctl g X W kc) {p p2 : Pos} {e : Expr} {x : Str} {N : String} (ha : PEb g X W e A) (hm : X.mg "isinstance" = none) (hx : X.mg x = none) (hv : bootBuiltins x = some (.type N)) (hN : N ∈ basT := by decide) (hg : Gl X "isinstance" := by rfl) (hgx : Gl X x := by rfl)
    (hn : x ≠ "__name__" := by decide) (hdb : (x == ("__debug__" : Str)) = false := by decide) (he : starEach (e :: [.Name x p2]) X.env = (false, eval e X.env) :: starEach [.Name x p2] X.env := by rfl) (he2 : starEach (.Name x p2 :: []) X.env = (false, eval (.Name x p2) X.env) :: starEach [] X.env := by rfl)
    (hpl : (backTo pos (starEach [.Name x p2] X.env)).any (·.1) = false := by rfl) : PEx g X W (.Call (.Name "isinstance" p) [e, .Name x p2] [] pos) (a1 (pIsi [N]) A) :=
  PE.imp (pe_callB call_isi hg hm boot_isinstance (pa_cons ha (pa_cons (pe_bltn (v := .ty N) (u := .type N) hgx hx hv rfl hn hdb) pa_nil he2) he) (by decide) (by decide) he hpl) fun σ H Q h => by
    rw [c.K]
    exact t1_sound (pIsi_ok hN) (pIsi_nx _) σ H Q h
/-! ### int, str, list, tuple -/
def numT (i : Int) : Txt := (toString i).toList.map Char.toNat
theorem sv_num (i : Int) : (toString i : Str) = sv (numT i) := by
  show Str.ofString (toString i) = _
  rw [Str.ofString_eq_toList]
  rfl
def pInt : P1 := fun v st => match v with
  | .int i => .ok (.int i, false) st
  | .bl b => .ok (.int (if b then 1 else 0), false) st
  | .str s => if s.length ≤ 640 then (match PySem.intText? (sv s) with
    | some n => .ok (.int n, false) st
    | none => .bad) else .bad
  | _ => .bad
theorem pInt_nx : NoX1 pInt := fun v s e s' h => by
  unfold pInt at h
  repeat' (split at h)
  all_goals cases h
def rInt : List V → Hp → VK → Prop := fun xs H Q => ((∃ i, xs = [.int i] ∧ Q (.int i) H) ∨ ∃ k, xs = [.bl k] ∧ Q (.int (if k then 1 else 0)) H) ∨ ∃ a n, xs = [.str a] ∧ PySem.intText? a = some n ∧ a.length ≤ 640 ∧ Q (.int n) H
theorem pInt_ok : S1 g (fun x H Q => rInt [x] H Q) pInt := fun u v x Q s bv o => by
  unfold pInt at o
  split at o
  · rw [bv.int]; exact .inl (.inl ⟨_, rfl, o.pure s (.int _)⟩)
  · rw [bv.bl]; exact .inl (.inr ⟨_, rfl, o.pure s (.int _)⟩)
  · rw [bv.str]
    split at o
    · rename_i t hl
      cases e : PySem.intText? (sv t) with
      | none => simp only [e] at o; exact o.elim
      | some n =>
        simp only [e] at o
        exact .inr ⟨_, n, rfl, e, by rw [sv_len]; exact hl, o.pure s (.int _)⟩
    · exact o.elim
  · exact o.elim
theorem e_intC {p : Pos} {e : Expr} (ha : PEb g X W e A) (hm : X.mg "int" = none) (hg : Gl X "int" := by rfl) (he : starEach (e :: []) X.env = (false, eval e X.env) :: starEach [] X.env := by rfl) : PEx g X W (.Call (.Name "int" p) [e] [] pos) (a1 pInt A) :=
  e_ty1 (r := rInt) (call_int1.or call_int_str) pInt_ok pInt_nx ha hm PyProof.Rows.boot_int hg (by decide) (by decide) he
def pStr : P1 := fun v st => match v with
  | .int i => if i.natAbs.log2 < 1920 then .ok (.str (numT i), false) st else .bad
  | _ => .bad
theorem pStr_nx : NoX1 pStr := fun v s e s' h => by
  unfold pStr at h
  repeat' (split at h)
  all_goals cases h
theorem pStr_ok : S1 g (fun x H Q => ∃ i, [x] = [V.int i] ∧ i.natAbs.log2 < 1920 ∧ Q (.str (toString i)) H) pStr := fun u v x Q s bv o => by
  unfold pStr at o
  split at o
  · rw [bv.int]
    split at o
    · rename_i i h
      refine ⟨i, rfl, h, ?_⟩
      rw [sv_num]
      exact o.pure s (.str _)
    · exact o.elim
  · exact o.elim
theorem e_strC {p : Pos} {e : Expr} (ha : PEb g X W e A) (hm : X.mg "str" = none) (hg : Gl X "str" := by rfl) (he : starEach (e :: []) X.env = (false, eval e X.env) :: starEach [] X.env := by rfl) : PEx g X W (.Call (.Name "str" p) [e] [] pos) (a1 pStr A) :=
  e_ty1 call_str_int pStr_ok pStr_nx ha hm PyProof.Rows.boot_str hg (by decide) (by decide) he
def pList : P1 := fun v st => match rdSq v st with
  | some vs => .ok (.lst vs, true) st
  | none => .bad
def pTuple : P1 := fun v st => match v with
  | .tup vs => .ok (.tup vs, false) st
  | v => match rdL v st with
    | some vs => .ok (.tup vs, false) st
    | none => .bad
theorem pList_nx : NoX1 pList := fun v s e s' h => by
  unfold pList at h
  split at h <;> cases h
theorem pTuple_nx : NoX1 pTuple := fun v s e s' h => by
  unfold pTuple at h
  repeat' (split at h)
  all_goals cases h
theorem pList_ok : S1 g (fun x H Q => ∃ p ys, [x] = [V.ref p] ∧ (SqL g.K H p ys ∨ SqT g.K H p ys) ∧ ∀ l, H l = none → Q (.ref l) (upd H l (.lst ys))) pList := fun u v x Q s bv o => by
  unfold pList at o
  cases e : rdSq v u.st with
  | none => simp only [e] at o; exact o.elim
  | some vs =>
    simp only [e] at o
    obtain ⟨a, xs, rfl, q, r⟩ := rdSq_ok s bv e
    exact ⟨a, xs, rfl, q, fun l hl => o.lst s hl r⟩
theorem pTuple_ok : S1 g (fun x H Q => ∃ p ys, [x] = [V.ref p] ∧ ((SqL g.K H p ys ∧ ∀ l, H l = none → Q (.ref l) (upd H l (.tup ys))) ∨ (SqT g.K H p ys ∧ Q (.ref p) H))) pTuple := fun u v x Q s bv o => by
  unfold pTuple at o
  split at o
  · have bv' := bv
    obtain ⟨a, xs, rfl, q, r⟩ := bv.tup
    refine ⟨a, xs, rfl, .inr ⟨q, ?_⟩⟩
    rcases bv' with z | ⟨_, _, z⟩
    · exact o.pure s z
    · exact z.elim
  · cases e : rdL v u.st with
    | none => simp only [e] at o; exact o.elim
    | some vs =>
      simp only [e] at o
      obtain ⟨a, xs, rfl, q, r⟩ := rdL_ok s bv e
      exact ⟨a, xs, rfl, .inl ⟨q, fun l hl => o.tup s hl r⟩⟩
theorem e_listC (c : Ctl g X W kc) {p : Pos} {e : Expr} (ha : PEb g X W e A) (hm : X.mg "list" = none) (hg : Gl X "list" := by rfl) (he : starEach (e :: []) X.env = (false, eval e X.env) :: starEach [] X.env := by rfl) : PEx g X W (.Call (.Name "list" p) [e] [] pos) (a1 pList A) :=
  e_ty1 call_list_of (by rw [c.K]; exact pList_ok) pList_nx ha hm PyProof.Rows.boot_list hg (by decide) (by decide) he
theorem e_tupleC (c : Ctl g X W kc) {p : Pos} {e : Expr} (ha : PEb g X W e A) (hm : X.mg "tuple" = none) (hg : Gl X "tuple" := by rfl) (he : starEach (e :: []) X.env = (false, eval e X.env) :: starEach [] X.env := by rfl) : PEx g X W (.Call (.Name "tuple" p) [e] [] pos) (a1 pTuple A) :=
  e_ty1 call_tuple_of (by rw [c.K]; exact pTuple_ok) pTuple_nx ha hm PyProof.Rows.boot_tuple hg (by decide) (by decide) he
end
/-! ### an own list is changed -/
section
variable {g : G} {Z D : Addr → Prop} {u0 u u' : Wd} {σ : L2.St} {env : Env}
theorem Ok.put (k : Ok g Z D u0 σ env u) {i : Nat} {v v' : Val} {a : Addr} {o : HO} (h : env[i]? = some (.ow v)) (e : σ[i]? = some (some (.ref a))) (c : Cont g ⟨u.ph, u.F, upd u.H a o, u.st⟩ v' a) : Ok g Z D u0 σ (env.set i (.ow v')) ⟨u.ph, u.F, upd u.H a o, u.st⟩ := by
  obtain ⟨b, eb, cb, nf, ns, nd⟩ := k.e.at_ i _ h
  rw [e] at eb
  cases eb
  have hd : u.H a ≠ none := k.pr.dom a (.inr ⟨i, v, h, e⟩)
  have ne : ∀ {b : Addr}, b ≠ a → upd u.H a o b = u.H b := fun q => upd_ne q
  have dom : ∀ b, u.H b ≠ none → upd u.H a o b ≠ none := fun b q => by
    by_cases z : b = a
    · subst z; rw [upd_same]; exact fun w => nomatch w
    · rw [ne z]; exact q
  have hz : ∀ b, Z b → b ≠ a := fun b q z => nd (k.zd a (z ▸ q))
  have l0 : Le Z u ⟨u.ph, u.F, upd u.H a o, u.st⟩ := ⟨Nat.le_refl _, fun _ _ => rfl, fun _ q => q, fun b q => ne fun z => nf (z ▸ q), fun b q => ne (hz b q), fun _ _ q => q, fun _ _ q => q, dom⟩
  have s' : SRel g ⟨u.ph, u.F, upd u.H a o, u.st⟩ := ⟨fun m hm => by
    rcases k.s.at_ m hm with q | ⟨o', q1, q2, q3⟩
    · exact .inl q
    · exact .inr ⟨o', q1, q2, q3.le l0 (ne (ns m hm))⟩, k.s.inj, fun m hm => dom _ (k.s.dom m hm), fun b q => dom _ (k.s.fdom b q)⟩
  have hi : i < env.length := (List.getElem?_eq_some_iff.mp h).1
  refine ⟨s', k.z.le l0, k.zd, fun b q => dom b (k.d b q), k.le.trans l0, by rw [List.length_set]; exact k.e.len, fun j sl hj => ?_, fun j j' w w' b h1 h2 h3 h4 => ?_⟩
  · by_cases q : i = j
    · subst q
      rw [List.getElem?_set_self hi] at hj
      cases hj
      exact ⟨a, e, c, nf, ns, nd⟩
    · rw [List.getElem?_set_ne q] at hj
      have w := k.e.at_ j sl hj
      cases sl with
      | no => trivial
      | exn x => trivial
      | vl v =>
        obtain ⟨x, e1, r⟩ := w
        exact ⟨x, e1, r.le l0⟩
      | bw v =>
        obtain ⟨b, e1, c1, z⟩ := w
        exact ⟨b, e1, c1.le l0 (ne (hz b z)), z⟩
      | ow v =>
        obtain ⟨b, e1, c1, n1, n2, n3⟩ := w
        have nb : b ≠ a := fun z => by
          subst z
          exact q (k.e.dis i j _ _ b h hj e e1)
        exact ⟨b, e1, c1.le l0 (ne nb), n1, n2, n3⟩
  · have back : ∀ {j : Nat} {w : Val}, (env.set i (.ow v'))[j]? = some (.ow w) → ∃ w, env[j]? = some (.ow w) := fun {j w} q => by
      by_cases z : i = j
      · subst z; exact ⟨v, h⟩
      · rw [List.getElem?_set_ne z] at q; exact ⟨w, q⟩
    obtain ⟨w1, q1⟩ := back h1
    obtain ⟨w2, q2⟩ := back h2
    exact k.e.dis j j' w1 w2 b q1 q2 h3 h4
/-- the list that a slot owns becomes another one -/
theorem Ok.putL (k : Ok g Z D u0 σ env u) {i : Nat} {v : Val} {vs' : List Val} {a : Addr} {xs : List V} (h : env[i]? = some (.ow v)) (e : σ[i]? = some (some (.ref a))) (r : VRs g u vs' xs) : Ok g Z D u0 σ (env.set i (.ow (.lst vs'))) ⟨u.ph, u.F, upd u.H a (.lst xs), u.st⟩ := by
  obtain ⟨b, eb, cb, nf, ns, nd⟩ := k.e.at_ i _ h
  rw [e] at eb
  cases eb
  have hd : u.H a ≠ none := k.pr.dom a (.inr ⟨i, v, h, e⟩)
  have l0 : Le (fun _ => False) u ⟨u.ph, u.F, upd u.H a (.lst xs), u.st⟩ := ⟨Nat.le_refl _, fun _ _ => rfl, fun _ q => q, fun b q => upd_ne fun z => nf (by rw [← z]; exact q), fun _ q => q.elim, fun _ q => q.elim, fun _ q => q.elim, fun b q => by
    by_cases z : b = a
    · subst z
      show upd u.H b _ b ≠ none
      rw [upd_same]; exact fun w => nomatch w
    · show upd u.H a _ b ≠ none
      rw [upd_ne z]; exact q⟩
  exact k.put h e ⟨xs, upd_same, r.le l0⟩
end
/-- x.append(e), x an own list -/
def sApp (i : Nat) (A : EX) : SX := fun env st => match env[i]? with
  | some (.ow (.lst vs)) => (A env st).then_ env fun a s1 => if sizeOk (vs.length + 1) = true then .nx (env.set i (.ow (.lst (vs ++ [a.1])))) s1 else .bad
  | _ => .bad
theorem sizeOk_lt {n : Nat} (h : sizeOk (n + 1) = true) : n < sizeLine := by
  have := sizeOk_line h
  omega
section
variable {g : G} {W : WX} {X : Cx} {A B C1 : EX} {C : AX} {T : TX} {pos : Pos} {kc : Nat}
theorem s_app (c : Ctl g X W kc) (i : Nat) {x : Str} {e : Expr} {p apos cpos : Pos} (he : PEx g X W e A) (hN : X.N[i]? = some x := by rfl) (hv : Vis X.env.scope x := by first | exact Or.inl rfl | exact Or.inr (Or.inl rfl) | exact Or.inr (Or.inr rfl)) (hd : (x == ("__debug__" : Str)) = false := by decide)
    (hcd : (x == ("__classdict__" : Str)) = false := by decide) (hbase : attributeBase (.Name x p) "append" X.env (eval (.Name x p) X.env) = eval (.Name x p) X.env := by rfl)
    (hfew : ((backTo cpos (starEach (e :: []) X.env)).all (fun x => !x.1) && (backToKw cpos (keywordEach [] X.env)).all (fun x => x.1.isSome)
      && decide ((e :: []).length + ([] : List Keyword).length + (if ([] : List Keyword).isEmpty then 0 else 1) < 30)) = true := by rfl)
    (hline : (apos.endLine == cpos.line) = true := by rfl) (hs : starEach (e :: []) X.env = (false, eval e X.env) :: starEach [] X.env := by rfl) (hsw : swapsWith (.Call (.Attribute (.Name x p) "append" apos) [e] [] cpos) none pos.line X.env = pure false := by rfl) :
    PSx g X W (.Expr (.Call (.Attribute (.Name x p) "append" apos) [e] [] cpos) pos) (sApp i A) :=
  PS.imp (ps_expr (pe_bm PySem.F.plainAttrs_list PySem.F.slot_list_append PySem.F.type_list_append mt_append (pe_var hN hv hd hcd) (pa_cons he pa_nil hs) hbase hfew hline hs rfl) hsw) fun Dn σ H h => by
    obtain ⟨Z, D, u0, env, u, rfl, k, o⟩ := h
    unfold sApp at o
    cases hi : env[i]? with
    | none => rw [hi] at o; exact o.elim
    | some sl =>
      rw [hi] at o
      cases sl with
      | ow v =>
        cases v with
        | lst vs =>
          simp only at o
          obtain ⟨a, ea, ⟨xs, ha, rs⟩, nf, ns, nd⟩ := k.e.at_ i _ hi
          refine ⟨.ref a, ea, .inl ⟨rfl, xs, SqL.of ha⟩, Z, D, u0, env, u, rfl, k, OutE.ofA ?_⟩
          cases hA : A env u.st with
          | bad => rw [hA] at o; exact o
          | ex e s =>
            rw [hA] at o
            exact fun u' cls d e1 k1 x => o σ u' cls d e1 k1 x
          | ok b s1 =>
            obtain ⟨w, fr⟩ := b
            rw [hA] at o
            simp only [R.then_ok] at o
            intro u1 y e1 l1 k1 r
            subst e1
            split at o
            · rename_i hz
              have pa : Pr Z σ env a := .inr ⟨i, _, hi, ea⟩
              have ha1 : u1.H a = some (.lst xs) := (l1.PH a pa).trans ha
              have rs1 : VRs g u1 vs xs := rs.le l1
              exact ⟨a, xs, y, rfl, rfl, ha1, by rw [← rs.length]; exact sizeOk_lt hz, o σ ⟨u1.ph, u1.F, upd u1.H a (.lst (xs ++ [y])), u1.st⟩ rfl (k1.putL hi ea (rs1.append (.cons r .nil)))⟩
            · exact o.elim
        | _ => exact o.elim
      | _ => exact o.elim
end
end Py

namespace PyE
open PySem PySem.W PySem.Calls PyProof.Rows PySem.HandSPX Builtin Builtin.ObjectAttr
/-! ### errors of classes over Exception, with one field that their __init__ stores -/
abbrev tailE : List Value := [.type "Exception", .type "BaseException", .type "object"]
def argsE (f : Str) (a b : Pos) : Arguments := { posonlyargs := [], args := [{ arg := "self", annotation := none, pos := a }, { arg := f, annotation := none, pos := b }], vararg := none, kwonlyargs := [], kw_defaults := [], kwarg := none, defaults := [] }
def bodyE (f : Str) (a b d e : Pos) : List Stmt := [.Assign [.Attribute (.Name "self" a) f b] (.Name f d) e]
def scopeE (f : Str) : Scope := { kind := .function, names := [(PySem.Str.ofString "self", .local), (f, .local)], isGenerator := false, isCoroutine := false, more := [] }
def fieldsE : List Str := ["at", "why", "path", "line", "name", "limit", "word"]
theorem casesE {f : Str} (h : f ∈ fieldsE) : f = "at" ∨ f = "why" ∨ f = "path" ∨ f = "line" ∨ f = "name" ∨ f = "limit" ∨ f = "word" := by
  simpa [fieldsE] using h
/-- what stands of such a class C, its __init__ at fI, its field f -/
structure Cls1 (K : Frag) (f : Str) (C fI : Addr) : Prop where
  made : excInitIn K C tailE "Exception.__new__" = true
  over : excOver K C tailE = true
  sa : findIn K (.ref C) "__setattr__" = some (some (.builtin "object.__setattr__"))
  ga : findIn K (.ref C) "__getattribute__" = some (some (.builtin "BaseException.__getattribute__"))
  gg : findIn K (.ref C) "__getattr__" = some none
  no : findIn K (.ref C) f = some none
  ini : findIn K (.ref C) "__init__" = some (some (.ref fI))
  kC : keepIn K (.ref C) = true
  exC : subIn K (.ref C) (.type "BaseException") = some true
  tyC : typeIn K (.ref C) = some (.type "type")
  hd : hasDictIn K C = true
  fnI : ∃ (qn : Str) (p1 p2 q1 q2 q3 q4 : Pos) (fd : FuncData), L2.FunD K "__init__" qn (argsE f p1 p2) (bodyE f q1 q2 q3 q4) (scopeE f) [] [] fI fd
  tyI : isFn K (.ref fI) = true
  hf : f ∈ fieldsE
/-- behind __init__ on the new error at x -/
structure Inited (h h' : Heap) (x C dx t1 : Addr) (f : Str) (v : Value) : Prop where
  keep : ∀ b o, b ≠ x → h.get? b = some o → h'.get? b = some o
  obj : h'.get? x = some { cls := .ref C, dict := some dx, data := .fields #[.ref t1, .none, .none, .none, .bool false, .none] }
  big : h.objs.size ≤ dx
  ne : dx ≠ x
  ns : h'.Ns1 dx (fun y => if y = f then some v else none)
structure MadeE (h h' : Heap) (e C d t1 : Addr) (f : Str) (v : Value) : Prop where
  keep : ∀ b o, h.get? b = some o → h'.get? b = some o
  new : h.objs.size ≤ e
  obj : h'.get? e = some { cls := .ref C, dict := some d, data := .fields #[.ref t1, .none, .none, .none, .bool false, .none] }
  big : h.objs.size ≤ d
  ne : d ≠ e
  ns : h'.Ns1 d (fun y => if y = f then some v else none)
section
variable {prog : Program} {w : World} {A : Around} {E : Value → Shared → Prop} {R : Result → Shared → Prop} {K : Frag} {f : Str} {C fI : Addr}
theorem store1 {x t0 : Addr} {tk : Tok} {v : Value} {hp : Heap} {gs : Array GenState} {dr : Drawn} {tt : Nat} {os : OsState} (X : K.In hp) (hx : hp.get? x = some (excO C t0)) (ho : excOver K C tailE = true) (hd : hasDictIn K C = true) (hno : findIn K (.ref C) f = some none)
    (hq : ∀ h' tk' dx, Inited hp h' x C dx t0 f v → R (.ok (.ret .none)) ⟨h', gs, dr, tk', os⟩) : codeAny (model prog w) A (.call (.builtin "object.__setattr__") ⟨[.ref x, .str f tk, v], []⟩) R ⟨hp, gs, dr, tt, os⟩ := by
  have I : InstAt hp x (excO C t0) C none := ⟨hx, rfl, rfl, trivial⟩
  refine osa_openX (s := ⟨hp, gs, dr, tt, os⟩) F.store_Exception X I ho (L2.NoAttr.taker hno) fun b => ?_
  obtain ⟨cd, hcd, hh⟩ := any_some hd
  have lk : Looks (model prog w) hp (classData C) cd := looks_clsIn X hcd
  have xs : x ≠ hp.objs.size := Nat.ne_of_lt (Heap.lt_size hx)
  show wpAny _ _ (storeInOwnDict (.ref x) (.ref C) (.str f tk) f v b) _ _ _
  obtain ⟨nm, bs, mro, ns, qn, hd', sn, sb, ab, col, del⟩ := cd
  dsimp only at hh
  subst hh
  unfold storeInOwnDict ownDictForStores
  repeat (first | with_reducible refine store_in_new ?_ ?_ | with_reducible refine wpAny_loadPart_at hx ?_ | with_reducible refine lk.at ?_ | wp_step)
  · exact ⟨_, #[], _, (Heap.get?_update_ne _ _ _ _ xs.symm).trans (Heap.get?_push_at rfl rfl), rfl, fun e he => absurd he (by simp), fun _ => rfl⟩
  · intro h' tk' hn' same
    have hx1 : (hp.push { cls := .type "dict", data := .dict #[] }).get? x = some (excO C t0) := Heap.get?_push_of_some _ hx
    refine hq h' tk' hp.objs.size ⟨fun b o hb q => ?_, ?_, Nat.le_refl _, xs.symm, hn'⟩
    · exact (same.2 b (Nat.ne_of_lt (Heap.lt_size q))).trans ((Heap.get?_update_ne _ _ _ _ hb).trans (Heap.get?_push_of_some _ q))
    · exact (same.2 x xs).trans (Heap.get?_update_self _ hx1 rfl)
theorem one_le (v : Value) : [v].length ≤ sizeLine := by
  rw [sizeLine_eq]
  exact (by decide : 1 ≤ 16777216)
theorem ldE {M : Model} {s : Shared} {name : Str} {scope : Scope} {L a : Addr} {cd : Value} {m : Str → Option Value} {x : Str} {pos : Pos} {v : Value} {Q : Value → Shared → Prop} {A : Around} {E : Value → Shared → Prop} (hn : s.heap.Ns L m) (hv : m x = some v) (h : Q v s)
    (hk : scope.kind = .function) (hl : (envOfC name scope L a cd).kindOf x = some .local) (hd : (x == ("__debug__" : Str)) = false) :
    wpAny M A (eval (.Name x pos) (envOfC name scope L a cd)) Q E s := wpAny_Name (wpAny_loadName_local hk hl hn hv h) hd
theorem init1 (T : Cls1 K f C fI) {x t0 : Addr} {v : Value} {s : Shared} (X : K.In s.heap) (hlim : s.heap.NoLimit) (hx : s.heap.get? x = some (excO C t0)) (hroom : A.depth < recursionLimit)
    (hq : ∀ h' tk dx, Inited s.heap h' x C dx t0 f v → R (.ok (.ret .none)) { s with heap := h', toks := tk }) :
    codeAny (model prog w) A (.call (.ref fI) ⟨[.ref x, v], []⟩) R s := by
  obtain ⟨qn, p1, p2, q1, q2, q3, q4, fd, FD⟩ := T.fnI
  obtain ⟨oc, od, dV, kV, doc, pm, an, cdv, ct, osl, rfl, ho, hcd, hD, _⟩ := FD.ex
  have hD2 : dV = .none := by
    rcases hD with ⟨_, z⟩ | ⟨z, _⟩
    · exact z
    · exact absurd rfl z
  subst hD2
  refine Att.call_fn (binds := [("self", .ref x), (f, v)]) X hlim ho hcd hroom (BindsTo.of_eq ?_) ?_ (fun s₁ IC => ?_) rfl rfl rfl
  · rcases casesE T.hf with z | z | z | z | z | z | z <;> subst z <;> rfl
  · rcases casesE T.hf with z | z | z | z | z | z | z <;> subst z <;> rfl
  obtain ⟨h₁, tk₁, rfl⟩ := IC.toInCall.same
  have k : ∀ b o, s.heap.get? b = some o → h₁.get? b = some o := IC.toInCall.keep
  have hn := IC.toInCall.ns
  have X₁ : K.In h₁ := X.keeps k
  have hx₁ := k _ _ hx
  show wpAny _ _ (execs _ _) _ _ _
  refine wpAny_execs_cons (plainObj_wpAny_Assign_Attribute ?_)
  refine ldE (v := v) hn ?a1 (ldE (v := .ref x) hn ?a2 ?_ rfl ?b2 (by decide)) rfl ?b1 ?c1
  case a1 => rcases casesE T.hf with z | z | z | z | z | z | z <;> subst z <;> rfl
  case a2 => rcases casesE T.hf with z | z | z | z | z | z | z <;> subst z <;> rfl
  case c1 => rcases casesE T.hf with z | z | z | z | z | z | z <;> subst z <;> rfl
  case b1 => rcases casesE T.hf with z | z | z | z | z | z | z <;> subst z <;> rfl
  case b2 => rcases casesE T.hf with z | z | z | z | z | z | z <;> subst z <;> rfl
  refine set_plain X₁ (ox := excO C t0) (od := none) ⟨hx₁, rfl, rfl, trivial⟩ T.sa ?_
  refine store1 X₁ hx₁ T.over T.hd T.no (fun h₃ tk₃ dx I => ?_)
  show wpAny _ _ (execs _ _) _ _ _
  have z : s.heap.objs.size < h₁.objs.size := hn.lt
  exact wpAny_execs_nil (hq h₃ tk₃ dx ⟨fun b o hb e => I.keep b o hb (k b o e), I.obj, Nat.le_of_lt (Nat.lt_of_lt_of_le z I.big), I.ne, I.ns⟩)
theorem made1 (T : Cls1 K f C fI) {v : Value} {s : Shared} (X : K.In s.heap) (hlim : s.heap.NoLimit) (hroom : A.depth + 1 < recursionLimit)
    (hq : ∀ h' tk e d t1, MadeE s.heap h' e C d t1 f v → R (.ok (.ret (.ref e))) { s with heap := h', toks := tk }) : codeAny (model prog w) A (.call (.ref C) ⟨[v], []⟩) R s := by
  obtain ⟨hp, gs, dr, tk, os⟩ := s
  obtain ⟨nm, N, q, bs, bm, hdct, sn, sub, ab, col, dd, k0, k1, k2, k3, k5, hC, hbm⟩ := excInit_of X T.made
  have k : ∀ b o, hp.get? b = some o → ((hp.push (kdv_tup [v])).push (excO C hp.objs.size)).get? b = some o := fun b o e => Heap.get?_push_of_some _ (Heap.get?_push_of_some _ e)
  have hget : ((hp.push (kdv_tup [v])).push (excO C hp.objs.size)).get? (hp.objs.size + 1) = some (excO C hp.objs.size) := by heap_get
  obtain ⟨qn, p1, p2, q1, q2, q3, q4, fd, FD⟩ := T.fnI
  obtain ⟨oc, od, dV, kV, doc, pm, an, cdv, ct, osl, rfl, ho, hcd, hD, _⟩ := FD.ex
  have hoI : hp.get? fI = some _ := X _ _ ho
  have hcI : oc = .type "function" := by
    obtain ⟨o, ho', hc⟩ := Option.map_eq_some_iff.mp (show (K.lookup fI).map (·.cls) = some (.type "function") from beq_iff_eq.mp T.tyI)
    rw [ho] at ho'
    cases ho'
    exact hc
  have hlim' : (⟨(hp.push (kdv_tup [v])).push (excO C hp.objs.size), gs, dr, tk, os⟩ : Shared).heap.NoLimit := hlim.keeps k
  refine call_own F.excBase_Exception hbm hC (looks_findIn X T.ini) (fun self => exc_bind hoI hcI self) (one_le v) ?_
  refine init1 (s := ⟨(hp.push (kdv_tup [v])).push (excO C hp.objs.size), gs, dr, tk, os⟩) T (X.keeps k) hlim' hget ?_ fun h' tk' dx I => ?_
  · show A.depth + 1 < recursionLimit
    exact hroom
  · have old : ∀ b o, hp.get? b = some o → h'.get? b = some o := fun b o e => I.keep b o (Nat.ne_of_lt (Nat.lt_succ_of_lt (Heap.lt_size e))) (k b o e)
    have z : hp.objs.size + 1 + 1 ≤ dx := by
      have q := I.big
      rw [Heap.size_push, Heap.size_push] at q
      exact q
    exact ⟨rfl, hq h' tk' (hp.objs.size + 1) dx _ ⟨old, Nat.le_succ _, I.obj, Nat.le_trans (Nat.le_trans (Nat.le_succ _) (Nat.le_succ _)) z, I.ne, I.ns⟩⟩
end
end PyE

namespace Py
open PySem PySem.Spec PyProof.Rows L2
/-! ### where a def's code stands -/
def bnm : List Str := ["len", "range", "enumerate", "isinstance", "int", "str", "list", "tuple", "bool", "dict", "any", "all", "sum", "max", "min", "sorted", "set", "repr", "zip"]
/-- errors with a field -/
def has1 (c : String) : Bool := !(c == "InvalidWord" || c == "CoverError")
/-- the one class under the other -/
def subB (c d : String) : Bool := c == d || d == "CoverError"
structure ErrF (K : PySem.W.Frag) (mg : Str → Option Value) (C : Addr) (c : String) : Prop where
  gC : mg (Str.ofString c) = some (.ref C)
  kC : PySem.W.keepIn K (.ref C) = true
  ec : ExcC K C
  no : PySem.W.findIn K (.ref C) (Str.ofString (excAttr c)) = some none
  one : has1 c = true → ∃ fI, PyE.Cls1 K (Str.ofString (excAttr c)) C fI
  zero : has1 c = false → PySem.W.excIn K C PyE.tailE "Exception.__new__" = true
structure Par where
  g : G
  P : Program
  w : World
  mg : Str → Option Value
  base : Heap
  bn : ∀ x ∈ bnm, mg x = none
  xc : ∀ c, g.exc c = true → ErrF g.K mg (g.cls c) c
  ki : ∀ c d, g.exc c = true → g.exc d = true → PySem.W.kitOne g.K (.ref (g.cls c)) (.ref (g.cls d)) = some (subB c d)
  kb : ∀ t d, t ∈ tyL → g.exc d = true → PySem.W.kitOne g.K (.type t) (.ref (g.cls d)) = some false
structure Ct (p : Par) (X : Cx) (W : WX) (k : Nat) (N : List Str) (sc : Scope) (tp : Bool) : Prop where
  c : Ctl p.g X W k
  P : X.prog = p.P
  w : X.w = p.w
  mg : X.mg = p.mg
  base : X.base = p.base
  n : X.N = N
  fc : tp = true → ∀ x, X.fn x = true
  es : X.env.scope = sc
def visB (sc : Scope) (x : Str) : Bool := match sc.names.lookup x with
  | some .local => true
  | some .cell => true
  | some .free => true
  | _ => false
def locB (sc : Scope) (x : Str) : Bool := match sc.names.lookup x with
  | some .local => true
  | some .cell => true
  | _ => false
def stoB (tp : Bool) (sc : Scope) (x : Str) : Bool := match sc.names.lookup x with
  | some .local => true
  | some .cell => tp
  | _ => false
def gloB (sc : Scope) (x : Str) : Bool := match sc.names.lookup x with
  | some .globalImplicit => true
  | _ => false
theorem vis_of {sc : Scope} {x : Str} (h : visB sc x = true) : Vis sc x := by
  unfold visB at h
  unfold Vis
  split at h <;> first | (rename_i e; rw [e]; simp; done) | cases h
theorem loc_of {sc : Scope} {x : Str} (h : locB sc x = true) : L2.Loc sc x := by
  unfold locB at h
  unfold L2.Loc
  split at h <;> first | (rename_i e; rw [e]; simp; done) | cases h
theorem glo_of {sc : Scope} {x : Str} (h : gloB sc x = true) : sc.names.lookup x = some .globalImplicit := by
  unfold gloB at h
  split at h
  · rename_i e; exact e
  · cases h
section
variable {p : Par} {X : Cx} {W : WX} {k : Nat} {N : List Str} {sc : Scope} {tp : Bool} {A B C1 : EX} {C : AX} {T : TX} {pos : Pos}
theorem Ct.vis (c : Ct p X W k N sc tp) {x : Str} (h : visB sc x = true) : Vis X.env.scope x := by rw [c.es]; exact vis_of h
theorem Ct.loc (c : Ct p X W k N sc tp) {x : Str} (h : locB sc x = true) : L2.Loc X.env.scope x := by rw [c.es]; exact loc_of h
theorem Ct.gl (c : Ct p X W k N sc tp) {x : Str} (h : gloB sc x = true) : Gl X x := by
  show X.env.scope.names.lookup x = _
  rw [c.es]; exact glo_of h
theorem Ct.ix (c : Ct p X W k N sc tp) {x : Str} {i : Nat} (h : N[i]? = some x) : X.N[i]? = some x := by rw [c.n]; exact h
theorem sto_loc {tp : Bool} {sc : Scope} {x : Str} (h : stoB tp sc x = true) : locB sc x = true := by
  unfold stoB at h
  unfold locB
  split at h
  · rfl
  · rfl
  · cases h
theorem Ct.fn (c : Ct p X W k N sc tp) {x : Str} (h : stoB tp sc x = true) : X.fn x = true ∨ X.env.scope.names.lookup x = some .local := by
  rw [c.es]
  unfold stoB at h
  split at h
  · rename_i e; exact .inr e
  · rename_i e; exact .inl (c.fc h x)
  · cases h
theorem Ct.b (c : Ct p X W k N sc tp) {x : Str} (h : bnm.contains x = true) : X.mg x = none := by
  rw [c.mg]
  exact p.bn x (by simpa using h)
/-- a name that is a value -/
theorem Ct.v (c : Ct p X W k N sc tp) (i : Nat) {x : Str} (h : N[i]? = some x := by rfl) (hv : visB sc x = true := by rfl) (hd : (x == ("__debug__" : Str)) = false := by rfl) (hcd : (x == ("__classdict__" : Str)) = false := by rfl) : PEx p.g X W (.Name x pos) (aV i) :=
  e_var i (c.ix h) (c.vis hv) hd hcd
theorem Ct.r (c : Ct p X W k N sc tp) (i : Nat) {x : Str} (h : N[i]? = some x := by rfl) (hv : visB sc x = true := by rfl) (hd : (x == ("__debug__" : Str)) = false := by rfl) (hcd : (x == ("__classdict__" : Str)) = false := by rfl) : PEb p.g X W (.Name x pos) (aB i) :=
  e_bor i (c.ix h) (c.vis hv) hd hcd
theorem Ct.set (c : Ct p X W k N sc tp) (i : Nat) {x : Str} {e : Expr} {pos' : Pos} (he : PEx p.g X W e A) (h : N[i]? = some x := by rfl) (hv : stoB tp sc x = true := by rfl) (hs : swapsWith e (some (.Name x pos')) pos.line X.env = pure false := by rfl) : PSx p.g X W (.Assign [.Name x pos'] e pos) (sSet i A) :=
  s_set i he c.c.nd (c.ix h) (c.loc (sto_loc hv)) hs (c.fn hv)
theorem Ct.own (c : Ct p X W k N sc tp) (i : Nat) {x : Str} {e : Expr} {pos' : Pos} (he : PEx p.g X W e A) (h : N[i]? = some x := by rfl) (hv : stoB tp sc x = true := by rfl) (hs : swapsWith e (some (.Name x pos')) pos.line X.env = pure false := by rfl) : PSx p.g X W (.Assign [.Name x pos'] e pos) (sOwn i A) :=
  s_own i he c.c.nd (c.ix h) (c.loc (sto_loc hv)) hs (c.fn hv)
theorem Ct.retO (c : Ct p X W k N sc tp) (i : Nat) {x : Str} {q : Pos} (h : N[i]? = some x := by rfl) (hv : visB sc x = true := by rfl) (hd : (x == ("__debug__" : Str)) = false := by rfl) (hcd : (x == ("__classdict__" : Str)) = false := by rfl) : PSx p.g X W (.Return (some (.Name x q)) pos) (sRetO i) :=
  s_retO i (c.ix h) (c.vis hv) hd hcd
theorem Ct.g1 (c : Ct p X W k N sc tp) (i : Nat) {x : Str} {q : Pos} (h : N[i]? = some x := by rfl) (hv : stoB tp sc x = true := by rfl) : PGx p.g X (.Name x q) [i] (gV i) :=
  g_name i c.c.nd (c.ix h) (c.loc (sto_loc hv)) (c.fn hv)
theorem Ct.for_ (c : Ct p X W k N sc tp) {tg it : Expr} {is : List Nat} {body : List Stmt} {I : IX} {G : GX} {B : SX} (hi : PIx p.g X W tg it I) (hg : PGx p.g X tg is G) (hb : PBx p.g X W body B) (hs : ∀ x, foldedSetIterable it X.env x = pure x := by intro _; rfl) : PSx p.g X W (.For tg it body [] pos) (sFor I G B) :=
  s_for c.c.po c.c.cm hi hg hb hs
theorem Ct.len (c : Ct p X W k N sc tp) {q : Pos} {e : Expr} (ha : PEb p.g X W e A) (hg : gloB sc "len" = true := by rfl) (he : starEach (e :: []) X.env = (false, eval e X.env) :: starEach [] X.env := by rfl) : PEx p.g X W (.Call (.Name "len" q) [e] [] pos) (a1 pLen A) :=
  e_len c.c ha (c.b (by decide)) (c.gl hg) he
theorem Ct.int (c : Ct p X W k N sc tp) {q : Pos} {e : Expr} (ha : PEb p.g X W e A) (hg : gloB sc "int" = true := by rfl) (he : starEach (e :: []) X.env = (false, eval e X.env) :: starEach [] X.env := by rfl) : PEx p.g X W (.Call (.Name "int" q) [e] [] pos) (a1 pInt A) :=
  e_intC ha (c.b (by decide)) (c.gl hg) he
theorem Ct.str (c : Ct p X W k N sc tp) {q : Pos} {e : Expr} (ha : PEb p.g X W e A) (hg : gloB sc "str" = true := by rfl) (he : starEach (e :: []) X.env = (false, eval e X.env) :: starEach [] X.env := by rfl) : PEx p.g X W (.Call (.Name "str" q) [e] [] pos) (a1 pStr A) :=
  e_strC ha (c.b (by decide)) (c.gl hg) he
theorem Ct.list (c : Ct p X W k N sc tp) {q : Pos} {e : Expr} (ha : PEb p.g X W e A) (hg : gloB sc "list" = true := by rfl) (he : starEach (e :: []) X.env = (false, eval e X.env) :: starEach [] X.env := by rfl) : PEx p.g X W (.Call (.Name "list" q) [e] [] pos) (a1 pList A) :=
  e_listC c.c ha (c.b (by decide)) (c.gl hg) he
theorem Ct.tuple (c : Ct p X W k N sc tp) {q : Pos} {e : Expr} (ha : PEb p.g X W e A) (hg : gloB sc "tuple" = true := by rfl) (he : starEach (e :: []) X.env = (false, eval e X.env) :: starEach [] X.env := by rfl) : PEx p.g X W (.Call (.Name "tuple" q) [e] [] pos) (a1 pTuple A) :=
  e_tupleC c.c ha (c.b (by decide)) (c.gl hg) he
theorem Ct.isi (c : Ct p X W k N sc tp) {q p2 : Pos} {e : Expr} {x : Str} (M : String) (ha : PEb p.g X W e A) (hv : bootBuiltins x = some (.type M)) (hx : bnm.contains x = true := by rfl) (hN : M ∈ basT := by decide) (hg : gloB sc "isinstance" = true := by rfl) (hgx : gloB sc x = true := by rfl)
    (hn : x ≠ "__name__" := by decide) (hdb : (x == ("__debug__" : Str)) = false := by rfl) (he : starEach (e :: [.Name x p2]) X.env = (false, eval e X.env) :: starEach [.Name x p2] X.env := by rfl) (he2 : starEach (.Name x p2 :: []) X.env = (false, eval (.Name x p2) X.env) :: starEach [] X.env := by rfl)
    (hpl : (backTo pos (starEach [.Name x p2] X.env)).any (·.1) = false := by rfl) : PEx p.g X W (.Call (.Name "isinstance" q) [e, .Name x p2] [] pos) (a1 (pIsi [M]) A) :=
  e_isi c.c ha (c.b (by decide)) (c.b hx) hv hN (c.gl hg) (c.gl hgx) hn hdb he he2 hpl
theorem Ct.app (c : Ct p X W k N sc tp) (i : Nat) {x : Str} {e : Expr} {q apos cpos : Pos} (he : PEx p.g X W e A) (h : N[i]? = some x := by rfl) (hv : visB sc x = true := by rfl) (hd : (x == ("__debug__" : Str)) = false := by rfl)
    (hcd : (x == ("__classdict__" : Str)) = false := by rfl) (hbase : attributeBase (.Name x q) "append" X.env (eval (.Name x q) X.env) = eval (.Name x q) X.env := by rfl)
    (hfew : ((backTo cpos (starEach (e :: []) X.env)).all (fun x => !x.1) && (backToKw cpos (keywordEach [] X.env)).all (fun x => x.1.isSome)
      && decide ((e :: []).length + ([] : List Keyword).length + (if ([] : List Keyword).isEmpty then 0 else 1) < 30)) = true := by rfl)
    (hline : (apos.endLine == cpos.line) = true := by rfl) (hs : starEach (e :: []) X.env = (false, eval e X.env) :: starEach [] X.env := by rfl) (hsw : swapsWith (.Call (.Attribute (.Name x q) "append" apos) [e] [] cpos) none pos.line X.env = pure false := by rfl) :
    PSx p.g X W (.Expr (.Call (.Attribute (.Name x q) "append" apos) [e] [] cpos) pos) (sApp i A) :=
  s_app c.c i he (c.ix h) (c.vis hv) hd hcd hbase hfew hline hs hsw
/-! ### defs -/
abbrev CallP (p : Par) (k : Nat) (x : Str) (n : Nat) (F : FX) : Prop := CallOk p.g p.P p.w p.mg p.base k x n F
theorem Ct.call (c : Ct p X W k N sc tp) {j n : Nat} {x : Str} {q : Pos} {e : Expr} {es : List Expr} {F : FX} (co : CallP p j x n F) (ha : PAx p.g X W (e :: es) C) (hl : AL C n) (hj : j ≤ k := by decide)
    (hg : gloB sc x = true := by rfl) (hdb : (x == ("__debug__" : Str)) = false := by rfl) (he : starEach (e :: es) X.env = (false, eval e X.env) :: starEach es X.env := by rfl) (hpl : (backTo pos (starEach es X.env)).any (·.1) = false := by rfl) :
    PEx p.g X W (.Call (.Name x q) (e :: es) [] pos) (aCl F C) :=
  c_call c.c (by rw [c.P, c.w, c.mg, c.base]; exact co) ha hl hj (c.gl hg) hdb he hpl
theorem def_p {p : Par} {x qual : Str} {params : Arguments} {body : List Stmt} {scope : Scope} {dvs : List V} {kws : List (Str × V)} {f : Addr} {fd : FuncData} {N ps : List Str} {k : Nat} {A : SX} {F : FX} (FD : FunD p.g.K x qual params body scope dvs kws f fd) (S : FnScope N ps scope)
    (hb : ∀ X W, Ct p X W k N scope true → PBx p.g X W body A) (hF : ∀ args st, args.length = ps.length → F args st = .bad ∨ F args st = runB N.length A args st) :
    FnOk p.P p.w p.g.K p.mg p.base (L2.CX p.P p.w) (k + 1) f fd ps (spG p.g ps.length F) :=
  def_ok FD S (fun X W h1 h2 h3 h4 h5 h6 h7 h8 => hb X W ⟨h8, h1, h2, h3, h4, h5, fun _ => h7, h6⟩) hF
theorem call_p {p : Par} {x qual : Str} {params : Arguments} {body : List Stmt} {scope : Scope} {kws : List (Str × V)} {f : Addr} {fd : FuncData} {N ps : List Str} {k : Nat} {A : SX} {F : FX} (FD : FunD p.g.K x qual params body scope [] kws f fd) (S : FnScope N ps scope) (hm : p.mg x = some (.ref f)) (hbi : Binds p.g.K fd ps [])
    (hb : ∀ X W, Ct p X W k N scope true → PBx p.g X W body A) (hF : ∀ args st, args.length = ps.length → F args st = .bad ∨ F args st = runB N.length A args st) : CallP p (k + 1) x ps.length F :=
  callOk FD hm hbi (def_p FD S hb hF)
end
end Py

namespace Py
open PySem PySem.Spec PyProof.Rows L2
/-! ### blocks of comprehensions -/
def blkB (N : List Str) (sc scope : Scope) (own : List (Str × Nat)) : Bool :=
  (scope.names.all fun y => decide (scope.names.lookup y.1 = some y.2)) && ((own.all fun q => decide (N[q.2]? = some q.1)) && ((scope.names.all fun y => y.2 != .free || visB0 sc y.1) && (scope.names.all fun y => !(y.2 == .local || y.2 == .cell) || ((own.map (·.1)).contains y.1 || !N.contains y.1))))
where visB0 (sc : Scope) (x : Str) : Bool := match sc.names.lookup x with
  | some .cell => true
  | some .free => true
  | _ => false
section
variable {p : Par} {X : Cx} {W : WX} {k : Nat} {N : List Str} {sc : Scope} {tp : Bool} {A B C1 : EX} {C : AX} {T : TX} {pos : Pos} {I : IX} {Gt : GX}
theorem Ct.bok (c : Ct p X W k N sc tp) {scope : Scope} {own : List (Str × Nat)} (hk : scope.kind = .function) (h : blkB N sc scope own = true) : BlkOk X.N X.env.scope scope own := by
  unfold blkB at h
  simp only [Bool.and_eq_true, List.all_eq_true, decide_eq_true_eq] at h
  obtain ⟨h1, h2, h3, h4⟩ := h
  refine ⟨hk, fun y hy => h1 y hy, fun q hq => by rw [c.n]; exact h2 q hq, fun y hy e => ?_, fun y hy e => ?_⟩
  · have q := h3 y hy
    rw [e] at q
    rw [c.es]
    have q' : blkB.visB0 sc y.1 = true := q
    unfold blkB.visB0 at q'
    split at q'
    · rename_i z; exact .inl z
    · rename_i z; exact .inr z
    · cases q'
  · have q := h4 y hy
    rw [c.n]
    have z : (y.2 == NameKind.local || y.2 == NameKind.cell) = true := by
      rcases e with e | e <;> rw [e] <;> rfl
    rw [z] at q
    simp only [Bool.not_true, Bool.false_or, Bool.or_eq_true, List.contains_eq_mem, decide_eq_true_eq, Bool.not_eq_true', decide_eq_false_iff_not] at q
    exact q
def relab (scope sc : Scope) : Scope := { scope with names := scope.names.map fun (n, k) => if (k == NameKind.free && sc.kind == .function && sc.names.lookup n == some .cell) = true then (n, NameKind.cell) else (n, k) }
theorem Ct.blk (c : Ct p X W k N sc tp) {s : Shared} {H : Hp} {scope : Scope} {cl : List (Str × Addr)} {Ca : Addr} {fp : List Addr} : Ct p (X.blk s H scope (compEnvC scope cl Ca X.env) fp) W0 k N (relab scope sc) false :=
  ⟨c.c.blk, c.P, c.w, c.mg, c.base, c.n, fun h => Bool.noConfusion h, by
    rw [← c.es]
    rfl⟩
theorem Ct.lc (c : Ct p X W k N sc tp) {elt tg it : Expr} {ifs : List Expr} {scope : Scope} {is : List Nat} (own : List (Str × Nat)) (hi : PIx p.g X W tg it I)
    (hg : ∀ (s : Shared) (H : Hp) (C : Addr) (cl : List (Str × Addr)) (fp : List Addr), PGx p.g (X.blk s H scope (compEnvC scope cl C X.env) fp) tg is Gt)
    (ht : ∀ (s : Shared) (H : Hp) (C : Addr) (cl : List (Str × Addr)) (fp : List Addr), PTs (X.blk s H scope (compEnvC scope cl C X.env) fp) ifs (RT p.g W0 T))
    (he : ∀ (s : Shared) (H : Hp) (C : Addr) (cl : List (Str × Addr)) (fp : List Addr), PEx p.g (X.blk s H scope (compEnvC scope cl C X.env) fp) W0 elt A) (hk : scope.kind = .function := by rfl) (hb : blkB N sc scope own = true := by decide +kernel) (his : ∀ j, j ∈ is → j ∈ own.map (·.2) := by decide) (hs : ∀ x, foldedSetIterable it X.env x = pure x := by intro _; rfl) :
    PEx p.g X W (.ListComp elt [⟨tg, it, ifs, 0⟩] scope pos) (aComp (own.map (·.2)) I Gt T A) := e_lc c.c.cm c.c.nd hi (c.bok hk hb) hg ht he his hs
theorem Ct.setLc (c : Ct p X W k N sc tp) (i : Nat) {y : Str} {py : Pos} {elt tg it : Expr} {ifs : List Expr} {scope : Scope} {is : List Nat} (own : List (Str × Nat)) {spos : Pos} (hi : PIx p.g X W tg it I)
    (hg : ∀ (s : Shared) (H : Hp) (C : Addr) (cl : List (Str × Addr)) (fp : List Addr), PGx p.g (X.blk s H scope (compEnvC scope cl C X.env) fp) tg is Gt)
    (ht : ∀ (s : Shared) (H : Hp) (C : Addr) (cl : List (Str × Addr)) (fp : List Addr), PTs (X.blk s H scope (compEnvC scope cl C X.env) fp) ifs (RT p.g W0 T))
    (he : ∀ (s : Shared) (H : Hp) (C : Addr) (cl : List (Str × Addr)) (fp : List Addr), PEx p.g (X.blk s H scope (compEnvC scope cl C X.env) fp) W0 elt A)
    (hy : N[i]? = some y := by rfl) (hyl : sc.names.lookup y = some .local := by rfl) (hk : scope.kind = .function := by rfl) (hb : blkB N sc scope own = true := by decide +kernel)
    (hsw : swapsWith (.ListComp elt [⟨tg, it, ifs, 0⟩] scope pos) (some (.Name y py)) spos.line X.env = pure true := by exact sw_true rfl rfl rfl (by decide +kernel)) (his : ∀ j, j ∈ is → j ∈ own.map (·.2) := by decide) (hs : ∀ x, foldedSetIterable it X.env x = pure x := by intro _; rfl) :
    PSx p.g X W (.Assign [.Name y py] (.ListComp elt [⟨tg, it, ifs, 0⟩] scope pos) spos) (sSet i (aComp (own.map (·.2)) I Gt T A)) := s_setLc i c.c.cm c.c.nd hi (c.bok hk hb) hg ht he (c.ix hy) (by rw [c.es]; exact hyl) hsw his hs
theorem Ct.ownLc (c : Ct p X W k N sc tp) (i : Nat) {y : Str} {py : Pos} {elt tg it : Expr} {ifs : List Expr} {scope : Scope} {is : List Nat} (own : List (Str × Nat)) {spos : Pos} (hi : PIx p.g X W tg it I)
    (hg : ∀ (s : Shared) (H : Hp) (C : Addr) (cl : List (Str × Addr)) (fp : List Addr), PGx p.g (X.blk s H scope (compEnvC scope cl C X.env) fp) tg is Gt)
    (ht : ∀ (s : Shared) (H : Hp) (C : Addr) (cl : List (Str × Addr)) (fp : List Addr), PTs (X.blk s H scope (compEnvC scope cl C X.env) fp) ifs (RT p.g W0 T))
    (he : ∀ (s : Shared) (H : Hp) (C : Addr) (cl : List (Str × Addr)) (fp : List Addr), PEx p.g (X.blk s H scope (compEnvC scope cl C X.env) fp) W0 elt A)
    (hy : N[i]? = some y := by rfl) (hyl : sc.names.lookup y = some .local := by rfl) (hk : scope.kind = .function := by rfl) (hb : blkB N sc scope own = true := by decide +kernel)
    (hsw : swapsWith (.ListComp elt [⟨tg, it, ifs, 0⟩] scope pos) (some (.Name y py)) spos.line X.env = pure true := by exact sw_true rfl rfl rfl (by decide +kernel)) (his : ∀ j, j ∈ is → j ∈ own.map (·.2) := by decide) (hs : ∀ x, foldedSetIterable it X.env x = pure x := by intro _; rfl) :
    PSx p.g X W (.Assign [.Name y py] (.ListComp elt [⟨tg, it, ifs, 0⟩] scope pos) spos) (sOwn i (aComp (own.map (·.2)) I Gt T A)) := s_ownLc i c.c.cm c.c.nd hi (c.bok hk hb) hg ht he (c.ix hy) (by rw [c.es]; exact hyl) hsw his hs
/-! ### what is walked -/
theorem Ct.iq (c : Ct p X W k N sc tp) {tg e : Expr} (h : PEx p.g X W e A) : PIx p.g X W tg e (iSq A) := i_seq c.c.K h
theorem Ct.ien (c : Ct p X W k N sc tp) {e : Expr} {q tpos : Pos} {elts : List Expr} {kk : Nat} (h : PEx p.g X W e A) (hg : gloB sc "enumerate" = true := by rfl) (hs : starEach [e] X.env = [(false, eval e X.env)] := by rfl) (hs2 : starEach (e :: []) X.env = (false, eval e X.env) :: starEach [] X.env := by rfl) :
    PIx p.g X W (.Tuple elts kk tpos) (.Call (.Name "enumerate" q) [e] [] pos) (iEn A) := i_enum c.c.K h (c.b (by decide)) (c.gl hg) hs hs2
theorem Ct.ir1 (c : Ct p X W k N sc tp) {tg e : Expr} {q : Pos} (h : PEx p.g X W e A) (hg : gloB sc "range" = true := by rfl) (hs : starEach [e] X.env = [(false, eval e X.env)] := by rfl) (hs2 : starEach (e :: []) X.env = (false, eval e X.env) :: starEach [] X.env := by rfl) :
    PIx p.g X W tg (.Call (.Name "range" q) [e] [] pos) (iRg1 A) := i_range1 h (c.b (by decide)) (c.gl hg) hs hs2
theorem Ct.ir2 (c : Ct p X W k N sc tp) {tg e f : Expr} {q : Pos} (h : PEx p.g X W e A) (h' : PEx p.g X W f B) (hg : gloB sc "range" = true := by rfl) (hs : starEach [e, f] X.env = [(false, eval e X.env), (false, eval f X.env)] := by rfl) (hs2 : starEach (e :: [f]) X.env = (false, eval e X.env) :: starEach [f] X.env := by rfl) (hs3 : starEach (f :: []) X.env = (false, eval f X.env) :: starEach [] X.env := by rfl) :
    PIx p.g X W tg (.Call (.Name "range" q) [e, f] [] pos) (iRg2 A B) := i_range2 h h' (c.b (by decide)) (c.gl hg) hs hs2 hs3
theorem Ct.tu (c : Ct p X W k N sc tp) {es : List Expr} {kk : Nat} {is : List Nat} {Gs : List Val → Env → Option Env} (n : Nat) (h : PGsx p.g X es is Gs) (hn : (assignEach es X.env).length = n := by rfl) (hst : (assignEach es X.env).findIdx? (·.1) = none := by rfl) : PGx p.g X (.Tuple es kk pos) is (gT n Gs) := g_tup c.c.K c.c.cm h hn hst
/-! ### no way -/
theorem b_bad {g : G} {ss : List Stmt} : PBx g X W ss (fun _ _ => .bad) := ⟨fun pins s σ H Dn I q => by
  obtain ⟨Z, D, u0, env, u, e, k, o⟩ := q
  exact o.elim⟩
theorem s_bad {g : G} {s : Stmt} : PSx g X W s (fun _ _ => .bad) := ⟨fun pins s σ H Dn I q => by
  obtain ⟨Z, D, u0, env, u, e, k, o⟩ := q
  exact o.elim⟩
end
def sBad : SX := fun _ _ => .bad
theorem s_no {g : G} {X : Cx} {W : WX} {s : Stmt} : PSx g X W s sBad := s_bad
/-! ### defs of the top -/
structure DefP (p : Par) (x : Str) (st : Stmt) : Prop where
  ex : ∃ f fd, FunD p.g.K x x (defArgs st) (defBody st) (defScope st) [] [] f fd ∧ p.mg x = some (.ref f)
theorem DefP.call {p : Par} {x : Str} {st : Stmt} {N ps : List Str} {k : Nat} {A : SX} {F : FX} (D : DefP p x st) (S : FnScope N ps (defScope st))
    (bi : ∀ f fd, FunD p.g.K x x (defArgs st) (defBody st) (defScope st) [] [] f fd → Binds p.g.K fd ps []) (hb : ∀ X W, Ct p X W k N (defScope st) true → PBx p.g X W (defBody st) A)
    (hF : ∀ args st, args.length = ps.length → F args st = .bad ∨ F args st = runB N.length A args st) : CallP p (k + 1) x ps.length F := by
  obtain ⟨f, fd, FD, hm⟩ := D.ex
  exact call_p FD S hm (bi f fd FD) hb hF
end Py

namespace Py
open PySem PySem.Spec PyProof.Rows L2
theorem relO_one {f : Str} {v : V} {v' : Value} (r : RelV v v') (h : Str) : RelO (List.lookup h [(f, v)]) (if h = f then some v' else none) := by
  by_cases hw : h = f
  · subst hw
    rw [if_pos rfl]
    have q : List.lookup h [(h, v)] = some v := by simp [List.lookup]
    rw [q]
    exact r
  · rw [if_neg hw]
    have qw : (h == f) = false := by simpa using hw
    have q2 : List.lookup h [(f, v)] = none := by simp [List.lookup, qw]
    rw [q2]
    trivial
section
variable {X : Cx} {f : Str} {C fI : Addr}
def tMk1 (f : Str) (C : Addr) (ta : TA) : TE := fun σ H Q => ta σ H fun vs H1 => ∃ y, vs = [y] ∧ ∀ e d, H1 e = none → H1 d = none → e ≠ d → Q (.ref e) (upd (upd H1 d (.xd [(f, y)])) e (exo e C (some d)))
/-- c(e), an error as a value -/
theorem pe_mk1 {a : Expr} {ta : TA} {x : Str} {q pos : Pos} {k : Nat} (T : PyE.Cls1 X.K f C fI) (gC : X.mg x = some (.ref C)) (hr : Room k X.A) (ha : PA X [a] ta) (hg : Gl X x) (hdb : (x == ("__debug__" : Str)) = false)
    (he : starEach (a :: []) X.env = (false, eval a X.env) :: starEach [] X.env) (hpl : (backTo pos (starEach [] X.env)).any (·.1) = false) :
    PE X (.Call (.Name x q) [a] [] pos) (tMk1 f C ta) := by
  refine ⟨fun pins s σ H Q I h => ?_⟩
  refine wpAny_Call_Name_kw (ld_glob I hg gC ?_ hdb)
  refine PySem.W.callWith_K (h₀ := X.base) I.ok.mod.kin T.kC (thn (ha.run pos pins s σ H _ I h) fun us s1 hh => ?_) he hpl
  obtain ⟨vs, H1, I1, r1, v, ev, q1⟩ := hh
  subst ev
  refine ⟨I1.kIn, ?_⟩
  cases r1 with
  | cons rv rn =>
    rename_i v' us'
    cases rn
    show wpAny _ _ (call (.ref C) [v']) _ _ _
    have hlim := I1.nolimit
    obtain ⟨hp, gs, dr, tk, os⟩ := s1
    refine wpAny_call (PyE.made1 T I1.kIn hlim (by have := hr.dp; omega) fun h' tk' e d t1 M => ?_)
    show EP X pins σ Q (.ref e) ⟨h', gs, dr, tk', os⟩
    obtain ⟨G', g1, g2⟩ := restrict h' fun b => decide (b ≠ e)
    have gk : ∀ b, b ≠ e → G'.get? b = h'.get? b := fun b hb => g1 b (decide_eq_true hb)
    have ge : G'.get? e = none := g2 e (by simp)
    have old : ∀ b o, hp.get? b = some o → G'.get? b = some o := fun b o q => (gk b (Nat.ne_of_lt (Nat.lt_of_lt_of_le (Heap.lt_size q) M.new))).trans (M.keep b o q)
    have ob : ObjOk X.prog X.w (upd H1 d (.xd [(f, v)])) G' d (.xd [(f, v)]) := ⟨_, M.ns.at (fun o q => (gk d M.ne).trans q), fun h => relO_one rv h⟩
    have J : Inv X pins σ (upd H1 d (.xd [(f, v)])) ⟨G', gs, dr, tk', os⟩ := I1.laid (t' := tk') old M.big ob
    have he0 : H1 e = none := I1.hok.fresh M.new
    have hd0 : H1 d = none := I1.hok.fresh M.big
    have he1 : upd H1 d (.xd [(f, v)]) e = none := by rw [upd_ne (Ne.symm M.ne)]; exact he0
    have J2 := J.laidN (h' := h') (a := e) (o := exo e C (some d)) (t' := tk') (fun b o q => by
      have hb : b ≠ e := fun z => by
        have q' : G'.get? b = some o := q
        rw [z, ge] at q'; cases q'
      exact (gk b hb).symm.trans q) ge he1 (exo_ok M.obj)
    exact ⟨.ref e, _, J2, rfl, q1 e d he0 hd0 (Ne.symm M.ne)⟩
/-- e.f, e an error that is a value -/
def tXat (f : Str) (K : PySem.W.Frag) (te : TE) : TE := fun σ H Q => te σ H fun x H1 => ∃ a C d fs v, x = .ref a ∧ H1 a = some (exo a C (some d)) ∧ H1 d = some (.xd fs) ∧ fs.lookup f = some v ∧ ExcC K C ∧ PySem.W.findIn K (.ref C) f = some none ∧ Q v H1
theorem inst_exo {H : Hp} {s : Shared} {pins : List (Addr × Obj)} {σ : L2.St} {a : Addr} {d : Option Addr} (I : Inv X pins σ H s) (h : H a = some (exo a C d)) (hd : ∀ dx, d = some dx → ∃ od, s.heap.get? dx = some od) : ∃ ox od, PySem.W.InstAt s.heap a ox C od ∧ ∀ dx, d = some dx → ∃ o, od = some o ∧ s.heap.get? dx = some o := by
  obtain ⟨t1, e⟩ := exo_at I.hok h
  cases d with
  | none => exact ⟨_, none, ⟨e, rfl, rfl, trivial⟩, fun dx z => nomatch z⟩
  | some dx =>
    obtain ⟨o, ho⟩ := hd dx rfl
    exact ⟨_, some o, ⟨e, rfl, rfl, ho⟩, fun dy z => by cases z; exact ⟨o, rfl, ho⟩⟩
theorem pe_xat {e : Expr} {te : TE} {pos : Pos} {f : Str} (he : PE X e te) (hb : attributeBase e f X.env (eval e X.env) = eval e X.env) : PE X (.Attribute e f pos) (tXat f X.K te) := by
  refine ⟨fun pins s σ H Q I h => ?_⟩
  refine attr_of hb (thn (he.run pins s σ H _ I h) fun u s1 hh => ?_)
  obtain ⟨x, H1, I1, rx, a, C, d, fs, v, ex, h1, h2, hl, T, no, q⟩ := hh
  subst ex
  obtain rfl : u = Value.ref a := rx
  have hx : ObjOk X.prog X.w H1 s1.heap d (.xd fs) := I1.hok d _ h2
  obtain ⟨mA, hns, hr⟩ := hx
  obtain ⟨od, ho, hlk⟩ := lookIn_ns hns
  obtain ⟨ox, od', J, hJ⟩ := inst_exo I1 h1 fun dx z => by cases z; exact ⟨od, ho⟩
  obtain ⟨o, e1, e2⟩ := hJ d rfl
  rw [ho] at e2
  cases e2
  subst e1
  obtain ⟨u, hu, ru⟩ := RelO.some_of (v := v) (o := mA f) (by rw [← hl]; exact hr f)
  exact HandSPX.exc_get I1.kIn J T.hg T.hk T.hs (PySem.W.findObj_own T.hd no rfl (by rw [hlk, hu])) (handed_of ru) ⟨v, H1, I1.tok _, ru, q⟩
/-- isinstance(e, C'), e an error that is a value -/
def rIsX (K : PySem.W.Frag) : List V → Hp → VK → Prop := fun xs H Q => ∃ (a C C' : Addr) (d : Option Addr) (b : Bool), xs = [.ref a, .ref C'] ∧ H a = some (exo a C d) ∧ (∀ dx, d = some dx → ∃ fs, H dx = some (.xd fs)) ∧ ExcC K C ∧ PySem.W.kitOne K (.ref C) (.ref C') = some b ∧ Q (.bl b) H
theorem call_isX : CallR X (.builtin "isinstance") (rIsX X.K) := by
  intro pins s σ H xs us Q I r h
  obtain ⟨a, C, C', d, b, rfl, ha, hd, T, e, q⟩ := h
  obtain ⟨u1, u2, rfl, r1, r2⟩ := vals2 r
  cases (show u1 = Value.ref a from r1)
  cases (show u2 = Value.ref C' from r2)
  obtain ⟨ox, od, J, _⟩ := inst_exo I ha fun dx z => by
    obtain ⟨fs, hf⟩ := hd dx z
    exact objOk_get (I.hok dx _ hf)
  have hcl : (PySem.W.clsIn X.K C).isSome = true := by
    obtain ⟨cd, hc, _⟩ := PySem.W.any_some T.hd
    rw [hc]; rfl
  exact PySem.W.kia_one (PySem.W.kitx_exc hcl T.hg T.hk T.hs T.ha T.hn T.ht T.hm) I.kIn J e (fun z => nomatch z) fun tk => ⟨.bl b, H, I.tok tk, rfl, q⟩
/-- c(), an error without a field -/
theorem pe_mk0 {x : Str} {q pos : Pos} (E : PySem.W.excIn X.K C PyE.tailE "Exception.__new__" = true) (gC : X.mg x = some (.ref C)) (kC : PySem.W.keepIn X.K (.ref C) = true) (hg : Gl X x) (hdb : (x == ("__debug__" : Str)) = false) :
    PE X (.Call (.Name x q) [] [] pos) (fun σ H Q => ∀ a, H a = none → Q (.ref a) (upd H a (exo a C none))) := by
  refine ⟨fun pins s σ H Q I h => ?_⟩
  refine wpAny_Call_Name_kw (ld_glob I hg gC ?_ hdb)
  refine PySem.W.callWith_K0 I.kIn kC ?_
  show wpAny _ _ (call (.ref C) []) _ _ _
  obtain ⟨bm, N, nm, qn, bs, hdct, sn, sub, ab, col, dd, k0, k1, k2, k3, k5, mN, hC, hN, hni, T⟩ := exc_obj I.kIn E
  refine wpAny_call_exc_subT F.excBase_Exception T hC hN hni (fun h' a hm => ?_) (Nat.zero_le _)
  have hn : H a = none := I.hok.gone hm.new
  obtain ⟨t, ht, _, _⟩ := hm.there
  exact ⟨.ref a, upd H a (exo a C none), I.laidN hm.keeps hm.new hn (exo_ok ht), rfl, h a hn⟩
end
end Py

namespace Py
open PySem PySem.Spec PyProof.Rows L2
/-! ### errors as values -/
def pMk1 (c : String) : PN := fun vs st => match vs with
  | [v] => .ok (.exc1 c v, false) st
  | _ => .bad
theorem pMk1_nx (c : String) : NoXN (pMk1 c) := fun vs s e s' h => by
  unfold pMk1 at h
  split at h <;> cases h
theorem pMk1_ok {g : G} {c : String} (hc : g.exc c = true) : SN g (fun xs H Q => ∃ y, xs = [y] ∧ ∀ e d, H e = none → H d = none → e ≠ d → Q (.ref e) (upd (upd H d (.xd [(Str.ofString (excAttr c), y)])) e (exo e (g.cls c) (some d)))) (pMk1 c) := fun u vs xs Q s r o => by
  unfold pMk1 at o
  split at o
  · rename_i v
    cases r with
    | cons rv rn =>
      cases rn
      rename_i y
      refine ⟨y, rfl, fun e d he hd ne => ?_⟩
      obtain ⟨l1, s1⟩ := laid (g := g) s hd (.xd [(Str.ofString (excAttr c), y)])
      have he1 : upd u.H d (.xd [(Str.ofString (excAttr c), y)]) e = none := by rw [upd_ne ne]; exact he
      obtain ⟨l2, s2⟩ := laid (g := g) (u := ⟨u.ph, fun b => u.F b ∨ b = d, upd u.H d (.xd [(Str.ofString (excAttr c), y)]), u.st⟩) s1 he1 (exo e (g.cls c) (some d))
      refine o rfl _ (.ref e) (l1.trans l2) s2 (.inl ⟨rfl, .exc1 (d := d) (y := y) hc (.inr rfl) (.inl (.inr rfl)) upd_same ?_ ((rv.le (l1.le0 s)).le (l2.le0 s1))⟩)
      show upd (upd u.H d _) e _ d = _
      rw [upd_ne ne.symm, upd_same]
  · exact o.elim
def pMk0 (c : String) : EX := fun _ st => .ok (.exc0 c, false) st
def pXat (f : String) : P1 := fun v st => match v with
  | .exc1 c w => if excAttr c = f then .ok (w, false) st else .bad
  | _ => .bad
theorem pXat_nx (f : String) : NoX1 (pXat f) := fun v s e s' h => by
  unfold pXat at h
  repeat' (split at h)
  all_goals cases h
def clsOf : Val → Option String
  | .exc0 c => some c
  | .exc1 c _ => some c
  | _ => none
def pIsC (d : String) : P1 := fun v st => match clsOf v with
  | some c => .ok (.bl (subB c d), false) st
  | none => match tyN v st with
    | some _ => .ok (.bl false, false) st
    | none => .bad
theorem pIsC_nx (f : String) : NoX1 (pIsC f) := fun v s e s' h => by
  unfold pIsC at h
  repeat' (split at h)
  all_goals cases h
section
variable {p : Par} {X : Cx} {W : WX} {k : Nat} {N : List Str} {sc : Scope} {tp : Bool} {A B C1 : EX} {C : AX} {T : TX} {pos : Pos}
theorem pXat_ok {f : String} : S1 p.g (fun x H Q => ∃ a C d fs v, x = .ref a ∧ H a = some (exo a C (some d)) ∧ H d = some (.xd fs) ∧ fs.lookup (Str.ofString f) = some v ∧ ExcC p.g.K C ∧ PySem.W.findIn p.g.K (.ref C) (Str.ofString f) = some none ∧ Q v H) (pXat f) := fun u v x Q s bv o => by
  unfold pXat at o
  split at o
  · rename_i c w
    split at o
    · rename_i hf
      subst hf
      rcases bv with r | ⟨_, _, z⟩
      · cases r with
        | exc1 hc h1 h2 h3 h4 r =>
          rename_i y a d
          exact ⟨a, _, d, _, y, rfl, h3, h4, by simp [List.lookup], (p.xc c hc).ec, (p.xc c hc).no, o.pure s r⟩
      · exact z.elim
    · exact o.elim
  · exact o.elim
theorem pIsC_ok {d : String} (hd : p.g.exc d = true) : S1 p.g (fun x H Q => rIsi p.g.K [x, .ref (p.g.cls d)] H Q ∨ rIsX p.g.K [x, .ref (p.g.cls d)] H Q) (pIsC d) := fun u v x Q s bv o => by
  have rest : clsOf v = none → rIsi p.g.K [x, .ref (p.g.cls d)] u.H Q ∨ rIsX p.g.K [x, .ref (p.g.cls d)] u.H Q := fun e => by
    unfold pIsC at o
    rw [e] at o
    cases ht : tyN v u.st with
    | none => simp only [ht] at o; exact o.elim
    | some t =>
      simp only [ht] at o
      obtain ⟨h1, h2⟩ := ty_ok s bv ht
      exact .inl ⟨x, .ref (p.g.cls d), .type t, .ref (p.g.cls d), false, rfl, .own _, h1, p.kb t d h2 hd, o.pure s (.bl _)⟩
  cases v with
  | exc0 c =>
    rcases bv with r | ⟨_, _, z⟩
    · cases r with
      | exc0 hc h1 h2 => exact .inr ⟨_, _, _, none, _, rfl, h2, (fun dx z => nomatch z), (p.xc c hc).ec, p.ki c d hc hd, o.pure s (.bl _)⟩
    · exact z.elim
  | exc1 c w =>
    rcases bv with r | ⟨_, _, z⟩
    · cases r with
      | exc1 hc h1 h2 h3 h4 r => exact .inr ⟨_, _, _, some _, _, rfl, h3, (fun dx z => by cases z; exact ⟨_, h4⟩), (p.xc c hc).ec, p.ki c d hc hd, o.pure s (.bl _)⟩
    · exact z.elim
  | _ => exact rest rfl
theorem e_xat (c : Ct p X W k N sc tp) {e : Expr} (f : String) (he : PEb p.g X W e A) (hb : attributeBase e (Str.ofString f) X.env (eval e X.env) = eval e X.env := by rfl) : PEx p.g X W (.Attribute e (Str.ofString f) pos) (a1 (pXat f) A) :=
  PE.imp (pe_xat he hb) fun σ H Q h => by
    rw [c.c.K]
    exact t1_sound pXat_ok (pXat_nx f) σ H Q h
theorem Ct.mk1 (c : Ct p X W k N sc tp) {a : Expr} {q : Pos} (d : String) (hd : p.g.exc d = true) (ha : PAx p.g X W [a] C) (h1 : has1 d = true := by rfl) (hg : gloB sc (Str.ofString d) = true := by rfl) (hdb : (Str.ofString d == ("__debug__" : Str)) = false := by rfl)
    (he : starEach (a :: []) X.env = (false, eval a X.env) :: starEach [] X.env := by rfl) (hpl : (backTo pos (starEach [] X.env)).any (·.1) = false := by rfl) : PEx p.g X W (.Call (.Name (Str.ofString d) q) [a] [] pos) (aN (pMk1 d) C) := by
  obtain ⟨fI, T⟩ := (p.xc d hd).one h1
  refine PE.imp (pe_mk1 (by rw [c.c.K]; exact T) (by rw [c.mg]; exact (p.xc d hd).gC) c.c.rm ha (c.gl hg) hdb he hpl) fun σ H Q h => ?_
  exact tN_sound (pMk1_ok hd) (pMk1_nx d) σ H Q h
theorem Ct.mk0 (c : Ct p X W k N sc tp) {q : Pos} (d : String) (hd : p.g.exc d = true) (h1 : has1 d = false := by rfl) (hg : gloB sc (Str.ofString d) = true := by rfl) (hdb : (Str.ofString d == ("__debug__" : Str)) = false := by rfl) : PEx p.g X W (.Call (.Name (Str.ofString d) q) [] [] pos) (pMk0 d) := by
  refine PE.imp (pe_mk0 (C := p.g.cls d) (by rw [c.c.K]; exact (p.xc d hd).zero h1) (by rw [c.mg]; exact (p.xc d hd).gC) (by rw [c.c.K]; exact (p.xc d hd).kC) (c.gl hg) hdb) fun σ H Q h => ?_
  obtain ⟨Z, D, u0, env, u, rfl, k1, o⟩ := h
  intro a ha
  obtain ⟨l1, s1⟩ := laid (g := p.g) k1.s ha (exo a (p.g.cls d) none)
  exact o ⟨u.ph, fun b => u.F b ∨ b = a, upd u.H a (exo a (p.g.cls d) none), u.st⟩ (.ref a) rfl (l1.le k1.s k1.pr) (k1.on (l1.le k1.s k1.pr) s1) (.inl ⟨rfl, .exc0 hd (.inr rfl) upd_same⟩)
theorem Ct.isc (c : Ct p X W k N sc tp) {q p2 : Pos} {e : Expr} (d : String) (hd : p.g.exc d = true) (ha : PEb p.g X W e A) (hg : gloB sc "isinstance" = true := by rfl) (hgx : gloB sc (Str.ofString d) = true := by rfl)
    (hdb : (Str.ofString d == ("__debug__" : Str)) = false := by rfl) (he : starEach (e :: [.Name (Str.ofString d) p2]) X.env = (false, eval e X.env) :: starEach [.Name (Str.ofString d) p2] X.env := by rfl) (he2 : starEach (.Name (Str.ofString d) p2 :: []) X.env = (false, eval (.Name (Str.ofString d) p2) X.env) :: starEach [] X.env := by rfl)
    (hpl : (backTo pos (starEach [.Name (Str.ofString d) p2] X.env)).any (·.1) = false := by rfl) : PEx p.g X W (.Call (.Name "isinstance" q) [e, .Name (Str.ofString d) p2] [] pos) (a1 (pIsC d) A) :=
  PE.imp (pe_callB (CallR.or call_isi call_isX) (c.gl hg) (c.b (by decide)) boot_isinstance (pa_cons ha (pa_cons (pe_glob (v := .ref (p.g.cls d)) (c.gl hgx) (by rw [c.mg]; exact (p.xc d hd).gC) rfl hdb) pa_nil he2) he) (by decide) (by decide) he hpl) fun σ H Q h => by
    rw [c.c.K]
    exact t1_sound (pIsC_ok hd) (pIsC_nx d) σ H Q h
end
end Py

namespace Py
open PySem PySem.Spec PyProof.Rows L2
/-! ### the law's own def -/
def spLaw (K : PySem.W.Frag) : Sp := fun vs H Q _ => ∃ (a : Addr) (ns : List Int), vs = [.ref a] ∧ SqL K H a (ns.map V.int) ∧ ns.length ≤ 63 ∧ ∀ H', Q (.bl true) H'
theorem VRs.ints {g : G} {u : Wd} : ∀ ns : List Int, VRs g u (ns.map Val.int) (ns.map V.int)
  | [] => .nil
  | n :: ns => .cons (.int n) (VRs.ints ns)
theorem law_ok {p : Par} {x qual y : Str} {params : Arguments} {body : List Stmt} {scope : Scope} {dvs : List V} {kws : List (Str × V)} {f : Addr} {fd : FuncData} {N : List Str} {k : Nat} {A : SX} (FD : FunD p.g.K x qual params body scope dvs kws f fd) (S : FnScope N [y] scope)
    (hb : ∀ X W, Ct p X W k N scope true → PBx p.g X W body A)
    (hA : ∀ ns : List Int, ns.length ≤ 63 → ∃ fr st, runB N.length A [.scr (ns.map Val.int)] [] = .ok (.bl true, fr) st) :
    FnOk p.P p.w p.g.K p.mg p.base (fun _ _ _ _ _ _ => False) (k + 1) f fd [y] (spLaw p.g.K) := by
  refine FD.ok S (fun vs H Q E h => ?_) fun cdv A' outer s H vs Q E hr h => ?_
  · obtain ⟨a, ns, rfl, _⟩ := h
    rfl
  refine ⟨_, PSs.nox (hb _ (fun _ _ _ _ => False) ⟨⟨rfl, S.nd, rfl, takes0, PassesOwn.never, hr⟩, rfl, rfl, rfl, rfl, rfl, fun _ _ => rfl, rfl⟩), ?_⟩
  obtain ⟨a, ns, rfl, hS, hl, hQ⟩ := h
  obtain ⟨fr, st, e⟩ := hA ns hl
  have key : ∃ u : Wd, u.H = H ∧ u.st = [] ∧ SRel p.g u ∧ VRs p.g u [.scr (ns.map Val.int)] [.ref a] := by
    rcases hS with r | r
    · refine ⟨⟨fun _ => 0, fun b => b = a, H, []⟩, rfl, rfl, ⟨fun m hm => absurd hm (Nat.not_lt_zero m), fun m k hm => absurd hm (Nat.not_lt_zero m), fun m hm => absurd hm (Nat.not_lt_zero m), fun b hb => ?_⟩, .cons (.scr (.inl ⟨rfl, r⟩) (VRs.ints ns)) .nil⟩
      have hb' : b = a := hb
      subst hb'
      show H b ≠ none
      rcases r with r | ⟨o, r⟩ <;> rw [r] <;> exact fun z => nomatch z
    · exact ⟨⟨fun _ => 0, fun _ => False, H, []⟩, rfl, rfl, ⟨fun m hm => absurd hm (Nat.not_lt_zero m), fun m k hm => absurd hm (Nat.not_lt_zero m), fun m hm => absurd hm (Nat.not_lt_zero m), fun b hb => hb.elim⟩, .cons (.scr (.inr fun H => .inr r) (VRs.ints ns)) .nil⟩
  obtain ⟨u, eH, est, sr, rv⟩ := key
  have hps : 1 ≤ N.length := by have := congrArg List.length S.pre; rw [List.length_take] at this; simp at this; omega
  refine ⟨fun _ => False, _, u, env0 N.length [.scr (ns.map Val.int)], u, eH, Ok.enter sr ⟨fun _ h => h.elim, fun _ h => h.elim, fun _ h => h.elim⟩ rv N (by simpa using hps), ?_⟩
  unfold runB at e
  rw [est]
  cases hA : A (env0 N.length [.scr (ns.map Val.int)]) [] with
  | rt v fr' e' st' =>
    rw [hA] at e
    cases e
    intro σ' u' x e1 k' pv
    rcases pv with ⟨_, r⟩ | ⟨_, a, _, c, _⟩
    · cases r; exact hQ u'.H
    · exact c.elim
  | nx e' st' => rw [hA] at e; cases e
  | bk e' st' => rw [hA] at e; cases e
  | ct e' st' => rw [hA] at e; cases e
  | rs x e' st' => rw [hA] at e; cases e
  | bad => rw [hA] at e; cases e
end Py

namespace Py
open PySem PySem.Spec PyProof.Rows L2
/-! ### plain laws of the readings -/
theorem forL_inv {G : GX} {B : SX} (P : Nat → Env → Sto → Prop) : ∀ {vs : List Val} (i : Nat) {env : Env} {st : Sto}, P i env st →
    (∀ j v e s, vs[j]? = some v → P (i + j) e s → ∃ e1, G v e = some e1 ∧ ∃ e2 s2, (B e1 s = .nx e2 s2 ∨ B e1 s = .ct e2 s2) ∧ P (i + j + 1) e2 s2) →
    ∃ e s, forL G B vs env st = .nx e s ∧ P (i + vs.length) e s
  | [], i, env, st, h0, _ => ⟨env, st, rfl, h0⟩
  | v :: vs, i, env, st, h0, hs => by
    obtain ⟨e1, g1, e2, s2, hb, hp⟩ := hs 0 v env st rfl h0
    obtain ⟨e, s, hf, hq⟩ := forL_inv (G := G) (B := B) P (vs := vs) (i + 1) (env := e2) (st := s2) hp fun j v' e s hj hp => by
      have := hs (j + 1) v' e s (by simpa using hj) (by rw [show i + (j + 1) = i + 1 + j by omega]; exact hp)
      rw [show i + (j + 1) + 1 = i + 1 + j + 1 by omega] at this
      exact this
    refine ⟨e, s, ?_, by rw [show i + (v :: vs).length = i + 1 + vs.length by simp; omega]; exact hq⟩
    unfold forL
    rw [g1]
    rcases hb with hb | hb
    · simp only [hb]; exact hf
    · simp only [hb]; exact hf
/-- a loop that may answer -/
theorem forL_ret {G : GX} {B : SX} (P : Nat → Env → Sto → Prop) (R : Val → Bool → Env → Sto → Prop) : ∀ {vs : List Val} (i : Nat) {env : Env} {st : Sto}, P i env st →
    (∀ j v e s, vs[j]? = some v → P (i + j) e s → ∃ e1, G v e = some e1 ∧ ((∃ e2 s2, (B e1 s = .nx e2 s2 ∨ B e1 s = .ct e2 s2) ∧ P (i + j + 1) e2 s2) ∨ ∃ w fr e2 s2, B e1 s = .rt w fr e2 s2 ∧ R w fr e2 s2)) →
    (∃ e s, forL G B vs env st = .nx e s ∧ P (i + vs.length) e s) ∨ ∃ w fr e s, forL G B vs env st = .rt w fr e s ∧ R w fr e s
  | [], i, env, st, h0, _ => .inl ⟨env, st, rfl, h0⟩
  | v :: vs, i, env, st, h0, hs => by
    obtain ⟨e1, g1, h⟩ := hs 0 v env st rfl h0
    rcases h with ⟨e2, s2, hb, hp⟩ | ⟨w, fr, e2, s2, hb, hr⟩
    · have ih := forL_ret (G := G) (B := B) P R (vs := vs) (i + 1) (env := e2) (st := s2) hp fun j v' e s hj hp => by
        have := hs (j + 1) v' e s (by simpa using hj) (by rw [show i + (j + 1) = i + 1 + j by omega]; exact hp)
        rw [show i + (j + 1) + 1 = i + 1 + j + 1 by omega] at this
        exact this
      have hu : forL G B (v :: vs) env st = forL G B vs e2 s2 := by
        rw [forL, g1]
        rcases hb with hb | hb <;> simp only [hb]
      rw [hu, show i + (v :: vs).length = i + 1 + vs.length by simp; omega]
      exact ih
    · refine .inr ⟨w, fr, e2, s2, ?_, hr⟩
      rw [forL, g1]
      simp only [hb]
end Py

namespace Py
open PySem PySem.Spec PyProof.Rows L2
/-! ### the drawing of numbers (_law_mixed, _law_draws) -/
def m1 (s k : Int) : Int := ((s + 7919 * k + 1) * 48271) % 2147483647
def m2 (a : Int) : Int := (a * (a / 1009 + 69621)) % 2147483647
def m3 (a : Int) : Int := (a * (a / 2003 + 40692)) % 2147483399
def mixN (s k : Int) : Int := (m3 (m2 (m1 s k)) / 16) % 10007
theorem small_of {a : Int} (h0 : 0 ≤ a) (h1 : a < 10 ^ 18) : smallI a = true := by
  have h2 : a < 1000000000000000000 := h1
  exact Nat.ble_eq_true_of_le (by omega)
theorem mixN_in (s k : Int) : 0 ≤ mixN s k ∧ mixN s k < 10007 := ⟨Int.emod_nonneg _ (by decide), Int.emod_lt_of_pos _ (by decide)⟩
/-- numbers as drawn -/
def Dr (rows : List Int) : Prop := ∀ r ∈ rows, 0 ≤ r ∧ r < 10007
theorem Dr.snoc {rows : List Int} {r : Int} (h : Dr rows) (h0 : 0 ≤ r) (h1 : r < 10007) : Dr (rows ++ [r]) := fun x hx => by
  rcases List.mem_append.mp hx with hx | hx
  · exact h x hx
  · rw [List.mem_singleton.mp hx]; exact ⟨h0, h1⟩
theorem ixN_nat (n i : Nat) (h : i < n) : ixN n (i : Int) = some i := by
  unfold ixN
  rw [if_pos (Int.natCast_nonneg i), if_pos (by omega)]
  simp
theorem atI_map {α β : Type} (f : α → β) (xs : List α) (i : Int) : atI (xs.map f) i = (atI xs i).map f := by
  unfold atI
  rw [List.length_map]
  cases ixN xs.length i with
  | none => rfl
  | some j => simp
theorem atI_of_lt {α : Type} {xs : List α} {i : Nat} (h : i < xs.length) : atI xs (i : Int) = some xs[i] := atI_nat (List.getElem?_eq_getElem h)
theorem rangeOf_get {lo : Int} {n i : Nat} {v : Val} (h : (rangeOf lo n)[i]? = some v) : i < n ∧ v = .int (lo + (i : Int)) := by
  unfold rangeOf at h
  rw [List.getElem?_map] at h
  by_cases hi : i < n
  · rw [List.getElem?_range hi] at h
    cases h
    exact ⟨hi, rfl⟩
  · rw [List.getElem?_eq_none (by simpa using hi)] at h
    cases h
theorem rangeOf_len {lo : Int} {n : Nat} : (rangeOf lo n).length = n := by simp [rangeOf]
theorem cut_to {α : Type} (xs : List α) (n : Nat) : cutL xs none (some (n : Int)) = xs.take n := by
  unfold cutL
  rw [HT.sIx_none, HT.sIx_nat]
  simp only [List.drop_zero, Nat.sub_zero]
  by_cases h : n ≤ xs.length
  · rw [Nat.min_eq_left h]
  · rw [Nat.min_eq_right (by omega), List.take_length, List.take_of_length_le (by omega)]
theorem cut_from {α : Type} (xs : List α) (n : Nat) : cutL xs (some (n : Int)) none = xs.drop n := by
  unfold cutL
  rw [HT.sIx_none, HT.sIx_nat]
  by_cases h : n ≤ xs.length
  · rw [Nat.min_eq_left h, List.take_of_length_le (by simp)]
  · rw [Nat.min_eq_right (by omega)]
    simp
    omega
theorem rng_nat {n : Nat} (h : n ≤ 1000000) : rngOk (n : Int) = true := Nat.ble_eq_true_of_le (by omega)
theorem lst_nil (env : Env) (st : Sto) : aN pLstN aNil env st = .ok (.lst [], true) st := by
  have h : sizeOk ([] : List Val).length = true := decide_eq_true (Nat.zero_le _)
  unfold aN aNil pLstN
  rw [R.bind_ok, if_pos h]
theorem seq_nx {A B : SX} {env e : Env} {st s : Sto} (h : A env st = .nx e s) : sSeq A B env st = B e s := by
  unfold sSeq
  rw [h]; rfl
theorem for_of {I : IX} {Gt : GX} {B : SX} {env : Env} {st s : Sto} {vs : List Val} (h : I env st = .ok vs s) : sFor I Gt B env st = forL Gt B vs env s := by
  unfold sFor
  rw [h]; rfl
/-- the shape of _law_draws's slots -/
def dEnv (ns : List Int) (m : Nat) (rows : List Int) (seed : Int) (a b c : Slot) : Env := [.vl (.scr (ns.map Val.int)), .vl (.int m), .ow (.lst (rows.map Val.int)), .vl (.int seed), a, b, c]
end Py

namespace Py
open PySem PySem.Spec PyProof.Rows L2
/-! ### what the head tells of an error's class -/
def eqF2 (K : PySem.W.Frag) (C : Addr) (x : Str) (v : Option Value) : Bool := decide (PySem.W.findIn K (.ref C) x = some v)
def ec0 (K : PySem.W.Frag) (C : Addr) : Bool :=
  eqF2 K C "__getattribute__" (some (.builtin "BaseException.__getattribute__")) && (eqF2 K C "__getattr__" none && (decide (PySem.W.subIn K (.ref C) (.type "BaseException") = some true) && (PySem.W.hasDictIn K C &&
    (eqF2 K C "__class__" (some (.builtin "object.__class__")) && (decide (PySem.W.specialIn K (.builtin "object.__class__") "__get__" = some (some (.builtin "getset_descriptor.__get__"))) && (decide (PySem.W.takesIn K (.builtin "object.__class__") = some true) && decide (PySem.W.mroIn K C (.type "object") = some true)))))))
theorem ec0_ok {K : PySem.W.Frag} {C : Addr} (h : ec0 K C = true) : ExcC K C := by
  unfold ec0 eqF2 at h
  simp only [Bool.and_eq_true, decide_eq_true_eq] at h
  obtain ⟨h1, h2, h3, h4, h5, h6, h7, h8⟩ := h
  exact ⟨h1, h2, h3, h4, h5, h6, h7, h8⟩
def ec1 (K : PySem.W.Frag) (C fI : Addr) : Bool :=
  PySem.W.excInitIn K C PyE.tailE "Exception.__new__" && (PySem.W.excOver K C PyE.tailE && (eqF2 K C "__setattr__" (some (.builtin "object.__setattr__")) && (eqF2 K C "__init__" (some (.ref fI)) && (decide (PySem.W.typeIn K (.ref C) = some (.type "type")) && PySem.W.isFn K (.ref fI)))))
/-- the class of that name -/
def ecB (K : PySem.W.Frag) (c : String) : Bool :=
  PySem.W.keepIn K (.ref (He.ga K (Str.ofString c))) && (ec0 K (He.ga K (Str.ofString c)) && (eqF2 K (He.ga K (Str.ofString c)) (Str.ofString (excAttr c)) none &&
    (if has1 c = true then ec1 K (He.ga K (Str.ofString c)) (He.ma K (He.ga K (Str.ofString c)) "__init__") else PySem.W.excIn K (He.ga K (Str.ofString c)) PyE.tailE "Exception.__new__")))
/-- the text of a class's first def -/
def clsDef (st : Stmt) (i : Nat) : Stmt := match st with
  | .ClassDef _ _ _ body _ _ _ _ _ _ _ => body.getD i (.Pass ⟨0, 0, 0, 0⟩)
  | s => s
def InitP (K : PySem.W.Frag) (f : Str) (fI : Addr) : Prop := ∃ (qn : Str) (p1 p2 q1 q2 q3 q4 : Pos) (fd : FuncData), FunD K "__init__" qn (PyE.argsE f p1 p2) (PyE.bodyE f q1 q2 q3 q4) (PyE.scopeE f) [] [] fI fd
theorem ecB_ok {K : PySem.W.Frag} {mg : Str → Option Value} {c : String} (h : ecB K c = true) (hg : mg (Str.ofString c) = some (.ref (He.ga K (Str.ofString c)))) (hf : Str.ofString (excAttr c) ∈ PyE.fieldsE) (hI : has1 c = true → InitP K (Str.ofString (excAttr c)) (He.ma K (He.ga K (Str.ofString c)) "__init__")) :
    ErrF K mg (He.ga K (Str.ofString c)) c := by
  unfold ecB at h
  simp only [Bool.and_eq_true] at h
  obtain ⟨h1, h2, h3, h4⟩ := h
  have ec := ec0_ok h2
  have no := of_decide_eq_true h3
  refine ⟨hg, h1, ec, no, fun hh => ⟨He.ma K (He.ga K (Str.ofString c)) "__init__", ?_⟩, fun hh => ?_⟩
  · rw [if_pos hh] at h4
    unfold ec1 eqF2 at h4
    simp only [Bool.and_eq_true, decide_eq_true_eq] at h4
    obtain ⟨k1, k2, k3, k4, k5, k6⟩ := h4
    exact ⟨k1, k2, k3, ec.hg, ec.hk, no, k4, h1, ec.hs, k5, ec.hd, hI hh, k6, hf⟩
  · rw [hh, if_neg Bool.false_ne_true] at h4
    exact h4
def kiB (K : PySem.W.Frag) (cs : List String) : Bool := (cs.all fun c => cs.all fun d => decide (PySem.W.kitOne K (.ref (He.ga K (Str.ofString c))) (.ref (He.ga K (Str.ofString d))) = some (subB c d))) &&
  tyL.all fun t => cs.all fun d => decide (PySem.W.kitOne K (.type t) (.ref (He.ga K (Str.ofString d))) = some false)
def exE (cs : List String) (K : PySem.W.Frag) : Bool := (cs.all fun c => ecB K c) && kiB K cs
/-- Par, built -/
def parE (cs : List String) (P : Program) (w : World) (K : PySem.W.Frag) (mg : Str → Option Value) (base : Heap) (h : exE cs K = true) (hb : ∀ x ∈ bnm, mg x = none) (hg : ∀ c ∈ cs, mg (Str.ofString c) = some (.ref (He.ga K (Str.ofString c)))) (hf : ∀ c ∈ cs, Str.ofString (excAttr c) ∈ PyE.fieldsE)
    (hI : ∀ c ∈ cs, has1 c = true → InitP K (Str.ofString (excAttr c)) (He.ma K (He.ga K (Str.ofString c)) "__init__")) : Par where
  g := ⟨fun c => cs.contains c, K, fun c => He.ga K (Str.ofString c), fun _ => false, fun _ _ h => Bool.noConfusion h⟩
  P := P
  w := w
  mg := mg
  base := base
  bn := hb
  xc := fun c hc => by
    have hm : c ∈ cs := by simpa using hc
    have h1 := List.all_eq_true.mp (Bool.and_eq_true_iff.mp h).1 c hm
    exact ecB_ok h1 (hg c hm) (hf c hm) (hI c hm)
  ki := fun c d hc hd => by
    have hc : c ∈ cs := by simpa using hc
    have hd : d ∈ cs := by simpa using hd
    have h1 := (Bool.and_eq_true_iff.mp (Bool.and_eq_true_iff.mp h).2).1
    exact of_decide_eq_true (List.all_eq_true.mp (List.all_eq_true.mp h1 c hc) d hd)
  kb := fun t d ht hd => by
    have hd : d ∈ cs := by simpa using hd
    have h1 := (Bool.and_eq_true_iff.mp (Bool.and_eq_true_iff.mp h).2).2
    exact of_decide_eq_true (List.all_eq_true.mp (List.all_eq_true.mp h1 t ht) d hd)
end Py

namespace Py
open PySem PySem.Spec PyProof.Rows L2
def excs : List String := ["CoverError", "InvalidCube", "InvalidPoint", "InvalidTable", "InvalidChange", "InvalidCover", "InvalidOrder", "InvalidWord", "InvalidTree", "InvalidPlay", "InvalidText", "InvalidName", "LimitExceeded", "UnknownName", "NothingLeft"]
def top (i : Nat) : Stmt := PySem.Challenge.pw_steadycover_k81_errors_apart.main.body.getD i (.Pass ⟨0, 0, 0, 0⟩)
/-! law_field -/
abbrev s_law_field : Stmt := top 21
def n_law_field : List Str := ["_law_number", "_law_error"]
theorem sc_law_field : FnScope n_law_field ["_law_number", "_law_error"] (defScope s_law_field) := ⟨rfl, rfl, rfl, by decide +kernel, rfl, by decide +kernel, by decide +kernel⟩
def a_law_field  : SX := (sSeq (sIf (tV (a2 pIn (aB 0) (aN pLstN (aCons (aC (.int 0)) (aCons (aC (.int 1)) (aCons (aC (.int 3)) (aCons (aC (.int 4)) (aCons (aC (.int 5)) aNil)))))))) (sRet (a1 (pXat "at") (aB 1))) sSkip) (sSeq (sIf (tV (a2 pEq (aB 0) (aC (.int 2)))) (sRet (a1 (pXat "why") (aB 1))) sSkip) (sSeq (sIf (tV (a2 pIn (aB 0) (aN pLstN (aCons (aC (.int 6)) (aCons (aC (.int 7)) aNil))))) (sRet (a1 (pXat "path") (aB 1))) sSkip) (sSeq (sIf (tV (a2 pEq (aB 0) (aC (.int 8)))) (sRet (a1 (pXat "line") (aB 1))) sSkip) (sSeq (sIf (tV (a2 pIn (aB 0) (aN pLstN (aCons (aC (.int 9)) (aCons (aC (.int 11)) aNil))))) (sRet (a1 (pXat "name") (aB 1))) sSkip) (sSeq (sIf (tV (a2 pEq (aB 0) (aC (.int 10)))) (sRet (a1 (pXat "limit") (aB 1))) sSkip) (sRet (a1 (pXat "word") (aB 1)))))))))
theorem b_law_field {p : Par} {X : Cx} {W : WX} {k : Nat}  (c : Ct p X W k n_law_field (defScope s_law_field) true) (hx : ∀ d ∈ excs, p.g.exc d = true) : PBx p.g X W (defBody s_law_field) (a_law_field ) := (b_cons (s_if (p_in c.c (c.r 0) ((e_lst (x_cons e_int (x_cons e_int (x_cons e_int (x_cons e_int (x_cons e_int x_nil))))))).b) (b_one (s_ret (e_xat c "at" (c.r 1)))) b_nil) (b_cons (s_if (p_eq c.c (c.r 0) (e_int).b) (b_one (s_ret (e_xat c "why" (c.r 1)))) b_nil) (b_cons (s_if (p_in c.c (c.r 0) ((e_lst (x_cons e_int (x_cons e_int x_nil)))).b) (b_one (s_ret (e_xat c "path" (c.r 1)))) b_nil) (b_cons (s_if (p_eq c.c (c.r 0) (e_int).b) (b_one (s_ret (e_xat c "line" (c.r 1)))) b_nil) (b_cons (s_if (p_in c.c (c.r 0) ((e_lst (x_cons e_int (x_cons e_int x_nil)))).b) (b_one (s_ret (e_xat c "name" (c.r 1)))) b_nil) (b_cons (s_if (p_eq c.c (c.r 0) (e_int).b) (b_one (s_ret (e_xat c "limit" (c.r 1)))) b_nil) (b_one (s_ret (e_xat c "word" (c.r 1))))))))))
/-! law_same -/
abbrev s_law_same : Stmt := top 19
def n_law_same : List Str := ["_law_actual", "_law_due", "_law_at"]
theorem sc_law_same : FnScope n_law_same ["_law_actual", "_law_due"] (defScope s_law_same) := ⟨rfl, rfl, rfl, by decide +kernel, rfl, by decide +kernel, by decide +kernel⟩
def l1_law_same (f_law_same : FX) : SX := (sIf (tNt (tV (aCl f_law_same (aCons (a2 pIx (aB 0) (aB 2)) (aCons (a2 pIx (aB 1) (aB 2)) aNil))))) (sRet (aC (.bl false))) sSkip)
def a_law_same (f_law_same : FX) : SX := (sSeq (sIf (tV (a2 pIsN (aB 1) (aC .non))) (sRet (a2 pIsN (aB 0) (aC .non))) sSkip) (sSeq (sIf (tV (a1 (pIsi ["bool"]) (aB 1))) (sRet (aAnd (a1 (pIsi ["bool"]) (aB 0)) (a2 pEq (aB 0) (aB 1)))) sSkip) (sSeq (sIf (tV (a1 (pIsi ["int"]) (aB 1))) (sRet (aAnd (a1 (pIsi ["int"]) (aB 0)) (aAnd (aNot (a1 (pIsi ["bool"]) (aB 0))) (a2 pEq (aB 0) (aB 1))))) sSkip) (sSeq (sIf (tV (a1 (pIsi ["str"]) (aB 1))) (sRet (aAnd (a1 (pIsi ["str"]) (aB 0)) (a2 pEq (aB 0) (aB 1)))) sSkip) (sSeq (sIf (tAn (tV (a1 (pIsi ["list"]) (aB 1))) (tNt (tV (a1 (pIsi ["list"]) (aB 0))))) (sRet (aC (.bl false))) sSkip) (sSeq (sIf (tAn (tV (a1 (pIsi ["tuple"]) (aB 1))) (tNt (tV (a1 (pIsi ["tuple"]) (aB 0))))) (sRet (aC (.bl false))) sSkip) (sSeq (sIf (tV (a2 pNe (a1 pLen (aB 0)) (a1 pLen (aB 1)))) (sRet (aC (.bl false))) sSkip) (sSeq (sFor (iRg1 (a1 pLen (aB 1))) (gV 2) (l1_law_same f_law_same)) (sRet (aC (.bl true)))))))))))
theorem b_law_same {p : Par} {X : Cx} {W : WX} {k : Nat} {j_law_same : Nat} {f_law_same : FX} (h_law_same : CallP p j_law_same "_law_same" 2 f_law_same) (h_law_same_k : j_law_same ≤ k) (c : Ct p X W k n_law_same (defScope s_law_same) true) (hx : ∀ d ∈ excs, p.g.exc d = true) : PBx p.g X W (defBody s_law_same) (a_law_same f_law_same) := (b_cons (s_if (p_isn (c.r 1) (e_non).b) (b_one (s_ret (e_isn (c.r 0) (e_non).b))) b_nil) (b_cons (s_if (p_tru c.c.K ((c.isi "bool" (c.r 1) PyProof.Rows.boot_bool)).b) (b_one (s_ret (e_and (c.isi "bool" (c.r 0) PyProof.Rows.boot_bool) (e_one (e_eq c.c (c.r 0) (c.r 1)))))) b_nil) (b_cons (s_if (p_tru c.c.K ((c.isi "int" (c.r 1) PyProof.Rows.boot_int)).b) (b_one (s_ret (e_and (c.isi "int" (c.r 0) PyProof.Rows.boot_int) (e_and (e_not (c.isi "bool" (c.r 0) PyProof.Rows.boot_bool)) (e_one (e_eq c.c (c.r 0) (c.r 1))))))) b_nil) (b_cons (s_if (p_tru c.c.K ((c.isi "str" (c.r 1) PyProof.Rows.boot_str)).b) (b_one (s_ret (e_and (c.isi "str" (c.r 0) PyProof.Rows.boot_str) (e_one (e_eq c.c (c.r 0) (c.r 1)))))) b_nil) (b_cons (s_if (p_w (w_and (p_tru c.c.K ((c.isi "list" (c.r 1) PyProof.Rows.boot_list)).b) (w_and1 (p_not (p_tru c.c.K ((c.isi "list" (c.r 0) PyProof.Rows.boot_list)).b))))) (b_one (s_ret e_bl)) b_nil) (b_cons (s_if (p_w (w_and (p_tru c.c.K ((c.isi "tuple" (c.r 1) PyProof.Rows.boot_tuple)).b) (w_and1 (p_not (p_tru c.c.K ((c.isi "tuple" (c.r 0) PyProof.Rows.boot_tuple)).b))))) (b_one (s_ret e_bl)) b_nil) (b_cons (s_if (p_ne c.c ((c.len (c.r 0))).b ((c.len (c.r 1))).b) (b_one (s_ret e_bl)) b_nil) (b_cons (c.for_ (c.ir1 (c.len (c.r 1))) (c.g1 2) (b_one (s_if (p_not (p_tru c.c.K ((c.call h_law_same (x_cons (e_ix c.c (c.r 0) (c.r 2)) (x_cons (e_ix c.c (c.r 1) (c.r 2)) x_nil)) (al_cons (al_cons al_nil)) h_law_same_k)).b)) (b_one (s_ret e_bl)) b_nil))) (b_one (s_ret e_bl))))))))))
/-! law_kinds -/
abbrev s_law_kinds : Stmt := top 22
def n_law_kinds : List Str := ["_law_error", "_law_first"]
theorem sc_law_kinds : FnScope n_law_kinds ["_law_error"] (defScope s_law_kinds) := ⟨rfl, rfl, rfl, by decide +kernel, rfl, by decide +kernel, by decide +kernel⟩
def a_law_kinds  : SX := (sSeq (sSet 1 (aN pLstN (aCons (a1 (pIsC "InvalidCube") (aB 0)) (aCons (a1 (pIsC "InvalidPoint") (aB 0)) (aCons (a1 (pIsC "InvalidTable") (aB 0)) aNil))))) (sSeq (sSet 1 (a2 pAdd (aB 1) (aN pLstN (aCons (a1 (pIsC "InvalidChange") (aB 0)) (aCons (a1 (pIsC "InvalidCover") (aB 0)) (aCons (a1 (pIsC "InvalidOrder") (aB 0)) aNil)))))) (sSeq (sSet 1 (a2 pAdd (aB 1) (aN pLstN (aCons (a1 (pIsC "InvalidTree") (aB 0)) (aCons (a1 (pIsC "InvalidPlay") (aB 0)) (aCons (a1 (pIsC "InvalidText") (aB 0)) aNil)))))) (sSeq (sSet 1 (a2 pAdd (aB 1) (aN pLstN (aCons (a1 (pIsC "InvalidName") (aB 0)) (aCons (a1 (pIsC "LimitExceeded") (aB 0)) (aCons (a1 (pIsC "UnknownName") (aB 0)) aNil)))))) (sRet (a2 pAdd (aB 1) (aN pLstN (aCons (a1 (pIsC "NothingLeft") (aB 0)) (aCons (a1 (pIsC "InvalidWord") (aB 0)) aNil)))))))))
theorem b_law_kinds {p : Par} {X : Cx} {W : WX} {k : Nat}  (c : Ct p X W k n_law_kinds (defScope s_law_kinds) true) (hx : ∀ d ∈ excs, p.g.exc d = true) : PBx p.g X W (defBody s_law_kinds) (a_law_kinds ) := (b_cons (c.set 1 (e_lst (x_cons (c.isc "InvalidCube" (hx _ (by decide)) (c.r 0)) (x_cons (c.isc "InvalidPoint" (hx _ (by decide)) (c.r 0)) (x_cons (c.isc "InvalidTable" (hx _ (by decide)) (c.r 0)) x_nil))))) (b_cons (c.set 1 (e_add c.c (c.r 1) ((e_lst (x_cons (c.isc "InvalidChange" (hx _ (by decide)) (c.r 0)) (x_cons (c.isc "InvalidCover" (hx _ (by decide)) (c.r 0)) (x_cons (c.isc "InvalidOrder" (hx _ (by decide)) (c.r 0)) x_nil))))).b)) (b_cons (c.set 1 (e_add c.c (c.r 1) ((e_lst (x_cons (c.isc "InvalidTree" (hx _ (by decide)) (c.r 0)) (x_cons (c.isc "InvalidPlay" (hx _ (by decide)) (c.r 0)) (x_cons (c.isc "InvalidText" (hx _ (by decide)) (c.r 0)) x_nil))))).b)) (b_cons (c.set 1 (e_add c.c (c.r 1) ((e_lst (x_cons (c.isc "InvalidName" (hx _ (by decide)) (c.r 0)) (x_cons (c.isc "LimitExceeded" (hx _ (by decide)) (c.r 0)) (x_cons (c.isc "UnknownName" (hx _ (by decide)) (c.r 0)) x_nil))))).b)) (b_one (s_ret (e_add c.c (c.r 1) ((e_lst (x_cons (c.isc "NothingLeft" (hx _ (by decide)) (c.r 0)) (x_cons (c.isc "InvalidWord" (hx _ (by decide)) (c.r 0)) x_nil)))).b)))))))
/-! law_made -/
abbrev s_law_made : Stmt := top 20
def n_law_made : List Str := ["_law_number", "_law_field_here"]
theorem sc_law_made : FnScope n_law_made ["_law_number", "_law_field_here"] (defScope s_law_made) := ⟨rfl, rfl, rfl, by decide +kernel, rfl, by decide +kernel, by decide +kernel⟩
def a_law_made  : SX := (sSeq (sIf (tV (a2 pEq (aB 0) (aC (.int 0)))) (sRet (aN (pMk1 "InvalidCube") (aCons (aV 1) aNil))) sSkip) (sSeq (sIf (tV (a2 pEq (aB 0) (aC (.int 1)))) (sRet (aN (pMk1 "InvalidPoint") (aCons (aV 1) aNil))) sSkip) (sSeq (sIf (tV (a2 pEq (aB 0) (aC (.int 2)))) (sRet (aN (pMk1 "InvalidTable") (aCons (aV 1) aNil))) sSkip) (sSeq (sIf (tV (a2 pEq (aB 0) (aC (.int 3)))) (sRet (aN (pMk1 "InvalidChange") (aCons (aV 1) aNil))) sSkip) (sSeq (sIf (tV (a2 pEq (aB 0) (aC (.int 4)))) (sRet (aN (pMk1 "InvalidCover") (aCons (aV 1) aNil))) sSkip) (sSeq (sIf (tV (a2 pEq (aB 0) (aC (.int 5)))) (sRet (aN (pMk1 "InvalidOrder") (aCons (aV 1) aNil))) sSkip) (sSeq (sIf (tV (a2 pEq (aB 0) (aC (.int 6)))) (sRet (aN (pMk1 "InvalidTree") (aCons (aV 1) aNil))) sSkip) (sSeq (sIf (tV (a2 pEq (aB 0) (aC (.int 7)))) (sRet (aN (pMk1 "InvalidPlay") (aCons (aV 1) aNil))) sSkip) (sSeq (sIf (tV (a2 pEq (aB 0) (aC (.int 8)))) (sRet (aN (pMk1 "InvalidText") (aCons (aV 1) aNil))) sSkip) (sSeq (sIf (tV (a2 pEq (aB 0) (aC (.int 9)))) (sRet (aN (pMk1 "InvalidName") (aCons (aV 1) aNil))) sSkip) (sSeq (sIf (tV (a2 pEq (aB 0) (aC (.int 10)))) (sRet (aN (pMk1 "LimitExceeded") (aCons (aV 1) aNil))) sSkip) (sSeq (sIf (tV (a2 pEq (aB 0) (aC (.int 11)))) (sRet (aN (pMk1 "UnknownName") (aCons (aV 1) aNil))) sSkip) (sSeq (sIf (tV (a2 pEq (aB 0) (aC (.int 12)))) (sRet (aN (pMk1 "NothingLeft") (aCons (aV 1) aNil))) sSkip) (sRet (pMk0 "InvalidWord")))))))))))))))
theorem b_law_made {p : Par} {X : Cx} {W : WX} {k : Nat}  (c : Ct p X W k n_law_made (defScope s_law_made) true) (hx : ∀ d ∈ excs, p.g.exc d = true) : PBx p.g X W (defBody s_law_made) (a_law_made ) := (b_cons (s_if (p_eq c.c (c.r 0) (e_int).b) (b_one (s_ret (c.mk1 "InvalidCube" (hx _ (by decide)) (x_cons (c.v 1) x_nil)))) b_nil) (b_cons (s_if (p_eq c.c (c.r 0) (e_int).b) (b_one (s_ret (c.mk1 "InvalidPoint" (hx _ (by decide)) (x_cons (c.v 1) x_nil)))) b_nil) (b_cons (s_if (p_eq c.c (c.r 0) (e_int).b) (b_one (s_ret (c.mk1 "InvalidTable" (hx _ (by decide)) (x_cons (c.v 1) x_nil)))) b_nil) (b_cons (s_if (p_eq c.c (c.r 0) (e_int).b) (b_one (s_ret (c.mk1 "InvalidChange" (hx _ (by decide)) (x_cons (c.v 1) x_nil)))) b_nil) (b_cons (s_if (p_eq c.c (c.r 0) (e_int).b) (b_one (s_ret (c.mk1 "InvalidCover" (hx _ (by decide)) (x_cons (c.v 1) x_nil)))) b_nil) (b_cons (s_if (p_eq c.c (c.r 0) (e_int).b) (b_one (s_ret (c.mk1 "InvalidOrder" (hx _ (by decide)) (x_cons (c.v 1) x_nil)))) b_nil) (b_cons (s_if (p_eq c.c (c.r 0) (e_int).b) (b_one (s_ret (c.mk1 "InvalidTree" (hx _ (by decide)) (x_cons (c.v 1) x_nil)))) b_nil) (b_cons (s_if (p_eq c.c (c.r 0) (e_int).b) (b_one (s_ret (c.mk1 "InvalidPlay" (hx _ (by decide)) (x_cons (c.v 1) x_nil)))) b_nil) (b_cons (s_if (p_eq c.c (c.r 0) (e_int).b) (b_one (s_ret (c.mk1 "InvalidText" (hx _ (by decide)) (x_cons (c.v 1) x_nil)))) b_nil) (b_cons (s_if (p_eq c.c (c.r 0) (e_int).b) (b_one (s_ret (c.mk1 "InvalidName" (hx _ (by decide)) (x_cons (c.v 1) x_nil)))) b_nil) (b_cons (s_if (p_eq c.c (c.r 0) (e_int).b) (b_one (s_ret (c.mk1 "LimitExceeded" (hx _ (by decide)) (x_cons (c.v 1) x_nil)))) b_nil) (b_cons (s_if (p_eq c.c (c.r 0) (e_int).b) (b_one (s_ret (c.mk1 "UnknownName" (hx _ (by decide)) (x_cons (c.v 1) x_nil)))) b_nil) (b_cons (s_if (p_eq c.c (c.r 0) (e_int).b) (b_one (s_ret (c.mk1 "NothingLeft" (hx _ (by decide)) (x_cons (c.v 1) x_nil)))) b_nil) (b_one (s_ret (c.mk0 "InvalidWord" (hx _ (by decide))))))))))))))))))
/-! law_mixed -/
abbrev s_law_mixed : Stmt := top 17
def n_law_mixed : List Str := ["_law_seed", "_law_k", "_law_one", "_law_two", "_law_three"]
theorem sc_law_mixed : FnScope n_law_mixed ["_law_seed", "_law_k"] (defScope s_law_mixed) := ⟨rfl, rfl, rfl, by decide +kernel, rfl, by decide +kernel, by decide +kernel⟩
def a_law_mixed  : SX := (sSeq (sSet 2 (a2 pMod (a1 pInt (a2 pMul (a2 pAdd (a2 pAdd (aB 0) (a2 pMul (aC (.int 7919)) (aB 1))) (aC (.int 1))) (aC (.int 48271)))) (aC (.int 2147483647)))) (sSeq (sSet 3 (a2 pMod (a1 pInt (a2 pMul (aB 2) (a2 pAdd (a2 pDiv (aB 2) (aC (.int 1009))) (aC (.int 69621))))) (aC (.int 2147483647)))) (sSeq (sSet 4 (a2 pMod (a1 pInt (a2 pMul (aB 3) (a2 pAdd (a2 pDiv (aB 3) (aC (.int 2003))) (aC (.int 40692))))) (aC (.int 2147483399)))) (sRet (a2 pMod (a1 pInt (a2 pDiv (aB 4) (aC (.int 16)))) (aC (.int 10007)))))))
theorem b_law_mixed {p : Par} {X : Cx} {W : WX} {k : Nat}  (c : Ct p X W k n_law_mixed (defScope s_law_mixed) true) (hx : ∀ d ∈ excs, p.g.exc d = true) : PBx p.g X W (defBody s_law_mixed) (a_law_mixed ) := (b_cons (c.set 2 (e_mod ((c.int ((e_mul ((e_add c.c ((e_add c.c (c.r 0) ((e_mul (e_int).b (c.r 1))).b)).b (e_int).b)).b (e_int).b)).b)).b (e_int).b)) (b_cons (c.set 3 (e_mod ((c.int ((e_mul (c.r 2) ((e_add c.c ((e_div (c.r 2) (e_int).b)).b (e_int).b)).b)).b)).b (e_int).b)) (b_cons (c.set 4 (e_mod ((c.int ((e_mul (c.r 3) ((e_add c.c ((e_div (c.r 3) (e_int).b)).b (e_int).b)).b)).b)).b (e_int).b)) (b_one (s_ret (e_mod ((c.int ((e_div (c.r 4) (e_int).b)).b)).b (e_int).b))))))
/-! law_draws -/
abbrev s_law_draws : Stmt := top 18
def n_law_draws : List Str := ["_law_script", "_law_many", "_law_rows", "_law_seed", "_law_at", "_law_k", "_law_cell"]
theorem sc_law_draws : FnScope n_law_draws ["_law_script", "_law_many"] (defScope s_law_draws) := ⟨rfl, rfl, rfl, by decide +kernel, rfl, by decide +kernel, by decide +kernel⟩
def l1_law_draws (f_law_mixed : FX) : SX := (sApp 2 (aCl f_law_mixed (aCons (aV 3) (aCons (a2 pAdd (aB 5) (aC (.int 127))) aNil))))
def l2_law_draws (f_law_mixed : FX) : SX := (sIf (tV (a2 pGt (aB 6) (aC (.int 0)))) (sSeq (sApp 2 (a2 pMod (a1 pInt (aB 6)) (aC (.int 10007)))) (sSet 6 (a2 pDiv (aB 6) (aC (.int 10007))))) sSkip)
def l3_law_draws (f_law_mixed : FX) : SX := (sSeq (sSet 6 (a1 pInt (a2 pIx (aB 0) (aB 4)))) (sSeq (sSet 3 (a2 pMod (a1 pInt (a2 pAdd (a2 pAdd (a2 pMul (aB 3) (aC (.int 69621))) (a2 pMod (a1 pInt (aB 6)) (aC (.int 1000003)))) (aC (.int 1)))) (aC (.int 2147483629)))) (sIf (tV (a2 pGe (aB 6) (a2 pPow (aC (.int 10)) (aC (.int 18))))) (sFor (iRg1 (aC (.int 60))) (gV 5) (l2_law_draws f_law_mixed)) (sSeq (sApp 2 (aCl f_law_mixed (aCons (a2 pMod (a1 pInt (aB 6)) (aC (.int 1000003))) (aCons (a2 pMul (aC (.int 2)) (aB 4)) aNil)))) (sApp 2 (aCl f_law_mixed (aCons (a2 pMod (a1 pInt (aB 6)) (aC (.int 1000003))) (aCons (a2 pAdd (a2 pMul (aC (.int 2)) (aB 4)) (aC (.int 1))) aNil))))))))
def a_law_draws (f_law_mixed : FX) : SX := (sSeq (sOwn 2 (aN pLstN aNil)) (sSeq (sSet 3 (aC (.int 1))) (sSeq (sFor (iRg1 (a1 pLen (aSl (aB 0) oN (oS (aC (.int 63)))))) (gV 4) (l3_law_draws f_law_mixed)) (sSeq (sFor (iRg1 (aV 1)) (gV 5) (l1_law_draws f_law_mixed)) (sRet (aSl (aB 2) oN (oS (aV 1))))))))
theorem b_law_draws {p : Par} {X : Cx} {W : WX} {k : Nat} {j_law_mixed : Nat} {f_law_mixed : FX} (h_law_mixed : CallP p j_law_mixed "_law_mixed" 2 f_law_mixed) (h_law_mixed_k : j_law_mixed ≤ k) (c : Ct p X W k n_law_draws (defScope s_law_draws) true) (hx : ∀ d ∈ excs, p.g.exc d = true) : PBx p.g X W (defBody s_law_draws) (a_law_draws f_law_mixed) := (b_cons (c.own 2 (e_lst x_nil)) (b_cons (c.set 3 e_int) (b_cons (c.for_ (c.ir1 (c.len ((e_sl c.c (c.r 0) o_none (o_some e_int))).b)) (c.g1 4) (b_cons (c.set 6 (c.int ((e_ix c.c (c.r 0) (c.r 4))).b)) (b_cons (c.set 3 (e_mod ((c.int ((e_add c.c ((e_add c.c ((e_mul (c.r 3) (e_int).b)).b ((e_mod ((c.int (c.r 6))).b (e_int).b)).b)).b (e_int).b)).b)).b (e_int).b)) (b_one (s_if (p_ge (c.r 6) ((e_pow (e_int).b (e_int).b)).b) (b_one (c.for_ (c.ir1 e_int) (c.g1 5) (b_one (s_if (p_gt (c.r 6) (e_int).b) (b_cons (c.app 2 (e_mod ((c.int (c.r 6))).b (e_int).b)) (b_one (c.set 6 (e_div (c.r 6) (e_int).b)))) b_nil)))) (b_cons (c.app 2 (c.call h_law_mixed (x_cons (e_mod ((c.int (c.r 6))).b (e_int).b) (x_cons (e_mul (e_int).b (c.r 4)) x_nil)) (al_cons (al_cons al_nil)) h_law_mixed_k)) (b_one (c.app 2 (c.call h_law_mixed (x_cons (e_mod ((c.int (c.r 6))).b (e_int).b) (x_cons (e_add c.c ((e_mul (e_int).b (c.r 4))).b (e_int).b) x_nil)) (al_cons (al_cons al_nil)) h_law_mixed_k))))))))) (b_cons (c.for_ (c.ir1 (c.v 1)) (c.g1 5) (b_one (c.app 2 (c.call h_law_mixed (x_cons (c.v 3) (x_cons (e_add c.c (c.r 5) (e_int).b) x_nil)) (al_cons (al_cons al_nil)) h_law_mixed_k)))) (b_one (s_ret (e_sl c.c (c.r 2) o_none (o_some (c.v 1)))))))))
/-! law -/
abbrev s_law : Stmt := top 23
def n_law : List Str := ["_law_script", "_law_draws_here", "_law_fields", "_law_number", "_law_field_here", "_law_error", "_law_k"]
theorem sc_law : FnScope n_law ["_law_script"] (defScope s_law) := ⟨rfl, rfl, rfl, by decide +kernel, rfl, by decide +kernel, by decide +kernel⟩
def l1_law (f_law_field : FX) (f_law_same : FX) (f_law_kinds : FX) (f_law_made : FX) (f_law_draws : FX) : SX := (sSeq (sSet 5 (aCl f_law_made (aCons (aV 3) (aCons (aV 4) aNil)))) (sSeq (sIf (tOr' (tNt (tV (a1 (pIsC "CoverError") (aB 5)))) (tV (a2 pNe (aCl f_law_kinds (aCons (aV 5) aNil)) (aComp [6] (iRg1 (aC (.int 14))) (gV 6) tYesX (a2 pEq (aB 6) (aB 3)))))) (sRet (aC (.bl false))) sSkip) (sIf (tAn (tV (a2 pLt (aB 3) (aC (.int 13)))) (tNt (tV (aCl f_law_same (aCons (aCl f_law_field (aCons (aV 3) (aCons (aV 5) aNil))) (aCons (aV 4) aNil)))))) (sRet (aC (.bl false))) sSkip)))
def l2_law (f_law_field : FX) (f_law_same : FX) (f_law_kinds : FX) (f_law_made : FX) (f_law_draws : FX) : SX := (sFor (iSq (aV 2)) (gV 4) (l1_law f_law_field f_law_same f_law_kinds f_law_made f_law_draws))
def a_law (f_law_field : FX) (f_law_same : FX) (f_law_kinds : FX) (f_law_made : FX) (f_law_draws : FX) : SX := (sSeq (sSet 1 (aCl f_law_draws (aCons (aV 0) (aCons (aC (.int 6)) aNil)))) (sSeq (sSet 2 (aN pLstN (aCons (a2 pIx (aB 1) (aC (.int 0))) (aCons (a1 pNeg (a2 pIx (aB 1) (aC (.int 1)))) (aCons (aN pTupN (aCons (a2 pIx (aB 1) (aC (.int 2))) (aCons (a2 pIx (aB 1) (aC (.int 3))) aNil))) (aCons (aN pTupN aNil) (aCons (aC (.str [99, 111, 118, 101, 114])) (aCons (a2 pAdd (aC (.str [120])) (a1 pStr (a2 pIx (aB 1) (aC (.int 4))))) aNil)))))))) (sSeq (sFor (iRg1 (aC (.int 14))) (gV 3) (l2_law f_law_field f_law_same f_law_kinds f_law_made f_law_draws)) (sRet (aC (.bl true))))))
theorem b_law {p : Par} {X : Cx} {W : WX} {k : Nat} {j_law_field : Nat} {f_law_field : FX} (h_law_field : CallP p j_law_field "_law_field" 2 f_law_field) (h_law_field_k : j_law_field ≤ k) {j_law_same : Nat} {f_law_same : FX} (h_law_same : CallP p j_law_same "_law_same" 2 f_law_same) (h_law_same_k : j_law_same ≤ k) {j_law_kinds : Nat} {f_law_kinds : FX} (h_law_kinds : CallP p j_law_kinds "_law_kinds" 1 f_law_kinds) (h_law_kinds_k : j_law_kinds ≤ k) {j_law_made : Nat} {f_law_made : FX} (h_law_made : CallP p j_law_made "_law_made" 2 f_law_made) (h_law_made_k : j_law_made ≤ k) {j_law_draws : Nat} {f_law_draws : FX} (h_law_draws : CallP p j_law_draws "_law_draws" 2 f_law_draws) (h_law_draws_k : j_law_draws ≤ k) (c : Ct p X W k n_law (defScope s_law) true) (hx : ∀ d ∈ excs, p.g.exc d = true) : PBx p.g X W (defBody s_law) (a_law f_law_field f_law_same f_law_kinds f_law_made f_law_draws) := (b_cons (c.set 1 (c.call h_law_draws (x_cons (c.v 0) (x_cons e_int x_nil)) (al_cons (al_cons al_nil)) h_law_draws_k)) (b_cons (c.set 2 (e_lst (x_cons (e_ix c.c (c.r 1) (e_int).b) (x_cons (e_neg ((e_ix c.c (c.r 1) (e_int).b)).b) (x_cons (e_tup (x_cons (e_ix c.c (c.r 1) (e_int).b) (x_cons (e_ix c.c (c.r 1) (e_int).b) x_nil))) (x_cons (e_tup x_nil) (x_cons (e_str (s := [99, 111, 118, 101, 114])) (x_cons (e_add c.c ((e_str (s := [120]))).b ((c.str ((e_ix c.c (c.r 1) (e_int).b)).b)).b) x_nil)))))))) (b_cons (c.for_ (c.ir1 e_int) (c.g1 3) (b_one (c.for_ (c.iq (c.v 2)) (c.g1 4) (b_cons (c.set 5 (c.call h_law_made (x_cons (c.v 3) (x_cons (c.v 4) x_nil)) (al_cons (al_cons al_nil)) h_law_made_k)) (b_cons (s_if (p_w (w_or (p_not (p_tru c.c.K ((c.isc "CoverError" (hx _ (by decide)) (c.r 5))).b)) (w_or1 (p_ne c.c ((c.call h_law_kinds (x_cons (c.v 5) x_nil) (al_cons al_nil) h_law_kinds_k)).b ((c.lc [("_law_k", 6)] (c.ir1 e_int) (fun _ _ _ _ _ => (c.blk.g1 6)) (fun _ _ _ _ _ => (q_none _)) (fun _ _ _ _ _ => (e_eq c.blk.c (c.blk.r 6) (c.blk.r 3))))).b)))) (b_one (s_ret e_bl)) b_nil) (b_one (s_if (p_w (w_and (p_lt (c.r 3) (e_int).b) (w_and1 (p_not (p_tru c.c.K ((c.call h_law_same (x_cons (c.call h_law_field (x_cons (c.v 3) (x_cons (c.v 5) x_nil)) (al_cons (al_cons al_nil)) h_law_field_k) (x_cons (c.v 4) x_nil)) (al_cons (al_cons al_nil)) h_law_same_k)).b))))) (b_one (s_ret e_bl)) b_nil))))))) (b_one (s_ret e_bl)))))
structure Defs (p : Par) : Prop where
  x : ∀ d ∈ excs, p.g.exc d = true
  d_law_field : DefP p "_law_field" s_law_field
  d_law_same : DefP p "_law_same" s_law_same
  d_law_kinds : DefP p "_law_kinds" s_law_kinds
  d_law_made : DefP p "_law_made" s_law_made
  d_law_draws : DefP p "_law_draws" s_law_draws
  d_law_mixed : DefP p "_law_mixed" s_law_mixed
def f_law_field : FX := runB 2 (a_law_field )
theorem ok_law_field {p : Par} (D : Defs p) : CallP p 1 "_law_field" 2 f_law_field := DefP.call (k := 0) D.d_law_field sc_law_field (fun _ _ FD => FD.bindsN fun _ _ _ _ _ _ us hl => match us, hl with | [_, _], _ => rfl) (fun X W c => b_law_field  c (fun _ m => D.x _ m)) fun _ _ _ => .inr rfl
def f_law_same : Nat → FX
  | 0 => fun _ _ => .bad
  | d + 1 => runB 3 (a_law_same (f_law_same d))
theorem ok_law_same {p : Par} (D : Defs p) : ∀ d : Nat, CallP p (1 + d) "_law_same" 2 (f_law_same d)
  | 0 => DefP.call (k := 0) (A := sBad) D.d_law_same sc_law_same (fun _ _ FD => FD.bindsN fun _ _ _ _ _ _ us hl => match us, hl with | [_, _], _ => rfl) (fun X W c => b_bad) fun _ _ _ => .inl rfl
  | d + 1 => DefP.call (k := 1 + d) D.d_law_same sc_law_same (fun _ _ FD => FD.bindsN fun _ _ _ _ _ _ us hl => match us, hl with | [_, _], _ => rfl) (fun X W c => b_law_same (ok_law_same D d) (by omega) c (fun _ m => D.x _ m)) fun _ _ _ => .inr rfl
def f_law_kinds : FX := runB 2 (a_law_kinds )
theorem ok_law_kinds {p : Par} (D : Defs p) : CallP p 1 "_law_kinds" 1 f_law_kinds := DefP.call (k := 0) D.d_law_kinds sc_law_kinds (fun _ _ FD => FD.bindsN fun _ _ _ _ _ _ us hl => match us, hl with | [_], _ => rfl) (fun X W c => b_law_kinds  c (fun _ m => D.x _ m)) fun _ _ _ => .inr rfl
def f_law_made : FX := runB 2 (a_law_made )
theorem ok_law_made {p : Par} (D : Defs p) : CallP p 1 "_law_made" 2 f_law_made := DefP.call (k := 0) D.d_law_made sc_law_made (fun _ _ FD => FD.bindsN fun _ _ _ _ _ _ us hl => match us, hl with | [_, _], _ => rfl) (fun X W c => b_law_made  c (fun _ m => D.x _ m)) fun _ _ _ => .inr rfl
def f_law_mixed : FX := runB 5 (a_law_mixed )
theorem ok_law_mixed {p : Par} (D : Defs p) : CallP p 1 "_law_mixed" 2 f_law_mixed := DefP.call (k := 0) D.d_law_mixed sc_law_mixed (fun _ _ FD => FD.bindsN fun _ _ _ _ _ _ us hl => match us, hl with | [_, _], _ => rfl) (fun X W c => b_law_mixed  c (fun _ m => D.x _ m)) fun _ _ _ => .inr rfl
def f_law_draws : FX := runB 7 (a_law_draws f_law_mixed)
theorem ok_law_draws {p : Par} (D : Defs p) : CallP p 2 "_law_draws" 2 f_law_draws := DefP.call (k := 1) D.d_law_draws sc_law_draws (fun _ _ FD => FD.bindsN fun _ _ _ _ _ _ us hl => match us, hl with | [_, _], _ => rfl) (fun X W c => b_law_draws (ok_law_mixed D) (by decide) c (fun _ m => D.x _ m)) fun _ _ _ => .inr rfl
def lawK : Nat := 10
theorem law_at {p : Par} (D : Defs p) : ∀ X W, Ct p X W 10 n_law (defScope s_law) true → PBx p.g X W (defBody s_law) (a_law f_law_field (f_law_same 8) f_law_kinds f_law_made f_law_draws) := fun X W c => b_law (ok_law_field D) (by decide) (ok_law_same D 8) (by decide) (ok_law_kinds D) (by decide) (ok_law_made D) (by decide) (ok_law_draws D) (by decide) c (fun _ m => D.x _ m)
end Py

namespace Py
open PySem PySem.Spec PyProof.Rows L2
theorem mixed_eq (s k : Int) (st : Sto) : f_law_mixed [.int s, .int k] st = .ok (.int (mixN s k), false) st := by
  have b1 : smallI (m1 s k) = true := small_of (Int.emod_nonneg _ (by decide)) (Int.lt_trans (Int.emod_lt_of_pos _ (by decide)) (by decide))
  have b2 : smallI (m2 (m1 s k)) = true := small_of (Int.emod_nonneg _ (by decide)) (Int.lt_trans (Int.emod_lt_of_pos _ (by decide)) (by decide))
  have c1 : smallI 48271 = true := by decide
  have c2 : smallI 7919 = true := by decide
  unfold m1 at b1
  unfold m2 m1 at b2
  simp [f_law_mixed, runB, a_law_mixed, env0, n_law_mixed, sSeq, sSet, sRet, a1, a2, aC, aB, pMod, pDiv, pAdd, pMul, pI, pInt, c1, c2, mixN, m1, m2, m3, b1, b2]
/-- what the inner loop leaves -/
theorem l2_step (ns : List Int) (m : Nat) (rows : List Int) (seed : Int) (a b : Slot) (cell : Int) (i : Int) (hl : rows.length ≤ 100000) (st : Sto) :
    ∃ rows' cell', gV 5 (.int i) (dEnv ns m rows seed a b (.vl (.int cell))) = some (dEnv ns m rows seed a (.vl (.int i)) (.vl (.int cell))) ∧ l2_law_draws f_law_mixed (dEnv ns m rows seed a (.vl (.int i)) (.vl (.int cell))) st = .nx (dEnv ns m rows' seed a (.vl (.int i)) (.vl (.int cell'))) st ∧ (Dr rows → Dr rows') ∧ rows'.length ≤ rows.length + 1 := by
  have hz : sizeOk (rows.length + 1) = true := decide_eq_true (by omega)
  by_cases hc : 0 < cell
  · refine ⟨rows ++ [cell % 10007], cell / 10007, rfl, ?_, fun h => h.snoc (Int.emod_nonneg _ (by decide)) (Int.emod_lt_of_pos _ (by decide)), by simp⟩
    simp [l2_law_draws, dEnv, sIf, tV, a1, a2, aB, aC, pGt, pIB, truth, hc, sSeq, sApp, sSet, pMod, pDiv, pI, pInt, hz]
  · refine ⟨rows, cell, rfl, ?_, fun h => h, by omega⟩
    simp [l2_law_draws, dEnv, sIf, tV, a1, a2, aB, aC, pGt, pIB, truth, hc, sSkip]
theorem l2_all (ns : List Int) (m : Nat) (rows : List Int) (seed : Int) (a b : Slot) (cell : Int) (hl : rows.length ≤ 10000) (hd : Dr rows) (st : Sto) :
    ∃ rows' b' cell', forL (gV 5) (l2_law_draws f_law_mixed) (rangeOf 0 60) (dEnv ns m rows seed a b (.vl (.int cell))) st = .nx (dEnv ns m rows' seed a b' (.vl (.int cell'))) st ∧ Dr rows' ∧ rows'.length ≤ rows.length + 60 := by
  obtain ⟨e, s, h1, rows', b', cell', rfl, rfl, h2, h3⟩ := forL_inv (G := gV 5) (B := l2_law_draws f_law_mixed) (vs := rangeOf 0 60) (fun i e s => ∃ rows' b' cell', e = dEnv ns m rows' seed a b' (.vl (.int cell')) ∧ s = st ∧ Dr rows' ∧ rows'.length ≤ rows.length + i) 0
    ⟨rows, b, cell, rfl, rfl, hd, by omega⟩ (fun j v e s hj hp => by
      obtain ⟨rows1, b1, cell1, rfl, rfl, h2, h3⟩ := hp
      obtain ⟨hj1, rfl⟩ := rangeOf_get hj
      obtain ⟨rows2, cell2, g1, g2, g3, g4⟩ := l2_step ns m rows1 seed a b1 cell1 (0 + (j : Int)) (by omega) s
      exact ⟨_, g1, _, _, .inl g2, rows2, _, cell2, rfl, rfl, g3 h2, by omega⟩)
  rw [rangeOf_len] at h3
  exact ⟨rows', b', cell', h1, h2, by omega⟩
theorem l3_step (ns : List Int) (m : Nat) (rows : List Int) (seed : Int) (a b c : Slot) (i : Nat) (hi : i < ns.length) (hs : 0 ≤ seed ∧ seed < 2147483629) (hl : rows.length ≤ 9000) (hd : Dr rows) (st : Sto) :
    ∃ rows' seed' b' c', gV 4 (.int (i : Int)) (dEnv ns m rows seed a b c) = some (dEnv ns m rows seed (.vl (.int (i : Int))) b c) ∧ l3_law_draws f_law_mixed (dEnv ns m rows seed (.vl (.int (i : Int))) b c) st = .nx (dEnv ns m rows' seed' (.vl (.int (i : Int))) b' c') st ∧
      (0 ≤ seed' ∧ seed' < 2147483629) ∧ Dr rows' ∧ rows'.length ≤ rows.length + 60 := by
  have c1 : smallI 69621 = true := by decide
  have ci : smallI 2 = true := by decide
  have hz : sizeOk (rows.length + 1) = true := decide_eq_true (by omega)
  have hz2 : sizeOk (rows.length + 1 + 1) = true := decide_eq_true (by omega)
  have hx : atI (ns.map Val.int) (i : Int) = some (.int ns[i]) := by rw [atI_map, atI_of_lt hi]; rfl
  generalize hcell : ns[i] = cell at hx
  have hseed : 0 ≤ (seed * 69621 + cell % 1000003 + 1) % 2147483629 ∧ (seed * 69621 + cell % 1000003 + 1) % 2147483629 < 2147483629 := ⟨Int.emod_nonneg _ (by decide), Int.emod_lt_of_pos _ (by decide)⟩
  have pw : (10 : Int) ^ 18 = 1000000000000000000 := by decide
  by_cases hc : (1000000000000000000 : Int) ≤ cell
  · obtain ⟨rows', b', cell', h1, h2, h3⟩ := l2_all ns m rows ((seed * 69621 + cell % 1000003 + 1) % 2147483629) (.vl (.int (i : Int))) b cell (by omega) hd st
    refine ⟨rows', _, b', .vl (.int cell'), rfl, ?_, hseed, h2, h3⟩
    have h1' := h1
    unfold dEnv at h1'
    simp [l3_law_draws, dEnv, sSeq, sSet, sIf, tV, a1, a2, aB, aC, pIx, rdSq, rdL, hx, pInt, pMod, pAdd, pMul, pI, c1, pGe, pIB, pPow, pw, truth, hc, sFor, iRg1, rngOk]
    exact h1'
  · refine ⟨rows ++ [mixN (cell % 1000003) (2 * (i : Int))] ++ [mixN (cell % 1000003) (2 * (i : Int) + 1)], _, b, .vl (.int cell), rfl, ?_, hseed, (hd.snoc (mixN_in _ _).1 (mixN_in _ _).2).snoc (mixN_in _ _).1 (mixN_in _ _).2, by simp⟩
    simp [l3_law_draws, dEnv, sSeq, sSet, sIf, tV, a1, a2, aB, aC, pIx, rdSq, rdL, hx, pInt, pMod, pAdd, pMul, pI, c1, ci, pGe, pIB, pPow, pw, truth, hc, sApp, aCl, aCons, aNil, mixed_eq, hz, hz2]
theorem l1_step (ns : List Int) (m : Nat) (rows : List Int) (seed : Int) (a b c : Slot) (i : Nat) (hl : rows.length ≤ 90000) (st : Sto) :
    gV 5 (.int (i : Int)) (dEnv ns m rows seed a b c) = some (dEnv ns m rows seed a (.vl (.int (i : Int))) c) ∧ l1_law_draws f_law_mixed (dEnv ns m rows seed a (.vl (.int (i : Int))) c) st = .nx (dEnv ns m (rows ++ [mixN seed ((i : Int) + 127)]) seed a (.vl (.int (i : Int))) c) st := by
  have hz : sizeOk (rows.length + 1) = true := decide_eq_true (by omega)
  refine ⟨rfl, ?_⟩
  simp [l1_law_draws, dEnv, sApp, aCl, aCons, aNil, aV, a2, aB, aC, pAdd, mixed_eq, hz]
/-- the draws: so many numbers from 0 to 10006 -/
theorem draws_eq (ns : List Int) (hn : ns.length ≤ 63) (m : Nat) (hm : m ≤ 1000) (st : Sto) : ∃ rows : List Int, rows.length = m ∧ Dr rows ∧ f_law_draws [.scr (ns.map Val.int), .int (m : Int)] st = .ok (.lst (rows.map Val.int), true) st := by
  have hcut : cutL (ns.map Val.int) none (some (63 : Int)) = ns.map Val.int := by
    have := cut_to (ns.map Val.int) 63
    rw [show ((63 : Nat) : Int) = (63 : Int) from rfl] at this
    rw [this, List.take_of_length_le (by simpa using hn)]
  -- the first loop
  obtain ⟨e1, s1, h1, rows1, seed1, a1', b1', c1', rfl, rfl, q1, q2, q3⟩ := forL_inv (G := gV 4) (B := l3_law_draws f_law_mixed) (vs := rangeOf 0 ns.length) (fun i e s => ∃ rows seed a b c, e = dEnv ns m rows seed a b c ∧ s = st ∧ (0 ≤ seed ∧ seed < 2147483629) ∧ Dr rows ∧ rows.length ≤ 60 * i) 0
    (env := dEnv ns m [] 1 .no .no .no) (st := st) ⟨[], 1, .no, .no, .no, rfl, rfl, ⟨by decide, by decide⟩, (fun r hr => by cases hr), by simp⟩ (fun j v e s hj hp => by
      obtain ⟨rows, seed, a, b, c, rfl, rfl, p1, p2, p3⟩ := hp
      obtain ⟨hj1, rfl⟩ := rangeOf_get hj
      obtain ⟨rows2, seed2, b2, c2, g1, g2, g3, g4, g5⟩ := l3_step ns m rows seed a b c j hj1 p1 (by omega) p2 s
      rw [show (0 : Int) + (j : Int) = (j : Int) by omega]
      exact ⟨_, g1, _, _, .inl g2, rows2, seed2, _, b2, c2, rfl, rfl, g3, g4, by omega⟩)
  rw [rangeOf_len] at q3
  -- the last loop
  obtain ⟨e2, s2, h2, rows2, a2', b2', c2', rfl, rfl, r2, r3, r4⟩ := forL_inv (G := gV 5) (B := l1_law_draws f_law_mixed) (vs := rangeOf 0 m) (fun i e s => ∃ rows a b c, e = dEnv ns m rows seed1 a b c ∧ s = s1 ∧ Dr rows ∧ rows.length ≤ 4000 + i ∧ i ≤ rows.length) 0
    (env := dEnv ns m rows1 seed1 a1' b1' c1') (st := s1) ⟨rows1, a1', b1', c1', rfl, rfl, q2, by omega, by omega⟩ (fun j v e s hj hp => by
      obtain ⟨rows, a, b, c, rfl, rfl, p2, p3, p4⟩ := hp
      obtain ⟨hj1, rfl⟩ := rangeOf_get hj
      obtain ⟨g1, g2⟩ := l1_step ns m rows seed1 a b c j (by omega) s
      rw [show (0 : Int) + (j : Int) = (j : Int) by omega]
      exact ⟨_, g1, _, _, .inl g2, rows ++ [mixN seed1 ((j : Int) + 127)], a, _, c, rfl, rfl, p2.snoc (mixN_in _ _).1 (mixN_in _ _).2, by simp; omega, by simp; omega⟩)
  rw [rangeOf_len] at r4
  refine ⟨rows2.take m, by rw [List.length_take]; omega, fun r hr => r2 r (List.mem_of_mem_take hr), ?_⟩
  have hr1 : rngOk (ns.length : Int) = true := rng_nat (by omega)
  have hr2 : rngOk (m : Int) = true := rng_nat (by omega)
  have hcm : cutL (rows2.map Val.int) none (some (m : Int)) = (rows2.take m).map Val.int := by rw [cut_to, List.map_take]
  have e1 : sOwn 2 (aN pLstN aNil) (env0 7 [.scr (ns.map Val.int), .int (m : Int)]) s2 = .nx [.vl (.scr (ns.map Val.int)), .vl (.int m), .ow (.lst []), .no, .no, .no, .no] s2 := by
    unfold sOwn
    rw [lst_nil]
    rfl
  have e2 : sSet 3 (aC (.int 1)) [.vl (.scr (ns.map Val.int)), .vl (.int m), .ow (.lst []), .no, .no, .no, .no] s2 = .nx (dEnv ns m [] 1 .no .no .no) s2 := rfl
  have e3 : iRg1 (a1 pLen (aSl (aB 0) oN (oS (aC (.int 63))))) (dEnv ns m [] 1 .no .no .no) s2 = .ok (rangeOf 0 ns.length) s2 := by
    simp only [iRg1, a1, aSl, aB, dEnv, oN, oS, aC, List.getElem?_cons_zero, R.bind_ok, pSl, rdL, hcut, pLen, rdSq, List.length_map, hr1, if_true, Int.toNat_natCast]
  have e4 : iRg1 (aV 1) (dEnv ns m rows1 seed1 a1' b1' c1') s2 = .ok (rangeOf 0 m) s2 := by
    simp only [iRg1, aV, dEnv, List.getElem?_cons_zero, List.getElem?_cons_succ, R.bind_ok, hr2, if_true, Int.toNat_natCast]
  unfold f_law_draws runB a_law_draws
  rw [seq_nx e1, seq_nx e2, seq_nx ((for_of e3).trans h1), seq_nx ((for_of e4).trans h2)]
  simp only [sRet, aSl, aB, aV, dEnv, oN, oS, List.getElem?_cons_zero, List.getElem?_cons_succ, R.bind_ok, pSl, rdL, hcm, R.then_ok, fin_rt]
end Py

namespace Py
open PySem PySem.Spec PyProof.Rows L2
def errs : List String := ["InvalidCube", "InvalidPoint", "InvalidTable", "InvalidChange", "InvalidCover", "InvalidOrder", "InvalidTree", "InvalidPlay", "InvalidText", "InvalidName", "LimitExceeded", "UnknownName", "NothingLeft", "InvalidWord"]
def errV (n : Nat) (v : Val) : Val := if n = 13 then .exc0 "InvalidWord" else .exc1 (errs.getD n "") v
def isL (n : Nat) : List Val := (List.range 14).map fun k => .bl (decide (k = n))
theorem made_eq (v : Val) (st : Sto) : ∀ n : Nat, n < 14 → f_law_made [.int (n : Int), v] st = .ok (errV n v, false) st
  | 0, _ => rfl | 1, _ => rfl | 2, _ => rfl | 3, _ => rfl | 4, _ => rfl | 5, _ => rfl | 6, _ => rfl | 7, _ => rfl | 8, _ => rfl | 9, _ => rfl | 10, _ => rfl | 11, _ => rfl | 12, _ => rfl | 13, _ => rfl
  | n + 14, h => absurd h (by omega)
theorem kinds_eq (v : Val) (st : Sto) : ∀ n : Nat, n < 14 → f_law_kinds [errV n v] st = .ok (.lst (isL n), true) st
  | 0, _ => rfl | 1, _ => rfl | 2, _ => rfl | 3, _ => rfl | 4, _ => rfl | 5, _ => rfl | 6, _ => rfl | 7, _ => rfl | 8, _ => rfl | 9, _ => rfl | 10, _ => rfl | 11, _ => rfl | 12, _ => rfl | 13, _ => rfl
  | n + 14, h => absurd h (by omega)
theorem field_eq (v : Val) (st : Sto) : ∀ n : Nat, n < 13 → f_law_field [.int (n : Int), errV n v] st = .ok (v, false) st
  | 0, _ => rfl | 1, _ => rfl | 2, _ => rfl | 3, _ => rfl | 4, _ => rfl | 5, _ => rfl | 6, _ => rfl | 7, _ => rfl | 8, _ => rfl | 9, _ => rfl | 10, _ => rfl | 11, _ => rfl | 12, _ => rfl
  | n + 13, h => absurd h (by omega)

theorem neL (n : Nat) (st : Sto) : ∀ n : Nat, n < 14 → pNe (.lst (isL n)) (.lst (isL n)) st = .ok (.bl false, false) st
  | 0, _ => rfl | 1, _ => rfl | 2, _ => rfl | 3, _ => rfl | 4, _ => rfl | 5, _ => rfl | 6, _ => rfl | 7, _ => rfl | 8, _ => rfl | 9, _ => rfl | 10, _ => rfl | 11, _ => rfl | 12, _ => rfl | 13, _ => rfl
  | n + 14, h => absurd h (by omega)
theorem comp_eq (a b c d e f : Slot) (st : Sto) : ∀ n : Nat, n < 14 → aComp [6] (iRg1 (aC (.int 14))) (gV 6) tYesX (a2 pEq (aB 6) (aB 3)) [a, b, c, .vl (.int (n : Int)), d, e, f] st = .ok (.lst (isL n), true) st
  | 0, _ => rfl | 1, _ => rfl | 2, _ => rfl | 3, _ => rfl | 4, _ => rfl | 5, _ => rfl | 6, _ => rfl | 7, _ => rfl | 8, _ => rfl | 9, _ => rfl | 10, _ => rfl | 11, _ => rfl | 12, _ => rfl | 13, _ => rfl
  | n + 14, h => absurd h (by omega)
theorem isE_eq (v : Val) (st : Sto) : ∀ n : Nat, n < 14 → pIsC "CoverError" (errV n v) st = .ok (.bl true, false) st
  | 0, _ => rfl | 1, _ => rfl | 2, _ => rfl | 3, _ => rfl | 4, _ => rfl | 5, _ => rfl | 6, _ => rfl | 7, _ => rfl | 8, _ => rfl | 9, _ => rfl | 10, _ => rfl | 11, _ => rfl | 12, _ => rfl | 13, _ => rfl
  | n + 14, h => absurd h (by omega)
/-- values that are the same as themselves -/
def Good (v : Val) : Prop := ∀ st, f_law_same 8 [v, v] st = .ok (.bl true, false) st
theorem same_int (d : Nat) (i : Int) (st : Sto) : f_law_same (d + 1) [.int i, .int i] st = .ok (.bl true, false) st := by
  simp [f_law_same, runB, a_law_same, env0, n_law_same, sSeq, sIf, tV, a1, a2, aB, aC, pIsN, isN, truth, pIsi, tyN, isiB, sSkip, sRet, aAnd, aNot, asBl, pEq, eqP, eqS]
theorem same_str (d : Nat) (s : Txt) (st : Sto) : f_law_same (d + 1) [.str s, .str s] st = .ok (.bl true, false) st := by
  simp [f_law_same, runB, a_law_same, env0, n_law_same, sSeq, sIf, tV, a1, a2, aB, aC, pIsN, isN, truth, pIsi, tyN, isiB, sSkip, sRet, aAnd, aNot, asBl, pEq, eqP, eqS]
theorem good_tup0 : Good (.tup []) := fun st => rfl
theorem good_tup2 (i j : Int) : Good (.tup [.int i, .int j]) := fun st => by
  have h0 : ∀ st, f_law_same 7 [.int i, .int i] st = .ok (.bl true, false) st := same_int 6 i
  have h1 : ∀ st, f_law_same 7 [.int j, .int j] st = .ok (.bl true, false) st := same_int 6 j
  have hl : rangeOf 0 2 = [.int 0, .int 1] := rfl
  have r : rngOk 2 = true := rfl
  have x0 : atI [Val.int i, Val.int j] 0 = some (.int i) := rfl
  have x1 : atI [Val.int i, Val.int j] 1 = some (.int j) := rfl
  rw [f_law_same]
  simp [runB, a_law_same, env0, n_law_same, sSeq, sIf, tV, tAn, tNt, a1, a2, aB, aC, aV, pIsN, isN, truth, pIsi, tyN, isiB, sSkip, sRet, pNe, eqP, eqS, pLen, rdSq, sFor, iRg1, r, hl, forL, l1_law_same, aCl, aCons, aNil, pIx, x0, x1, h0, h1, gV]
theorem l1_ok (a b c : Slot) (d e f : Slot) (v : Val) (hv : Good v) (n : Nat) (hn : n < 14) (st : Sto) :
    l1_law f_law_field (f_law_same 8) f_law_kinds f_law_made f_law_draws [a, b, c, .vl (.int (n : Int)), .vl v, e, f] st = .nx [a, b, c, .vl (.int (n : Int)), .vl v, .vl (errV n v), f] st := by
  have h := comp_eq a b c (.vl v) (.vl (errV n v)) f st n hn
  have k := neL n st n hn
  by_cases h13 : n < 13
  · have hlt : ((n : Int) < 13) := by omega
    simp [l1_law, sSeq, sSet, sIf, tV, tOr', tAn, tNt, aCl, aCons, aNil, aV, aB, aC, a1, a2, made_eq v st n hn, isE_eq v st n hn, truth, kinds_eq v st n hn, h, k, sSkip, sRet, pLt, pIB, hlt, field_eq v st n h13, hv st]
  · have hlt : ¬ ((n : Int) < 13) := by omega
    simp [l1_law, sSeq, sSet, sIf, tV, tOr', tAn, tNt, aCl, aCons, aNil, aV, aB, aC, a1, a2, made_eq v st n hn, isE_eq v st n hn, truth, kinds_eq v st n hn, h, k, sSkip, sRet, pLt, pIB, hlt]
theorem l2_ok (a b : Slot) (fs : List Val) (hf : ∀ v ∈ fs, Good v) (d e f : Slot) (n : Nat) (hn : n < 14) (st : Sto) :
    ∃ d' e', l2_law f_law_field (f_law_same 8) f_law_kinds f_law_made f_law_draws [a, b, .vl (.lst fs), .vl (.int (n : Int)), d, e, f] st = .nx [a, b, .vl (.lst fs), .vl (.int (n : Int)), d', e', f] st := by
  obtain ⟨e1, s1, h1, d', e', rfl, rfl⟩ := forL_inv (G := gV 4) (B := l1_law f_law_field (f_law_same 8) f_law_kinds f_law_made f_law_draws) (vs := fs) (fun i env s => ∃ d e, env = [a, b, .vl (.lst fs), .vl (.int (n : Int)), d, e, f] ∧ s = st) 0
    (env := [a, b, .vl (.lst fs), .vl (.int (n : Int)), d, e, f]) (st := st) ⟨d, e, rfl, rfl⟩ (fun j v env s hj hp => by
      obtain ⟨d1, e1, rfl, rfl⟩ := hp
      exact ⟨_, rfl, _, _, .inl (l1_ok a b _ d1 e1 f v (hf v (List.mem_of_getElem? hj)) n hn s), _, _, rfl, rfl⟩)
  refine ⟨d', e', ?_⟩
  unfold l2_law
  rw [for_of (vs := fs) (s := s1) (by rfl)]
  exact h1
theorem law_plain (ns : List Int) (hn : ns.length ≤ 63) : ∃ fr st, runB n_law.length (a_law f_law_field (f_law_same 8) f_law_kinds f_law_made f_law_draws) [.scr (ns.map Val.int)] [] = .ok (.bl true, fr) st := by
  obtain ⟨rows, hl, hd, hr⟩ := draws_eq ns hn 6 (by decide) []
  match rows, hl with
  | [r0, r1, r2, r3, r4, r5], _ =>
    have b4 := hd r4 (by simp)
    have lg : r4.natAbs.log2 < 1920 := by
      have : r4.natAbs < 2 ^ 14 := by omega
      by_cases z : r4.natAbs = 0
      · rw [z]; decide
      · exact Nat.lt_of_lt_of_le ((Nat.log2_lt z).mpr this) (by decide)
    have ln : (numT r4).length ≤ 1000 := by
      obtain ⟨m, hm⟩ : ∃ m : Nat, r4 = (m : Int) := ⟨r4.toNat, by omega⟩
      have e := congrArg TL.tl (sv_num r4)
      rw [hm, TL.tl_num] at e
      have e2 : numT r4 = TL.numL m := by rw [hm]; exact e.symm
      rw [e2]
      exact Nat.le_trans (TL.numL_len (k := 5) (by decide) (by omega)) (by decide)
    have hz : sizeOk (1 + (numT r4).length) = true := decide_eq_true (by omega)
    let fs : List Val := [.int r0, .int (-r1), .tup [.int r2, .int r3], .tup [], .str [99, 111, 118, 101, 114], .str ([120] ++ numT r4)]
    have hf : ∀ v ∈ fs, Good v := by
      intro v hv
      simp only [fs, List.mem_cons, List.not_mem_nil, or_false] at hv
      rcases hv with rfl | rfl | rfl | rfl | rfl | rfl
      · exact same_int 7 _
      · exact same_int 7 _
      · exact good_tup2 _ _
      · exact good_tup0
      · exact same_str 7 _
      · exact same_str 7 _
    obtain ⟨e1, s1, h1, a1', b1', c1', rfl, rfl⟩ := forL_inv (G := gV 3) (B := l2_law f_law_field (f_law_same 8) f_law_kinds f_law_made f_law_draws) (vs := rangeOf 0 14) (fun i env s => ∃ d e g, env = [.vl (.scr (ns.map Val.int)), .vl (.lst ([r0, r1, r2, r3, r4, r5].map Val.int)), .vl (.lst fs), d, e, g, .no] ∧ s = []) 0
      (env := [.vl (.scr (ns.map Val.int)), .vl (.lst ([r0, r1, r2, r3, r4, r5].map Val.int)), .vl (.lst fs), .no, .no, .no, .no]) (st := []) ⟨.no, .no, .no, rfl, rfl⟩ (fun j v env s hj hp => by
        obtain ⟨d1, e1, g1, rfl, rfl⟩ := hp
        obtain ⟨hj1, rfl⟩ := rangeOf_get hj
        rw [show (0 : Int) + (j : Int) = (j : Int) by omega]
        obtain ⟨d', e', h⟩ := l2_ok (.vl (.scr (ns.map Val.int))) (.vl (.lst ([r0, r1, r2, r3, r4, r5].map Val.int))) fs hf e1 g1 .no j hj1 []
        exact ⟨_, rfl, _, _, .inl h, _, _, _, rfl, rfl⟩)
    have q1 : sSet 1 (aCl f_law_draws (aCons (aV 0) (aCons (aC (.int 6)) aNil))) (env0 7 [.scr (ns.map Val.int)]) [] = .nx [.vl (.scr (ns.map Val.int)), .vl (.lst ([r0, r1, r2, r3, r4, r5].map Val.int)), .no, .no, .no, .no, .no] [] := by
      have hr' : f_law_draws [.scr (ns.map Val.int), .int 6] [] = .ok (.lst ([r0, r1, r2, r3, r4, r5].map Val.int), true) [] := hr
      simp [sSet, aCl, aCons, aNil, aV, aC, env0, hr']
    refine ⟨false, [], ?_⟩
    show fin (a_law f_law_field (f_law_same 8) f_law_kinds f_law_made f_law_draws (env0 7 [.scr (ns.map Val.int)]) []) = _
    unfold a_law
    have y0 : atI [Val.int r0, .int r1, .int r2, .int r3, .int r4, .int r5] 0 = some (.int r0) := rfl
    have y1 : atI [Val.int r0, .int r1, .int r2, .int r3, .int r4, .int r5] 1 = some (.int r1) := rfl
    have y2 : atI [Val.int r0, .int r1, .int r2, .int r3, .int r4, .int r5] 2 = some (.int r2) := rfl
    have y3 : atI [Val.int r0, .int r1, .int r2, .int r3, .int r4, .int r5] 3 = some (.int r3) := rfl
    have y4 : atI [Val.int r0, .int r1, .int r2, .int r3, .int r4, .int r5] 4 = some (.int r4) := rfl
    have z2 : sizeOk 2 = true := rfl
    have z0 : sizeOk 0 = true := rfl
    have z6 : sizeOk 6 = true := rfl
    have q2 : sSet 2 (aN pLstN (aCons (a2 pIx (aB 1) (aC (.int 0))) (aCons (a1 pNeg (a2 pIx (aB 1) (aC (.int 1)))) (aCons (aN pTupN (aCons (a2 pIx (aB 1) (aC (.int 2))) (aCons (a2 pIx (aB 1) (aC (.int 3))) aNil))) (aCons (aN pTupN aNil) (aCons (aC (.str [99, 111, 118, 101, 114])) (aCons (a2 pAdd (aC (.str [120])) (a1 pStr (a2 pIx (aB 1) (aC (.int 4))))) aNil)))))))
        [.vl (.scr (ns.map Val.int)), .vl (.lst ([r0, r1, r2, r3, r4, r5].map Val.int)), .no, .no, .no, .no, .no] [] = .nx [.vl (.scr (ns.map Val.int)), .vl (.lst ([r0, r1, r2, r3, r4, r5].map Val.int)), .vl (.lst fs), .no, .no, .no, .no] [] := by
      rw [show ([r0, r1, r2, r3, r4, r5].map Val.int) = [Val.int r0, .int r1, .int r2, .int r3, .int r4, .int r5] from rfl]
      simp only [fs, sSet, aN, aCons, aNil, a1, a2, aB, aC, pIx, rdSq, rdL, y0, y1, y2, y3, y4, pNeg, pLstN, pTupN, pStr, lg, if_true, pAdd, List.length_cons, List.length_nil, Nat.zero_add, hz, z0, z2, z6, R.bind_ok, R.then_ok, List.getElem?_cons_zero, List.getElem?_cons_succ, Nat.reduceAdd, List.set_cons_zero, List.set_cons_succ]
    have q3 : sFor (iRg1 (aC (.int 14))) (gV 3) (l2_law f_law_field (f_law_same 8) f_law_kinds f_law_made f_law_draws) [.vl (.scr (ns.map Val.int)), .vl (.lst ([r0, r1, r2, r3, r4, r5].map Val.int)), .vl (.lst fs), .no, .no, .no, .no] [] = .nx [.vl (.scr (ns.map Val.int)), .vl (.lst ([r0, r1, r2, r3, r4, r5].map Val.int)), .vl (.lst fs), a1', b1', c1', .no] [] := (for_of (vs := rangeOf 0 14) (s := []) (by rfl)).trans h1
    rw [seq_nx q1, seq_nx q2, seq_nx q3]
    rfl
end Py

set_option maxHeartbeats 0
namespace Py
open PySem PySem.Spec PyProof.Rows L2
def nm0 : List PySem.Str := [PySem.Str.ofString "CoverError", PySem.Str.ofString "InvalidCube", PySem.Str.ofString "InvalidPoint", PySem.Str.ofString "InvalidTable", PySem.Str.ofString "InvalidChange", PySem.Str.ofString "InvalidCover", PySem.Str.ofString "InvalidOrder", PySem.Str.ofString "InvalidWord", PySem.Str.ofString "InvalidTree", PySem.Str.ofString "InvalidPlay", PySem.Str.ofString "InvalidText", PySem.Str.ofString "InvalidName", PySem.Str.ofString "LimitExceeded", PySem.Str.ofString "UnknownName", PySem.Str.ofString "NothingLeft", PySem.Str.ofString "_law_mixed", PySem.Str.ofString "_law_draws", PySem.Str.ofString "_law_same", PySem.Str.ofString "_law_made", PySem.Str.ofString "_law_field", PySem.Str.ofString "_law_kinds"]
def names : List PySem.Str := nm0
def e_law : He.DefD := ⟨("law", none), "law", "law", defArgs s_law, defBody s_law, defScope s_law, [], []⟩
def e_law_field : He.DefD := ⟨("_law_field", none), "_law_field", "_law_field", defArgs s_law_field, defBody s_law_field, defScope s_law_field, [], []⟩
def e_law_same : He.DefD := ⟨("_law_same", none), "_law_same", "_law_same", defArgs s_law_same, defBody s_law_same, defScope s_law_same, [], []⟩
def e_law_kinds : He.DefD := ⟨("_law_kinds", none), "_law_kinds", "_law_kinds", defArgs s_law_kinds, defBody s_law_kinds, defScope s_law_kinds, [], []⟩
def e_law_made : He.DefD := ⟨("_law_made", none), "_law_made", "_law_made", defArgs s_law_made, defBody s_law_made, defScope s_law_made, [], []⟩
def e_law_draws : He.DefD := ⟨("_law_draws", none), "_law_draws", "_law_draws", defArgs s_law_draws, defBody s_law_draws, defScope s_law_draws, [], []⟩
def e_law_mixed : He.DefD := ⟨("_law_mixed", none), "_law_mixed", "_law_mixed", defArgs s_law_mixed, defBody s_law_mixed, defScope s_law_mixed, [], []⟩
def i_InvalidCube : He.DefD := ⟨("InvalidCube", some "__init__"), "__init__", "InvalidCube.__init__", defArgs (clsDef (top 2) 0), defBody (clsDef (top 2) 0), defScope (clsDef (top 2) 0), [], []⟩
def i_InvalidPoint : He.DefD := ⟨("InvalidPoint", some "__init__"), "__init__", "InvalidPoint.__init__", defArgs (clsDef (top 3) 0), defBody (clsDef (top 3) 0), defScope (clsDef (top 3) 0), [], []⟩
def i_InvalidTable : He.DefD := ⟨("InvalidTable", some "__init__"), "__init__", "InvalidTable.__init__", defArgs (clsDef (top 4) 0), defBody (clsDef (top 4) 0), defScope (clsDef (top 4) 0), [], []⟩
def i_InvalidChange : He.DefD := ⟨("InvalidChange", some "__init__"), "__init__", "InvalidChange.__init__", defArgs (clsDef (top 5) 0), defBody (clsDef (top 5) 0), defScope (clsDef (top 5) 0), [], []⟩
def i_InvalidCover : He.DefD := ⟨("InvalidCover", some "__init__"), "__init__", "InvalidCover.__init__", defArgs (clsDef (top 6) 0), defBody (clsDef (top 6) 0), defScope (clsDef (top 6) 0), [], []⟩
def i_InvalidOrder : He.DefD := ⟨("InvalidOrder", some "__init__"), "__init__", "InvalidOrder.__init__", defArgs (clsDef (top 7) 0), defBody (clsDef (top 7) 0), defScope (clsDef (top 7) 0), [], []⟩
def i_InvalidTree : He.DefD := ⟨("InvalidTree", some "__init__"), "__init__", "InvalidTree.__init__", defArgs (clsDef (top 9) 0), defBody (clsDef (top 9) 0), defScope (clsDef (top 9) 0), [], []⟩
def i_InvalidPlay : He.DefD := ⟨("InvalidPlay", some "__init__"), "__init__", "InvalidPlay.__init__", defArgs (clsDef (top 10) 0), defBody (clsDef (top 10) 0), defScope (clsDef (top 10) 0), [], []⟩
def i_InvalidText : He.DefD := ⟨("InvalidText", some "__init__"), "__init__", "InvalidText.__init__", defArgs (clsDef (top 11) 0), defBody (clsDef (top 11) 0), defScope (clsDef (top 11) 0), [], []⟩
def i_InvalidName : He.DefD := ⟨("InvalidName", some "__init__"), "__init__", "InvalidName.__init__", defArgs (clsDef (top 12) 0), defBody (clsDef (top 12) 0), defScope (clsDef (top 12) 0), [], []⟩
def i_LimitExceeded : He.DefD := ⟨("LimitExceeded", some "__init__"), "__init__", "LimitExceeded.__init__", defArgs (clsDef (top 13) 0), defBody (clsDef (top 13) 0), defScope (clsDef (top 13) 0), [], []⟩
def i_UnknownName : He.DefD := ⟨("UnknownName", some "__init__"), "__init__", "UnknownName.__init__", defArgs (clsDef (top 14) 0), defBody (clsDef (top 14) 0), defScope (clsDef (top 14) 0), [], []⟩
def i_NothingLeft : He.DefD := ⟨("NothingLeft", some "__init__"), "__init__", "NothingLeft.__init__", defArgs (clsDef (top 15) 0), defBody (clsDef (top 15) 0), defScope (clsDef (top 15) 0), [], []⟩
def fn : List He.DefD := [e_law, e_law_field, e_law_same, e_law_kinds, e_law_made, e_law_draws, e_law_mixed, i_InvalidCube, i_InvalidPoint, i_InvalidTable, i_InvalidChange, i_InvalidCover, i_InvalidOrder, i_InvalidTree, i_InvalidPlay, i_InvalidText, i_InvalidName, i_LimitExceeded, i_UnknownName, i_NothingLeft]
def gls : List Str := ["law", "_law_field", "_law_same", "_law_kinds", "_law_made", "_law_draws", "_law_mixed", "CoverError", "InvalidCube", "InvalidPoint", "InvalidTable", "InvalidChange", "InvalidCover", "InvalidOrder", "InvalidWord", "InvalidTree", "InvalidPlay", "InvalidText", "InvalidName", "LimitExceeded", "UnknownName", "NothingLeft"]
def fa : List He.Fa := bnm.map He.Fa.free ++ gls.map He.Fa.glo
abbrev RR : PySem.W.OpenRow := PySem.W.OpenLaw.row PySem.Challenge.rw_steadycover_k81_errors_apart
abbrev hk : PySem.W.Hook := He.hookX 6 fa fn [] [] (exE excs)
def ob (s : PySem.W.SharedT) : He.AlX := He.obsX 6 fa fn [] [] (exE excs) (HandSHeadRun.getT s)
theorem ob_eq (s : PySem.W.SharedT) : ob s = hk.obs s.abs := He.obsX_eq (HandSHeadRun.getT_eq s)
theorem run_f (w : World) : HandSHeadRun.RunEq RR (PySem.W.view RR.prog [23]) hk ob 20000 names (w.withFollow "special-get-raises" false) := by
  intro os
  kernel_rfl
theorem run_t (w : World) : HandSHeadRun.RunEq RR (PySem.W.view RR.prog [23]) hk ob 20000 names (w.withFollow "special-get-raises" true) := by
  intro os
  kernel_rfl
theorem run (w : World) : HandSHeadRun.RunEq RR (PySem.W.view RR.prog [23]) hk ob 20000 names w := PySem.W.byRow2 "special-get-raises" (P := fun w => HandSHeadRun.RunEq RR (PySem.W.view RR.prog [23]) hk ob 20000 names w) run_f run_t w
theorem fac {K : PySem.W.Frag} (c : He.SaysD fa fn K) {f : He.Fa} (h : f ∈ fa) : f.ok K = true := c.facts h
theorem glo_m {K : PySem.W.Frag} {h : Heap} {mg : Str → Option Value} (X : K.In h) (G : h.Ns mainGlobals mg) (c : He.SaysD fa fn K) {x : Str} (hx : x ∈ gls) : mg x = some (.ref (He.ga K x)) := He.glo_ok X G (fac c (List.mem_append.mpr (.inr (List.mem_map.mpr ⟨x, hx, rfl⟩))))
theorem free_m {K : PySem.W.Frag} {h : Heap} {mg : Str → Option Value} (X : K.In h) (G : h.Ns mainGlobals mg) (c : He.SaysD fa fn K) {x : Str} (hx : x ∈ bnm) : mg x = none := He.free_ok X G (fac c (List.mem_append.mpr (.inl (List.mem_map.mpr ⟨x, hx, rfl⟩))))
theorem exc_fields : ∀ c ∈ excs, Str.ofString (excAttr c) ∈ PyE.fieldsE := by decide +kernel
theorem exc_gls : ∀ c ∈ excs, Str.ofString c ∈ gls := by decide +kernel
theorem inits {K : PySem.W.Frag} (c : He.SaysD fa fn K) : ∀ d ∈ excs, has1 d = true → InitP K (Str.ofString (excAttr d)) (He.ma K (He.ga K (Str.ofString d)) "__init__") := by
  intro d hd h1
  simp only [excs, List.mem_cons, List.not_mem_nil, or_false] at hd
  rcases hd with rfl | rfl | rfl | rfl | rfl | rfl | rfl | rfl | rfl | rfl | rfl | rfl | rfl | rfl | rfl
  · exact absurd h1 (by decide)
  · obtain ⟨fd, F⟩ := c.def_ 7 (d := i_InvalidCube) rfl
    exact ⟨_, _, _, _, _, _, _, fd, F⟩
  · obtain ⟨fd, F⟩ := c.def_ 8 (d := i_InvalidPoint) rfl
    exact ⟨_, _, _, _, _, _, _, fd, F⟩
  · obtain ⟨fd, F⟩ := c.def_ 9 (d := i_InvalidTable) rfl
    exact ⟨_, _, _, _, _, _, _, fd, F⟩
  · obtain ⟨fd, F⟩ := c.def_ 10 (d := i_InvalidChange) rfl
    exact ⟨_, _, _, _, _, _, _, fd, F⟩
  · obtain ⟨fd, F⟩ := c.def_ 11 (d := i_InvalidCover) rfl
    exact ⟨_, _, _, _, _, _, _, fd, F⟩
  · obtain ⟨fd, F⟩ := c.def_ 12 (d := i_InvalidOrder) rfl
    exact ⟨_, _, _, _, _, _, _, fd, F⟩
  · exact absurd h1 (by decide)
  · obtain ⟨fd, F⟩ := c.def_ 13 (d := i_InvalidTree) rfl
    exact ⟨_, _, _, _, _, _, _, fd, F⟩
  · obtain ⟨fd, F⟩ := c.def_ 14 (d := i_InvalidPlay) rfl
    exact ⟨_, _, _, _, _, _, _, fd, F⟩
  · obtain ⟨fd, F⟩ := c.def_ 15 (d := i_InvalidText) rfl
    exact ⟨_, _, _, _, _, _, _, fd, F⟩
  · obtain ⟨fd, F⟩ := c.def_ 16 (d := i_InvalidName) rfl
    exact ⟨_, _, _, _, _, _, _, fd, F⟩
  · obtain ⟨fd, F⟩ := c.def_ 17 (d := i_LimitExceeded) rfl
    exact ⟨_, _, _, _, _, _, _, fd, F⟩
  · obtain ⟨fd, F⟩ := c.def_ 18 (d := i_UnknownName) rfl
    exact ⟨_, _, _, _, _, _, _, fd, F⟩
  · obtain ⟨fd, F⟩ := c.def_ 19 (d := i_NothingLeft) rfl
    exact ⟨_, _, _, _, _, _, _, fd, F⟩
theorem facts {w : World} {K : PySem.W.Frag} {h : Heap} {mg : Str → Option Value} {f : Addr} (X : K.In h) (G : h.Ns mainGlobals mg) (hfa : mg ("law" : Str) = some (.ref f)) (c : He.SaysD fa fn K) (ex : exE excs K = true) :
    ∃ fd : FuncData, (∀ (s : Shared) (v : Value), BindsTo s fd ⟨[v], []⟩ [("_law_script", v)]) ∧ ∀ base : Heap, K.In base → base.Ns mainGlobals mg → FnOk (PySem.Challenge.rw_steadycover_k81_errors_apart).prog w K mg base (fun _ _ _ _ _ _ => False) (lawK + 1) f fd ["_law_script"] (spLaw K) := by
  obtain ⟨fd, F⟩ := c.def_ 0 (d := e_law) rfl
  have e := hfa.symm.trans (glo_m X G c (x := "law") (by decide +kernel))
  cases e
  have b := FunD.bindsA (ps := ["_law_script"]) F fun _ _ _ _ _ _ us hl => match us, hl with | [_], _ => rfl
  refine ⟨fd, fun s v => b s [v] rfl, fun base _ _ => ?_⟩
  have key : ∀ p : Par, p.g.K = K → p.P = (PySem.Challenge.rw_steadycover_k81_errors_apart).prog → p.w = w → p.mg = mg → p.base = base → (∀ d ∈ excs, p.g.exc d = true) → FnOk (PySem.Challenge.rw_steadycover_k81_errors_apart).prog w K mg base (fun _ _ _ _ _ _ => False) (lawK + 1) (He.ga K "law") fd ["_law_script"] (spLaw K) := fun p eK eP ew em eb ee => by
    have h_law_field : DefP p "_law_field" s_law_field := by
      obtain ⟨fd, F⟩ := c.def_ 1 (d := e_law_field) rfl
      exact ⟨_, fd, by rw [eK]; exact F, by rw [em]; exact glo_m X G c (by decide +kernel)⟩
    have h_law_same : DefP p "_law_same" s_law_same := by
      obtain ⟨fd, F⟩ := c.def_ 2 (d := e_law_same) rfl
      exact ⟨_, fd, by rw [eK]; exact F, by rw [em]; exact glo_m X G c (by decide +kernel)⟩
    have h_law_kinds : DefP p "_law_kinds" s_law_kinds := by
      obtain ⟨fd, F⟩ := c.def_ 3 (d := e_law_kinds) rfl
      exact ⟨_, fd, by rw [eK]; exact F, by rw [em]; exact glo_m X G c (by decide +kernel)⟩
    have h_law_made : DefP p "_law_made" s_law_made := by
      obtain ⟨fd, F⟩ := c.def_ 4 (d := e_law_made) rfl
      exact ⟨_, fd, by rw [eK]; exact F, by rw [em]; exact glo_m X G c (by decide +kernel)⟩
    have h_law_draws : DefP p "_law_draws" s_law_draws := by
      obtain ⟨fd, F⟩ := c.def_ 5 (d := e_law_draws) rfl
      exact ⟨_, fd, by rw [eK]; exact F, by rw [em]; exact glo_m X G c (by decide +kernel)⟩
    have h_law_mixed : DefP p "_law_mixed" s_law_mixed := by
      obtain ⟨fd, F⟩ := c.def_ 6 (d := e_law_mixed) rfl
      exact ⟨_, fd, by rw [eK]; exact F, by rw [em]; exact glo_m X G c (by decide +kernel)⟩
    have D : Defs p := ⟨ee, h_law_field, h_law_same, h_law_kinds, h_law_made, h_law_draws, h_law_mixed⟩
    have q := law_ok (p := p) (by rw [eK]; exact F) sc_law (law_at D) law_plain
    rw [eP, ew, eK, em, eb] at q
    exact q
  exact key (parE excs (PySem.Challenge.rw_steadycover_k81_errors_apart).prog w K mg base ex (fun x hx => free_m X G c hx) (fun d hd => glo_m X G c (exc_gls d hd)) exc_fields (inits c)) rfl rfl rfl rfl rfl fun d hd => by
    show excs.contains d = true
    simpa using hd
end Py
open PySem PySem.W PySem.Calls PyProof.Rows
theorem PySem.Challenge.cw_steadycover_k81_errors_apart_holds : PySem.Challenge.rw_steadycover_k81_errors_apart.Holds := by
  w_on; o_law
  refine HandSHeadRun.head_any (r := OpenLaw.row PySem.Challenge.rw_steadycover_k81_errors_apart) (q := view (OpenLaw.row PySem.Challenge.rw_steadycover_k81_errors_apart).prog [23]) (H := Py.hk) (ob := Py.ob) (M := 20000) (loose := Py.names) (d := HandSHeadRun.topDef (OpenLaw.row PySem.Challenge.rw_steadycover_k81_errors_apart).prog 23) (kwd := []) Py.ob_eq
    (by kernel_rfl) (fun s => by kernel_rfl) Py.run (by kernel_rfl) (by kernel_rfl) (by kernel_rfl) (by rfl) (by first | assumption | decide +kernel) (by decide +kernel) ⟨rfl, rfl, rfl, rfl, rfl, by decide +kernel⟩ ?hw ?hc
  case hw => w_witness2
  case hc =>
    refine L2.walk_ofE (l := PySem.Challenge.rw_steadycover_k81_errors_apart) (n := 63) (k := Py.lawK + 1) (x := "_law_script") (CX := fun _ _ _ _ _ _ => False) rfl (by decide) (by kernel_rfl) ⟨rfl, by decide, by decide⟩ ?F (fun _ _ _ _ z => z)
    intro w mg fa h Y G hmg0
    obtain ⟨K, KX, c⟩ := Y
    have hmg : mg ("law" : PySem.Str) = some (.ref fa) := by
      have e : (HandSHeadRun.topDef (OpenLaw.row PySem.Challenge.rw_steadycover_k81_errors_apart).prog 23).name = ("law" : PySem.Str) := by kernel_rfl
      rw [← e]
      exact hmg0
    obtain ⟨fd, hb, hF⟩ := Py.facts (w := w) KX G hmg c.t.d c.more
    exact ⟨K, fd, Py.spLaw K, KX, hb, fun H a ns hl _ hS => ⟨a, ns, rfl, hS, hl, fun _ => rfl⟩, hF⟩
#print axioms PySem.Challenge.cw_steadycover_k81_errors_apart_holds
