import PyProof.Rows.All
import Wide.All
import OpenK.AllK
import Wide.FinOn
import HandS.ForMost
import HandS.ForExc
import HandS.ExcInit
import HandS.TryOnly
import KE.DataCmp
import HandS.TupAny
import HandS.Deep
import HandS.CallSlots
import HandS.WordsDict
import HandS.Style
import HandS.IsInst
import HandS.ExcField
import HandS.TryMany
import HandS.Rev
import HandS.Zip
import HandS.TupMul
import HandS.Conv
import KE.KTryMore
import PyProof.P3Eq
import PySem.Challenge.RW_keptfiles_k01_settings
set_option Elab.async false
set_option linter.all false
set_option maxRecDepth 100000
set_option autoImplicit false
section
set_option maxHeartbeats 4000000
/-! Kf: a deterministic reading of the program's defs, over the hand layer. Values D, objects O in a heap Hd (a list), results Res;
    tD turns such a reading into a reading of the hand layer (a TE). -/
namespace Kf
open PySem PySem.Spec L2

inductive D where
  | non | bl (b : Bool) | int (i : Int) | str (s : String) | raw (x : Str) | tup (xs : List D) | ref (n : Nat)
  /-- a list that nobody changes -/
  | fls (xs : List D)
  /-- an exception that a suite holds: its class, where it lies, its dict, its fields -/
  | xc (c : String) (a : Nat) (d : Option Nat) (fs : List (String × D))
inductive O where
  | lst (xs : List D)
  | dict (kvs : List (D × D))
  /-- a dict that is walked -/
  | lkd (kvs : List (D × D))
  | ins (c : String) (fs : List (String × D))
abbrev Hd := List O
abbrev En := List (Option D)

inductive Res (α : Type) where
  | ok (a : α) (h : Hd)
  | exc (c : String) (fs : List (String × D)) (h : Hd)
  | stuck
def Res.bind {α β : Type} (r : Res α) (f : α → Hd → Res β) : Res β := match r with
  | .ok a h => f a h
  | .exc c fs h => .exc c fs h
  | .stuck => .stuck
@[simp] theorem Res.bind_ok {α β : Type} (a : α) (h : Hd) (f : α → Hd → Res β) : (Res.ok a h).bind f = f a h := id rfl
@[simp] theorem Res.bind_exc {α β : Type} (c fs) (h : Hd) (f : α → Hd → Res β) : (Res.exc c fs h : Res α).bind f = .exc c fs h := id rfl
@[simp] theorem Res.bind_stuck {α β : Type} (f : α → Hd → Res β) : (Res.stuck : Res α).bind f = .stuck := id rfl

/-- a list that nobody changes: frozen, or of the written part -/
def FzL (K : PySem.W.Frag) (H : Hp) (a : Addr) (xs : List V) : Prop := (∃ o, H a = some (.frz o (.lst xs))) ∨
  ∃ (o : Obj) (its : Array Value) (n : Nat), K.lookup a = some o ∧ o.cls = .type "list" ∧ o.dict = none ∧ o.data = .seq its n ∧ its.size ≤ sizeLine ∧ Vals xs its.toList
theorem FzL.sql {K : PySem.W.Frag} {H : Hp} {a : Addr} {xs : List V} (h : FzL K H a xs) : SqL K H a xs := h.elim (fun ⟨o, e⟩ => .inl (.inr ⟨o, e⟩)) .inr
/-- the classes' addresses -/
abbrev CA := String → Addr
section
variable (K : PySem.W.Frag) (cA : CA) (ι : Nat → Addr) (n : Nat) (H : Hp)
mutual
inductive Rep : V → D → Prop where
  | non : Rep .non .non
  | bl {b} : Rep (.bl b) (.bl b)
  | int {i} : Rep (.int i) (.int i)
  | str {s} : Rep (.str (Str.ofString s)) (.str s)
  | raw {x} : Rep (.str x) (.raw x)
  | tup {a xs ds} : SqT K H a xs → Reps xs ds → Rep (.ref a) (.tup ds)
  | ref {m} : m < n → Rep (.ref (ι m)) (.ref m)
  | fls {a xs ds} : FzL K H a xs → Reps xs ds → Rep (.ref a) (.fls ds)
  | xc0 {c a} : Rep (.ref a) (.xc c a none [])
  | xc {c a d gs fs} : H d = some (.xd gs) → FRep gs fs → Rep (.ref a) (.xc c a (some d) fs)
inductive Reps : List V → List D → Prop where
  | nil : Reps [] []
  | cons {x d xs ds} : Rep x d → Reps xs ds → Reps (x :: xs) (d :: ds)
inductive FRep : List (Str × V) → List (String × D) → Prop where
  | nil : FRep [] []
  | cons {f x d fs gs} : Rep x d → FRep fs gs → FRep ((Str.ofString f, x) :: fs) ((f, d) :: gs)
end
/-- the pairs of a dict -/
inductive KRep : List (Key × V) → List (D × D) → Prop where
  | nil : KRep [] []
  | cons {k kd x d ks ds} : Rep K ι n H (kV k) kd → Rep K ι n H x d → KRep ks ds → KRep ((k, x) :: ks) ((kd, d) :: ds)
inductive ORep : HO → O → Prop where
  | lst {xs ds} : Reps K ι n H xs ds → ORep (.lst xs) (.lst ds)
  | dict {ks ds} : KRep K ι n H ks ds → ORep (.dK ks) (.dict ds)
  | lkd {o ks ds} : KRep K ι n H ks ds → ORep (.frz o (.dK ks)) (.lkd ds)
  | ins {c dx fs gs} : FRep K ι n H fs gs → ORep (.ins (cA c) dx fs) (.ins c gs)
structure HRep (h : Hd) : Prop where
  obj : ∀ m o, h[m]? = some o → ∃ ho, H (ι m) = some ho ∧ ORep K cA ι h.length H ho o
  inj : ∀ m k, m < h.length → k < h.length → ι m = ι k → m = k
end
/-- from one state to a later one: the old addresses stay, what the heap h does not speak of stays, the new addresses were free -/
structure Step (ι : Nat → Addr) (h : Hd) (H : Hp) (ι' : Nat → Addr) (h' : Hd) (H' : Hp) : Prop where
  eq : ∀ m, m < h.length → ι' m = ι m
  len : h.length ≤ h'.length
  keep : ∀ a o, H a = some o → (∀ m, m < h.length → a ≠ ι m) → H' a = some o
  fresh : ∀ m, h.length ≤ m → m < h'.length → H (ι' m) = none
  there : ∀ a o, H a = some o → ∃ o', H' a = some o'
  frz : ∀ a o u, H a = some (.frz o u) → H' a = some (.frz o u)

section
variable {K : PySem.W.Frag} {cA : CA} {ι ι' ι'' : Nat → Addr} {n n' : Nat} {H H' H'' : Hp} {h h' h'' : Hd}
theorem ORep.xd {ho : HO} {o : O} (r : ORep K cA ι n H ho o) : ∀ gs, ho ≠ .xd gs := by
  cases r <;> refine fun _ z => ?_ <;> cases z
theorem HRep.xdOff' {K : PySem.W.Frag} {cA : CA} {ι : Nat → Addr} {H : Hp} {h : Hd} (R : HRep K cA ι H h) {a : Addr} {gs : List (Str × V)} (e : H a = some (.xd gs)) : ∀ m, m < h.length → a ≠ ι m := fun m hm z => by
  obtain ⟨ho, e2, r⟩ := R.obj m h[m] (by simp [hm])
  rw [z, e2] at e
  exact r.xd gs (Option.some.inj e)
theorem ORep.mut {ho : HO} {o : O} (r : ORep K cA ι n H ho o) : (∀ xs, ho ≠ .tup xs) ∧ (∀ x xs, ho ≠ .frz x (.tup xs)) ∧ (∀ x, ho ≠ .own x) := by
  cases r <;> refine ⟨fun _ z => ?_, fun _ _ z => ?_, fun _ z => ?_⟩ <;> cases z
theorem HRep.lt_obj (R : HRep K cA ι H h) {m : Nat} (hm : m < h.length) : ∃ o ho, h[m]? = some o ∧ H (ι m) = some ho ∧ ORep K cA ι h.length H ho o := by
  obtain ⟨ho, e, r⟩ := R.obj m h[m] (by simp [hm])
  exact ⟨_, ho, by simp [hm], e, r⟩
theorem HRep.tupOff (R : HRep K cA ι H h) {a : Addr} {xs : List V} (e : H a = some (.tup xs)) : ∀ m, m < h.length → a ≠ ι m := fun m hm z => by
  obtain ⟨o, ho, _, e2, r⟩ := R.lt_obj hm
  rw [z, e2] at e
  exact r.mut.1 xs (Option.some.inj e)
theorem HRep.frzOff (R : HRep K cA ι H h) {a : Addr} {o : Obj} {u : List V} (e : H a = some (.frz o (.tup u))) : ∀ m, m < h.length → a ≠ ι m := fun m hm z => by
  obtain ⟨o2, ho, _, e2, r⟩ := R.lt_obj hm
  rw [z, e2] at e
  exact r.mut.2.1 _ _ (Option.some.inj e)
/-- what keeps tuples -/
structure TKeep (K : PySem.W.Frag) (H H' : Hp) : Prop where
  tup : ∀ a xs, SqT K H a xs → SqT K H' a xs
  fzl : ∀ a xs, FzL K H a xs → FzL K H' a xs
  xd : ∀ a gs, H a = some (.xd gs) → H' a = some (.xd gs)
theorem Step.tkeep (S : Step ι h H ι' h' H') (R : HRep K cA ι H h) : TKeep K H H' := ⟨fun a xs q => by
  rcases q with (q | ⟨o, q⟩) | q
  · exact .inl (.inl (S.keep a _ q (R.tupOff q)))
  · exact .inl (.inr ⟨o, S.keep a _ q (R.frzOff q)⟩)
  · exact .inr q, fun a xs q => by
  rcases q with ⟨o, q⟩ | q
  · exact .inl ⟨o, S.frz a _ _ q⟩
  · exact .inr q, fun a gs q => S.keep a _ q (R.xdOff' q)⟩
mutual
theorem Rep.keep (t : TKeep K H H') (hn : n ≤ n') (hi : ∀ m, m < n → ι' m = ι m) : ∀ {v : V} {d : D}, Rep K ι n H v d → Rep K ι' n' H' v d
  | _, _, .non => .non
  | _, _, .bl => .bl
  | _, _, .int => .int
  | _, _, .str => .str
  | _, _, .raw => .raw
  | _, _, .tup q r => .tup (t.tup _ _ q) (Reps.keep t hn hi r)
  | _, _, .fls q r => .fls (t.fzl _ _ q) (Reps.keep t hn hi r)
  | _, _, .ref (m := m) q => by
    have e := hi m q
    rw [← e]
    exact .ref (Nat.lt_of_lt_of_le q hn)
  | _, _, .xc0 => .xc0
  | _, _, .xc q r => .xc (t.xd _ _ q) (FRep.keep t hn hi r)
theorem Reps.keep (t : TKeep K H H') (hn : n ≤ n') (hi : ∀ m, m < n → ι' m = ι m) : ∀ {v : List V} {d : List D}, Reps K ι n H v d → Reps K ι' n' H' v d
  | _, _, .nil => .nil
  | _, _, .cons r q => .cons (Rep.keep t hn hi r) (Reps.keep t hn hi q)
theorem FRep.keep (t : TKeep K H H') (hn : n ≤ n') (hi : ∀ m, m < n → ι' m = ι m) : ∀ {v : List (Str × V)} {d : List (String × D)}, FRep K ι n H v d → FRep K ι' n' H' v d
  | _, _, .nil => .nil
  | _, _, .cons r q => .cons (Rep.keep t hn hi r) (FRep.keep t hn hi q)
end
theorem KRep.keep (t : TKeep K H H') (hn : n ≤ n') (hi : ∀ m, m < n → ι' m = ι m) {v d} (r : KRep K ι n H v d) : KRep K ι' n' H' v d := by
  induction r with
  | nil => exact .nil
  | cons r q _ ih => exact .cons (r.keep t hn hi) (q.keep t hn hi) ih
theorem ORep.keep (t : TKeep K H H') (hn : n ≤ n') (hi : ∀ m, m < n → ι' m = ι m) {v d} (r : ORep K cA ι n H v d) : ORep K cA ι' n' H' v d := by
  cases r with
  | lst r => exact .lst (r.keep t hn hi)
  | dict r => exact .dict (r.keep t hn hi)
  | lkd r => exact .lkd (r.keep t hn hi)
  | ins r => exact .ins (r.keep t hn hi)
theorem Step.refl : Step ι h H ι h H := ⟨fun _ _ => rfl, Nat.le_refl _, fun _ _ q _ => q, fun m a b => absurd (Nat.lt_of_lt_of_le b a) (Nat.lt_irrefl _), fun _ o q => ⟨o, q⟩, fun _ _ _ q => q⟩
theorem Step.trans (S : Step ι h H ι' h' H') (T : Step ι' h' H' ι'' h'' H'') : Step ι h H ι'' h'' H'' where
  eq := fun m hm => (T.eq m (Nat.lt_of_lt_of_le hm S.len)).trans (S.eq m hm)
  len := Nat.le_trans S.len T.len
  keep := fun a o q hn => T.keep a o (S.keep a o q hn) fun m hm z => by
    by_cases h1 : m < h.length
    · exact hn m h1 (z.trans (S.eq m h1))
    · have := S.fresh m (Nat.le_of_not_lt h1) hm
      rw [← z, q] at this; cases this
  fresh := fun m h1 h2 => by
    by_cases h3 : m < h'.length
    · rw [T.eq m h3]; exact S.fresh m h1 h3
    · have z := T.fresh m (Nat.le_of_not_lt h3) h2
      cases e : H (ι'' m) with
      | none => rfl
      | some o =>
        obtain ⟨o', e'⟩ := S.there _ o e
        rw [z] at e'; cases e'
  there := fun a o q => by
    obtain ⟨o', q'⟩ := S.there a o q
    exact T.there a o' q'
  frz := fun a o u q => T.frz a o u (S.frz a o u q)
end

/-! ### readings of expressions -/
/-- an environment -/
structure VRep (K : PySem.W.Frag) (ι : Nat → Addr) (n : Nat) (H : Hp) (σ : St) (env : En) : Prop where
  len : σ.length = env.length
  var : ∀ (i : Nat) (d : D), env[i]? = some (some d) → ∃ v, (σ : List (Option V))[i]? = some (some v) ∧ Rep K ι n H v d
/-- what an exception is, behind its raise -/
def XRep (K : PySem.W.Frag) (cA : CA) (ι : Nat → Addr) (n : Nat) (H : Hp) (c : String) (fs : List (String × D)) (cls : Value) (od : Option Addr) : Prop :=
  cls = .ref (cA c) ∧ ((fs = [] ∧ od = none) ∨ ∃ d gs, od = some d ∧ H d = some (.xd gs) ∧ FRep K ι n H gs fs)

/-- what is wanted behind a result -/
def RPost {α : Type} (K : PySem.W.Frag) (cA : CA) (W : WX) (σ : St) (ι : Nat → Addr) (h : Hd) (H : Hp) (r : Res α) (P : α → Hd → (Nat → Addr) → Hp → Prop) : Prop := match r with
  | .ok a h' => ∀ ι' H', Step ι h H ι' h' H' → HRep K cA ι' H' h' → P a h' ι' H'
  | .exc c fs h' => ∀ ι' H' cls od, Step ι h H ι' h' H' → HRep K cA ι' H' h' → XRep K cA ι' h'.length H' c fs cls od → W cls od σ H'
  | .stuck => False
section
variable {K : PySem.W.Frag} {cA : CA} {W : WX} {σ : St} {ι ι' ι'' : Nat → Addr} {n n' : Nat} {H H' H'' : Hp} {h h' h'' : Hd} {α β : Type}
theorem RPost.mono {r : Res α} {P P' : α → Hd → (Nat → Addr) → Hp → Prop} (p : RPost K cA W σ ι h H r P) (k : ∀ a h' ι' H', Step ι h H ι' h' H' → HRep K cA ι' H' h' → P a h' ι' H' → P' a h' ι' H') : RPost K cA W σ ι h H r P' := by
  cases r with
  | ok a h' => exact fun ι' H' S R => k a h' ι' H' S R (p ι' H' S R)
  | exc c fs h' => exact p
  | stuck => exact p
theorem RPost.step {r : Res α} {P : α → Hd → (Nat → Addr) → Hp → Prop} (S : Step ι h H ι' h' H') (p : RPost K cA W σ ι h H r P) : RPost K cA W σ ι' h' H' r P := by
  cases r with
  | ok a h2 => exact fun ι2 H2 T R => p ι2 H2 (S.trans T) R
  | exc c fs h2 => exact fun ι2 H2 cls od T R x => p ι2 H2 cls od (S.trans T) R x
  | stuck => exact p
theorem RPost.bind {r : Res α} {f : α → Hd → Res β} {P : β → Hd → (Nat → Addr) → Hp → Prop} (p : RPost K cA W σ ι h H (r.bind f) P) : RPost K cA W σ ι h H r fun a h' ι' H' => RPost K cA W σ ι' h' H' (f a h') P := by
  cases r with
  | ok a h' => exact fun ι' H' S R => RPost.step S p
  | exc c fs h' => exact p
  | stuck => exact p
theorem RPost.ok {a : α} {P : α → Hd → (Nat → Addr) → Hp → Prop} (R : HRep K cA ι H h) (p : RPost K cA W σ ι h H (.ok a h) P) : P a h ι H := p ι H .refl R
theorem VRep.step {env : En} (V : VRep K ι h.length H σ env) (S : Step ι h H ι' h' H') (R : HRep K cA ι H h) : VRep K ι' h'.length H' σ env :=
  ⟨V.len, fun i d e => by
    obtain ⟨v, e1, r⟩ := V.var i d e
    exact ⟨v, e1, r.keep (S.tkeep R) S.len S.eq⟩⟩
theorem Rep.step {v : V} {d : D} (r : Rep K ι h.length H v d) (S : Step ι h H ι' h' H') (R : HRep K cA ι H h) : Rep K ι' h'.length H' v d := r.keep (S.tkeep R) S.len S.eq
theorem Reps.step {v : List V} {d : List D} (r : Reps K ι h.length H v d) (S : Step ι h H ι' h' H') (R : HRep K cA ι H h) : Reps K ι' h'.length H' v d := r.keep (S.tkeep R) S.len S.eq
end

/-- a reading of an expression; of a test; of an argument list; of a statement -/
abbrev SE := En → Hd → Res D
abbrev SB := En → Hd → Res Bool
abbrev SA := En → Hd → Res (List D)
inductive Fl where
  | nx (env : En) | ret (d : D) | brk (env : En) | ct (env : En) | exc (c : String) (fs : List (String × D)) (env : En)
inductive Rs where
  | ok (fl : Fl) (h : Hd)
  | stuck
abbrev SS := En → Hd → Rs
def Res.lift {α : Type} (r : Res α) (env : En) (k : α → Hd → Rs) : Rs := match r with
  | .ok a h => k a h
  | .exc c fs h => .ok (.exc c fs env) h
  | .stuck => .stuck
@[simp] theorem Res.lift_ok {α : Type} (a : α) (h : Hd) (env : En) (k : α → Hd → Rs) : (Res.ok a h).lift env k = k a h := id rfl
@[simp] theorem Res.lift_exc {α : Type} (c fs) (h : Hd) (env : En) (k : α → Hd → Rs) : (Res.exc c fs h : Res α).lift env k = .ok (.exc c fs env) h := id rfl
@[simp] theorem Res.lift_stuck {α : Type} (env : En) (k : α → Hd → Rs) : (Res.stuck : Res α).lift env k = .stuck := id rfl
/-- what a def's body runs in -/
structure Kx where
  X : Cx
  cA : CA
  W : WX
section
variable (Z : Kx)
def tD (f : SE) : TE := fun σ H Q => ∃ ι env h, HRep Z.X.K Z.cA ι H h ∧ VRep Z.X.K ι h.length H σ env ∧
  RPost Z.X.K Z.cA Z.W σ ι h H (f env h) fun d h' ι' H' => ∀ v, Rep Z.X.K ι' h'.length H' v d → Q v H'
def tDB (f : SB) : TT := fun σ H Q => ∃ ι env h, HRep Z.X.K Z.cA ι H h ∧ VRep Z.X.K ι h.length H σ env ∧
  RPost Z.X.K Z.cA Z.W σ ι h H (f env h) fun b h' ι' H' => Q b H'
def tDA (f : SA) : TA := fun σ H Q => ∃ ι env h, HRep Z.X.K Z.cA ι H h ∧ VRep Z.X.K ι h.length H σ env ∧
  RPost Z.X.K Z.cA Z.W σ ι h H (f env h) fun ds h' ι' H' => ∀ vs, Reps Z.X.K ι' h'.length H' vs ds → Q vs H'
def FlP (D : Ends) (fl : Fl) (h' : Hd) (ι' : Nat → Addr) (H' : Hp) : Prop := match fl with
  | .nx env => ∀ σ', VRep Z.X.K ι' h'.length H' σ' env → D.nx σ' H'
  | .brk env => ∀ σ', VRep Z.X.K ι' h'.length H' σ' env → D.bk σ' H'
  | .ct env => ∀ σ', VRep Z.X.K ι' h'.length H' σ' env → D.ct σ' H'
  | .ret d => ∀ v, Rep Z.X.K ι' h'.length H' v d → D.rt v H'
  | .exc c fs env => ∀ σ' cls od, VRep Z.X.K ι' h'.length H' σ' env → XRep Z.X.K Z.cA ι' h'.length H' c fs cls od → Z.W cls od σ' H'
def RsPost (D : Ends) (ι : Nat → Addr) (h : Hd) (H : Hp) (r : Rs) : Prop := match r with
  | .ok fl h' => ∀ ι' H', Step ι h H ι' h' H' → HRep Z.X.K Z.cA ι' H' h' → FlP Z D fl h' ι' H'
  | .stuck => False
def tDS (f : SS) : TS := fun D σ H => ∃ ι env h, HRep Z.X.K Z.cA ι H h ∧ VRep Z.X.K ι h.length H σ env ∧ RsPost Z D ι h H (f env h)
structure KE (e : Expr) (f : SE) : Prop where
  pe : PE Z.X e (tD Z f)
structure KB (e : Expr) (f : SB) : Prop where
  pt : PT Z.X e (tDB Z f)
structure KWB (e : Expr) (f : SB) : Prop where
  pw : PW Z.X e (tDB Z f)
structure KA (es : List Expr) (f : SA) : Prop where
  pa : PA Z.X es (tDA Z f)
structure KS (st : Stmt) (f : SS) : Prop where
  ps : PS Z.X st (tDS Z f)
structure KSs (st : List Stmt) (f : SS) : Prop where
  pss : PSs Z.X st (tDS Z f)
end
theorem _root_.L2.PE.weak {X : Cx} {e : Expr} {t t' : TE} (p : PE X e t) (k : ∀ σ H Q, t' σ H Q → t σ H Q) : PE X e t' := ⟨fun pins s σ H Q I q => p.run pins s σ H Q I (k σ H Q q)⟩
theorem _root_.L2.PT.weak {X : Cx} {e : Expr} {t t' : TT} (p : PT X e t) (k : ∀ σ H Q, t' σ H Q → t σ H Q) : PT X e t' := ⟨fun pins s σ H Q I q => p.run pins s σ H Q I (k σ H Q q)⟩
theorem _root_.L2.PW.weak {X : Cx} {e : Expr} {t t' : TT} (p : PW X e t) (k : ∀ σ H Q, t' σ H Q → t σ H Q) : PW X e t' := ⟨fun wh pins s σ H Q I q => p.run wh pins s σ H Q I (k σ H Q q)⟩
theorem _root_.L2.PA.weak {X : Cx} {e : List Expr} {t t' : TA} (p : PA X e t) (k : ∀ σ H Q, t' σ H Q → t σ H Q) : PA X e t' := ⟨fun pos pins s σ H Q I q => p.run pos pins s σ H Q I (k σ H Q q)⟩
theorem _root_.L2.PS.weak {X : Cx} {e : Stmt} {t t' : TS} (p : PS X e t) (k : ∀ D σ H, t' D σ H → t D σ H) : PS X e t' := ⟨fun pins s σ H D I q => p.run pins s σ H D I (k D σ H q)⟩
theorem _root_.L2.PSs.weak {X : Cx} {e : List Stmt} {t t' : TS} (p : PSs X e t) (k : ∀ D σ H, t' D σ H → t D σ H) : PSs X e t' := ⟨fun pins s σ H D I q => p.run pins s σ H D I (k D σ H q)⟩

section
variable {Z : Kx} {D : Ends} {σ : St} {ι ι' : Nat → Addr} {H H' : Hp} {h h' : Hd}
theorem RsPost.step {r : Rs} (S : Step ι h H ι' h' H') (p : RsPost Z D ι h H r) : RsPost Z D ι' h' H' r := by
  cases r with
  | ok fl h2 => exact fun ι2 H2 T R => p ι2 H2 (S.trans T) R
  | stuck => exact p
theorem RsPost.of {α : Type} {r : Res α} {env : En} {k : α → Hd → Rs} (R : HRep Z.X.K Z.cA ι H h) (V : VRep Z.X.K ι h.length H σ env) (p : RsPost Z D ι h H (r.lift env k)) : RPost Z.X.K Z.cA Z.W σ ι h H r fun a h1 ι1 H1 => RsPost Z D ι1 h1 H1 (k a h1) := by
  cases r with
  | ok a h1 => exact fun ι' H' S R' => p.step S
  | exc c fs h1 => exact fun ι' H' cls od S R' x => p ι' H' S R' σ cls od (V.step S R) x
  | stuck => exact p
theorem RsPost.fin {fl : Fl} (R : HRep Z.X.K Z.cA ι H h) (p : RsPost Z D ι h H (.ok fl h)) : FlP Z D fl h ι H := p ι H .refl R
end
section
variable {Z : Kx}
/-! ### names, constants -/
def sVar (i : Nat) : SE := fun env h => match env[i]? with | some (some d) => .ok d h | _ => .stuck
def sC (d : D) : SE := fun _ h => .ok d h
theorem ke_var {i : Nat} {x : Str} {pos : Pos} (hN : Z.X.N[i]? = some x) (hv : Vis Z.X.env.scope x) (hd : (x == ("__debug__" : Str)) = false := by decide) (hcd : (x == ("__classdict__" : Str)) = false := by decide) : KE Z (.Name x pos) (sVar i) :=
  ⟨(pe_var hN hv hd hcd).weak fun σ H Q ⟨ι, env, h, R, V, p⟩ => by
    unfold sVar at p
    cases e : env[i]? with
    | none => rw [e] at p; exact p.elim
    | some o =>
      cases o with
      | none => rw [e] at p; exact p.elim
      | some d =>
        rw [e] at p
        obtain ⟨v, e1, r⟩ := V.var i d e
        exact ⟨v, e1, RPost.ok R p v r⟩⟩
theorem ke_c {e : Expr} {v : V} {d : D} (p : PE Z.X e (tC v)) (r : ∀ ι n H, Rep Z.X.K ι n H v d) : KE Z e (sC d) :=
  ⟨p.weak fun σ H Q ⟨ι, env, h, R, V, p⟩ => RPost.ok R p v (r ι _ H)⟩
theorem ke_int {i j pos} : KE Z (.Constant (.int i) j pos) (sC (.int i)) := ke_c pe_int fun _ _ _ => .int
theorem ke_bl {b j pos} : KE Z (.Constant (.bool b) j pos) (sC (.bl b)) := ke_c pe_bl fun _ _ _ => .bl
theorem ke_non {j pos} : KE Z (.Constant .none j pos) (sC .non) := ke_c pe_non fun _ _ _ => .non
theorem ke_str {s : String} {j pos} : KE Z (.Constant (.str (Str.ofString s)) j pos) (sC (.str s)) := ke_c pe_str fun _ _ _ => .str

/-! ### argument lists -/
def sNil : SA := fun _ h => .ok [] h
def sCons (f : SE) (g : SA) : SA := fun env h => (f env h).bind fun d h1 => (g env h1).bind fun ds h2 => .ok (d :: ds) h2
theorem ka_nil : KA Z [] sNil := ⟨pa_nil.weak fun σ H Q ⟨ι, env, h, R, V, p⟩ => RPost.ok R p [] .nil⟩
theorem ka_cons {e : Expr} {es : List Expr} {f : SE} {g : SA} (he : KE Z e f) (hs : KA Z es g) (hq : starEach (e :: es) Z.X.env = (false, eval e Z.X.env) :: starEach es Z.X.env := by rfl) : KA Z (e :: es) (sCons f g) :=
  ⟨(pa_cons he.pe hs.pa hq).weak fun σ H Q ⟨ι, env, h, R, V, p⟩ => ⟨ι, env, h, R, V, (RPost.bind p).mono fun d h1 ι1 H1 S1 R1 p1 v r =>
    ⟨ι1, env, h1, R1, V.step S1 R, (RPost.bind p1).mono fun ds h2 ι2 H2 S2 R2 p2 vs rs => RPost.ok R2 p2 (v :: vs) (.cons (r.step S2 R1) rs)⟩⟩⟩

/-! ### operations on values -/
abbrev F2 := D → D → Hd → Res D
/-- a two-place operation of the hand layer does what F says -/
def OpK (Z : Kx) (f : Value → Value → Sem Value) (F : F2) : Prop := ∃ r : R2, OpR Z.X f r ∧ ∀ (σ : St) (ι : Nat → Addr) (h : Hd) (H : Hp) (x y : V) (dx dy : D) (Q : VK), HRep Z.X.K Z.cA ι H h → Rep Z.X.K ι h.length H x dx → Rep Z.X.K ι h.length H y dy →
  RPost Z.X.K Z.cA Z.W σ ι h H (F dx dy h) (fun d h' ι' H' => ∀ v, Rep Z.X.K ι' h'.length H' v d → Q v H') → r x y H Q
def s2 (F : F2) (f g : SE) : SE := fun env h => (f env h).bind fun x h1 => (g env h1).bind fun y h2 => F x y h2
theorem t2_of {F : F2} {f g : SE} {r : R2} (hr : ∀ (σ : St) (ι : Nat → Addr) (h : Hd) (H : Hp) (x y : V) (dx dy : D) (Q : VK), HRep Z.X.K Z.cA ι H h → Rep Z.X.K ι h.length H x dx → Rep Z.X.K ι h.length H y dy →
  RPost Z.X.K Z.cA Z.W σ ι h H (F dx dy h) (fun d h' ι' H' => ∀ v, Rep Z.X.K ι' h'.length H' v d → Q v H') → r x y H Q) (σ : St) (H : Hp) (Q : VK) (q : tD Z (s2 F f g) σ H Q) : tOp r (tD Z f) (tD Z g) σ H Q := by
  obtain ⟨ι, env, h, R, V, p⟩ := q
  exact ⟨ι, env, h, R, V, (RPost.bind p).mono fun d h1 ι1 H1 S1 R1 p1 v r =>
    ⟨ι1, env, h1, R1, V.step S1 R, (RPost.bind p1).mono fun e h2 ι2 H2 S2 R2 p2 w rw => hr σ ι2 h2 H2 v w d e Q R2 (r.step S2 R1) rw p2⟩⟩
theorem ke_op {op : Operator} {F : F2} {a b : Expr} {f g : SE} {pos : Pos} (ho : OpK Z (binaryOp op) F) (ha : KE Z a f) (hb : KE Z b g) : KE Z (.BinOp a op b pos) (s2 F f g) := by
  obtain ⟨r, hr, k⟩ := ho
  exact ⟨(pe_op hr ha.pe hb.pe).weak (t2_of k)⟩
theorem ke_cmp {op : CmpOp} {F : F2} {a b : Expr} {f g : SE} {pos : Pos} (ho : OpK Z (compareOp op) F) (ha : KE Z a f) (hb : KE Z b g) (hm : behindInMarks op b = false := by first | exact nomark _ | rfl) : KE Z (.Compare a [op] [b] pos) (s2 F f g) := by
  obtain ⟨r, hr, k⟩ := ho
  exact ⟨(pe_cmpR hr ha.pe hb.pe hm).weak (t2_of k)⟩
/-- several rules for one operation, by what the values are -/
theorem OpK.alt {f : Value → Value → Sem Value} {F G M : F2} (a : OpK Z f F) (b : OpK Z f G) (hm : ∀ x y h, M x y h = F x y h ∨ M x y h = G x y h) : OpK Z f M := by
  obtain ⟨r, hr, kr⟩ := a
  obtain ⟨q, hq, kq⟩ := b
  refine ⟨fun x y H Q => r x y H Q ∨ q x y H Q, fun pins s σ H x y v u Q I rx ry z => z.elim (hr pins s σ H x y v u Q I rx ry) (hq pins s σ H x y v u Q I rx ry), fun σ ι h H x y dx dy Q R rx ry p => ?_⟩
  rcases hm dx dy h with e | e
  · rw [e] at p; exact .inl (kr σ ι h H x y dx dy Q R rx ry p)
  · rw [e] at p; exact .inr (kq σ ι h H x y dx dy Q R rx ry p)
/-- an operation on two ints -/
def f2I (C : Int → Int → Bool) (g : Int → Int → D) : F2 := fun x y h => match x, y with
  | .int i, .int j => if C i j then .ok (g i j) h else .stuck
  | _, _ => .stuck
theorem OpK.ints {f : Value → Value → Sem Value} {C : Int → Int → Prop} {g : Int → Int → V} {C' : Int → Int → Bool} {g' : Int → Int → D} (o : OpR Z.X f (rI C g)) (hC : ∀ i j, C' i j = true → C i j) (hg : ∀ i j ι n H, Rep Z.X.K ι n H (g i j) (g' i j)) : OpK Z f (f2I C' g') :=
  ⟨_, o, fun σ ι h H x y dx dy Q R rx ry p => by
    cases rx <;> cases ry <;> first | exact p.elim | skip
    rename_i i j
    unfold f2I at p
    by_cases c : C' i j = true
    · simp only [c, if_true] at p
      exact ⟨i, j, rfl, rfl, hC i j c, RPost.ok R p _ (hg i j _ _ _)⟩
    · simp only [c] at p
      exact p.elim⟩
theorem rI_of0 {f : Value → Value → Sem Value} {g : Int → Int → V} (o : OpR Z.X f (rI0 g)) : OpR Z.X f (rI (fun _ _ => True) g) := fun pins s σ H x y v u Q I rx ry ⟨i, j, e1, e2, _, q⟩ => o pins s σ H x y v u Q I rx ry ⟨i, j, e1, e2, q⟩
abbrev yes2 : Int → Int → Bool := fun _ _ => true
theorem ko_add : OpK Z (binaryOp .Add) (f2I yes2 fun i j => .int (i + j)) := .ints (rI_of0 op_add) (fun _ _ _ => trivial) fun _ _ _ _ _ => .int
theorem ko_sub : OpK Z (binaryOp .Sub) (f2I yes2 fun i j => .int (i - j)) := .ints (rI_of0 op_sub) (fun _ _ _ => trivial) fun _ _ _ _ _ => .int
theorem ko_lt : OpK Z (compareOp .Lt) (f2I yes2 fun i j => .bl (decide (i < j))) := .ints (rI_of0 op_lt) (fun _ _ _ => trivial) fun _ _ _ _ _ => .bl
theorem ko_le : OpK Z (compareOp .LtE) (f2I yes2 fun i j => .bl (decide (i ≤ j))) := .ints (rI_of0 op_le) (fun _ _ _ => trivial) fun _ _ _ _ _ => .bl
theorem ko_gt : OpK Z (compareOp .Gt) (f2I yes2 fun i j => .bl (decide (j < i))) := .ints (rI_of0 op_gt) (fun _ _ _ => trivial) fun _ _ _ _ _ => .bl
theorem ko_ge : OpK Z (compareOp .GtE) (f2I yes2 fun i j => .bl (decide (j ≤ i))) := .ints (rI_of0 op_ge) (fun _ _ _ => trivial) fun _ _ _ _ _ => .bl
theorem ko_mod : OpK Z (binaryOp .Mod) (f2I (fun _ j => decide (0 < j)) fun i j => .int (i % j)) := .ints op_mod (fun _ _ c => of_decide_eq_true c) fun _ _ _ _ _ => .int
end
end Kf
end
section
set_option maxHeartbeats 4000000
/-! Kf: statements, tests, displays, loops. -/
namespace Kf
open PySem PySem.Spec L2
section
variable {K : PySem.W.Frag} {cA : CA} {ι : Nat → Addr} {n : Nat} {H : Hp} {h : Hd}
theorem HRep.off (R : HRep K cA ι H h) {p : Addr} (hp : H p = none) {m : Nat} (hm : m < h.length) : ι m ≠ p := fun z => by
  obtain ⟨o, ho, _, e, _⟩ := R.lt_obj hm
  rw [z, hp] at e; cases e
/-- something new that the heap does not speak of -/
theorem Step.aside (R : HRep K cA ι H h) {p : Addr} (hp : H p = none) (o : HO) : Step ι h H ι h (upd H p o) where
  eq := fun _ _ => rfl
  len := Nat.le_refl _
  keep := fun a u e _ => by rw [upd_ne (ne_of_none e hp)]; exact e
  fresh := fun m a b => absurd (Nat.lt_of_lt_of_le b a) (Nat.lt_irrefl _)
  there := fun a u e => ⟨u, by rw [upd_ne (ne_of_none e hp)]; exact e⟩
  frz := fun a u w e => by rw [upd_ne (ne_of_none e hp)]; exact e
/-- a later H under the same heap -/
theorem HRep.same {ι' : Nat → Addr} {H' : Hp} (R : HRep K cA ι H h) (S : Step ι h H ι' h H') (k : ∀ m, m < h.length → H' (ι m) = H (ι m)) : HRep K cA ι' H' h where
  obj := fun m o e => by
    have hm : m < h.length := by
      cases Nat.lt_or_ge m h.length with
      | inl q => exact q
      | inr q => rw [List.getElem?_eq_none q] at e; cases e
    obtain ⟨ho, e2, r⟩ := R.obj m o e
    refine ⟨ho, ?_, r.keep (S.tkeep R) (Nat.le_refl _) S.eq⟩
    rw [S.eq m hm, k m hm]; exact e2
  inj := fun m k' hm hk e => R.inj m k' hm hk (by rw [← S.eq m hm, ← S.eq k' hk]; exact e)
theorem HRep.aside (R : HRep K cA ι H h) {p : Addr} (hp : H p = none) (o : HO) : HRep K cA ι (upd H p o) h := R.same (Step.aside R hp o) fun m hm => upd_ne (R.off hp hm)
/-- ι with one more address -/
def more (ι : Nat → Addr) (n : Nat) (p : Addr) : Nat → Addr := fun m => if m = n then p else ι m
theorem more_lt {ι : Nat → Addr} {n m : Nat} {p : Addr} (hm : m < n) : more ι n p m = ι m := if_neg (Nat.ne_of_lt hm)
theorem more_at {ι : Nat → Addr} {n : Nat} {p : Addr} : more ι n p n = p := if_pos rfl
theorem Step.alloc (R : HRep K cA ι H h) {p : Addr} (hp : H p = none) (ho : HO) (o : O) : Step ι h H (more ι h.length p) (h ++ [o]) (upd H p ho) where
  eq := fun m hm => more_lt hm
  len := by simp
  keep := fun a u e _ => by rw [upd_ne (ne_of_none e hp)]; exact e
  fresh := fun m a b => by
    have : m = h.length := by simp at b; omega
    subst this
    rw [more_at]; exact hp
  there := fun a u e => ⟨u, by rw [upd_ne (ne_of_none e hp)]; exact e⟩
  frz := fun a u w e => by rw [upd_ne (ne_of_none e hp)]; exact e
theorem lt_of_get {α : Type} {l : List α} {m : Nat} {o : α} (e : l[m]? = some o) : m < l.length := by
  cases Nat.lt_or_ge m l.length with
  | inl q => exact q
  | inr q => rw [List.getElem?_eq_none q] at e; cases e
theorem HRep.alloc (R : HRep K cA ι H h) {p : Addr} (hp : H p = none) {ho : HO} {o : O} (r : ORep K cA ι h.length H ho o) : HRep K cA (more ι h.length p) (upd H p ho) (h ++ [o]) := by
  have S := Step.alloc R hp ho o
  refine ⟨fun m o' e => ?_, fun m k hm hk e => ?_⟩
  · have hm := lt_of_get e
    by_cases hlt : m < h.length
    · rw [List.getElem?_append_left hlt] at e
      obtain ⟨ho', e2, r'⟩ := R.obj m o' e
      refine ⟨ho', ?_, r'.keep (S.tkeep R) (by simp) S.eq⟩
      rw [more_lt hlt, upd_ne (R.off hp hlt)]; exact e2
    · have hm' : m = h.length := by simp at hm; omega
      subst hm'
      rw [List.getElem?_append_right (Nat.le_refl _), Nat.sub_self] at e
      cases e
      refine ⟨ho, ?_, r.keep (S.tkeep R) (by simp) S.eq⟩
      rw [more_at, upd_same]
  · have hm1 : m ≤ h.length := by simp at hm; omega
    have hk1 : k ≤ h.length := by simp at hk; omega
    rcases Nat.lt_or_eq_of_le hm1 with a | a <;> rcases Nat.lt_or_eq_of_le hk1 with b | b
    · rw [more_lt a, more_lt b] at e; exact R.inj m k a b e
    · subst b; rw [more_lt a, more_at] at e; exact absurd e (R.off hp a)
    · subst a; rw [more_lt b, more_at] at e; exact absurd e.symm (R.off hp b)
    · rw [a, b]
theorem Step.set (R : HRep K cA ι H h) {m : Nat} (hm : m < h.length) (hf : ∀ x u, H (ι m) ≠ some (.frz x u)) (ho : HO) (o : O) : Step ι h H ι (h.set m o) (upd H (ι m) ho) where
  eq := fun _ _ => rfl
  len := by simp
  keep := fun a u e k => by rw [upd_ne (k m hm)]; exact e
  fresh := fun k a b => by simp at b; exact absurd (Nat.lt_of_lt_of_le b a) (Nat.lt_irrefl _)
  there := fun a u e => by
    by_cases q : a = ι m
    · subst q; exact ⟨ho, upd_same⟩
    · exact ⟨u, by rw [upd_ne q]; exact e⟩
  frz := fun a x u e => by
    by_cases q : a = ι m
    · subst q; exact absurd e (hf x u)
    · rw [upd_ne q]; exact e
theorem HRep.set (R : HRep K cA ι H h) {m : Nat} (hm : m < h.length) (hf : ∀ x u, H (ι m) ≠ some (.frz x u)) {ho : HO} {o : O} (r : ORep K cA ι h.length H ho o) : HRep K cA ι (upd H (ι m) ho) (h.set m o) := by
  have S := Step.set R hm hf ho o
  refine ⟨fun k o' e => ?_, fun a b ha hb e => R.inj a b (by simpa using ha) (by simpa using hb) e⟩
  have hk := lt_of_get e
  by_cases q : k = m
  · subst q
    rw [List.getElem?_set_self hm] at e
    cases e
    exact ⟨ho, upd_same, r.keep (S.tkeep R) (by simp) S.eq⟩
  · rw [List.getElem?_set_ne (Ne.symm q)] at e
    obtain ⟨ho', e2, r'⟩ := R.obj k o' e
    have hk' : k < h.length := by simpa using hk
    exact ⟨ho', by rw [upd_ne fun z => q (R.inj k m hk' hm z)]; exact e2, r'.keep (S.tkeep R) (by simp) S.eq⟩
theorem VRep.set {σ : St} {env : En} {i : Nat} {v : V} {d : D} (V : VRep K ι n H σ env) (r : Rep K ι n H v d) : VRep K ι n H (σ.set i (some v)) (env.set i (some d)) := by
  refine ⟨by simp [V.len], fun j e he => ?_⟩
  by_cases q : j = i
  · subst q
    have hj : j < env.length := by have := lt_of_get he; simpa using this
    rw [List.getElem?_set_self hj] at he
    cases he
    exact ⟨v, by rw [List.getElem?_set_self (by rw [V.len]; exact hj)], r⟩
  · rw [List.getElem?_set_ne (Ne.symm q)] at he ⊢
    exact V.var j e he
theorem Reps.len {vs : List V} {ds : List D} (r : Reps K ι n H vs ds) : vs.length = ds.length := by
  induction ds generalizing vs with
  | nil => cases r; rfl
  | cons d ds ih => cases r with | cons _ q => simp [ih q]
theorem Reps.get : ∀ {vs : List V} {ds : List D} {i : Nat} {d : D}, Reps K ι n H vs ds → ds[i]? = some d → ∃ v, vs[i]? = some v ∧ Rep K ι n H v d
  | _, _, 0, _, .cons r _, e => by simp at e; subst e; exact ⟨_, by simp, r⟩
  | _, _, i + 1, _, .cons _ q, e => by
    obtain ⟨v, e1, r⟩ := Reps.get (i := i) q (by simpa using e)
    exact ⟨v, by simpa using e1, r⟩
  | _, _, 0, _, .nil, e => by simp at e
  | _, _, _ + 1, _, .nil, e => by simp at e
theorem Reps.get' : ∀ {vs : List V} {ds : List D} {i : Nat} {v : V}, Reps K ι n H vs ds → vs[i]? = some v → ∃ d, ds[i]? = some d ∧ Rep K ι n H v d
  | _, _, 0, _, .cons r _, e => by simp at e; subst e; exact ⟨_, by simp, r⟩
  | _, _, i + 1, _, .cons _ q, e => by
    obtain ⟨v, e1, r⟩ := Reps.get' (i := i) q (by simpa using e)
    exact ⟨v, by simpa using e1, r⟩
  | _, _, 0, _, .nil, e => by simp at e
  | _, _, _ + 1, _, .nil, e => by simp at e
theorem Reps.append : ∀ {vs ws : List V} {ds es : List D}, Reps K ι n H vs ds → Reps K ι n H ws es → Reps K ι n H (vs ++ ws) (ds ++ es)
  | _, _, _, _, .nil, q => q
  | _, _, _, _, .cons r p, q => .cons r (Reps.append p q)
end

section
variable {Z : Kx}
/-! ### displays -/
abbrev LIM : Nat := 16777216
theorem lim_le {n : Nat} (h : n ≤ LIM) : n ≤ sizeLine := by rw [sizeLine_eq]; exact h
def sTup (f : SA) : SE := fun env h => (f env h).bind fun ds h1 => if ds.length ≤ LIM then .ok (.tup ds) h1 else .stuck
theorem ke_tup {es : List Expr} {f : SA} {k : Nat} {pos : Pos} (ha : KA Z es f) : KE Z (.Tuple es k pos) (sTup f) :=
  ⟨(pe_tup ha.pa).weak fun σ H Q ⟨ι, env, h, R, V, p⟩ => ⟨ι, env, h, R, V, (RPost.bind p).mono fun ds h1 ι1 H1 S1 R1 p1 vs rs => by
    by_cases c : ds.length ≤ LIM
    · rw [if_pos c] at p1
      refine ⟨lim_le (by rw [rs.len]; exact c), fun a ha => ?_⟩
      have S2 := Step.aside R1 ha (.tup vs)
      exact p1 ι1 _ S2 (R1.aside ha _) _ (.tup (.of upd_same) (rs.step S2 R1))
    · rw [if_neg c] at p1; exact p1.elim⟩⟩
/-- a new list, not yet one of ours -/
structure KL (Z : Kx) (e : Expr) (f : SA) : Prop where
  pe : PE Z.X e fun σ H Q => ∃ ι env h, HRep Z.X.K Z.cA ι H h ∧ VRep Z.X.K ι h.length H σ env ∧
    RPost Z.X.K Z.cA Z.W σ ι h H (f env h) fun ds h' ι' H' => ∀ p vs, H p = none → H' p = some (.lst vs) → (∀ m, m < h'.length → p ≠ ι' m) → Reps Z.X.K ι' h'.length H' vs ds → Q (.ref p) H'
def sLst (f : SA) : SA := fun env h => (f env h).bind fun ds h1 => if ds.length ≤ LIM then .ok ds h1 else .stuck
theorem kl_lst {es : List Expr} {f : SA} {pos : Pos} (ha : KA Z es f) : KL Z (.List es pos) (sLst f) :=
  ⟨(pe_lst ha.pa).weak fun σ H Q ⟨ι, env, h, R, V, p⟩ => ⟨ι, env, h, R, V, (RPost.bind p).mono fun ds h1 ι1 H1 S1 R1 p1 vs rs => by
    by_cases c : ds.length ≤ LIM
    · rw [if_pos c] at p1
      refine ⟨lim_le (by rw [rs.len]; exact c), fun a ha => ?_⟩
      have S2 := Step.aside R1 ha (.lst vs)
      have hH : H a = none := by
        cases e : H a with
        | none => rfl
        | some o => obtain ⟨o', e'⟩ := S1.there a o e; rw [ha] at e'; cases e'
      exact p1 ι1 _ S2 (R1.aside ha _) a vs hH upd_same (fun m hm z => R1.off ha hm z.symm) (rs.step S2 R1)
    · rw [if_neg c] at p1; exact p1.elim⟩⟩
def sNew (f : SA) : SE := fun env h => (f env h).bind fun ds h1 => .ok (.ref h1.length) (h1 ++ [.lst ds])
/-- what was aside is ours from now on -/
theorem Step.take {ι ι' : Nat → Addr} {H H' : Hp} {h h' : Hd} (S : Step ι h H ι' h' H') {p : Addr} (hp : H p = none) (o : O) : Step ι h H (more ι' h'.length p) (h' ++ [o]) H' where
  eq := fun m hm => by rw [more_lt (Nat.lt_of_lt_of_le hm S.len)]; exact S.eq m hm
  len := by have := S.len; simp; omega
  keep := S.keep
  fresh := fun m a b => by
    by_cases q : m < h'.length
    · rw [more_lt q]; exact S.fresh m a q
    · have : m = h'.length := by simp at b; omega
      subst this
      rw [more_at]; exact hp
  there := S.there
  frz := S.frz
theorem HRep.take {K : PySem.W.Frag} {cA : CA} {ι : Nat → Addr} {H : Hp} {h : Hd} (R : HRep K cA ι H h) {p : Addr} {ho : HO} {o : O} (e : H p = some ho) (hn : ∀ m, m < h.length → p ≠ ι m) (r : ORep K cA ι h.length H ho o) : HRep K cA (more ι h.length p) H (h ++ [o]) := by
  have t : TKeep K H H := ⟨fun _ _ q => q, fun _ _ q => q, fun _ _ q => q⟩
  refine ⟨fun m o' e' => ?_, fun m k hm hk e' => ?_⟩
  · have hm := lt_of_get e'
    by_cases hlt : m < h.length
    · rw [List.getElem?_append_left hlt] at e'
      obtain ⟨ho', e2, r'⟩ := R.obj m o' e'
      exact ⟨ho', by rw [more_lt hlt]; exact e2, r'.keep t (by simp) fun m hm => more_lt hm⟩
    · have hm' : m = h.length := by simp at hm; omega
      subst hm'
      rw [List.getElem?_append_right (Nat.le_refl _), Nat.sub_self] at e'
      cases e'
      exact ⟨ho, by rw [more_at]; exact e, r.keep t (by simp) fun m hm => more_lt hm⟩
  · have hm1 : m ≤ h.length := by simp at hm; omega
    have hk1 : k ≤ h.length := by simp at hk; omega
    rcases Nat.lt_or_eq_of_le hm1 with a | a <;> rcases Nat.lt_or_eq_of_le hk1 with b | b
    · rw [more_lt a, more_lt b] at e'; exact R.inj m k a b e'
    · subst b; rw [more_lt a, more_at] at e'; exact absurd e'.symm (hn m a)
    · subst a; rw [more_lt b, more_at] at e'; exact absurd e' (hn k b)
    · rw [a, b]
theorem RPost.bind0 {K : PySem.W.Frag} {cA : CA} {W : WX} {σ : St} {ι : Nat → Addr} {H : Hp} {h : Hd} {α β : Type} {r : Res α} {f : α → Hd → Res β} {P : β → Hd → (Nat → Addr) → Hp → Prop} (p : RPost K cA W σ ι h H (r.bind f) P) :
    RPost K cA W σ ι h H r fun a h' _ _ => RPost K cA W σ ι h H (f a h') P := by
  cases r with
  | ok a h' => exact fun ι' H' S R => p
  | exc c fs h' => exact p
  | stuck => exact p
theorem ke_new {e : Expr} {f : SA} (hl : KL Z e f) : KE Z e (sNew f) :=
  ⟨hl.pe.weak fun σ H Q ⟨ι, env, h, R, V, p⟩ => ⟨ι, env, h, R, V, (RPost.bind0 p).mono fun ds h1 ι1 H1 S1 R1 p1 a vs hH ea hn rs =>
    p1 _ H1 (S1.take hH _) (R1.take ea hn (.lst rs)) _ (by
      have e : Rep Z.X.K (more ι1 h1.length a) (h1 ++ [O.lst ds]).length H1 (.ref (more ι1 h1.length a h1.length)) (.ref h1.length) := .ref (by simp)
      rw [more_at] at e; exact e)⟩⟩

/-! ### tests -/
def sTest (f : SE) : SB := fun env h => (f env h).bind fun d h1 => match d with | .bl b => .ok b h1 | _ => .stuck
theorem kb_val {e : Expr} {f : SE} (p : KE Z e f) (he : ∀ whole, isTrue e Z.X.env whole = (do let v ← whole; standAt e.pos; holding [v] (truthy v)) := by intro _; rfl) : KB Z e (sTest f) :=
  ⟨(pt_val p.pe he).weak fun σ H Q ⟨ι, env, h, R, V, p⟩ => ⟨ι, env, h, R, V, (RPost.bind p).mono fun d h1 ι1 H1 S1 R1 p1 v r => by
    cases r with
    | bl => exact ⟨_, rfl, RPost.ok R1 p1⟩
    | non => exact p1.elim
    | int => exact p1.elim
    | str => exact p1.elim
    | raw => exact p1.elim
    | fls _ _ => exact p1.elim
    | tup _ _ => exact p1.elim
    | xc0 => exact p1.elim
    | xc _ _ => exact p1.elim
    | ref _ => exact p1.elim⟩⟩
def sAnd (f g : SB) : SB := fun env h => (f env h).bind fun b h1 => if b = true then g env h1 else .ok false h1
def sOr (f g : SB) : SB := fun env h => (f env h).bind fun b h1 => if b = true then .ok true h1 else g env h1
def sNot (f : SB) : SB := fun env h => (f env h).bind fun b h1 => .ok (!b) h1
section
variable {a b c : Expr} {rest : List Expr} {f g k : SB} {pos : Pos}
theorem kw_and1 (ha : KB Z a f) : KWB Z (.BoolOp .And [a] pos) f := ⟨pw_and1 ha.pt⟩
theorem kw_or1 (ha : KB Z a f) : KWB Z (.BoolOp .Or [a] pos) f := ⟨pw_or1 ha.pt⟩
theorem kw_and (ha : KB Z a f) (hb : KWB Z (.BoolOp .And (b :: rest) pos) g) : KWB Z (.BoolOp .And (a :: b :: rest) pos) (sAnd f g) :=
  ⟨(pw_and ha.pt hb.pw).weak fun σ H Q ⟨ι, env, h, R, V, p⟩ => ⟨ι, env, h, R, V, (RPost.bind p).mono fun d h1 ι1 H1 S1 R1 p1 => by
    cases d with
    | true => rw [if_pos rfl] at p1 ⊢; exact ⟨ι1, env, h1, R1, V.step S1 R, p1⟩
    | false => rw [if_neg Bool.false_ne_true] at p1 ⊢; exact RPost.ok R1 p1⟩⟩
theorem kw_or (ha : KB Z a f) (hb : KWB Z (.BoolOp .Or (b :: rest) pos) g) : KWB Z (.BoolOp .Or (a :: b :: rest) pos) (sOr f g) :=
  ⟨(pw_or ha.pt hb.pw).weak fun σ H Q ⟨ι, env, h, R, V, p⟩ => ⟨ι, env, h, R, V, (RPost.bind p).mono fun d h1 ι1 H1 S1 R1 p1 => by
    cases d with
    | false => rw [if_neg Bool.false_ne_true] at p1 ⊢; exact ⟨ι1, env, h1, R1, V.step S1 R, p1⟩
    | true => rw [if_pos rfl] at p1 ⊢; exact RPost.ok R1 p1⟩⟩
theorem kb_w (h : KWB Z a f) : KB Z a f := ⟨h.pw.pt⟩
theorem kb_not (ha : KB Z a f) : KB Z (.UnaryOp .Not a pos) (sNot f) :=
  ⟨(pt_not ha.pt).weak fun σ H Q ⟨ι, env, h, R, V, p⟩ => ⟨ι, env, h, R, V, (RPost.bind p).mono fun d h1 ι1 H1 S1 R1 p1 => RPost.ok R1 p1⟩⟩
def sIfE (c : SB) (f g : SE) : SE := fun env h => (c env h).bind fun b h1 => if b = true then f env h1 else g env h1
theorem ke_ife {f g : SE} (hc : KB Z c k) (ha : KE Z a f) (hb : KE Z b g) : KE Z (.IfExp c a b pos) (sIfE k f g) :=
  ⟨(pe_ifExp hc.pt ha.pe hb.pe).weak fun σ H Q ⟨ι, env, h, R, V, p⟩ => ⟨ι, env, h, R, V, (RPost.bind p).mono fun d h1 ι1 H1 S1 R1 p1 => by
    cases d with
    | true => rw [if_pos rfl] at p1 ⊢; exact ⟨ι1, env, h1, R1, V.step S1 R, p1⟩
    | false => rw [if_neg Bool.false_ne_true] at p1 ⊢; exact ⟨ι1, env, h1, R1, V.step S1 R, p1⟩⟩⟩
end

/-! ### statements -/
def sNext : SS := fun env h => .ok (.nx env) h
def sSeq (f g : SS) : SS := fun env h => match f env h with
  | .ok (.nx env1) h1 => g env1 h1
  | r => r
def sRet (f : SE) : SS := fun env h => (f env h).lift env fun d h1 => .ok (.ret d) h1
def sRetN : SS := fun _ h => .ok (.ret .non) h
def sBrk : SS := fun env h => .ok (.brk env) h
def sCt : SS := fun env h => .ok (.ct env) h
def sDrop (f : SE) : SS := fun env h => (f env h).lift env fun _ h1 => .ok (.nx env) h1
def sIf (c : SB) (f g : SS) : SS := fun env h => (c env h).lift env fun b h1 => if b = true then f env h1 else g env h1
section
variable {e c : Expr} {st : Stmt} {as bs rest : List Stmt} {f g : SS} {fe : SE} {k : SB} {pos : Pos}
theorem kss_nil : KSs Z [] sNext := ⟨pss_nil.weak fun D σ H ⟨ι, env, h, R, V, p⟩ => RsPost.fin R p σ V⟩
theorem kss_cons (h1 : KS Z st f) (h2 : KSs Z rest g) : KSs Z (st :: rest) (sSeq f g) :=
  ⟨(pss_cons h1.ps h2.pss).weak fun D σ H ⟨ι, env, h, R, V, p⟩ => by
    refine ⟨ι, env, h, R, V, ?_⟩
    unfold sSeq at p
    cases e : f env h with
    | stuck => rw [e] at p; exact p.elim
    | ok fl h' =>
      rw [e] at p
      cases fl with
      | nx env1 => exact fun ι' H' S R' σ' V' => ⟨ι', env1, h', R', V', p.step S⟩
      | ret d => exact p
      | brk env1 => exact p
      | ct env1 => exact p
      | exc c fs env1 => exact p⟩
theorem kss_one (h1 : KS Z st f) : KSs Z [st] f := ⟨pss_one h1.ps⟩
theorem ks_pass : KS Z (.Pass pos) sNext := ⟨ps_pass.weak fun D σ H ⟨ι, env, h, R, V, p⟩ => RsPost.fin R p σ V⟩
theorem ks_brk : KS Z (.Break pos) sBrk := ⟨ps_break.weak fun D σ H ⟨ι, env, h, R, V, p⟩ => RsPost.fin R p σ V⟩
theorem ks_ct : KS Z (.Continue pos) sCt := ⟨ps_continue.weak fun D σ H ⟨ι, env, h, R, V, p⟩ => RsPost.fin R p σ V⟩
theorem ks_expr (he : KE Z e fe) (hs : swapsWith e none pos.line Z.X.env = pure false := by rfl) : KS Z (.Expr e pos) (sDrop fe) :=
  ⟨(ps_expr he.pe hs).weak fun D σ H ⟨ι, env, h, R, V, p⟩ => ⟨ι, env, h, R, V, (RsPost.of R V p).mono fun d h1 ι1 H1 S1 R1 p1 v r => RsPost.fin R1 p1 σ (V.step S1 R)⟩⟩
theorem ks_ret (he : KE Z e fe) : KS Z (.Return (some e) pos) (sRet fe) :=
  ⟨(ps_ret he.pe).weak fun D σ H ⟨ι, env, h, R, V, p⟩ => ⟨ι, env, h, R, V, (RsPost.of R V p).mono fun d h1 ι1 H1 S1 R1 p1 v r => RsPost.fin R1 p1 v r⟩⟩
theorem ks_retN : KS Z (.Return none pos) sRetN := ⟨ps_retN.weak fun D σ H ⟨ι, env, h, R, V, p⟩ => RsPost.fin R p .non .non⟩
theorem ks_if (hc : KB Z c k) (ha : KSs Z as f) (hb : KSs Z bs g) : KS Z (.If c as bs pos) (sIf k f g) :=
  ⟨(ps_if hc.pt ha.pss hb.pss).weak fun D σ H ⟨ι, env, h, R, V, p⟩ => ⟨ι, env, h, R, V, (RsPost.of R V p).mono fun b h1 ι1 H1 S1 R1 p1 => by
    cases b with
    | true => rw [if_pos rfl] at p1 ⊢; exact ⟨ι1, env, h1, R1, V.step S1 R, p1⟩
    | false => rw [if_neg Bool.false_ne_true] at p1 ⊢; exact ⟨ι1, env, h1, R1, V.step S1 R, p1⟩⟩⟩
end

/-! ### targets -/
abbrev SG := D → En → Hd → Res En
abbrev SGs := List D → En → Hd → Res En
/-- an exception in a target's parts is not spoken of -/
structure KG (Z : Kx) (t : Expr) (g : SG) : Prop where
  pg : PG Z.X t fun v σ H Q => ∃ ι env h d, HRep Z.X.K Z.cA ι H h ∧ VRep Z.X.K ι h.length H σ env ∧ Rep Z.X.K ι h.length H v d ∧
    RPost Z.X.K Z.cA Z.W σ ι h H (g d env h) fun env' h' ι' H' => ∀ σ', VRep Z.X.K ι' h'.length H' σ' env' → Q σ' H'
structure KGs (Z : Kx) (ts : List Expr) (g : SGs) : Prop where
  pgs : PGs Z.X ts fun vs σ H Q => ∃ ι env h ds, HRep Z.X.K Z.cA ι H h ∧ VRep Z.X.K ι h.length H σ env ∧ Reps Z.X.K ι h.length H vs ds ∧
    RPost Z.X.K Z.cA Z.W σ ι h H (g ds env h) fun env' h' ι' H' => ∀ σ', VRep Z.X.K ι' h'.length H' σ' env' → Q σ' H'
theorem _root_.L2.PG.weak {X : Cx} {e : Expr} {t t' : TG} (p : PG X e t) (k : ∀ v σ H Q, t' v σ H Q → t v σ H Q) : PG X e t' := ⟨fun pins s σ H v u Q I r q => p.run pins s σ H v u Q I r (k v σ H Q q)⟩
theorem _root_.L2.PGs.weak {X : Cx} {e : List Expr} {t t' : TGs} (p : PGs X e t) (k : ∀ v σ H Q, t' v σ H Q → t v σ H Q) : PGs X e t' := ⟨fun pins s σ H v u Q I r q => p.run pins s σ H v u Q I r (k v σ H Q q)⟩
def gN (i : Nat) : SG := fun d env h => .ok (env.set i (some d)) h
theorem kg_name {i : Nat} {x : Str} {pos : Pos} (hN : Z.X.N.Nodup) (hi : Z.X.N[i]? = some x) (hx : Loc Z.X.env.scope x) (hf : Z.X.fn x = true ∨ Z.X.env.scope.names.lookup x = some .local := by first | exact .inl rfl | exact .inr rfl | assumption) : KG Z (.Name x pos) (gN i) :=
  ⟨(pg_name hN hi hx hf).weak fun v σ H Q ⟨ι, env, h, d, R, V, r, p⟩ => RPost.ok R p _ (V.set r)⟩
def gNil' : SGs := fun ds env h => match ds with | [] => .ok env h | _ => .stuck
/-- σ of the parts is that of the whole: exceptions of the parts carry their own slots; a target with no exception only -/
def noX {α : Type} (r : Res α) : Res α := match r with | .exc _ _ _ => .stuck | r => r
def gCons' (g : SG) (k : SGs) : SGs := fun ds env h => match ds with
  | [] => .stuck
  | d :: ds => (noX (g d env h)).bind fun env1 h1 => noX (k ds env1 h1)
theorem RPost.noX {α : Type} {K : PySem.W.Frag} {cA : CA} {W : WX} {σ σ' : St} {ι : Nat → Addr} {H : Hp} {h : Hd} {r : Res α} {P : α → Hd → (Nat → Addr) → Hp → Prop} (p : RPost K cA W σ ι h H (noX r) P) : RPost K cA W σ' ι h H r P := by
  cases r with
  | ok a h' => exact p
  | exc c fs h' => exact p.elim
  | stuck => exact p
theorem RPost.noX' {α : Type} {K : PySem.W.Frag} {cA : CA} {W : WX} {σ σ' : St} {ι : Nat → Addr} {H : Hp} {h : Hd} {r : Res α} {P : α → Hd → (Nat → Addr) → Hp → Prop} (p : RPost K cA W σ ι h H (Kf.noX r) P) : RPost K cA W σ' ι h H (Kf.noX r) P := by
  cases r with
  | ok a h' => exact p
  | exc c fs h' => exact p.elim
  | stuck => exact p
theorem kgs_nil : KGs Z [] gNil' := ⟨pgs_nil.weak fun vs σ H Q ⟨ι, env, h, ds, R, V, r, p⟩ => by
  cases r with
  | nil => exact ⟨rfl, RPost.ok R p σ V⟩
  | cons _ _ => exact p.elim⟩
theorem kgs_cons {e : Expr} {es : List Expr} {g : SG} {k : SGs} (h1 : KG Z e g) (h2 : KGs Z es k)
    (hs : (assignEach (e :: es) Z.X.env).map (·.2) = assign e Z.X.env :: (assignEach es Z.X.env).map (·.2) := by rfl) : KGs Z (e :: es) (gCons' g k) := ⟨(pgs_cons h1.pg h2.pgs hs).weak fun vs σ H Q ⟨ι, env, h, ds, R, V, r, p⟩ => by
  cases r with
  | nil => exact p.elim
  | cons r rs =>
    exact ⟨_, _, rfl, ι, env, h, _, R, V, r, RPost.noX ((RPost.bind p).mono fun env1 h1 ι1 H1 S1 R1 p1 σ1 V1 => ⟨ι1, env1, h1, _, R1, V1, rs.step S1 R, RPost.noX p1⟩)⟩⟩
def gTp (n : Nat) (k : SGs) : SG := fun d env h => match d with
  | .tup ds => if ds.length = n then k ds env h else .stuck
  | .fls ds => if ds.length = n then k ds env h else .stuck
  | .ref m => match h[m]? with
    | some (.lst ds) => if ds.length = n then k ds env h else .stuck
    | _ => .stuck
  | _ => .stuck
/-- a tuple or a list, taken apart -/
theorem pg_row {X : Cx} {es : List Expr} {k : Nat} {t : TGs} {n : Nat} {pos : Pos} (hc : X.calm = true) (h : PGs X es t)
    (hn : (assignEach es X.env).length = n := by rfl) (hst : (assignEach es X.env).findIdx? (·.1) = none := by rfl) : PG X (.Tuple es k pos) fun v σ H Q => gTup X.K n t v σ H Q ∨ gLst X.K n t v σ H Q :=
  ⟨fun pins s σ H v u Q I r q => q.elim ((pg_tup hc h hn hst).run pins s σ H v u Q I r) ((pg_lst hc h hn hst).run pins s σ H v u Q I r)⟩
/-- what gTp asks of the target's parts -/
theorem row_post {K : PySem.W.Frag} {cA : CA} {W : WX} {σ : St} {ι : Nat → Addr} {h : Hd} {H : Hp} {v : V} {d : D} {n : Nat} {k : SGs} {env : En} {P : En → Hd → (Nat → Addr) → Hp → Prop} (R : HRep K cA ι H h) (r : Rep K ι h.length H v d) (p : RPost K cA W σ ι h H (gTp n k d env h) P) :
    ∃ a xs ds, v = .ref a ∧ (SqT K H a xs ∨ SqL K H a xs) ∧ xs.length = n ∧ Reps K ι h.length H xs ds ∧ RPost K cA W σ ι h H (k ds env h) P := by
  have fin : ∀ {a : Addr} {xs : List V} {ds : List D}, SqT K H a xs ∨ SqL K H a xs → Reps K ι h.length H xs ds → RPost K cA W σ ι h H (if ds.length = n then k ds env h else .stuck) P →
      ∃ a' xs ds, V.ref a = .ref a' ∧ (SqT K H a' xs ∨ SqL K H a' xs) ∧ xs.length = n ∧ Reps K ι h.length H xs ds ∧ RPost K cA W σ ι h H (k ds env h) P := fun {a xs ds} q rs p => by
    by_cases c : ds.length = n
    · rw [if_pos c] at p
      exact ⟨a, xs, ds, rfl, q, by rw [rs.len]; exact c, rs, p⟩
    · rw [if_neg c] at p
      exact p.elim
  cases r with
  | tup q rs => exact fin (.inl q) rs p
  | fls q rs => exact fin (.inr q.sql) rs p
  | @ref m hlt =>
    have p : RPost K cA W σ ι h H (match h[m]? with | some (.lst ds) => if ds.length = n then k ds env h else .stuck | _ => .stuck) P := p
    cases e : h[m]? with
    | none => rw [e] at p; exact p.elim
    | some o =>
      rw [e] at p
      obtain ⟨ho, e3, ro⟩ := R.obj m _ e
      cases ro with
      | lst rs => exact fin (.inr (.of e3)) rs p
      | dict _ => exact p.elim
      | lkd _ => exact p.elim
      | ins _ => exact p.elim
  | non => exact p.elim
  | bl => exact p.elim
  | int => exact p.elim
  | str => exact p.elim
  | raw => exact p.elim
  | xc0 => exact p.elim
  | xc _ _ => exact p.elim
theorem kg_tup {es : List Expr} {j : Nat} {k : SGs} {n : Nat} {pos : Pos} (hc : Z.X.calm = true) (hk : KGs Z es k)
    (hn : (assignEach es Z.X.env).length = n := by rfl) (hst : (assignEach es Z.X.env).findIdx? (·.1) = none := by rfl) : KG Z (.Tuple es j pos) (gTp n k) := ⟨(pg_row hc hk.pgs hn hst).weak fun v σ H Q ⟨ι, env, h, d, R, V, r, p⟩ => by
  obtain ⟨a, xs, ds, ev, q, hl, rs, p⟩ := row_post R r p
  exact q.elim (fun q => .inl ⟨a, xs, ev, q, hl, ι, env, h, ds, R, V, rs, p⟩) fun q => .inr ⟨a, xs, ev, q, hl, ι, env, h, ds, R, V, rs, p⟩⟩
def sAsg (f : SE) (g : SG) : SS := fun env h => (f env h).lift env fun d h1 => (noX (g d env h1)).lift env fun env' h2 => .ok (.nx env') h2
theorem ks_asg {tg e : Expr} {f : SE} {g : SG} {pos : Pos} (he : KE Z e f) (hg : KG Z tg g) (hs : swapsWithSole [tg] e pos.line Z.X.env = pure false := by rfl) (hw : swappedStores [tg] e Z.X.env = pure none := by rfl)
    (h1 : (assignEach [tg] Z.X.env).map (·.2) = [assign tg Z.X.env] := by rfl) : KS Z (.Assign [tg] e pos) (sAsg f g) :=
  ⟨(ps_asg he.pe hg.pg hs hw h1).weak fun D σ H ⟨ι, env, h, R, V, p⟩ => ⟨ι, env, h, R, V, (RsPost.of R V p).mono fun d h1 ι1 H1 S1 R1 p1 v r =>
    ⟨ι1, env, h1, d, R1, V.step S1 R, r, RPost.noX ((RsPost.of R1 (V.step S1 R) p1).mono fun env' h2 ι2 H2 S2 R2 p2 σ' V' => RsPost.fin R2 p2 σ' V')⟩⟩⟩
end
end Kf
end
section
set_option maxHeartbeats 4000000
/-! Kf: loops. -/
namespace Kf
open PySem PySem.Spec L2
section
variable {Z : Kx}
/-- the items of a tuple or of a list of ours -/
def itemsD (h : Hd) : D → Option (List D)
  | .tup ds => some ds
  | .fls ds => some ds
  | .ref m => match h[m]? with | some (.lst ds) => some ds | _ => none
  | _ => none
inductive ItD where
  | snap (ds : List D) | live (m : Nat) | zp (x y : D)
abbrev SI := En → Hd → Res ItD
/-- the item at place i; none: the end -/
def nextD (it : ItD) (h : Hd) (i : Nat) : Option (Option D) := match it with
  | .snap ds => some ds[i]?
  | .live m => match h[m]? with
    | some (.lst ds) => some ds[i]?
    | _ => none
  | .zp x y => match itemsD h x, itemsD h y with
    | some xs, some ys => some (match xs[i]?, ys[i]? with | some u, some v => some (.tup [u, v]) | _, _ => none)
    | _, _ => none
/-- the iterator J hands out it, whatever is done meanwhile -/
def ItOk (Z : Kx) (J : It) (it : ItD) (ι : Nat → Addr) (h : Hd) (H : Hp) : Prop := ∀ ι2 h2 H2, Step ι h H ι2 h2 H2 → HRep Z.X.K Z.cA ι2 H2 h2 → ∀ i,
  (∀ d, nextD it h2 i = some (some d) → J.go i H2 ∧ ∀ x H3, J.yld i H2 x H3 → Step ι2 h2 H2 ι2 h2 H3 ∧ HRep Z.X.K Z.cA ι2 H3 h2 ∧ Rep Z.X.K ι2 h2.length H3 x d) ∧ (nextD it h2 i = some none → J.stop i H2)
structure KI (Z : Kx) (tg e : Expr) (f : SI) : Prop where
  pi : PI Z.X tg e fun σ H R => ∃ ι env h, HRep Z.X.K Z.cA ι H h ∧ VRep Z.X.K ι h.length H σ env ∧
    RPost Z.X.K Z.cA Z.W σ ι h H (f env h) fun it h' ι' H' => ∀ J, ItOk Z J it ι' h' H' → R J H'
theorem _root_.L2.PI.weak {X : Cx} {tg e : Expr} {t t' : TI} (p : PI X tg e t) (k : ∀ σ H R, t' σ H R → t σ H R) : PI X tg e t' := ⟨fun pins s σ H R I q => p.run pins s σ H R I (k σ H R q)⟩
def sSnap (f : SA) : SI := fun env h => (f env h).bind fun ds h1 => .ok (.snap ds) h1
theorem it_list {ds : List D} {vs : List V} {ι2 : Nat → Addr} {h2 : Hd} {H2 : Hp} {a : Addr} {i : Nat} (R2 : HRep Z.X.K Z.cA ι2 H2 h2) (e2 : SqL Z.X.K H2 a vs) (rs2 : Reps Z.X.K ι2 h2.length H2 vs ds) :
    (∀ d, ds[i]? = some d → (Itl Z.X.K a).go i H2 ∧ ∀ x H3, (Itl Z.X.K a).yld i H2 x H3 → Step ι2 h2 H2 ι2 h2 H3 ∧ HRep Z.X.K Z.cA ι2 H3 h2 ∧ Rep Z.X.K ι2 h2.length H3 x d) ∧ (ds[i]? = none → (Itl Z.X.K a).stop i H2) := by
  refine ⟨fun d hd => ?_, fun hd => ⟨vs, e2, by rw [rs2.len]; exact List.getElem?_eq_none_iff.mp hd⟩⟩
  obtain ⟨v, hv, r⟩ := rs2.get hd
  refine ⟨⟨vs, v, e2, hv⟩, fun x H3 ⟨q1, q2⟩ => ?_⟩
  subst q1
  have hx := q2 vs e2
  rw [hv] at hx; cases hx
  exact ⟨.refl, R2, r⟩
/-- over a new list -/
theorem ki_new {tg e : Expr} {f : SA} (hl : KL Z e f) : KI Z tg e (sSnap f) :=
  ⟨(pi_list hl.pe).weak fun σ H Q ⟨ι, env, h, R, V, p⟩ => ⟨ι, env, h, R, V, (RPost.bind p).mono fun ds h1 ι1 H1 S1 R1 p1 a vs hH ea hn rs =>
    ⟨a, rfl, ⟨vs, .of ea⟩, RPost.ok R1 p1 _ fun ι2 h2 H2 S2 R2 i => by
      have e2 : H2 a = some (.lst vs) := S2.keep a _ ea hn
      have q := it_list (i := i) R2 (.of e2) (rs.step S2 R1)
      exact ⟨fun d hd => q.1 d (Option.some.inj hd), fun hd => q.2 (Option.some.inj hd)⟩⟩⟩⟩
/-- over a tuple, a list -/
def itOf (d : D) (h : Hd) : Option ItD := match d with
  | .tup ds => some (.snap ds)
  | .fls ds => some (.snap ds)
  | .ref m => match h[m]? with
    | some (.lst _) => some (.live m)
    | _ => none
  | _ => none
def sVal (f : SE) : SI := fun env h => (f env h).bind fun d h1 => match itOf d h1 with | some it => .ok it h1 | none => .stuck
theorem _root_.L2.PI.or {X : Cx} {tg e : Expr} {t t' : TI} (p : PI X tg e t) (q : PI X tg e t') : PI X tg e fun σ H R => t σ H R ∨ t' σ H R := ⟨fun pins s σ H R I z => z.elim (p.run pins s σ H R I) (q.run pins s σ H R I)⟩
/-- either way, by values -/
def iAny (K : PySem.W.Frag) (tl : TE) : TI := fun σ H R => tl σ H fun x H1 => ∃ a, x = .ref a ∧ (((∃ xs, SqL K H1 a xs) ∧ R (Itl K a) H1) ∨ ((∃ xs, SqT K H1 a xs) ∧ R (Itt K a) H1))
theorem pi_any {tg l : Expr} {tl : TE} (hl : PE Z.X l tl) : PI Z.X tg l (iAny Z.X.K tl) := by
  refine ⟨fun pins s σ H R I h => thn (hl.run pins s σ H _ I h) fun v s1 ⟨x, H1, I1, r1, a, ex, q⟩ => ?_⟩
  subst ex
  obtain rfl : v = Value.ref a := r1
  have J : ∀ ob : Obj, L2.Inv Z.X pins σ H1 { s1 with heap := s1.heap.push ob } := fun ob => I1.kept (t' := s1.toks) fun b o e => Heap.get?_push_of_some _ e
  have fp : ∀ b ∈ [s1.heap.objs.size], FpOk Z.X pins H1 b := fun b hb => by
    obtain rfl : b = s1.heap.objs.size := by simpa using hb
    exact I1.fpOk (Nat.le_refl _) (I1.hok.fresh (Nat.le_refl _))
  rcases q with ⟨⟨xs, hq⟩, q⟩ | ⟨⟨xs, hq⟩, q⟩
  · obtain ⟨_, _, hp, _⟩ := I1.list hq
    exact wpAny_pyIter_list hp.isList ⟨_, [_], _, _, H1, rfl, J _, turn_list a _, ⟨_, Heap.get?_push_size _ rfl, rfl, rfl⟩, fp, q⟩
  · obtain ⟨its, _, hp, _⟩ := I1.tuple hq
    exact wpAny_pyIter_tuple (show s1.heap.IsTuple a its.toArray from hp) ⟨_, [_], _, _, H1, rfl, J _, turn_tuple a _, ⟨_, Heap.get?_push_size _ rfl, rfl, rfl⟩, fp, q⟩
theorem ki_val {tg e : Expr} {f : SE} (he : KE Z e f) : KI Z tg e (sVal f) :=
  ⟨(pi_any he.pe).weak fun σ H Q ⟨ι, env, h, R, V, p⟩ => ⟨ι, env, h, R, V, (RPost.bind p).mono fun d h1 ι1 H1 S1 R1 p1 v r => by
    have p1 : RPost Z.X.K Z.cA Z.W σ ι1 h1 H1 (match itOf d h1 with | some it => .ok it h1 | none => .stuck) fun it h' ι' H' => ∀ J, ItOk Z J it ι' h' H' → Q J H' := p1
    cases e : itOf d h1 with
    | none => rw [e] at p1; exact p1.elim
    | some it =>
      rw [e] at p1
      have p1 : RPost Z.X.K Z.cA Z.W σ ι1 h1 H1 (.ok it h1) fun it h' ι' H' => ∀ J, ItOk Z J it ι' h' H' → Q J H' := p1
      cases r with
      | @tup a xs ds q rs =>
        cases e
        refine ⟨a, rfl, .inr ⟨⟨xs, q⟩, RPost.ok R1 p1 _ fun ι2 h2 H2 S2 R2 i => ?_⟩⟩
        have q2 := (S2.tkeep R1).tup _ _ q
        have rs2 := rs.step S2 R1
        refine ⟨fun d hd => ?_, fun hd => ⟨xs, q2, by rw [rs2.len]; exact List.getElem?_eq_none_iff.mp (Option.some.inj hd)⟩⟩
        obtain ⟨v, hv, r⟩ := rs2.get (Option.some.inj hd)
        refine ⟨⟨xs, v, q2, hv⟩, fun x H3 ⟨z1, z2⟩ => ?_⟩
        subst z1
        have hx := z2 xs q2
        rw [hv] at hx; cases hx
        exact ⟨.refl, R2, r⟩
      | @fls a xs ds q rs =>
        cases e
        refine ⟨a, rfl, .inl ⟨⟨xs, q.sql⟩, RPost.ok R1 p1 _ fun ι2 h2 H2 S2 R2 i => ?_⟩⟩
        have z := it_list (i := i) R2 ((S2.tkeep R1).fzl _ _ q).sql (rs.step S2 R1)
        exact ⟨fun d hd => z.1 d (Option.some.inj hd), fun hd => z.2 (Option.some.inj hd)⟩
      | @ref m hlt =>
        have e : (match h1[m]? with | some (O.lst _) => some (ItD.live m) | _ => none) = some it := e
        cases hm : h1[m]? with
        | none => rw [hm] at e; cases e
        | some o =>
          rw [hm] at e
          cases o with
          | lst ds =>
            cases e
            obtain ⟨ho, e3, ro⟩ := R1.obj m _ hm
            cases ro with
            | @lst xs _ rs =>
              refine ⟨_, rfl, .inl ⟨⟨xs, .of e3⟩, RPost.ok R1 p1 _ fun ι2 h2 H2 S2 R2 i => ?_⟩⟩
              have nx : ∀ {o : Option D}, nextD (.live m) h2 i = some o → ∃ es ys, h2[m]? = some (.lst es) ∧ es[i]? = o ∧ H2 (ι1 m) = some (.lst ys) ∧ Reps Z.X.K ι2 h2.length H2 ys es := fun {o} en => by
                have en : (match h2[m]? with | some (O.lst ds) => some ds[i]? | _ => none) = some o := en
                cases hm2 : h2[m]? with
                | none => rw [hm2] at en; cases en
                | some u =>
                  rw [hm2] at en
                  cases u with
                  | lst es =>
                    obtain ⟨ho2, e4, ro2⟩ := R2.obj m _ hm2
                    rw [S2.eq m hlt] at e4
                    cases ro2 with
                    | lst rs2 => exact ⟨es, _, rfl, Option.some.inj en, e4, rs2⟩
                  | dict _ => cases en
                  | lkd _ => cases en
                  | ins _ _ => cases en
              refine ⟨fun d hd => ?_, fun hd => ?_⟩
              · obtain ⟨es, ys, _, e5, e6, r6⟩ := nx hd
                exact (it_list (i := i) R2 (.of e6) r6).1 d e5
              · obtain ⟨es, ys, _, e5, e6, r6⟩ := nx hd
                exact (it_list (i := i) R2 (.of e6) r6).2 e5
          | dict _ => cases e
          | lkd _ => cases e
          | ins _ _ => cases e
      | xc0 => cases e
      | xc _ _ => cases e
      | non => cases e
      | bl => cases e
      | int => cases e
      | raw => cases e
      | str => cases e⟩⟩
def rangeL (lo : Int) (n : Nat) : List D := (List.range n).map fun (i : Nat) => D.int (lo + (i : Int))
def BIG : Int := 4611686018427387904
theorem big_eq : BIG = 2 ^ 62 := by decide
def sRange1 (f : SE) : SI := fun env h => (f env h).bind fun d h1 => match d with | .int j => if -BIG ≤ j ∧ j < BIG then .ok (.snap (rangeL 0 j.toNat)) h1 else .stuck | _ => .stuck
def sRange2 (f g : SE) : SI := fun env h => (f env h).bind fun d h1 => (g env h1).bind fun e h2 => match d, e with | .int i, .int j => if (-BIG ≤ i ∧ i < BIG) ∧ -BIG ≤ j ∧ j < BIG then .ok (.snap (rangeL i (j - i).toNat)) h2 else .stuck | _, _ => .stuck
theorem snap_range {lo : Int} {n : Nat} {ι : Nat → Addr} {h : Hd} {H : Hp} : ItOk Z (Itr lo n) (.snap (rangeL lo n)) ι h H := fun ι2 h2 H2 S2 R2 i => by
  refine ⟨fun d hd => ?_, fun hd => ?_⟩
  · have hd := Option.some.inj hd
    have hi : i < n := by have := lt_of_get hd; simpa [rangeL] using this
    refine ⟨hi, fun x H3 ⟨z1, z2⟩ => ?_⟩
    subst z1; subst z2
    simp [rangeL, hi] at hd
    subst hd
    exact ⟨.refl, R2, .int⟩
  · have hd := Option.some.inj hd
    have := List.getElem?_eq_none_iff.mp hd
    show n ≤ i
    simpa [rangeL] using this
theorem ki_range1 {tg a : Expr} {f : SE} {p pos : Pos} (hg : Gl Z.X "range") (hm : Z.X.mg "range" = none) (ha : KE Z a f) (hs : starEach [a] Z.X.env = [(false, eval a Z.X.env)] := by rfl) : KI Z tg (.Call (.Name "range" p) [a] [] pos) (sRange1 f) :=
  ⟨(pi_range1 hg hm (ka_cons ha ka_nil hs).pa hs).weak fun σ H Q ⟨ι, env, h, R, V, p⟩ => ⟨ι, env, h, R, V, by
    have p' := RPost.bind p
    refine RPost.mono (r := sCons f sNil env h) (P := fun ds h1 ι1 H1 => ∃ d, ds = [d] ∧ RPost Z.X.K Z.cA Z.W σ ι1 h1 H1 (match d with | .int j => if -BIG ≤ j ∧ j < BIG then .ok (.snap (rangeL 0 j.toNat)) h1 else .stuck | _ => .stuck) fun it h' ι' H' => ∀ J, ItOk Z J it ι' h' H' → Q J H') ?_ ?_
    · show RPost _ _ _ _ _ _ _ ((f env h).bind fun d h1 => .ok [d] h1) _
      cases e : f env h with
      | ok d h1 => rw [e] at p'; exact fun ι' H' S R' => ⟨d, rfl, p' ι' H' S R'⟩
      | exc c fs h1 => rw [e] at p'; exact p'
      | stuck => rw [e] at p'; exact p'.elim
    · rintro ds h1 ι1 H1 S1 R1 ⟨d, rfl, p1⟩ vs rs
      cases rs with
      | cons r rr =>
        cases rr
        cases r with
        | @int j =>
          by_cases c : -BIG ≤ j ∧ j < BIG
          · have p1 : RPost _ _ _ _ _ _ _ (if -BIG ≤ j ∧ j < BIG then _ else _) _ := p1
            rw [if_pos c] at p1
            rw [big_eq] at c
            exact ⟨j, rfl, c.1, c.2, RPost.ok R1 p1 _ snap_range⟩
          · have p1 : RPost _ _ _ _ _ _ _ (if -BIG ≤ j ∧ j < BIG then _ else _) _ := p1
            rw [if_neg c] at p1; exact p1.elim
        | non => exact p1.elim
        | bl => exact p1.elim
        | str => exact p1.elim
        | raw => exact p1.elim
        | xc0 => exact p1.elim
        | xc _ _ => exact p1.elim
        | fls _ _ => exact p1.elim
        | tup _ _ => exact p1.elim
        | ref _ => exact p1.elim⟩⟩
theorem ki_range2 {tg a b : Expr} {f g : SE} {p pos : Pos} (hg : Gl Z.X "range") (hm : Z.X.mg "range" = none) (ha : KE Z a f) (hb : KE Z b g) (hs : starEach [a, b] Z.X.env = [(false, eval a Z.X.env), (false, eval b Z.X.env)] := by rfl) (hs2 : starEach [b] Z.X.env = [(false, eval b Z.X.env)] := by rfl) :
    KI Z tg (.Call (.Name "range" p) [a, b] [] pos) (sRange2 f g) :=
  ⟨(pi_range2 hg hm (ka_cons ha (ka_cons hb ka_nil hs2) (by rw [hs, hs2])).pa hs hs2).weak fun σ H Q ⟨ι, env, h, R, V, p⟩ => ⟨ι, env, h, R, V, by
    refine RPost.mono (r := sCons f (sCons g sNil) env h) (P := fun ds h1 ι1 H1 => ∃ d e, ds = [d, e] ∧ RPost Z.X.K Z.cA Z.W σ ι1 h1 H1 (match d, e with | .int i, .int j => if (-BIG ≤ i ∧ i < BIG) ∧ -BIG ≤ j ∧ j < BIG then .ok (.snap (rangeL i (j - i).toNat)) h1 else .stuck | _, _ => .stuck) fun it h' ι' H' => ∀ J, ItOk Z J it ι' h' H' → Q J H') ?_ ?_
    · have p : RPost _ _ _ _ _ _ _ ((f env h).bind _) _ := p
      show RPost _ _ _ _ _ _ _ ((f env h).bind _) _
      cases e : f env h with
      | ok d h1 =>
        rw [e] at p
        have p : RPost _ _ _ _ _ _ _ ((g env h1).bind _) _ := p
        show RPost _ _ _ _ _ _ _ (((g env h1).bind _).bind _) _
        cases e2 : g env h1 with
        | ok d2 h2 => rw [e2] at p; exact fun ι' H' S R' => ⟨d, d2, rfl, RPost.step S p⟩
        | exc c fs h1 => rw [e2] at p; exact p
        | stuck => rw [e2] at p; exact p.elim
      | exc c fs h1 => rw [e] at p; exact p
      | stuck => rw [e] at p; exact p.elim
    · rintro ds h1 ι1 H1 S1 R1 ⟨d, e, rfl, p1⟩ vs rs
      cases rs with
      | cons r rr =>
        cases rr with
        | cons r' rr =>
          cases rr
          cases r <;> first | exact p1.elim | skip
          cases r' <;> first | exact p1.elim | skip
          rename_i i j
          have p1 : RPost _ _ _ _ _ _ _ (if (-BIG ≤ i ∧ i < BIG) ∧ -BIG ≤ j ∧ j < BIG then _ else _) _ := p1
          by_cases c : (-BIG ≤ i ∧ i < BIG) ∧ -BIG ≤ j ∧ j < BIG
          · rw [if_pos c] at p1
            rw [big_eq] at c
            exact ⟨i, j, rfl, ⟨c.1.1, c.1.2, c.2.1, c.2.2⟩, RPost.ok R1 p1 _ snap_range⟩
          · rw [if_neg c] at p1; exact p1.elim⟩⟩

/-! ### for -/
def loopI (it : ItD) (g : SG) (body : SS) : Nat → Nat → En → Hd → Rs
  | 0, _, _, _ => .stuck
  | n + 1, i, env, h => match nextD it h i with
    | none => .stuck
    | some none => .ok (.nx env) h
    | some (some d) => (noX (g d env h)).lift env fun env1 h1 => match body env1 h1 with
      | .ok (.nx env2) h2 => loopI it g body n (i + 1) env2 h2
      | .ok (.ct env2) h2 => loopI it g body n (i + 1) env2 h2
      | .ok (.brk env2) h2 => .ok (.nx env2) h2
      | r => r
/-- how many turns at most -/
def turnsD (it : ItD) (h : Hd) : Nat := match it with
  | .snap ds => ds.length + 1
  | .live m => match h[m]? with
    | some (.lst ds) => ds.length + 1
    | _ => 0
  | .zp x _ => match itemsD h x with
    | some ds => ds.length + 1
    | none => 0
def sFor (it : SI) (g : SG) (body : SS) : SS := fun env h => (it env h).lift env fun j h1 => loopI j g body (turnsD j h1) 0 env h1
/-- over written-out items -/
def loopItems (g : SG) (body : SS) : List D → En → Hd → Rs
  | [], env, h => .ok (.nx env) h
  | d :: ds, env, h => (noX (g d env h)).lift env fun env1 h1 => match body env1 h1 with
    | .ok (.nx env2) h2 => loopItems g body ds env2 h2
    | .ok (.ct env2) h2 => loopItems g body ds env2 h2
    | .ok (.brk env2) h2 => .ok (.nx env2) h2
    | r => r
theorem loop_snap (g : SG) (body : SS) (ds : List D) : ∀ (n i : Nat) (env : En) (h : Hd), n + i = ds.length → loopI (.snap ds) g body (n + 1) i env h = loopItems g body (ds.drop i) env h
  | n, i, env, h, e => by
    unfold loopI
    show (match (some ds[i]? : Option (Option D)) with | none => _ | some none => _ | some (some d) => _) = _
    by_cases hi : i < ds.length
    · rw [List.drop_eq_getElem_cons hi, List.getElem?_eq_getElem hi]
      unfold loopItems
      dsimp only
      congr 1
      funext env1 h1
      cases body env1 h1 with
      | stuck => rfl
      | ok fl h2 => cases fl <;> first | rfl | (obtain ⟨k, rfl⟩ : ∃ k, n = k + 1 := ⟨n - 1, by omega⟩; exact loop_snap g body ds k (i + 1) _ _ (by omega))
    · rw [List.drop_eq_nil_of_le (Nat.le_of_not_lt hi), List.getElem?_eq_none (Nat.le_of_not_lt hi)]
      rfl
theorem ks_for {tg iter : Expr} {body : List Stmt} {it : SI} {g : SG} {b : SS} {pos : Pos} (hp : PassesOwn (model Z.X.prog Z.X.w) Z.X.A Z.X.env Z.X.xe) (hc : Z.X.calm = true) (hi : KI Z tg iter it) (hg : KG Z tg g) (hb : KSs Z body b)
    (hs : ∀ x, foldedSetIterable iter Z.X.env x = pure x := by intro _; rfl) : KS Z (.For tg iter body [] pos) (sFor it g b) :=
  ⟨(ps_for hp hc hi.pi hg.pg hb.pss hs).weak fun Dd σ H ⟨ι, env, h, R, V, p⟩ => ⟨ι, env, h, R, V, (RsPost.of R V p).mono fun j h1 ι1 H1 S1 R1 p1 J ok => by
    refine ⟨fun i m σ' H' => ∃ ι' env' h', Step ι1 h1 H1 ι' h' H' ∧ HRep Z.X.K Z.cA ι' H' h' ∧ VRep Z.X.K ι' h'.length H' σ' env' ∧ RsPost Z Dd ι' h' H' (loopI j g b m i env' h'),
      ⟨_, ι1, env, h1, .refl, R1, V.step S1 R, p1⟩, ?_⟩
    rintro i m σ' H' ⟨ι', env', h', S', R', V', p'⟩
    cases m with
    | zero => exact p'.elim
    | succ m =>
      obtain ⟨k1, k2⟩ := ok ι' h' H' S' R' i
      unfold loopI at p'
      cases en : nextD j h' i with
      | none => rw [en] at p'; exact p'.elim
      | some o =>
        rw [en] at p'
        cases o with
        | none => exact .inl ⟨k2 en, RsPost.fin R' p' σ' V'⟩
        | some d =>
          obtain ⟨go, yl⟩ := k1 d en
          refine .inr ⟨go, fun σ2 H2 => ∃ ι' env' h', Step ι1 h1 H1 ι' h' H2 ∧ HRep Z.X.K Z.cA ι' H2 h' ∧ VRep Z.X.K ι' h'.length H2 σ2 env' ∧ RsPost Z Dd ι' h' H2 (loopI j g b m (i + 1) env' h'),
            fun σ2 H2 q => ⟨m, Nat.lt_succ_self _, q⟩, fun x H3 y => ?_⟩
          obtain ⟨S3, R3, r3⟩ := yl x H3 y
          have p3 : RsPost Z Dd ι' h' H3 ((noX (g d env' h')).lift env' _) := p'.step S3
          refine ⟨ι', env', h', d, R3, V'.step S3 R', r3, ?_⟩
          refine RPost.noX ((RsPost.of R3 (V'.step S3 R') p3).mono fun env4 h4 ι4 H4 S4 R4 p4 σ4 V4 => ⟨ι4, env4, h4, R4, V4, ?_⟩)
          cases eb : b env4 h4 with
          | stuck => rw [eb] at p4; exact p4.elim
          | ok fl h5 =>
            rw [eb] at p4
            have again : ∀ env5, RsPost Z Dd ι4 h4 H4 (loopI j g b m (i + 1) env5 h5) → ∀ ι5 H5, Step ι4 h4 H4 ι5 h5 H5 → HRep Z.X.K Z.cA ι5 H5 h5 → ∀ σ5, VRep Z.X.K ι5 h5.length H5 σ5 env5 →
                ∃ ι' env' h', Step ι1 h1 H1 ι' h' H5 ∧ HRep Z.X.K Z.cA ι' H5 h' ∧ VRep Z.X.K ι' h'.length H5 σ5 env' ∧ RsPost Z Dd ι' h' H5 (loopI j g b m (i + 1) env' h') := fun env5 q ι5 H5 S5 R5 σ5 V5 =>
              ⟨ι5, env5, h5, ((S'.trans S3).trans S4).trans S5, R5, V5, q.step S5⟩
            cases fl with
            | nx env5 => exact fun ι5 H5 S5 R5 => again env5 p4 ι5 H5 S5 R5
            | ct env5 => exact fun ι5 H5 S5 R5 => again env5 p4 ι5 H5 S5 R5
            | brk env5 => exact p4
            | ret d => exact p4
            | exc c fs env5 => exact p4⟩⟩

/-! ### while -/
def loopWhile (c : SB) (body : SS) : Nat → En → Hd → Rs
  | 0, _, _ => .stuck
  | n + 1, env, h => (c env h).lift env fun b h1 => if b = true then (match body env h1 with
    | .ok (.nx env2) h2 => loopWhile c body n env2 h2
    | .ok (.ct env2) h2 => loopWhile c body n env2 h2
    | .ok (.brk env2) h2 => .ok (.nx env2) h2
    | r => r) else .ok (.nx env) h1
def sWhile (n : Nat) (c : SB) (body : SS) : SS := loopWhile c body n
theorem ks_while {c : Expr} {body : List Stmt} {f : SB} {b : SS} {pos : Pos} (n : Nat) (hp : PassesOwn (model Z.X.prog Z.X.w) Z.X.A Z.X.env Z.X.xe) (hc : KB Z c f) (hb : KSs Z body b) : KS Z (.While c body [] pos) (sWhile n f b) :=
  ⟨(ps_while hp hc.pt hb.pss).weak fun Dd σ H ⟨ι, env, h, R, V, p⟩ => by
    refine ⟨fun m σ' H' => ∃ ι' env' h', HRep Z.X.K Z.cA ι' H' h' ∧ VRep Z.X.K ι' h'.length H' σ' env' ∧ RsPost Z Dd ι' h' H' (loopWhile f b m env' h'), ⟨n, ι, env, h, R, V, p⟩, ?_⟩
    rintro m σ' H' ⟨ι', env', h', R', V', p'⟩
    cases m with
    | zero => exact p'.elim
    | succ m =>
      refine ⟨ι', env', h', R', V', (RsPost.of R' V' p').mono fun t h1 ι1 H1 S1 R1 p1 => ?_⟩
      cases t with
      | false => rw [if_neg Bool.false_ne_true] at p1 ⊢; exact RsPost.fin R1 p1 σ' (V'.step S1 R')
      | true =>
        rw [if_pos rfl] at p1 ⊢
        refine ⟨fun σ2 H2 => ∃ ι' env' h', HRep Z.X.K Z.cA ι' H2 h' ∧ VRep Z.X.K ι' h'.length H2 σ2 env' ∧ RsPost Z Dd ι' h' H2 (loopWhile f b m env' h'), fun σ2 H2 q => ⟨m, Nat.lt_succ_self _, q⟩, ι1, env', h1, R1, V'.step S1 R', ?_⟩
        cases eb : b env' h1 with
        | stuck => rw [eb] at p1; exact p1.elim
        | ok fl h5 =>
          rw [eb] at p1
          cases fl with
          | nx env5 => exact fun ι5 H5 S5 R5 σ5 V5 => ⟨ι5, env5, h5, R5, V5, RsPost.step S5 p1⟩
          | ct env5 => exact fun ι5 H5 S5 R5 σ5 V5 => ⟨ι5, env5, h5, R5, V5, RsPost.step S5 p1⟩
          | brk env5 => exact p1
          | ret d => exact p1
          | exc c fs env5 => exact p1⟩
end
end Kf
end
section
set_option maxHeartbeats 4000000
/-! Kf: list comprehensions; what is made of new lists. -/
namespace Kf
open PySem PySem.Spec L2
section
variable {K : PySem.W.Frag} {cA : CA} {W W' : WX} {σ σ' : St} {ι ι1 ι' : Nat → Addr} {n : Nat} {H H1 H' : Hp} {h h1 h' : Hd} {α β : Type}
theorem RPost.bind1 {r : Res α} {f : α → Hd → Res β} {P : β → Hd → (Nat → Addr) → Hp → Prop} (S : Step ι h H ι' h' H') (p : RPost K cA W σ ι h H (r.bind f) P) : RPost K cA W σ ι' h' H' r fun a h2 _ _ => RPost K cA W σ ι h H (f a h2) P := by
  cases r with
  | ok a h2 => exact fun ι2 H2 S R => p
  | exc c fs h2 => exact fun ι2 H2 cls od T R x => p ι2 H2 cls od (S.trans T) R x
  | stuck => exact p
theorem RPost.noW {r : Res α} {P : α → Hd → (Nat → Addr) → Hp → Prop} (p : RPost K cA W σ ι h H (Kf.noX r) P) : RPost K cA W' σ' ι h H r P := by
  cases r with
  | ok a h' => exact p
  | exc c fs h' => exact p.elim
  | stuck => exact p
theorem none_of_there' {ι ι' : Nat → Addr} {H H' : Hp} {h h' : Hd} (S : Step ι h H ι' h' H') {a : Addr} (ha : H' a = none) : H a = none := by
  cases e : H a with
  | none => rfl
  | some o => obtain ⟨o', e'⟩ := S.there a o e; rw [ha] at e'; cases e'
/-- an address that the heap does not speak of is written -/
theorem Step.write (S : Step ι h H ι' h' H') {p : Addr} (hp : H p = none) (hn : ∀ m, m < h'.length → p ≠ ι' m) (o : HO) : Step ι h H ι' h' (upd H' p o) where
  eq := S.eq
  len := S.len
  keep := fun a u e k => by rw [upd_ne (ne_of_none e hp)]; exact S.keep a u e k
  fresh := S.fresh
  there := fun a u e => by rw [upd_ne (ne_of_none e hp)]; exact S.there a u e
  frz := fun a o u e => by rw [upd_ne (ne_of_none e hp)]; exact S.frz a o u e
theorem tkeep_upd {p : Addr} {v : HO} (e : H p = some v) (h1 : ∀ xs, v ≠ .tup xs) (h2 : ∀ x u, v ≠ .frz x u) (o : HO) (h3 : ∀ gs, v ≠ .xd gs := by first | exact fun _ z => by cases z) : TKeep K H (upd H p o) := by
  have hne : ∀ {a : Addr} {u : HO}, H a = some u → u ≠ v → a ≠ p := fun {a u} e1 ne z => by rw [z, e] at e1; exact ne (Option.some.inj e1).symm
  refine ⟨fun a ys q => ?_, fun a ys q => ?_, fun a gs q => by rw [upd_ne (hne q fun z => h3 _ z.symm)]; exact q⟩
  · rcases q with (q | ⟨o2, q⟩) | q
    · exact .inl (.inl (by rw [upd_ne (hne q fun z => h1 _ z.symm)]; exact q))
    · exact .inl (.inr ⟨o2, by rw [upd_ne (hne q fun z => h2 _ _ z.symm)]; exact q⟩)
    · exact .inr q
  · rcases q with ⟨o2, q⟩ | q
    · exact .inl ⟨o2, by rw [upd_ne (hne q fun z => h2 _ _ z.symm)]; exact q⟩
    · exact .inr q
theorem tkeep_write {p : Addr} {xs : List V} (e : H p = some (.lst xs)) (o : HO) : TKeep K H (upd H p o) := tkeep_upd e (fun _ z => by cases z) (fun _ _ z => by cases z) o
theorem HRep.write (R : HRep K cA ι H h) {p : Addr} {xs : List V} (e : H p = some (.lst xs)) (hn : ∀ m, m < h.length → p ≠ ι m) (o : HO) : HRep K cA ι (upd H p o) h where
  obj := fun m o2 e2 => by
    obtain ⟨ho, e3, r⟩ := R.obj m o2 e2
    exact ⟨ho, by rw [upd_ne (Ne.symm (hn m (lt_of_get e2)))]; exact e3, r.keep (tkeep_write e o) (Nat.le_refl _) fun _ _ => rfl⟩
  inj := R.inj
def wipeD (env : En) : List Nat → En
  | [] => env
  | v :: vs => (wipeD env vs).set v none
theorem VRep.wipe {env : En} (R : VRep K ι n H σ env) : ∀ vs : List Nat, VRep K ι n H (wipe σ vs) (wipeD env vs)
  | [] => R
  | v :: vs => by
    have q := R.wipe vs
    refine ⟨by simp [Kf.wipeD, L2.wipe, q.len], fun i d e => ?_⟩
    unfold wipeD at e
    unfold L2.wipe
    by_cases c : v = i
    · subst c
      have hi : v < (Kf.wipeD env vs).length := by have := lt_of_get e; simpa using this
      rw [List.getElem?_set_self hi] at e; cases e
    · rw [List.getElem?_set_ne c] at e ⊢
      exact q.var i d e
theorem wipe_set {i : Nat} {x : Option V} : ∀ {vs : List Nat}, i ∈ vs → wipe (σ.set i x) vs = wipe σ vs
  | v :: vs, hi => by
    unfold L2.wipe
    by_cases c : i ∈ vs
    · rw [wipe_set c]
    · have e : i = v := by rcases List.mem_cons.mp hi with q | q; exact q; exact absurd q c
      subst e
      have : ∀ (vs : List Nat) (σ : St), i ∉ vs → (L2.wipe (σ.set i x) vs).set i none = (L2.wipe σ vs).set i none := by
        intro vs
        induction vs with
        | nil => intro σ _; simp [L2.wipe]
        | cons v vs ih =>
          intro σ hn
          simp only [List.mem_cons, not_or] at hn
          unfold L2.wipe
          rw [List.set_comm _ _ (Ne.symm hn.1), ih σ hn.2, List.set_comm _ _ hn.1]
      exact this vs σ c
theorem wipe_set_none {j : Nat} : ∀ {vs : List Nat} {σ : St}, wipe (σ.set j none) vs = (wipe σ vs).set j none
  | [], _ => rfl
  | v :: vs, σ => by
    unfold L2.wipe
    rw [wipe_set_none (vs := vs)]
    by_cases c : j = v
    · subst c; rfl
    · rw [List.set_comm _ _ c]
theorem wipe_wipe : ∀ {vs : List Nat} {σ : St}, wipe (wipe σ vs) vs = wipe σ vs
  | [], _ => rfl
  | v :: vs, σ => by
    show (wipe ((wipe σ vs).set v none) vs).set v none = (wipe σ vs).set v none
    rw [wipe_set_none, wipe_wipe]
    simp
end
section
variable {Z : Kx}
/-- targets of a comprehension: names of its own -/
structure KGw (Z : Kx) (t : Expr) (g : SG) (vs : List Nat) : Prop where
  pg : PG Z.X t fun v σ H Q => ∃ ι env h d, HRep Z.X.K Z.cA ι H h ∧ VRep Z.X.K ι h.length H σ env ∧ Rep Z.X.K ι h.length H v d ∧
    RPost Z.X.K Z.cA Z.W σ ι h H (g d env h) fun env' h' ι' H' => ∀ σ', wipe σ' vs = wipe σ vs → VRep Z.X.K ι' h'.length H' σ' env' → Q σ' H'
structure KGws (Z : Kx) (ts : List Expr) (g : SGs) (vs : List Nat) : Prop where
  pgs : PGs Z.X ts fun xs σ H Q => ∃ ι env h ds, HRep Z.X.K Z.cA ι H h ∧ VRep Z.X.K ι h.length H σ env ∧ Reps Z.X.K ι h.length H xs ds ∧
    RPost Z.X.K Z.cA Z.W σ ι h H (g ds env h) fun env' h' ι' H' => ∀ σ', wipe σ' vs = wipe σ vs → VRep Z.X.K ι' h'.length H' σ' env' → Q σ' H'
theorem kgw_name {i : Nat} {x : Str} {pos : Pos} {vs : List Nat} (hv : i ∈ vs) (hN : Z.X.N.Nodup) (hi : Z.X.N[i]? = some x) (hx : Loc Z.X.env.scope x) (hf : Z.X.fn x = true ∨ Z.X.env.scope.names.lookup x = some .local := by first | exact .inl rfl | exact .inr rfl | assumption) : KGw Z (.Name x pos) (gN i) vs :=
  ⟨(pg_name hN hi hx hf).weak fun v σ H Q ⟨ι, env, h, d, R, V, r, p⟩ => RPost.ok R p _ (wipe_set hv) (V.set r)⟩
theorem kgws_nil {vs : List Nat} : KGws Z [] gNil' vs := ⟨pgs_nil.weak fun xs σ H Q ⟨ι, env, h, ds, R, V, r, p⟩ => by
  cases r with
  | nil => exact ⟨rfl, RPost.ok R p σ rfl V⟩
  | cons _ _ => exact p.elim⟩
theorem kgws_cons {e : Expr} {es : List Expr} {g : SG} {k : SGs} {vs : List Nat} (h1 : KGw Z e g vs) (h2 : KGws Z es k vs)
    (hs : (assignEach (e :: es) Z.X.env).map (·.2) = assign e Z.X.env :: (assignEach es Z.X.env).map (·.2) := by rfl) : KGws Z (e :: es) (gCons' g k) vs := ⟨(pgs_cons h1.pg h2.pgs hs).weak fun xs σ H Q ⟨ι, env, h, ds, R, V, r, p⟩ => by
  cases r with
  | nil => exact p.elim
  | cons r rs =>
    exact ⟨_, _, rfl, ι, env, h, _, R, V, r, RPost.noX ((RPost.bind p).mono fun env1 h1 ι1 H1 S1 R1 p1 σ1 w1 V1 => ⟨ι1, env1, h1, _, R1, V1, rs.step S1 R, (RPost.noX p1).mono fun env2 h2 ι2 H2 S2 R2 p2 σ2 w2 V2 => p2 σ2 (w2.trans w1) V2⟩)⟩⟩
theorem kgw_tup {es : List Expr} {j : Nat} {k : SGs} {n : Nat} {pos : Pos} {vs : List Nat} (hc : Z.X.calm = true) (hk : KGws Z es k vs)
    (hn : (assignEach es Z.X.env).length = n := by rfl) (hst : (assignEach es Z.X.env).findIdx? (·.1) = none := by rfl) : KGw Z (.Tuple es j pos) (gTp n k) vs := ⟨(pg_row hc hk.pgs hn hst).weak fun v σ H Q ⟨ι, env, h, d, R, V, r, p⟩ => by
  obtain ⟨a, xs, ds, ev, q, hl, rs, p⟩ := row_post R r p
  exact q.elim (fun q => .inl ⟨a, xs, ev, q, hl, ι, env, h, ds, R, V, rs, p⟩) fun q => .inr ⟨a, xs, ev, q, hl, ι, env, h, ds, R, V, rs, p⟩⟩

/-- a comprehension's block -/
abbrev Kx.blk (Z : Kx) (s : Shared) (H : Hp) (scope : Scope) (C : Addr) (cl : List (Str × Addr)) (fp : List Addr) : Kx := { X := Z.X.blk s H scope (compEnvC scope cl C Z.X.env) fp, cA := Z.cA, W := fun _ _ _ _ => False }
structure KT (Z : Kx) (ifs : List Expr) (f : SB) : Prop where
  pts : PTs Z.X ifs (tDB Z f)
def sYes : SB := fun _ h => .ok true h
theorem kt_nil : KT Z [] sYes := ⟨⟨fun pins s σ H Q I ⟨ι, env, h, R, V, p⟩ => pts_nil.run pins s σ H Q I (RPost.ok R p)⟩⟩
theorem kt_one {c : Expr} {f : SB} (h : KB Z c f) : KT Z [c] f := ⟨pts_one h.pt⟩
def compI (it : ItD) (g : SG) (t : SB) (f : SE) (env : En) : Nat → Nat → Nat → Hd → Res (List D)
  | 0, _, _, _ => .stuck
  | m + 1, i, n, h => match nextD it h i with
    | none => .stuck
    | some none => .ok [] h
    | some (some d) => (noX (g d env h)).bind fun env1 h1 => (noX (t env1 h1)).bind fun b h2 =>
      if b = true then (noX (f env1 h2)).bind fun y h3 => if n < LIM then (compI it g t f env m (i + 1) (n + 1) h3).bind fun r h4 => .ok (y :: r) h4 else .stuck
      else compI it g t f env m (i + 1) n h2
def sLc (it : SI) (g : SG) (t : SB) (f : SE) (vs : List Nat) : SA := fun env h => (it env h).bind fun j h1 => compI j g t f (wipeD env vs) (turnsD j h1) 0 0 h1
/-- over written-out items -/
def compItems (g : SG) (t : SB) (f : SE) (env : En) : List D → Nat → Hd → Res (List D)
  | [], _, h => .ok [] h
  | d :: ds, n, h => (noX (g d env h)).bind fun env1 h1 => (noX (t env1 h1)).bind fun b h2 =>
    if b = true then (noX (f env1 h2)).bind fun y h3 => if n < LIM then (compItems g t f env ds (n + 1) h3).bind fun r h4 => .ok (y :: r) h4 else .stuck
    else compItems g t f env ds n h2
theorem comp_snap (g : SG) (t : SB) (f : SE) (env : En) (ds : List D) : ∀ (m i n : Nat) (h : Hd), m + i = ds.length → compI (.snap ds) g t f env (m + 1) i n h = compItems g t f env (ds.drop i) n h
  | m, i, n, h, e => by
    unfold compI
    show (match (some ds[i]? : Option (Option D)) with | none => _ | some none => _ | some (some d) => _) = _
    by_cases hi : i < ds.length
    · obtain ⟨k, rfl⟩ : ∃ k, m = k + 1 := ⟨m - 1, by omega⟩
      rw [List.drop_eq_getElem_cons hi, List.getElem?_eq_getElem hi]
      unfold compItems
      dsimp only
      congr 1
      funext env1 h1
      congr 1
      funext b h2
      cases b with
      | false => exact comp_snap g t f env ds k (i + 1) n h2 (by omega)
      | true =>
        show Res.bind _ _ = Res.bind _ _
        congr 1
        funext y h3
        rw [comp_snap g t f env ds k (i + 1) (n + 1) h3 (by omega)]
    · rw [List.drop_eq_nil_of_le (Nat.le_of_not_lt hi), List.getElem?_eq_none (Nat.le_of_not_lt hi)]
      rfl
theorem lim_lt {n : Nat} (h : n < LIM) : n < sizeLine := by rw [sizeLine_eq]; exact h
theorem lc_of {it : SI} {g : SG} {t : SB} {f : SE} {vs : List Nat} {wg : TG} {wt : TT} {we : TE} {σ : St} {H : Hp} {Q : VK}
    (hg : ∀ v σ H Q, (∃ ι env h d, HRep Z.X.K Z.cA ι H h ∧ VRep Z.X.K ι h.length H σ env ∧ Rep Z.X.K ι h.length H v d ∧ RPost Z.X.K Z.cA (fun _ _ _ _ => False) σ ι h H (g d env h) fun env' h' ι' H' => ∀ σ', wipe σ' vs = wipe σ vs → VRep Z.X.K ι' h'.length H' σ' env' → Q σ' H') → wg v σ H Q)
    (ht : ∀ σ H Q, (∃ ι env h, HRep Z.X.K Z.cA ι H h ∧ VRep Z.X.K ι h.length H σ env ∧ RPost Z.X.K Z.cA (fun _ _ _ _ => False) σ ι h H (t env h) fun b h' ι' H' => Q b H') → wt σ H Q)
    (he : ∀ σ H Q, (∃ ι env h, HRep Z.X.K Z.cA ι H h ∧ VRep Z.X.K ι h.length H σ env ∧ RPost Z.X.K Z.cA (fun _ _ _ _ => False) σ ι h H (f env h) fun d h' ι' H' => ∀ v, Rep Z.X.K ι' h'.length H' v d → Q v H') → we σ H Q)
    (q : ∃ ι env h, HRep Z.X.K Z.cA ι H h ∧ VRep Z.X.K ι h.length H σ env ∧
      RPost Z.X.K Z.cA Z.W σ ι h H (sLc it g t f vs env h) fun ds h' ι' H' => ∀ p xs, H p = none → H' p = some (.lst xs) → (∀ m, m < h'.length → p ≠ ι' m) → Reps Z.X.K ι' h'.length H' xs ds → Q (.ref p) H') :
    tLc (fun σ H R => ∃ ι env h, HRep Z.X.K Z.cA ι H h ∧ VRep Z.X.K ι h.length H σ env ∧ RPost Z.X.K Z.cA Z.W σ ι h H (it env h) fun it h' ι' H' => ∀ J, ItOk Z J it ι' h' H' → R J H') wg wt we vs σ H Q := by
  obtain ⟨ι, env, h, R, V, p⟩ := q
  refine ⟨ι, env, h, R, V, (RPost.bind0 p).mono fun j h1 ι1 H1 S1 R1 p1 J ok D hD => ?_⟩
  have hHD : H D = none := none_of_there' S1 hD
  have SD : Step ι1 h1 H1 ι1 h1 (upd H1 D (.lst [])) := Step.aside R1 hD _
  refine ⟨fun i m Hc => ∃ ι' h' acc xacc, Step ι1 h1 H1 ι' h' Hc ∧ HRep Z.X.K Z.cA ι' Hc h' ∧ Hc D = some (.lst xacc) ∧ (∀ m, m < h'.length → D ≠ ι' m) ∧ Reps Z.X.K ι' h'.length Hc xacc acc ∧
      VRep Z.X.K ι' h'.length Hc σ env ∧ RPost Z.X.K Z.cA Z.W σ ι h H (compI j g t f (wipeD env vs) m i acc.length h') fun rest h2 ι2 H2 => ∀ p xs, H p = none → H2 p = some (.lst xs) → (∀ m, m < h2.length → p ≠ ι2 m) → Reps Z.X.K ι2 h2.length H2 xs (acc ++ rest) → Q (.ref p) H2, ?_, ?_⟩
  · refine ⟨turnsD j h1, ι1, h1, [], [], SD, R1.aside hD _, upd_same, fun m hm z => R1.off hD hm z.symm, .nil, (V.step S1 R).step SD R1, ?_⟩
    simpa using p1
  · rintro i m Hc ⟨ι', h', acc, xacc, Sn, R', eD, nD, rs, V', p'⟩
    have So : Step ι h H ι' h' Hc := S1.trans Sn
    obtain ⟨k1, k2⟩ := ok ι' h' Hc Sn R' i
    cases m with
    | zero => exact p'.elim
    | succ m =>
      unfold compI at p'
      cases en : nextD j h' i with
      | none => rw [en] at p'; exact p'.elim
      | some o =>
        rw [en] at p'
        cases o with
        | none =>
          have p' : RPost Z.X.K Z.cA Z.W σ ι h H (.ok [] h') _ := p'
          exact .inl ⟨k2 en, p' ι' Hc So R' D xacc hHD eD nD (by simpa using rs)⟩
        | some d =>
          obtain ⟨go, yl⟩ := k1 d en
          refine .inr ⟨go, fun H2 => ∃ ι' h' acc xacc, Step ι1 h1 H1 ι' h' H2 ∧ HRep Z.X.K Z.cA ι' H2 h' ∧ H2 D = some (.lst xacc) ∧ (∀ m, m < h'.length → D ≠ ι' m) ∧ Reps Z.X.K ι' h'.length H2 xacc acc ∧
            VRep Z.X.K ι' h'.length H2 σ env ∧ RPost Z.X.K Z.cA Z.W σ ι h H (compI j g t f (wipeD env vs) m (i + 1) acc.length h') fun rest h2 ι2 H2 => ∀ p xs, H p = none → H2 p = some (.lst xs) → (∀ m, m < h2.length → p ≠ ι2 m) → Reps Z.X.K ι2 h2.length H2 xs (acc ++ rest) → Q (.ref p) H2,
            fun H2 q => ⟨m, Nat.lt_succ_self _, q⟩, fun x H3 y => ?_⟩
          obtain ⟨S3, R3, r3⟩ := yl x H3 y
          have keepD : ∀ {ι4 : Nat → Addr} {h4 : Hd} {H4 : Hp}, Step ι' h' Hc ι4 h4 H4 → H4 D = some (.lst xacc) ∧ (∀ m, m < h4.length → D ≠ ι4 m) := fun {ι4 h4 H4} S => ⟨S.keep D _ eD nD, fun m hm z => by
            by_cases c : m < h'.length
            · exact nD m c (z.trans (S.eq m c))
            · have := S.fresh m (Nat.le_of_not_lt c) hm
              rw [← z, eD] at this; cases this⟩
          have p3 := RPost.bind1 (So.trans S3) p'
          refine hg x (wipe σ vs) H3 _ ⟨ι', wipeD env vs, h', d, R3, (V'.step S3 R').wipe vs, r3, (RPost.noW p3).mono fun env4 h4 ι4 H4 S4 R4 p4 σ4 w4 V4 => ⟨w4.trans wipe_wipe, ?_⟩⟩
          have S34 := S3.trans S4
          refine ht σ4 H4 _ ⟨ι4, env4, h4, R4, V4, (RPost.noW (RPost.bind1 (So.trans S34) p4)).mono fun b h5 ι5 H5 S5 R5 p5 => ?_⟩
          have S35 := S34.trans S5
          cases b with
          | true =>
            rw [if_pos rfl] at p5 ⊢
            refine he σ4 H5 _ ⟨ι5, env4, h5, R5, V4.step S5 R4, (RPost.noW (RPost.bind1 (So.trans S35) p5)).mono fun y h6 ι6 H6 S6 R6 p6 v r => ?_⟩
            have S36 := S35.trans S6
            obtain ⟨eD6, nD6⟩ := keepD S36
            by_cases c : acc.length < LIM
            · rw [if_pos c] at p6
              have rs6 := rs.step S36 R'
              have t6 := tkeep_write (K := Z.X.K) eD6 (.lst (xacc ++ [v]))
              refine ⟨xacc, eD6, lim_lt (by rw [rs.len]; exact c), ι6, h6, acc ++ [y], xacc ++ [v], (Sn.trans S36).write hD nD6 _, R6.write eD6 nD6 _, upd_same, nD6, (rs6.append (.cons r .nil)).keep t6 (Nat.le_refl _) fun _ _ => rfl, ?_, ?_⟩
              · have q := V'.step S36 R'
                exact ⟨q.len, fun j d e => by
                  obtain ⟨v, e1, r⟩ := q.var j d e
                  exact ⟨v, e1, r.keep t6 (Nat.le_refl _) fun _ _ => rfl⟩⟩
              · have p7 := RPost.bind0 p6
                rw [List.length_append]
                refine p7.mono fun rest h7 ι7 H7 S7 R7 p8 p xs e1 e2 e3 e4 => ?_
                have e4' : Reps Z.X.K ι7 h7.length H7 xs (acc ++ y :: rest) := by
                  have z : acc ++ y :: rest = acc ++ [y] ++ rest := by simp
                  rw [z]; exact e4
                exact (show RPost Z.X.K Z.cA Z.W σ ι h H (.ok (y :: rest) h7) _ from p8) ι7 H7 S7 R7 p xs e1 e2 e3 e4'
            · rw [if_neg c] at p6; exact p6.elim
          | false =>
            rw [if_neg Bool.false_ne_true] at p5 ⊢
            obtain ⟨eD5, nD5⟩ := keepD S35
            exact ⟨ι5, h5, acc, xacc, Sn.trans S35, R5, eD5, nD5, rs.step S35 R', V'.step S35 R', p5⟩

theorem RsPost.of0 {Dd : Ends} {σ : St} {ι : Nat → Addr} {H : Hp} {h : Hd} {α : Type} {r : Res α} {env : En} {k : α → Hd → Rs} (R : HRep Z.X.K Z.cA ι H h) (V : VRep Z.X.K ι h.length H σ env) (p : RsPost Z Dd ι h H (r.lift env k)) :
    RPost Z.X.K Z.cA Z.W σ ι h H r fun a h1 _ _ => RsPost Z Dd ι h H (k a h1) := by
  cases r with
  | ok a h1 => exact fun ι' H' S R' => p
  | exc c fs h1 => exact fun ι' H' cls od S R' x => p ι' H' S R' σ cls od (V.step S R) x
  | stuck => exact p
theorem kl_lc {elt tg iter : Expr} {ifs : List Expr} {scope : Scope} {own : List (Str × Nat)} {pos : Pos} {it : SI} {g : SG} {t : SB} {f : SE} (hc : Z.X.calm = true) (hN : Z.X.N.Nodup) (hi : KI Z tg iter it) (ok : BlkOk Z.X.N Z.X.env.scope scope own)
    (hg : ∀ s H C cl fp, KGw (Z.blk s H scope C cl fp) tg g (own.map (·.2))) (ht : ∀ s H C cl fp, KT (Z.blk s H scope C cl fp) ifs t) (he : ∀ s H C cl fp, KE (Z.blk s H scope C cl fp) elt f)
    (hs : ∀ x, foldedSetIterable iter Z.X.env x = pure x := by intro _; rfl) : KL Z (.ListComp elt [⟨tg, iter, ifs, 0⟩] scope pos) (sLc it g t f (own.map (·.2))) :=
  ⟨(pe_lc hc hN hi.pi ok (fun s H C cl fp => (hg s H C cl fp).pg) (fun s H C cl fp => (ht s H C cl fp).pts) (fun s H C cl fp => (he s H C cl fp).pe) hs).weak fun σ H Q q =>
    lc_of (fun _ _ _ _ q => q) (fun _ _ _ q => q) (fun _ _ _ q => q) q⟩
theorem ks_setLc {i : Nat} {y : Str} {py : Pos} {elt tg iter : Expr} {ifs : List Expr} {scope : Scope} {own : List (Str × Nat)} {pos spos : Pos} {it : SI} {g : SG} {t : SB} {f : SE} (hc : Z.X.calm = true) (hN : Z.X.N.Nodup) (hy : Z.X.N[i]? = some y) (hyl : Z.X.env.scope.names.lookup y = some .local)
    (hsw : swapsWith (.ListComp elt [⟨tg, iter, ifs, 0⟩] scope pos) (some (.Name y py)) spos.line Z.X.env = pure true) (hi : KI Z tg iter it) (ok : BlkOk Z.X.N Z.X.env.scope scope own)
    (hg : ∀ s H C cl fp, KGw (Z.blk s H scope C cl fp) tg g (own.map (·.2))) (ht : ∀ s H C cl fp, KT (Z.blk s H scope C cl fp) ifs t) (he : ∀ s H C cl fp, KE (Z.blk s H scope C cl fp) elt f)
    (hs : ∀ x, foldedSetIterable iter Z.X.env x = pure x := by intro _; rfl) : KS Z (.Assign [.Name y py] (.ListComp elt [⟨tg, iter, ifs, 0⟩] scope pos) spos) (sAsg (sNew (sLc it g t f (own.map (·.2)))) (gN i)) :=
  ⟨(ps_setLc hc hN hy hyl hsw hi.pi ok (fun s H C cl fp => (hg s H C cl fp).pg) (fun s H C cl fp => (ht s H C cl fp).pts) (fun s H C cl fp => (he s H C cl fp).pe) hs).weak fun Dd σ H ⟨ι, env, h, R, V, p⟩ => by
    refine lc_of (fun _ _ _ _ q => q) (fun _ _ _ q => q) (fun _ _ _ q => q) ⟨ι, env, h, R, V, (RPost.bind0 (RsPost.of0 R V p)).mono fun ds h1 ι1 H1 S1 R1 p1 a vs hH ea hn rs => ?_⟩
    have V2 := V.step (S1.take hH (.lst ds)) R
    have r : Rep Z.X.K (more ι1 h1.length a) (h1 ++ [O.lst ds]).length H1 (.ref (more ι1 h1.length a h1.length)) (.ref h1.length) := .ref (by simp)
    rw [more_at] at r
    exact (show RPost Z.X.K Z.cA Z.W σ ι h H (.ok (D.ref h1.length) (h1 ++ [.lst ds])) (fun d h2 _ _ => RsPost Z Dd ι h H ((noX (gN i d env h2)).lift env fun env' h2 => Rs.ok (Fl.nx env') h2)) from p1) _ H1 (S1.take hH _) (R1.take ea hn (.lst rs)) _ H1 (S1.take hH _) (R1.take ea hn (.lst rs)) _ (V2.set r)⟩
end
end Kf
end
section
set_option maxHeartbeats 4000000
/-! Kf: operators. -/
namespace Kf
open PySem PySem.Spec L2
/-! ### what data a value is -/
def allS {α : Type} : List (Option α) → Option (List α)
  | [] => some []
  | some x :: xs => (allS xs).map (x :: ·)
  | none :: _ => none
def py (h : Hd) : Nat → D → Option PyData
  | 0, _ => none
  | _ + 1, .non => some .none
  | _ + 1, .bl b => some (.bool b)
  | _ + 1, .int i => some (.int i)
  | _ + 1, .str s => some (.str (Str.ofString s))
  | _ + 1, .raw s => if PyData.strOk s = true then some (.str s) else none
  | n + 1, .tup ds => (allS (ds.map (py h n))).map .tuple
  | n + 1, .fls ds => (allS (ds.map (py h n))).map .list
  | n + 1, .ref m => match h[m]? with
    | some (.lst ds) => (allS (ds.map (py h n))).map .list
    | _ => none
  | _ + 1, .xc _ _ _ _ => none
theorem allS_some {α β : Type} {f : α → Option β} : ∀ {xs : List α} {ys : List β}, allS (xs.map f) = some ys → Paired (fun x y => f x = some y) xs ys
  | [], ys, e => by simp [allS] at e; subst e; exact .nil
  | x :: xs, ys, e => by
    simp only [List.map_cons] at e
    cases q : f x with
    | none => rw [q] at e; simp [allS] at e
    | some y =>
      rw [q] at e
      simp only [allS, Option.map_eq_some_iff] at e
      obtain ⟨zs, e1, e2⟩ := e
      subst e2
      exact .cons q (allS_some e1)
section
variable {K : PySem.W.Frag} {cA : CA} {ι : Nat → Addr} {H : Hp} {h : Hd}
theorem strOk_of (s : String) : PyData.strOk (Str.ofString s) = true := by
  rw [Str.ofString_eq_toList]
  unfold PyData.strOk
  simp only [List.all_toArray, List.all_map, List.all_eq_true]
  intro c _
  have := c.valid
  have h2 : c.toNat < 0x110000 := by
    have : c.val.toNat < 0x110000 := by
      rcases c.valid with h | h
      · exact Nat.lt_trans h (by decide)
      · exact h.2
    exact this
  simpa using h2
theorem py_ok : ∀ {n : Nat} {d : D} {p : PyData}, py h n d = some p → p.canLay0 = true ∧ p.depth ≤ n
  | 0, d, p, e => by simp [py] at e
  | n + 1, .non, p, e => by simp [py] at e; subst e; exact ⟨rfl, Nat.zero_le _⟩
  | n + 1, .bl _, p, e => by simp [py] at e; subst e; exact ⟨rfl, Nat.zero_le _⟩
  | n + 1, .int _, p, e => by simp [py] at e; subst e; exact ⟨rfl, Nat.zero_le _⟩
  | n + 1, .str s, p, e => by simp [py] at e; subst e; exact ⟨strOk_of s, Nat.zero_le _⟩
  | n + 1, .raw s, p, e => by simp [py] at e; obtain ⟨e1, e⟩ := e; subst e; exact ⟨e1, Nat.zero_le _⟩
  | n + 1, .tup ds, p, e => by
    simp only [py, Option.map_eq_some_iff] at e
    obtain ⟨ys, e1, e2⟩ := e
    subst e2
    have q := allS_some e1
    have r : PyData.canLayAll0 ys = true ∧ PyData.depthAll ys ≤ n := by
      clear e1
      induction q with
      | nil => exact ⟨rfl, Nat.zero_le _⟩
      | cons z _ ih =>
        have ⟨z1, z2⟩ := py_ok z
        exact ⟨by simp [PyData.canLayAll0, z1, ih.1], by simp only [PyData.depthAll]; omega⟩
    exact ⟨by simpa [PyData.canLay0] using r.1, by have := r.2; simp only [PyData.depth]; omega⟩
  | n + 1, .fls ds, p, e => by
    simp only [py, Option.map_eq_some_iff] at e
    obtain ⟨ys, e1, e2⟩ := e
    subst e2
    have q := allS_some e1
    have r : PyData.canLayAll0 ys = true ∧ PyData.depthAll ys ≤ n := by
      clear e1
      induction q with
      | nil => exact ⟨rfl, Nat.zero_le _⟩
      | cons z _ ih =>
        have ⟨z1, z2⟩ := py_ok z
        exact ⟨by simp [PyData.canLayAll0, z1, ih.1], by simp only [PyData.depthAll]; omega⟩
    exact ⟨by simpa [PyData.canLay0] using r.1, by have := r.2; simp only [PyData.depth]; omega⟩
  | n + 1, .xc _ _ _ _, p, e => by simp [py] at e
  | n + 1, .ref m, p, e => by
    unfold py at e
    cases hm : h[m]? with
    | none => rw [hm] at e; simp at e
    | some o =>
      rw [hm] at e
      cases o with
      | lst ds =>
        simp only [Option.map_eq_some_iff] at e
        obtain ⟨ys, e1, e2⟩ := e
        subst e2
        have q := allS_some e1
        have r : PyData.canLayAll0 ys = true ∧ PyData.depthAll ys ≤ n := by
          clear e1 hm
          induction q with
          | nil => exact ⟨rfl, Nat.zero_le _⟩
          | cons z _ ih =>
            have ⟨z1, z2⟩ := py_ok z
            exact ⟨by simp [PyData.canLayAll0, z1, ih.1], by simp only [PyData.depthAll]; omega⟩
        exact ⟨by simpa [PyData.canLay0] using r.1, by have := r.2; simp only [PyData.depth]; omega⟩
      | dict _ => simp at e
      | lkd _ => simp at e
      | ins _ _ => simp at e
theorem py_shaped {n : Nat} {d : D} {p : PyData} (hn : n ≤ 64) (e : py h n d = some p) : SeqAt.shaped p = true := by
  obtain ⟨a, b⟩ := py_ok e
  unfold SeqAt.shaped
  rw [a, decide_eq_true (by omega)]
  rfl
theorem py_dp (R : HRep K cA ι H h) : ∀ {n : Nat} {d : D} {p : PyData} {v : V}, py h n d = some p → Rep K ι h.length H v d → Dp K H v p
  | 0, d, p, v, e, _ => by simp [py] at e
  | n + 1, .non, p, v, e, r => by simp [py] at e; subst e; cases r; exact .non
  | n + 1, .bl _, p, v, e, r => by simp [py] at e; subst e; cases r; exact .bl _
  | n + 1, .int _, p, v, e, r => by simp [py] at e; subst e; cases r; exact .int _
  | n + 1, .str s, p, v, e, r => by simp [py] at e; subst e; cases r; exact .str _
  | n + 1, .raw s, p, v, e, r => by simp [py] at e; obtain ⟨_, e⟩ := e; subst e; cases r; exact .str _
  | n + 1, .tup ds, p, v, e, r => by
    simp only [py, Option.map_eq_some_iff] at e
    obtain ⟨ys, e1, e2⟩ := e
    subst e2
    cases r with
    | tup q rs =>
      refine .tup q ?_
      have w := allS_some e1
      clear e1 q
      rename_i a xs
      induction w generalizing xs with
      | nil => cases rs; exact .nil
      | cons z _ ih => cases rs with | cons r1 r2 => exact .cons (py_dp R z r1) (ih r2)
  | n + 1, .fls ds, p, v, e, r => by
    simp only [py, Option.map_eq_some_iff] at e
    obtain ⟨ys, e1, e2⟩ := e
    subst e2
    cases r with
    | fls q rs =>
      refine .lst q.sql ?_
      have w := allS_some e1
      clear e1 q
      rename_i a xs
      induction w generalizing xs with
      | nil => cases rs; exact .nil
      | cons z _ ih => cases rs with | cons r1 r2 => exact .cons (py_dp R z r1) (ih r2)
  | n + 1, .xc _ _ _ _, p, v, e, r => by simp [py] at e
  | n + 1, .ref m, p, v, e, r => by
    unfold py at e
    cases hm : h[m]? with
    | none => rw [hm] at e; simp at e
    | some o =>
      rw [hm] at e
      cases o with
      | lst ds =>
        simp only [Option.map_eq_some_iff] at e
        obtain ⟨ys, e1, e2⟩ := e
        subst e2
        cases r with
        | ref hlt =>
          obtain ⟨ho, e3, ro⟩ := R.obj m _ hm
          cases ro with
          | lst rs =>
            refine .lst (.of e3) ?_
            have w := allS_some e1
            clear e1 e3 hm hlt
            rename_i xs
            induction w generalizing xs with
            | nil => cases rs; exact .nil
            | cons z _ ih => cases rs with | cons r1 r2 => exact .cons (py_dp R z r1) (ih r2)
      | dict _ => simp at e
      | lkd _ => simp at e
      | ins _ _ => simp at e
end

section
variable {Z : Kx}
open PySem.SeqAt PySem.W
/-! ### comparisons of data -/
def f2P (g : PyData → PyData → Option Bool) : F2 := fun x y h => match py h 60 x, py h 60 y with
  | some p, some q => match g p q with
    | some b => .ok (.bl b) h
    | none => .stuck
  | _, _ => .stuck
abbrev eqF : F2 := f2P fun p q => some (PyData.eqv p q)
abbrev neF : F2 := f2P fun p q => some (!PyData.eqv p q)
def isNonP : PyData → Bool
  | .none => true
  | _ => false
def cmpG (r : PyData → PyData → Bool) : PyData → PyData → Option Bool := fun p q => if alike p q = true ∧ isNonP p = false then some (r p q) else none
abbrev ltF : F2 := f2P (cmpG fun p q => dataLt p q)
abbrev gtF : F2 := f2P (cmpG fun p q => dataLt q p)
abbrev leF : F2 := f2P (cmpG fun p q => !dataLt q p)
abbrev geF : F2 := f2P (cmpG fun p q => !dataLt p q)
theorem f2P_post {g : PyData → PyData → Option Bool} {σ : St} {ι : Nat → Addr} {h : Hd} {H : Hp} {dx dy : D} {P : D → Hd → (Nat → Addr) → Hp → Prop} (R : HRep Z.X.K Z.cA ι H h) (p : RPost Z.X.K Z.cA Z.W σ ι h H (f2P g dx dy h) P) :
    ∃ a b c, py h 60 dx = some a ∧ py h 60 dy = some b ∧ g a b = some c ∧ P (.bl c) h ι H := by
  unfold f2P at p
  cases e1 : py h 60 dx with
  | none => rw [e1] at p; exact p.elim
  | some a =>
    cases e2 : py h 60 dy with
    | none => rw [e1, e2] at p; exact p.elim
    | some b =>
      rw [e1, e2] at p
      have p : RPost Z.X.K Z.cA Z.W σ ι h H (match g a b with | some b => .ok (.bl b) h | none => .stuck) P := p
      cases e3 : g a b with
      | none => rw [e3] at p; exact p.elim
      | some c => rw [e3] at p; exact ⟨a, b, c, rfl, rfl, e3, RPost.ok R p⟩
theorem ko_eq (hu : Z.X.A.units + 64 < cLine) : OpK Z (compareOp .Eq) eqF := ⟨_, op_eqD hu, fun σ ι h H x y dx dy Q R rx ry p => by
  obtain ⟨a, b, c, e1, e2, e3, q⟩ := f2P_post R p
  cases e3
  exact ⟨a, b, py_dp R e1 rx, py_dp R e2 ry, py_shaped (by decide) e1, py_shaped (by decide) e2, q _ .bl⟩⟩
theorem ko_ne (hu : Z.X.A.units + 64 < cLine) : OpK Z (compareOp .NotEq) neF := ⟨_, op_neD hu, fun σ ι h H x y dx dy Q R rx ry p => by
  obtain ⟨a, b, c, e1, e2, e3, q⟩ := f2P_post R p
  cases e3
  exact ⟨a, b, py_dp R e1 rx, py_dp R e2 ry, py_shaped (by decide) e1, py_shaped (by decide) e2, q _ .bl⟩⟩
def rCmp (K : PySem.W.Frag) (r : PyData → PyData → Bool) : R2 := fun x y H Q => ∃ a b, Dp K H x a ∧ Dp K H y b ∧ alike a b = true ∧ a ≠ .none ∧ a.depth ≤ 64 ∧ Q (.bl (r a b)) H
theorem isNonP_ne {p : PyData} (h : isNonP p = false) : p ≠ .none := by intro e; subst e; cases h
theorem ko_cmp {op : CmpOp} {r : PyData → PyData → Bool} (o : OpR Z.X (compareOp op) (rCmp Z.X.K r)) : OpK Z (compareOp op) (f2P (cmpG r)) := ⟨_, o, fun σ ι h H x y dx dy Q R rx ry p => by
  obtain ⟨a, b, c, e1, e2, e3, q⟩ := f2P_post R p
  unfold cmpG at e3
  split at e3
  · rename_i hc
    cases e3
    exact ⟨a, b, py_dp R e1 rx, py_dp R e2 ry, hc.1, isNonP_ne hc.2, by have := (py_ok e1).2; omega, q _ .bl⟩
  · cases e3⟩
theorem room_min {u a b : Nat} (h : u + 64 < cLine) (ha : a ≤ 64) : u + min a b < cLine := by
  have := Nat.min_le_left a b
  omega
theorem ko_ltD (hu : Z.X.A.units + 64 < cLine) : OpK Z (compareOp .Lt) ltF := ko_cmp fun pins s σ H x y v u Q I rx ry ⟨a, b, ha, hb, hl, hn, hd, q⟩ => by
  obtain ⟨as, r1⟩ := Dp.reads I a x v ha rx
  obtain ⟨bs, r2⟩ := Dp.reads I b y u hb ry
  exact lt_data r1 r2 hl hn (room_min hu hd) ⟨.bl _, H, I, rfl, q⟩
theorem ko_gtD (hu : Z.X.A.units + 64 < cLine) : OpK Z (compareOp .Gt) gtF := ko_cmp fun pins s σ H x y v u Q I rx ry ⟨a, b, ha, hb, hl, hn, hd, q⟩ => by
  obtain ⟨as, r1⟩ := Dp.reads I a x v ha rx
  obtain ⟨bs, r2⟩ := Dp.reads I b y u hb ry
  exact gt_data r1 r2 hl hn (room_min hu hd) ⟨.bl _, H, I, rfl, q⟩
theorem ko_leD (hu : Z.X.A.units + 64 < cLine) : OpK Z (compareOp .LtE) leF := ko_cmp fun pins s σ H x y v u Q I rx ry ⟨a, b, ha, hb, hl, hn, hd, q⟩ => by
  obtain ⟨as, r1⟩ := Dp.reads I a x v ha rx
  obtain ⟨bs, r2⟩ := Dp.reads I b y u hb ry
  exact le_data r1 r2 hl hn (room_min hu hd) ⟨.bl _, H, I, rfl, q⟩
theorem ko_geD (hu : Z.X.A.units + 64 < cLine) : OpK Z (compareOp .GtE) geF := ko_cmp fun pins s σ H x y v u Q I rx ry ⟨a, b, ha, hb, hl, hn, hd, q⟩ => by
  obtain ⟨as, r1⟩ := Dp.reads I a x v ha rx
  obtain ⟨bs, r2⟩ := Dp.reads I b y u hb ry
  exact ge_data r1 r2 hl hn (room_min hu hd) ⟨.bl _, H, I, rfl, q⟩
def isNonD : D → Bool
  | .non => true
  | _ => false
theorem isNon_rep {K : PySem.W.Frag} {ι : Nat → Addr} {n : Nat} {H : Hp} {x : V} {d : D} (r : Rep K ι n H x d) : decide (x = .non) = isNonD d := by cases r <;> simp [isNonD]
def isF : F2 := fun x y h => match y with | .non => .ok (.bl (isNonD x)) h | _ => .stuck
def notF : F2 := fun x y h => match y with | .non => .ok (.bl (!isNonD x)) h | _ => .stuck
theorem ko_is : OpK Z (compareOp .Is) isF := ⟨_, op_isN, fun σ ι h H x y dx dy Q R rx ry p => by
  cases ry with
  | non => exact ⟨rfl, by rw [isNon_rep rx]; exact RPost.ok R p _ .bl⟩
  | bl => exact p.elim
  | int => exact p.elim
  | str => exact p.elim
  | raw => exact p.elim
  | xc0 => exact p.elim
  | xc _ _ => exact p.elim
  | fls _ _ => exact p.elim
  | tup _ _ => exact p.elim
  | ref _ => exact p.elim⟩
theorem ko_isnot : OpK Z (compareOp .IsNot) notF := ⟨_, op_notN, fun σ ι h H x y dx dy Q R rx ry p => by
  cases ry with
  | non => exact ⟨rfl, by rw [isNon_rep rx]; exact RPost.ok R p _ .bl⟩
  | bl => exact p.elim
  | int => exact p.elim
  | str => exact p.elim
  | raw => exact p.elim
  | xc0 => exact p.elim
  | xc _ _ => exact p.elim
  | fls _ _ => exact p.elim
  | tup _ _ => exact p.elim
  | ref _ => exact p.elim⟩
/-! ### arithmetic -/
theorem ko_mul : OpK Z (binaryOp .Mult) (f2I (fun i j => (decide (-(18446744073709551616) < i) && decide (i < 18446744073709551616)) || (decide (-(18446744073709551616) < j) && decide (j < 18446744073709551616))) fun i j => .int (i * j)) :=
  .ints op_mul (fun i j c => by
    simp only [Bool.or_eq_true, Bool.and_eq_true, decide_eq_true_eq] at c
    have e : (2 : Int) ^ 64 = 18446744073709551616 := by decide
    unfold CMul
    rw [e]; exact c) fun _ _ _ _ _ => .int
theorem ko_fdiv : OpK Z (binaryOp .FloorDiv) (f2I (fun _ j => decide (0 < j) && decide (j < 1073741824)) fun i j => .int (i / j)) :=
  .ints op_fdiv (fun i j c => by simpa [CDiv] using c) fun _ _ _ _ _ => .int
theorem ko_pow : OpK Z (binaryOp .Pow) (f2I (fun i j => decide (0 ≤ j) && decide (j ≤ 1000000) && decide (i.natAbs < 18446744073709551616)) fun i j => .int (i ^ j.toNat)) :=
  .ints op_pow (fun i j c => by
    simp only [Bool.and_eq_true, decide_eq_true_eq] at c
    have e : (2 : Nat) ^ 64 = 18446744073709551616 := by decide
    unfold CPow
    rw [e]; exact ⟨c.1.1, c.1.2, c.2⟩) fun _ _ _ _ _ => .int
/-! ### + of texts and tuples -/
theorem ofString_append (s t : String) : Str.ofString (s ++ t) = Str.ofString s ++ Str.ofString t := by
  rw [Str.ofString_eq_toList, Str.ofString_eq_toList, Str.ofString_eq_toList]
  show _ = Str.append _ _
  unfold Str.append
  simp
theorem ofString_length (s : String) : (Str.ofString s).length = s.length := by
  rw [Str.ofString_eq_toList]
  simp [Str.length, String.length_toList]
def addS : F2 := fun x y h => match x, y with | .str s, .str t => if s.length + t.length ≤ LIM then .ok (.str (s ++ t)) h else .stuck | _, _ => .stuck
def addT : F2 := fun x y h => match x, y with | .tup s, .tup t => if s.length + t.length ≤ LIM then .ok (.tup (s ++ t)) h else .stuck | _, _ => .stuck
theorem ko_addS : OpK Z (binaryOp .Add) addS := ⟨_, op_add_str, fun σ ι h H x y dx dy Q R rx ry p => by
  cases rx <;> cases ry <;> first | exact p.elim | skip
  rename_i s t
  have p : RPost Z.X.K Z.cA Z.W σ ι h H (if s.length + t.length ≤ LIM then .ok (D.str (s ++ t)) h else .stuck) _ := p
  by_cases c : s.length + t.length ≤ LIM
  · rw [if_pos c] at p
    exact ⟨_, _, rfl, rfl, by rw [ofString_length, ofString_length]; exact lim_le c, by
      rw [← ofString_append]; exact RPost.ok R p _ .str⟩
  · rw [if_neg c] at p; exact p.elim⟩
theorem ko_addT : OpK Z (binaryOp .Add) addT := ⟨_, op_catA, fun σ ι h H x y dx dy Q R rx ry p => by
  cases rx <;> cases ry <;> first | exact p.elim | skip
  rename_i a xs s q1 rs b ys t q2 rt
  have p : RPost Z.X.K Z.cA Z.W σ ι h H (if s.length + t.length ≤ LIM then .ok (D.tup (s ++ t)) h else .stuck) _ := p
  by_cases c : s.length + t.length ≤ LIM
  · rw [if_pos c] at p
    refine ⟨a, b, xs, ys, rfl, rfl, q1, q2, by rw [rs.len, rt.len]; exact lim_le c, fun e => ?_, fun _ e => ?_, fun _ _ a ha => ?_⟩
    · subst e
      cases rs
      exact RPost.ok R p _ (.tup q2 rt)
    · subst e
      cases rt
      rw [List.append_nil] at p
      exact RPost.ok R p _ (.tup q1 rs)
    · have S2 := Step.aside R ha (.tup (xs ++ ys))
      exact p ι _ S2 (R.aside ha _) _ (.tup (.of upd_same) ((rs.append rt).step S2 R))
  · rw [if_neg c] at p; exact p.elim⟩
/-- + of ints, texts, tuples -/
def addF : F2 := fun x y h => match x with
  | .int _ => f2I yes2 (fun i j => .int (i + j)) x y h
  | .str _ => addS x y h
  | .tup _ => addT x y h
  | _ => .stuck
theorem ko_plus : OpK Z (binaryOp .Add) addF := .alt ko_add (.alt ko_addS ko_addT (M := fun x y h => match x with | .str _ => addS x y h | _ => addT x y h) fun x y h => by cases x <;> simp) fun x y h => by
  cases x <;> simp [addF, f2I, addS, addT]
end

/-! ### results by cases -/
def onSome {α β : Type} (o : Option α) (k : α → Res β) : Res β := match o with | some a => k a | none => .stuck
@[simp] theorem onSome_some {α β : Type} (a : α) (k : α → Res β) : onSome (some a) k = k a := id rfl
def asInt {β : Type} (d : D) (k : Int → Res β) : Res β := match d with | .int i => k i | _ => .stuck
@[simp] theorem asInt_int {β : Type} (i : Int) (k : Int → Res β) : asInt (.int i) k = k i := id rfl
def asTup {β : Type} (d : D) (k : List D → Res β) : Res β := match d with | .tup i => k i | _ => .stuck
@[simp] theorem asTup_tup {β : Type} (i : List D) (k : List D → Res β) : asTup (.tup i) k = k i := id rfl
def asStr {β : Type} (d : D) (k : String → Res β) : Res β := match d with | .str i => k i | _ => .stuck
@[simp] theorem asStr_str {β : Type} (i : String) (k : String → Res β) : asStr (.str i) k = k i := id rfl
def asRef {β : Type} (d : D) (k : Nat → Res β) : Res β := match d with | .ref i => k i | _ => .stuck
@[simp] theorem asRef_ref {β : Type} (i : Nat) (k : Nat → Res β) : asRef (.ref i) k = k i := id rfl
def asBl {β : Type} (d : D) (k : Bool → Res β) : Res β := match d with | .bl i => k i | _ => .stuck
@[simp] theorem asBl_bl {β : Type} (i : Bool) (k : Bool → Res β) : asBl (.bl i) k = k i := id rfl
def onLst {β : Type} (h : Hd) (m : Nat) (k : List D → Res β) : Res β := match h[m]? with | some (.lst ds) => k ds | _ => .stuck
theorem onLst_of {β : Type} {h : Hd} {m : Nat} {ds : List D} (e : h[m]? = some (.lst ds)) (k : List D → Res β) : onLst h m k = k ds := by unfold onLst; rw [e]
def onDict {β : Type} (h : Hd) (m : Nat) (k : List (D × D) → Res β) : Res β := match h[m]? with | some (.dict ds) => k ds | _ => .stuck
theorem onDict_of {β : Type} {h : Hd} {m : Nat} {ds : List (D × D)} (e : h[m]? = some (.dict ds)) (k : List (D × D) → Res β) : onDict h m k = k ds := by unfold onDict; rw [e]
def onIns {β : Type} (h : Hd) (m : Nat) (k : String → List (String × D) → Res β) : Res β := match h[m]? with | some (.ins c fs) => k c fs | _ => .stuck
theorem onIns_of {β : Type} {h : Hd} {m : Nat} {c : String} {fs : List (String × D)} (e : h[m]? = some (.ins c fs)) (k : String → List (String × D) → Res β) : onIns h m k = k c fs := by unfold onIns; rw [e]
def guard' {β : Type} (c : Prop) [Decidable c] (r : Res β) : Res β := if c then r else .stuck
theorem guard_of {β : Type} {c : Prop} [Decidable c] (hc : c) (r : Res β) : guard' c r = r := if_pos hc
def fa1 {β : Type} (g : D → Hd → Res β) : List D → Hd → Res β := fun ds h => match ds with | [d] => g d h | _ => .stuck
@[simp] theorem fa1_one {β : Type} (g : D → Hd → Res β) (d : D) (h : Hd) : fa1 g [d] h = g d h := id rfl
def fa2 {β : Type} (g : D → D → Hd → Res β) : List D → Hd → Res β := fun ds h => match ds with | [d, e] => g d e h | _ => .stuck
@[simp] theorem fa2_two {β : Type} (g : D → D → Hd → Res β) (d e : D) (h : Hd) : fa2 g [d, e] h = g d e h := id rfl
section
variable {K : PySem.W.Frag} {cA : CA} {W : WX} {σ : St} {ι : Nat → Addr} {H : Hp} {h : Hd} {α β : Type} {P : β → Hd → (Nat → Addr) → Hp → Prop}
theorem RPost.onSome {o : Option α} {k : α → Res β} (p : RPost K cA W σ ι h H (onSome o k) P) : ∃ a, o = some a ∧ RPost K cA W σ ι h H (k a) P := by
  cases o with
  | none => exact p.elim
  | some a => exact ⟨a, rfl, p⟩
theorem RPost.asInt {d : D} {k : Int → Res β} (p : RPost K cA W σ ι h H (asInt d k) P) : ∃ i, d = .int i ∧ RPost K cA W σ ι h H (k i) P := by
  cases d <;> first | exact ⟨_, rfl, p⟩ | exact p.elim
theorem RPost.asTup {d : D} {k : List D → Res β} (p : RPost K cA W σ ι h H (asTup d k) P) : ∃ i, d = .tup i ∧ RPost K cA W σ ι h H (k i) P := by
  cases d <;> first | exact ⟨_, rfl, p⟩ | exact p.elim
theorem RPost.asStr {d : D} {k : String → Res β} (p : RPost K cA W σ ι h H (asStr d k) P) : ∃ i, d = .str i ∧ RPost K cA W σ ι h H (k i) P := by
  cases d <;> first | exact ⟨_, rfl, p⟩ | exact p.elim
theorem RPost.asRef {d : D} {k : Nat → Res β} (p : RPost K cA W σ ι h H (asRef d k) P) : ∃ i, d = .ref i ∧ RPost K cA W σ ι h H (k i) P := by
  cases d <;> first | exact ⟨_, rfl, p⟩ | exact p.elim
theorem RPost.asBl {d : D} {k : Bool → Res β} (p : RPost K cA W σ ι h H (asBl d k) P) : ∃ i, d = .bl i ∧ RPost K cA W σ ι h H (k i) P := by
  cases d <;> first | exact ⟨_, rfl, p⟩ | exact p.elim
theorem RPost.onLst {h2 : Hd} {m : Nat} {k : List D → Res β} (p : RPost K cA W σ ι h H (onLst h2 m k) P) : ∃ ds, h2[m]? = some (.lst ds) ∧ RPost K cA W σ ι h H (k ds) P := by
  unfold Kf.onLst at p
  cases e : h2[m]? with
  | none => rw [e] at p; exact p.elim
  | some o => rw [e] at p; cases o <;> first | exact ⟨_, rfl, p⟩ | exact p.elim
theorem RPost.onDict {h2 : Hd} {m : Nat} {k : List (D × D) → Res β} (p : RPost K cA W σ ι h H (onDict h2 m k) P) : ∃ ds, h2[m]? = some (.dict ds) ∧ RPost K cA W σ ι h H (k ds) P := by
  unfold Kf.onDict at p
  cases e : h2[m]? with
  | none => rw [e] at p; exact p.elim
  | some o => rw [e] at p; cases o <;> first | exact ⟨_, rfl, p⟩ | exact p.elim
theorem RPost.onIns {h2 : Hd} {m : Nat} {k : String → List (String × D) → Res β} (p : RPost K cA W σ ι h H (onIns h2 m k) P) : ∃ c fs, h2[m]? = some (.ins c fs) ∧ RPost K cA W σ ι h H (k c fs) P := by
  unfold Kf.onIns at p
  cases e : h2[m]? with
  | none => rw [e] at p; exact p.elim
  | some o => rw [e] at p; cases o <;> first | exact ⟨_, _, rfl, p⟩ | exact p.elim
theorem RPost.guard {c : Prop} [Decidable c] {r : Res β} (p : RPost K cA W σ ι h H (guard' c r) P) : c ∧ RPost K cA W σ ι h H r P := by
  unfold guard' at p
  by_cases q : c
  · rw [if_pos q] at p; exact ⟨q, p⟩
  · rw [if_neg q] at p; exact p.elim
theorem RPost.fa1 {g : D → Hd → Res β} {ds : List D} {h2 : Hd} (p : RPost K cA W σ ι h H (fa1 g ds h2) P) : ∃ d, ds = [d] ∧ RPost K cA W σ ι h H (g d h2) P := by
  match ds, p with
  | [], p => exact p.elim
  | [d], p => exact ⟨d, rfl, p⟩
  | _ :: _ :: _, p => exact p.elim
theorem RPost.fa2 {g : D → D → Hd → Res β} {ds : List D} {h2 : Hd} (p : RPost K cA W σ ι h H (fa2 g ds h2) P) : ∃ d e, ds = [d, e] ∧ RPost K cA W σ ι h H (g d e h2) P := by
  match ds, p with
  | [], p => exact p.elim
  | [d], p => exact p.elim
  | [d, e], p => exact ⟨d, e, rfl, p⟩
  | _ :: _ :: _ :: _, p => exact p.elim
end
end Kf
end
section
set_option maxHeartbeats 4000000
/-! Kf: subscripts, slices, calls of built-ins. -/
namespace Kf
open PySem PySem.Spec L2
section
variable {K : PySem.W.Frag} {cA : CA} {ι : Nat → Addr} {n : Nat} {H : Hp} {h : Hd}
theorem items_rep (R : HRep K cA ι H h) {v : V} {d : D} {ds : List D} (r : Rep K ι h.length H v d) (e : itemsD h d = some ds) : ∃ a xs, v = .ref a ∧ (SqL K H a xs ∨ SqT K H a xs) ∧ Reps K ι h.length H xs ds := by
  cases r with
  | tup q rs => cases e; exact ⟨_, _, rfl, .inr q, rs⟩
  | fls q rs => cases e; exact ⟨_, _, rfl, .inl q.sql, rs⟩
  | ref hlt =>
    rename_i m
    have e : (match h[m]? with | some (O.lst ds) => some ds | _ => none) = some ds := e
    cases hm : h[m]? with
    | none => rw [hm] at e; cases e
    | some o =>
      rw [hm] at e
      cases o with
      | lst es =>
        cases e
        obtain ⟨ho, e3, ro⟩ := R.obj m _ hm
        cases ro with
        | lst rs => exact ⟨_, _, rfl, .inl (.of e3), rs⟩
      | dict _ => cases e
      | lkd _ => cases e
      | ins _ _ => cases e
  | xc0 => cases e
  | xc _ _ => cases e
  | non => cases e
  | bl => cases e
  | int => cases e
  | raw => cases e
  | str => cases e
theorem atI_rep {xs : List V} {ds : List D} {i : Int} {d : D} (rs : Reps K ι n H xs ds) (e : atI ds i = some d) : ∃ v, atI xs i = some v ∧ Rep K ι n H v d := by
  unfold atI at e ⊢
  rw [rs.len]
  cases q : ixN ds.length i with
  | none => rw [q] at e; cases e
  | some j => rw [q] at e; exact rs.get e
theorem Reps.take : ∀ {vs : List V} {ds : List D} (k : Nat), Reps K ι n H vs ds → Reps K ι n H (vs.take k) (ds.take k)
  | _, _, 0, _ => .nil
  | _, _, _ + 1, .nil => .nil
  | _, _, k + 1, .cons r q => .cons r (Reps.take k q)
theorem Reps.drop : ∀ {vs : List V} {ds : List D} (k : Nat), Reps K ι n H vs ds → Reps K ι n H (vs.drop k) (ds.drop k)
  | _, _, 0, q => q
  | _, _, _ + 1, .nil => .nil
  | _, _, k + 1, .cons _ q => Reps.drop k q
def cutD (ds : List D) (lo hi : Option Int) : List D := (ds.drop (HT.sIx ds.length 0 lo)).take (HT.sIx ds.length ds.length hi - HT.sIx ds.length 0 lo)
theorem Reps.cut {vs : List V} {ds : List D} (r : Reps K ι n H vs ds) (lo hi : Option Int) : Reps K ι n H (cutV vs lo hi) (cutD ds lo hi) := by
  unfold cutV cutD
  rw [r.len]
  exact (r.drop _).take _
end
section
variable {Z : Kx}
/-! ### subscripts -/
def IxK (Z : Kx) (F : F2) : Prop := ∃ r : R2, IxR Z.X r ∧ ∀ (σ : St) (ι : Nat → Addr) (h : Hd) (H : Hp) (x y : V) (dx dy : D) (Q : VK), HRep Z.X.K Z.cA ι H h → Rep Z.X.K ι h.length H x dx → Rep Z.X.K ι h.length H y dy →
  RPost Z.X.K Z.cA Z.W σ ι h H (F dx dy h) (fun d h' ι' H' => ∀ v, Rep Z.X.K ι' h'.length H' v d → Q v H') → r x y H Q
theorem ke_ix {F : F2} {a b : Expr} {f g : SE} {pos : Pos} (ho : IxK Z F) (ha : KE Z a f) (hb : KE Z b g) (hs : PlainIx b := by exact fun _ _ => rfl) : KE Z (.Subscript a b pos) (s2 F f g) := by
  obtain ⟨r, hr, k⟩ := ho
  exact ⟨(pe_ix hr ha.pe hb.pe hs).weak (t2_of k)⟩
def ixF : F2 := fun x y h => asInt y fun i => onSome (itemsD h x) fun ds => onSome (atI ds i) fun d => .ok d h
theorem ik_seq : IxK Z ixF := ⟨_, ix_list.or ix_tup, fun σ ι h H x y dx dy Q R rx ry p => by
  obtain ⟨i, rfl, p⟩ := p.asInt
  obtain ⟨ds, e, p⟩ := p.onSome
  obtain ⟨d, e2, p⟩ := p.onSome
  cases ry
  obtain ⟨a, xs, rfl, q, rs⟩ := items_rep R rx e
  obtain ⟨v, ev, r⟩ := atI_rep rs e2
  rcases q with q | q
  · exact .inl ⟨a, xs, i, v, rfl, rfl, q, ev, RPost.ok R p v r⟩
  · exact .inr ⟨a, xs, i, v, rfl, rfl, q, ev, RPost.ok R p v r⟩⟩
/-- a slice's part -/
abbrev SO := En → Hd → Res (Option Int)
structure KO (Z : Kx) (e : Option Expr) (f : SO) : Prop where
  po : PO Z.X e fun σ H Q => ∃ ι env h, HRep Z.X.K Z.cA ι H h ∧ VRep Z.X.K ι h.length H σ env ∧ RPost Z.X.K Z.cA Z.W σ ι h H (f env h) fun o h' ι' H' => Q o H'
theorem _root_.L2.PO.weak {X : Cx} {e : Option Expr} {t t' : TO} (p : PO X e t) (k : ∀ σ H Q, t' σ H Q → t σ H Q) : PO X e t' := ⟨fun pins s σ H Q I q => p.run pins s σ H Q I (k σ H Q q)⟩
def sNoPart : SO := fun _ h => .ok none h
def sPart (f : SE) : SO := fun env h => (f env h).bind fun d h1 => match d with | .int i => .ok (some i) h1 | _ => .stuck
theorem ko_none : KO Z none sNoPart := ⟨po_none.weak fun σ H Q ⟨ι, env, h, R, V, p⟩ => RPost.ok R p⟩
theorem ko_some {e : Expr} {f : SE} (he : KE Z e f) : KO Z (some e) (sPart f) := ⟨(po_some he.pe).weak fun σ H Q ⟨ι, env, h, R, V, p⟩ => ⟨ι, env, h, R, V, (RPost.bind p).mono fun d h1 ι1 H1 S1 R1 p1 v r => by
  cases r with
  | int => exact ⟨_, rfl, RPost.ok R1 p1⟩
  | non => exact p1.elim
  | bl => exact p1.elim
  | str => exact p1.elim
  | raw => exact p1.elim
  | xc0 => exact p1.elim
  | xc _ _ => exact p1.elim
  | fls _ _ => exact p1.elim
  | tup _ _ => exact p1.elim
  | ref _ => exact p1.elim⟩⟩
def sSlT (f : SE) (l u : SO) : SE := fun env h => (f env h).bind fun d h1 => (l env h1).bind fun lo h2 => (u env h2).bind fun hi h3 => asTup d fun ds => .ok (.tup (cutD ds lo hi)) h3
/-- t[lo:hi] of a tuple -/
theorem ke_slT {e : Expr} {lo hi : Option Expr} {f : SE} {l u : SO} {pos p2 : Pos} (he : KE Z e f) (hl : KO Z lo l) (hu : KO Z hi u) : KE Z (.Subscript e (.Slice lo hi none p2) pos) (sSlT f l u) :=
  ⟨(pe_slice sl_tupA he.pe hl.po hu.po).weak fun σ H Q ⟨ι, env, h, R, V, p⟩ => ⟨ι, env, h, R, V, (RPost.bind p).mono fun d h1 ι1 H1 S1 R1 p1 v r =>
    ⟨ι1, env, h1, R1, V.step S1 R, (RPost.bind p1).mono fun o1 h2 ι2 H2 S2 R2 p2 => ⟨ι2, env, h2, R2, (V.step S1 R).step S2 R1, (RPost.bind p2).mono fun o2 h3 ι3 H3 S3 R3 p3 => by
      have r3 := r.step (S2.trans S3) R1
      obtain ⟨ds, e0, p4⟩ := p3.asTup
      subst e0
      cases r3 with
      | @tup a xs ds q rs =>
        refine ⟨a, xs, rfl, q, fun hw => ?_, fun _ b hb => ?_⟩
        · have e : cutD ds o1 o2 = ds := by
            unfold cutD
            rw [rs.len] at hw
            rw [hw.1, hw.2]
            simp
          rw [e] at p4
          exact RPost.ok R3 p4 _ (.tup q rs)
        · have S4 := Step.aside R3 hb (.tup (cutV xs o1 o2))
          exact p4 ι3 _ S4 (R3.aside hb _) _ (.tup (.of upd_same) ((rs.cut o1 o2).step S4 R3))⟩⟩⟩⟩
def sSlL (f : SE) (l u : SO) : SA := fun env h => (f env h).bind fun d h1 => (l env h1).bind fun lo h2 => (u env h2).bind fun hi h3 => asRef d fun m => onLst h3 m fun ds => .ok (cutD ds lo hi) h3
theorem none_of_there {ι ι' : Nat → Addr} {H H' : Hp} {h h' : Hd} (S : Step ι h H ι' h' H') {a : Addr} (ha : H' a = none) : H a = none := by
  cases e : H a with
  | none => rfl
  | some o => obtain ⟨o', e'⟩ := S.there a o e; rw [ha] at e'; cases e'
/-- xs[lo:hi] of a list of ours: a new list -/
theorem kl_sl {e : Expr} {lo hi : Option Expr} {f : SE} {l u : SO} {pos p2 : Pos} (he : KE Z e f) (hl : KO Z lo l) (hu : KO Z hi u) : KL Z (.Subscript e (.Slice lo hi none p2) pos) (sSlL f l u) :=
  ⟨(pe_slice sl_list he.pe hl.po hu.po).weak fun σ H Q ⟨ι, env, h, R, V, p⟩ => ⟨ι, env, h, R, V, (RPost.bind p).mono fun d h1 ι1 H1 S1 R1 p1 v r =>
    ⟨ι1, env, h1, R1, V.step S1 R, (RPost.bind p1).mono fun o1 h2 ι2 H2 S2 R2 p2 => ⟨ι2, env, h2, R2, (V.step S1 R).step S2 R1, (RPost.bind p2).mono fun o2 h3 ι3 H3 S3 R3 p3 => by
      have r3 := r.step (S2.trans S3) R1
      obtain ⟨m, rfl, p3⟩ := p3.asRef
      obtain ⟨ds, hm, p3⟩ := p3.onLst
      cases r3
      obtain ⟨ho, e3, ro⟩ := R3.obj m _ hm
      cases ro with
      | @lst xs _ rs =>
        refine ⟨_, xs, rfl, .of e3, fun b hb => ?_⟩
        have S4 := Step.aside R3 hb (.lst (cutV xs o1 o2))
        exact p3 ι3 _ S4 (R3.aside hb _) b _ (none_of_there (S1.trans (S2.trans S3)) hb) upd_same (fun m hm z => R3.off hb hm z.symm) ((rs.cut o1 o2).step S4 R3)⟩⟩⟩⟩

/-! ### built-ins by their names -/
abbrev FA := List D → Hd → Res D
def CallK (Z : Kx) (f : Value) (F : FA) : Prop := ∃ r, CallR Z.X f r ∧ ∀ (σ : St) (ι : Nat → Addr) (h : Hd) (H : Hp) (xs : List V) (ds : List D) (Q : VK), HRep Z.X.K Z.cA ι H h → Reps Z.X.K ι h.length H xs ds →
  RPost Z.X.K Z.cA Z.W σ ι h H (F ds h) (fun d h' ι' H' => ∀ v, Rep Z.X.K ι' h'.length H' v d → Q v H') → r xs H Q
/-- .. that hand out a new list -/
def CallKL (Z : Kx) (f : Value) (F : List D → Hd → Res (List D)) : Prop := ∃ r, CallR Z.X f r ∧ ∀ (σ : St) (ι : Nat → Addr) (h : Hd) (H : Hp) (xs : List V) (ds : List D) (Q : VK), HRep Z.X.K Z.cA ι H h → Reps Z.X.K ι h.length H xs ds →
  RPost Z.X.K Z.cA Z.W σ ι h H (F ds h) (fun ds h' ι' H' => ∀ p vs, H p = none → H' p = some (.lst vs) → (∀ m, m < h'.length → p ≠ ι' m) → Reps Z.X.K ι' h'.length H' vs ds → Q (.ref p) H') → r xs H Q
def sCall (F : FA) (a : SA) : SE := fun env h => (a env h).bind fun ds h1 => F ds h1
def sCallL (F : List D → Hd → Res (List D)) (a : SA) : SA := fun env h => (a env h).bind fun ds h1 => F ds h1
section
variable {x : Str} {p pos : Pos} {e : Expr} {es : List Expr} {a : SA} {F : FA} {id T : String}
theorem ke_callB (hc : CallK Z (.builtin id) F) (hg : Gl Z.X x) (hm : Z.X.mg x = none) (hv : bootBuiltins x = some (.builtin id)) (ha : KA Z (e :: es) a) (hn : x ≠ "__name__" := by decide) (hdb : (x == ("__debug__" : Str)) = false := by decide)
    (he : starEach (e :: es) Z.X.env = (false, eval e Z.X.env) :: starEach es Z.X.env := by rfl) (hpl : (backTo pos (starEach es Z.X.env)).any (·.1) = false := by rfl) : KE Z (.Call (.Name x p) (e :: es) [] pos) (sCall F a) := by
  obtain ⟨r, hr, k⟩ := hc
  exact ⟨(pe_callB hr hg hm hv ha.pa hn hdb he hpl).weak fun σ H Q ⟨ι, env, h, R, V, p⟩ => ⟨ι, env, h, R, V, (RPost.bind p).mono fun ds h1 ι1 H1 S1 R1 p1 vs rs => k σ ι1 h1 H1 vs ds Q R1 rs p1⟩⟩
theorem ke_callTy (hc : CallK Z (.type T) F) (hg : Gl Z.X x) (hm : Z.X.mg x = none) (hv : bootBuiltins x = some (.type T)) (ha : KA Z (e :: es) a) (hn : x ≠ "__name__" := by decide) (hdb : (x == ("__debug__" : Str)) = false := by decide)
    (he : starEach (e :: es) Z.X.env = (false, eval e Z.X.env) :: starEach es Z.X.env := by rfl) (hpl : (backTo pos (starEach es Z.X.env)).any (·.1) = false := by rfl) : KE Z (.Call (.Name x p) (e :: es) [] pos) (sCall F a) := by
  obtain ⟨r, hr, k⟩ := hc
  exact ⟨(pe_callTy hr hg hm hv ha.pa hn hdb he hpl).weak fun σ H Q ⟨ι, env, h, R, V, p⟩ => ⟨ι, env, h, R, V, (RPost.bind p).mono fun ds h1 ι1 H1 S1 R1 p1 vs rs => k σ ι1 h1 H1 vs ds Q R1 rs p1⟩⟩
end

/-! ### len, tuple, list, int, str -/
theorem wit {K : PySem.W.Frag} {ι : Nat → Addr} {n : Nat} {H : Hp} {xs : List V} {d : D} (r : Reps K ι n H xs [d]) : ∃ x, xs = [x] ∧ Rep K ι n H x d := by
  cases r with
  | cons r q => cases q; exact ⟨_, rfl, r⟩
theorem wit2 {K : PySem.W.Frag} {ι : Nat → Addr} {n : Nat} {H : Hp} {xs : List V} {d e : D} (r : Reps K ι n H xs [d, e]) : ∃ x y, xs = [x, y] ∧ Rep K ι n H x d ∧ Rep K ι n H y e := by
  cases r with
  | cons r q =>
    obtain ⟨y, rfl, r2⟩ := wit q
    exact ⟨_, _, rfl, r, r2⟩
def lenF : FA := fa1 fun d h => match d with
  | .str s => guard' (s.length ≤ LIM) (.ok (.int s.length) h)
  | d => onSome (itemsD h d) fun es => .ok (.int es.length) h
theorem ck_len : CallK Z (.builtin "len") lenF := ⟨_, call_len, fun σ ι h H xs ds Q R rs p => by
  obtain ⟨d, rfl, p⟩ := p.fa1
  obtain ⟨x, rfl, r⟩ := wit rs
  refine ⟨x, ?_⟩
  by_cases hs : ∃ s, d = .str s
  · obtain ⟨s, rfl⟩ := hs
    cases r
    have p : RPost Z.X.K Z.cA Z.W σ ι h H (guard' (s.length ≤ LIM) (.ok (D.int s.length) h)) _ := p
    obtain ⟨c, p⟩ := p.guard
    exact ⟨_, rfl, ⟨by rw [ofString_length]; exact lim_le c, rfl⟩, by rw [ofString_length]; exact RPost.ok R p _ .int⟩
  · have p : RPost Z.X.K Z.cA Z.W σ ι h H (onSome (itemsD h d) fun es => .ok (D.int es.length) h) (fun d h' ι' H' => ∀ v, Rep Z.X.K ι' h'.length H' v d → Q v H') := by
      cases d <;> first | exact p | exact absurd ⟨_, rfl⟩ hs
    obtain ⟨es, e, p⟩ := p.onSome
    obtain ⟨a, ys, rfl, q, rs⟩ := items_rep R r e
    refine ⟨ys.length, rfl, ?_, by rw [rs.len]; exact RPost.ok R p _ .int⟩
    rcases q with q | q
    · exact .inl ⟨ys, q, rfl⟩
    · exact .inr ⟨ys, q, rfl⟩⟩
def tupF : FA := fa1 fun d h => onSome (itemsD h d) fun es => .ok (.tup es) h
theorem ck_tuple : CallK Z (.type "tuple") tupF := ⟨_, call_tuple_of, fun σ ι h H xs ds Q R rs p => by
  obtain ⟨d, rfl, p⟩ := p.fa1
  obtain ⟨x, rfl, r⟩ := wit rs
  obtain ⟨es, e, p⟩ := p.onSome
  obtain ⟨a, ys, rfl, q, rs⟩ := items_rep R r e
  refine ⟨a, ys, rfl, ?_⟩
  rcases q with q | q
  · refine .inl ⟨q, fun l hl => ?_⟩
    have S2 := Step.aside R hl (.tup ys)
    exact p ι _ S2 (R.aside hl _) _ (.tup (.of upd_same) (rs.step S2 R))
  · exact .inr ⟨q, RPost.ok R p _ (.tup q rs)⟩⟩
def listF : List D → Hd → Res (List D) := fa1 fun d h => onSome (itemsD h d) fun es => .ok es h
theorem ck_list : CallKL Z (.type "list") listF := ⟨_, call_list_of, fun σ ι h H xs ds Q R rs p => by
  obtain ⟨d, rfl, p⟩ := p.fa1
  obtain ⟨x, rfl, r⟩ := wit rs
  obtain ⟨es, e, p⟩ := p.onSome
  obtain ⟨a, ys, rfl, q, rs⟩ := items_rep R r e
  refine ⟨a, ys, rfl, q, fun l hl => ?_⟩
  have S2 := Step.aside R hl (.lst ys)
  exact p ι _ S2 (R.aside hl _) l ys hl upd_same (fun m hm z => R.off hl hm z.symm) (rs.step S2 R)⟩
theorem kl_callTy {x : Str} {p pos : Pos} {e : Expr} {es : List Expr} {a : SA} {F : List D → Hd → Res (List D)} {T : String} (hc : CallKL Z (.type T) F) (hg : Gl Z.X x) (hm : Z.X.mg x = none) (hv : bootBuiltins x = some (.type T)) (ha : KA Z (e :: es) a) (hn : x ≠ "__name__" := by decide) (hdb : (x == ("__debug__" : Str)) = false := by decide)
    (he : starEach (e :: es) Z.X.env = (false, eval e Z.X.env) :: starEach es Z.X.env := by rfl) (hpl : (backTo pos (starEach es Z.X.env)).any (·.1) = false := by rfl) : KL Z (.Call (.Name x p) (e :: es) [] pos) (sCallL F a) := by
  obtain ⟨r, hr, k⟩ := hc
  exact ⟨(pe_callTy hr hg hm hv ha.pa hn hdb he hpl).weak fun σ H Q ⟨ι, env, h, R, V, p⟩ => ⟨ι, env, h, R, V, (RPost.bind p).mono fun ds h1 ι1 H1 S1 R1 p1 vs rs => k σ ι1 h1 H1 vs ds Q R1 rs (p1.mono fun ds2 h2 ι2 H2 S2 R2 p2 q ws e1 e2 e3 e4 => p2 q ws (none_of_there S1 e1) e2 e3 e4)⟩⟩
def intF : FA := fa1 fun d h => match d with
  | .int i => .ok (.int i) h
  | .bl b => .ok (.int (if b then 1 else 0)) h
  | _ => .stuck
theorem ck_int : CallK Z (.type "int") intF := ⟨_, call_int1, fun σ ι h H xs ds Q R rs p => by
  obtain ⟨d, rfl, p⟩ := p.fa1
  obtain ⟨x, rfl, r⟩ := wit rs
  cases r with
  | int => exact .inl ⟨_, rfl, RPost.ok R p _ .int⟩
  | bl => exact .inr ⟨_, rfl, RPost.ok R p _ .int⟩
  | non => exact p.elim
  | str => exact p.elim
  | raw => exact p.elim
  | xc0 => exact p.elim
  | xc _ _ => exact p.elim
  | fls _ _ => exact p.elim
  | tup _ _ => exact p.elim
  | ref _ => exact p.elim⟩
def strF : FA := fa1 fun d h => asInt d fun i => guard' (i.natAbs < 10 ^ 100) (.ok (.str (toString i)) h)
theorem ck_str : CallK Z (.type "str") strF := ⟨_, call_str_int, fun σ ι h H xs ds Q R rs p => by
  obtain ⟨d, rfl, p⟩ := p.fa1
  obtain ⟨x, rfl, r⟩ := wit rs
  obtain ⟨i, rfl, p⟩ := p.asInt
  obtain ⟨c, p⟩ := p.guard
  cases r
  refine ⟨i, rfl, ?_, RPost.ok R p _ .str⟩
  by_cases h0 : i.natAbs = 0
  · rw [h0]; decide
  · exact (Nat.log2_lt h0).mpr (Nat.lt_trans c (by decide +kernel))⟩
/-! ### in -/
def itemsP : PyData → Option (List PyData)
  | .list ps => some ps
  | .tuple ps => some ps
  | _ => none
def inF (neg : Bool) : F2 := fun x y h => onSome (py h 60 x) fun p => onSome (py h 60 y) fun q => onSome (itemsP q) fun ps => .ok (.bl (if neg then !ps.any (fun z => PyData.eqv z p) else ps.any (fun z => PyData.eqv z p))) h
def rInA (K : PySem.W.Frag) (neg : Bool) : R2 := fun x y H Q => ∃ d e ds, Dp K H x d ∧ Dp K H y e ∧ itemsP e = some ds ∧ SeqAt.shaped d = true ∧ SeqAt.shaped e = true ∧ Q (.bl (if neg then !ds.any (fun z => PyData.eqv z d) else ds.any fun z => PyData.eqv z d)) H
theorem roomA {u : Nat} {d : PyData} {n : Nat} (sd : SeqAt.shaped d = true) (hu : u + 65 < cLine) : u + 1 + min n d.depth < cLine := by
  have h1 := SeqAt.depth_of_shaped sd
  have h2 := Nat.min_le_right n d.depth
  omega
theorem op_inA (hu : Z.X.A.units + 65 < cLine) : OpR Z.X (compareOp .In) (rInA Z.X.K false) := by
  intro pins s σ H x y v u Q I rx ry ⟨d, e, ds, hd, he, hi, sd, se, q⟩
  obtain ⟨as, r1⟩ := Dp.reads I d x v hd rx
  obtain ⟨bs, r2⟩ := Dp.reads I e y u he ry
  cases e with
  | list ps => cases hi; exact SeqAt.in_list_reads r2 r1 (SeqAt.canLay_of_shaped se) (SeqAt.canLay_of_shaped sd) (roomA sd hu) ⟨.bl _, H, I, rfl, q⟩
  | tuple ps => cases hi; exact SeqAt.in_tuple_reads r2 r1 (SeqAt.canLay_of_shaped se) (SeqAt.canLay_of_shaped sd) (roomA sd hu) ⟨.bl _, H, I, rfl, q⟩
  | none => cases hi
  | bool _ => cases hi
  | int _ => cases hi
  | str _ => cases hi
  | dict _ => cases hi
theorem op_notInA (hu : Z.X.A.units + 65 < cLine) : OpR Z.X (compareOp .NotIn) (rInA Z.X.K true) := by
  intro pins s σ H x y v u Q I rx ry ⟨d, e, ds, hd, he, hi, sd, se, q⟩
  obtain ⟨as, r1⟩ := Dp.reads I d x v hd rx
  obtain ⟨bs, r2⟩ := Dp.reads I e y u he ry
  cases e with
  | list ps => cases hi; exact SeqAt.notIn_list_reads r2 r1 (SeqAt.canLay_of_shaped se) (SeqAt.canLay_of_shaped sd) (roomA sd hu) ⟨.bl _, H, I, rfl, q⟩
  | tuple ps => cases hi; exact SeqAt.notIn_tuple_reads r2 r1 (SeqAt.canLay_of_shaped se) (SeqAt.canLay_of_shaped sd) (roomA sd hu) ⟨.bl _, H, I, rfl, q⟩
  | none => cases hi
  | bool _ => cases hi
  | int _ => cases hi
  | str _ => cases hi
  | dict _ => cases hi
theorem ko_in (hu : Z.X.A.units + 65 < cLine) : OpK Z (compareOp .In) (inF false) := ⟨_, op_inA hu, fun σ ι h H x y dx dy Q R rx ry p => by
  obtain ⟨a, e1, p⟩ := p.onSome
  obtain ⟨b, e2, p⟩ := p.onSome
  obtain ⟨ps, e3, p⟩ := p.onSome
  exact ⟨a, b, ps, py_dp R e1 rx, py_dp R e2 ry, e3, py_shaped (by decide) e1, py_shaped (by decide) e2, RPost.ok R p _ .bl⟩⟩
theorem ko_notin (hu : Z.X.A.units + 65 < cLine) : OpK Z (compareOp .NotIn) (inF true) := ⟨_, op_notInA hu, fun σ ι h H x y dx dy Q R rx ry p => by
  obtain ⟨a, e1, p⟩ := p.onSome
  obtain ⟨b, e2, p⟩ := p.onSome
  obtain ⟨ps, e3, p⟩ := p.onSome
  exact ⟨a, b, ps, py_dp R e1 rx, py_dp R e2 ry, e3, py_shaped (by decide) e1, py_shaped (by decide) e2, RPost.ok R p _ .bl⟩⟩
end
end Kf
end
section
set_option maxHeartbeats 4000000
/-! Kf: defs whose callers run no repr (the guards are known to be none). -/
namespace Kf
open PySem PySem.Spec L2 PyProof.Rows
/-- room, and nothing is being shown -/
structure RoomG (k : Nat) (A : Around) : Prop where
  rm : Room k A
  gu : A.guards = some []
section
variable {j k : Nat} {A : Around}
theorem RoomG.mono (r : RoomG k A) (h : j ≤ k) : RoomG j A := ⟨r.rm.mono h, r.gu⟩
theorem RoomG.deeper (r : RoomG (k + 1) A) (env : Env) : RoomG k (A.deeper env) := ⟨r.rm.deeper env, r.gu⟩
theorem RoomG.make (r : RoomG (k + 1) A) (C : Addr) (us : List Value) (kw : List (Str × Value)) : RoomG k (A.under (.builtin "type.__call__" ⟨.ref C :: us, kw⟩)) :=
  ⟨r.rm.make C us kw, by
    have g := r.gu
    show pushGuards (Code.guards (.builtin "type.__call__" ⟨.ref C :: us, kw⟩)) A.guards = some []
    rw [g]; rfl⟩
end
/-- a def, ready to be called where nothing is being shown -/
structure FnG (P : Program) (w : World) (K : PySem.W.Frag) (mg : Str → Option Value) (base : Heap) (CX : CXT) (k : Nat) (f : Addr) (fd : FuncData) (ps : List Str) (sp : Sp) : Prop where
  len : ∀ vs H Q E, sp vs H Q E → vs.length = ps.length
  go : ∀ {A : Around} {outer : List Env} {s : Shared} {H : Hp} {args : Args} {us : List Value} {vs : List V} {Q : VK} {E : XK}, RoomG k A → Env0 P w K mg base A outer s H → BindsTo s fd args (ps.zip us) → Vals vs us → sp vs H Q E →
    codeAny (model P w) A (.call (.ref f) args) (CR CX outer P w H s Q E) s
section
variable {P : Program} {w : World} {K : PySem.W.Frag} {mg : Str → Option Value} {base : Heap} {CX : CXT} {j k : Nat} {f : Addr} {fd : FuncData} {ps : List Str} {sp sp' : Sp}
theorem FnG.mono (F : FnG P w K mg base CX j f fd ps sp) (h : j ≤ k) : FnG P w K mg base CX k f fd ps sp := ⟨F.len, fun r => F.go (r.mono h)⟩
theorem FnG.imp (F : FnG P w K mg base CX k f fd ps sp) (h : ∀ vs H Q E, sp' vs H Q E → sp vs H Q E) : FnG P w K mg base CX k f fd ps sp' := ⟨fun vs H Q E q => F.len vs H Q E (h _ _ _ _ q), fun r e b v q => F.go r e b v (h _ _ _ _ q)⟩
/-- a def by its body -/
theorem fnG_of {name qual : Str} {params : Arguments} {body : List Stmt} {scope : Scope} {dV kV doc pm cdv ct oc : Value} {an od : Option Addr} {osl : Array (Option Value)} {N : List Str}
    (lk : K.lookup f = some ⟨oc, od, .func (PySem.W.fnOf name qual params body scope dV kV doc pm an cdv ct), osl⟩) (hcd : PySem.W.codeIn K cdv qual = true) (S : FnScope N ps scope) (len : ∀ vs H Q E, sp vs H Q E → vs.length = ps.length)
    (hb : ∀ (A : Around) (outer : List Env) (s : Shared) (H : Hp) (vs : List V) (Q : VK) (E : XK), RoomG k (A.deeper (envOfC qual scope s.heap.objs.size f cdv)) → sp vs H Q E →
      ∃ t, PSs (cxOf CX P w K mg base N qual scope f cdv A outer s H E) body t ∧ t { nx := fun _ H' => Q .non H', rt := Q } (L2.start N vs) H) :
    FnG P w K mg base CX (k + 1) f (PySem.W.fnOf name qual params body scope dV kV doc pm an cdv ct) ps sp where
  len := len
  go := by
    intro A outer s H args us vs Q E r e0 b rv q
    have old : ∀ a o, base.get? a = some o → s.heap.get? a = some o := fun a o e => (e0.bs a o e).1
    have inK : K.In s.heap := e0.mod.kin.keeps old
    have par : ∀ y ∈ ps.zip us, scope.names.lookup y.1 = some .local ∨ (scope.names.lookup y.1 = some .cell ∧ ((cellsFrom (s.heap.objs.size + 1) scope.names []).lookup y.1).isSome = true) := by
      intro y hy
      have := S.par y.1 (List.of_mem_zip (a := y.1) (b := y.2) hy).1
      exact this.imp id fun z => ⟨z, PySem.W.cellsFrom_some _ _ _ (.inl z)⟩
    apply codeAny_call_function r.rm.depth (inK _ _ lk) rfl S.co S.gen rfl (PySem.W.codeRec_of inK hcd)
    apply b
    apply wpAny_newFunctionEnv_cells S.kind par
    intro env he s1 x
    cases he
    refine ⟨(e0.mod.nolimit.keeps old).keeps x.toInCall.keep, codeAny_func ?_⟩
    obtain ⟨t, T, q'⟩ := hb A outer s H vs Q E (r.deeper _) q
    refine wpAny_mono (T.run [] s1 (L2.start N vs) H _ (inv_start S r.rm.hd e0 (len _ _ _ _ q) rv x) q') ?_ (fun _ _ z => z)
    intro fl s' z
    match fl, z with
    | .ret u, ⟨v, _, H', J, rv', z⟩ => exact ⟨v, H', J.os, J.bare, J.base, J.hok, rv', z⟩
    | .next, ⟨_, H', J, z⟩ => exact ⟨V.non, H', J.os, J.bare, J.base, J.hok, rfl, z⟩
    | .brk, ⟨_, _, _, z⟩ => exact z.elim
    | .cont, ⟨_, _, _, z⟩ => exact z.elim
theorem funG {x qual : Str} {st : Stmt} {N : List Str} (F : Fun K x qual st f fd) (S : FnScope N ps (defScope st)) (len : ∀ vs H Q E, sp vs H Q E → vs.length = ps.length)
    (hb : ∀ (cdv : Value) (A : Around) (outer : List Env) (s : Shared) (H : Hp) (vs : List V) (Q : VK) (E : XK), RoomG k (A.deeper (envOfC qual (defScope st) s.heap.objs.size f cdv)) → sp vs H Q E →
      ∃ t, PSs (cxOf (L2.CX P w) P w K mg base N qual (defScope st) f cdv A outer s H E) (defBody st) t ∧ t { nx := fun _ H' => Q .non H', rt := Q } (L2.start N vs) H) : FnG P w K mg base (L2.CX P w) (k + 1) f fd ps sp := by
  obtain ⟨oc, od, kV, doc, pm, an, cdv, ct, osl, e, lk, hcd⟩ := F.ex
  subst e
  exact fnG_of lk hcd S len fun A outer s H vs Q E => hb cdv A outer s H vs Q E
end
section
variable {X : Cx} {CX : CXT} {k : Nat} {f : Addr} {fd : FuncData} {ps : List Str} {sp : Sp} {dvs : List V} {ds : List Value} {E : L2.St → XK} {x : Str} {p pos : Pos} {e : Expr} {es : List Expr} {t : TA}
/-- a call of such a def -/
theorem goG {pins : List (Addr × Obj)} {σ : L2.St} {H : Hp} {s : Shared} {Q : VK} {us : List Value} {vs : List V} (F : FnG X.prog X.w X.K X.mg X.base CX k f fd ps sp) (hr : RoomG k X.A) (hb : Binds X.K fd ps ds) (hd : Vals dvs ds) (hx : PassesAt CX X σ (E σ))
    (I : Inv X pins σ H s) (r : Vals vs us) (h : sp (vs ++ dvs) H Q (E σ)) : wpAny (model X.prog X.w) X.A (call (.ref f) us) (EP X pins σ Q) X.xe s := by
  have rr := r.append hd
  have bd := hb s us I.kIn (rr.length.symm.trans (F.len _ _ _ _ h))
  apply wpAny_call
  apply codeAny_mono (F.go hr I.env0 bd rr h)
  intro z s' q
  match z, q with
  | .error e, q => exact hx pins H s e s' I q
  | .ok (.ret u), q => exact I.after q
  | .ok .next, q => exact q.elim
  | .ok .brk, q => exact q.elim
  | .ok .cont, q => exact q.elim
theorem pe_callG (F : FnG X.prog X.w X.K X.mg X.base CX k f fd ps sp) (hr : RoomG k X.A) (hg : Gl X x) (hm : X.mg x = some (.ref f)) (hk : PySem.W.keepIn X.K (.ref f) = true) (hb : Binds X.K fd ps ds) (hd : Vals dvs ds) (hx : ∀ σ, PassesAt CX X σ (E σ))
    (ha : PA X (e :: es) t) (hdb : (x == ("__debug__" : Str)) = false := by decide) (he : starEach (e :: es) X.env = (false, eval e X.env) :: starEach es X.env := by rfl) (hpl : (backTo pos (starEach es X.env)).any (·.1) = false := by rfl) :
    PE X (.Call (.Name x p) (e :: es) [] pos) (tCallSD sp dvs E t) := by
  constructor
  intro pins s σ H Q I h
  apply wpAny_Call_Name_kw (ld_glob I hg hm _ hdb)
  apply PySem.W.callWith_K (h₀ := X.base) I.ok.mod.kin hk (thn (ha.run pos pins s σ H _ I h) _) he hpl
  rintro us s1 ⟨vs, H1, I1, r, q⟩
  exact ⟨I1.kIn, goG F hr hb hd (hx σ) I1 r q⟩
end
end Kf
end
section
set_option maxHeartbeats 4000000
/-! Kf: defs and their calls, instances. -/
namespace Kf
open PySem PySem.Spec L2
theorem ofString_inj {s t : String} (h : Str.ofString s = Str.ofString t) : s = t := by
  rw [Str.ofString_eq_toList, Str.ofString_eq_toList] at h
  have h := Str.mk.inj h
  have h2 : s.toList.map Char.toNat = t.toList.map Char.toNat := by simpa using h
  have inj : ∀ (a b : List Char), a.map Char.toNat = b.map Char.toNat → a = b := by
    intro a
    induction a with
    | nil => intro b e; cases b with | nil => rfl | cons _ _ => simp at e
    | cons x xs ih =>
      intro b e
      cases b with
      | nil => simp at e
      | cons y ys =>
        simp only [List.map_cons, List.cons.injEq] at e
        rw [ih ys e.2, Char.toNat_inj.mp e.1]
  exact String.ext (inj _ _ h2)
theorem ofString_beq (s t : String) : (Str.ofString s == Str.ofString t) = (s == t) := by
  by_cases h : s = t
  · subst h
    rw [beq_iff_eq.mpr rfl, beq_iff_eq.mpr rfl]
  · have h2 : ¬ Str.ofString s = Str.ofString t := fun e => h (ofString_inj e)
    rw [beq_eq_false_iff_ne.mpr h, beq_eq_false_iff_ne.mpr h2]
/-- the promise of a def whose reading is M -/
def spOf (K : PySem.W.Frag) (cA : CA) (n : Nat) (M : FA) : Sp := fun vs H Q E => vs.length = n ∧ ∃ ι h ds, HRep K cA ι H h ∧ Reps K ι h.length H vs ds ∧
  RPost K cA (fun cls od _ H => E cls od H) [] ι h H (M ds h) fun d h' ι' H' => ∀ v, Rep K ι' h'.length H' v d → Q v H'
theorem RPost.toW {K : PySem.W.Frag} {cA : CA} {W W' : WX} {σ σ' : St} {ι : Nat → Addr} {h : Hd} {H : Hp} {α : Type} {r : Res α} {P : α → Hd → (Nat → Addr) → Hp → Prop} (k : ∀ cls od H, W cls od σ H → W' cls od σ' H) (p : RPost K cA W σ ι h H r P) : RPost K cA W' σ' ι h H r P := by
  cases r with
  | ok a h' => exact p
  | exc c fs h' => exact fun ι' H' cls od S R x => k _ _ _ (p ι' H' cls od S R x)
  | stuck => exact p
theorem len2 {K : PySem.W.Frag} {ι : Nat → Addr} {n : Nat} {H : Hp} {vs : List V} {ds : List D} (r : Reps K ι n H vs ds) {k : Nat} (h : ds.length = k) : vs.length = k := r.len.trans h
section
variable {Z : Kx}
def sFn (n : Nat) (M : FA) (dds : List D) (a : SA) : SE := fun env h => (a env h).bind fun ds h1 => guard' (ds.length + dds.length = n) (M (ds ++ dds) h1)
section
variable {k : Nat} {f C : Addr} {fd : FuncData} {ps : List Str} {x m : Str} {n : Nat} {M : FA} {dvs : List V} {dds : List D} {ds : List Value} {p pos apos : Pos} {e o : Expr} {es : List Expr} {a : SA} {fo : SE}
theorem ke_call (F : FnG Z.X.prog Z.X.w Z.X.K Z.X.mg Z.X.base (L2.CX Z.X.prog Z.X.w) k f fd ps (spOf Z.X.K Z.cA n M)) (hr : RoomG k Z.X.A) (hg : Gl Z.X x) (hm : Z.X.mg x = some (.ref f)) (hk : PySem.W.keepIn Z.X.K (.ref f) = true)
    (hb : Binds Z.X.K fd ps ds) (hd : Vals dvs ds) (hq : ∀ ι n H, Reps Z.X.K ι n H dvs dds) (tk : Takes Z.X Z.W) (ha : KA Z (e :: es) a) (hdb : (x == ("__debug__" : Str)) = false := by decide)
    (he : starEach (e :: es) Z.X.env = (false, eval e Z.X.env) :: starEach es Z.X.env := by rfl) (hpl : (backTo pos (starEach es Z.X.env)).any (·.1) = false := by rfl) : KE Z (.Call (.Name x p) (e :: es) [] pos) (sFn n M dds a) :=
  ⟨(pe_callG (E := WE Z.W) F hr hg hm hk hb hd (fun σ => passAt tk σ) ha.pa hdb he hpl).weak fun σ H Q ⟨ι, env, h, R, V, p⟩ => ⟨ι, env, h, R, V, (RPost.bind p).mono fun ds h1 ι1 H1 S1 R1 p1 vs rs => by
    obtain ⟨hl, p1⟩ := p1.guard
    have rr := rs.append (hq ι1 h1.length H1)
    exact ⟨len2 rr (by simpa using hl), ι1, h1, _, R1, rr, p1.toW fun _ _ _ w => w⟩⟩⟩
theorem run_call {pins : List (Addr × Obj)} {σ : St} {H : Hp} {s : Shared} {Q : VK} {us : List Value} {vs : List V} {ι : Nat → Addr} {h : Hd} {xs : List D} (F : FnG Z.X.prog Z.X.w Z.X.K Z.X.mg Z.X.base (L2.CX Z.X.prog Z.X.w) k f fd ps (spOf Z.X.K Z.cA n M)) (hr : RoomG k Z.X.A)
    (hb : Binds Z.X.K fd ps ds) (hd : Vals dvs ds) (hq : ∀ ι n H, Reps Z.X.K ι n H dvs dds) (tk : Takes Z.X Z.W) (I : Inv Z.X pins σ H s) (r : Vals vs us) (R : HRep Z.X.K Z.cA ι H h) (rs : Reps Z.X.K ι h.length H vs xs) (hl : xs.length + dds.length = n)
    (q : RPost Z.X.K Z.cA Z.W σ ι h H (M (xs ++ dds) h) fun d h' ι' H' => ∀ v, Rep Z.X.K ι' h'.length H' v d → Q v H') : wpAny (model Z.X.prog Z.X.w) Z.X.A (call (.ref f) us) (EP Z.X pins σ Q) Z.X.xe s := by
  have rr := rs.append (hq ι h.length H)
  exact goG (E := WE Z.W) F hr hb hd (passAt tk σ) I r ⟨len2 rr (by simpa using hl), ι, h, _, R, rr, q.toW fun _ _ _ w => w⟩
theorem ke_call0 (F : FnG Z.X.prog Z.X.w Z.X.K Z.X.mg Z.X.base (L2.CX Z.X.prog Z.X.w) k f fd ps (spOf Z.X.K Z.cA n M)) (hr : RoomG k Z.X.A) (hg : Gl Z.X x) (hm : Z.X.mg x = some (.ref f)) (hk : PySem.W.keepIn Z.X.K (.ref f) = true)
    (hb : Binds Z.X.K fd ps ds) (hd : Vals dvs ds) (hq : ∀ ι n H, Reps Z.X.K ι n H dvs dds) (tk : Takes Z.X Z.W) (hdb : (x == ("__debug__" : Str)) = false := by decide) : KE Z (.Call (.Name x p) [] [] pos) (sFn n M dds sNil) := by
  refine ⟨⟨fun pins s σ H Q I ⟨ι, env, h, R, V, q⟩ => ?_⟩⟩
  refine wpAny_Call_Name_kw (ld_glob I hg hm ?_ hdb)
  obtain ⟨hl, q⟩ := (RPost.ok R (RPost.bind q)).guard
  exact PySem.W.callWith_K0 I.kIn hk (run_call F hr hb hd hq tk I .nil R .nil hl q)
/-- the methods of the classes cs: the table of their readings -/
structure MethK (Z : Kx) (m : Str) (c : String) (n : Nat) (M : FA) (dds : List D) : Prop where
  ex : ∃ (k : Nat) (f : Addr) (fd : FuncData) (ps : List Str) (dvs : List V) (ds : List Value), Cls Z.X.K (Z.cA c) ∧ Meth Z.X.K (Z.cA c) m f ∧ FnG Z.X.prog Z.X.w Z.X.K Z.X.mg Z.X.base (L2.CX Z.X.prog Z.X.w) k f fd ps (spOf Z.X.K Z.cA n M) ∧ RoomG k Z.X.A ∧
    Binds Z.X.K fd ps ds ∧ Vals dvs ds ∧ ∀ ι n H, Reps Z.X.K ι n H dvs dds
/-- which reading a method of a class has -/
abbrev MT := String → Option (Nat × FA × List D)
def MethT (Z : Kx) (m : Str) (T : MT) : Prop := ∀ c n M dds, T c = some (n, M, dds) → MethK Z m c n M dds
def sMeth (mm : String) (T : MT) (o : SE) (a : SA) : SE := fun env h => (o env h).bind fun d h1 => asRef d fun r => onIns h1 r fun c fs => onSome (T c) fun t => guard' (fs.lookup mm = none) ((a env h1).bind fun ds h2 => guard' (ds.length + 1 + t.2.2.length = t.1) (t.2.1 (d :: ds ++ t.2.2) h2))
end
/-! ### attributes -/
section
variable {K : PySem.W.Frag} {ι : Nat → Addr} {n : Nat} {H : Hp}
theorem FRep.lookup : ∀ {fs : List (Str × V)} {gs : List (String × D)} (r : FRep K ι n H fs gs) (f : String), match gs.lookup f with
    | some d => ∃ v, fs.lookup (Str.ofString f) = some v ∧ Rep K ι n H v d
    | none => fs.lookup (Str.ofString f) = none
  | _, _, .nil, f => rfl
  | _, _, .cons (f := g) (x := x) (d := d) r q, f => by
    simp only [List.lookup_cons, ofString_beq]
    cases e : f == g with
    | true => exact ⟨x, rfl, r⟩
    | false => exact FRep.lookup q f
theorem FRep.some {fs : List (Str × V)} {gs : List (String × D)} (r : FRep K ι n H fs gs) {f : String} {d : D} (e : gs.lookup f = some d) : ∃ v, fs.lookup (Str.ofString f) = some v ∧ Rep K ι n H v d := by
  have q := r.lookup f
  rw [e] at q; exact q
theorem FRep.none {fs : List (Str × V)} {gs : List (String × D)} (r : FRep K ι n H fs gs) {f : String} (e : gs.lookup f = none) : fs.lookup (Str.ofString f) = none := by
  have q := r.lookup f
  rw [e] at q; exact q
theorem FRep.len : ∀ {fs : List (Str × V)} {gs : List (String × D)} (r : FRep K ι n H fs gs), fs.length = gs.length
  | _, _, .nil => rfl
  | _, _, .cons _ q => by simp [FRep.len q]
def putD (f : String) (d : D) : List (String × D) → List (String × D)
  | [] => [(f, d)]
  | (g, x) :: r => if g = f then (g, d) :: r else (g, x) :: putD f d r
theorem FRep.put : ∀ {fs : List (Str × V)} {gs : List (String × D)} (r : FRep K ι n H fs gs) {f : String} {v : V} {d : D} (rv : Rep K ι n H v d), FRep K ι n H (putF (Str.ofString f) v fs) (putD f d gs)
  | _, _, .nil, f, v, d, rv => .cons rv .nil
  | _, _, .cons (f := g) (x := x) (d := d') r q, f, v, d, rv => by
    unfold putF putD
    by_cases e : g = f
    · rw [if_pos e, if_pos (by rw [e])]; exact .cons rv q
    · rw [if_neg e, if_neg fun z => e (ofString_inj z)]; exact .cons r (FRep.put q rv)
end
/-- the attribute f of the classes cs -/
def FldK (Z : Kx) (f : String) (cs : List String) : Prop := ∀ c, c ∈ cs → Cls Z.X.K (Z.cA c) ∧ NoAttr Z.X.K (Z.cA c) (Str.ofString f)
def sFld (o : SE) (f : String) (cs : List String) : SE := fun env h => (o env h).bind fun d h1 => asRef d fun r => onIns h1 r fun c fs => guard' (c ∈ cs) (onSome (fs.lookup f) fun v => .ok v h1)
theorem ke_fld {e : Expr} {g : SE} {f : String} {cs : List String} {pos : Pos} (he : KE Z e g) (hc : FldK Z f cs) (hb : attributeBase e (Str.ofString f) Z.X.env (eval e Z.X.env) = eval e Z.X.env := by rfl) : KE Z (.Attribute e (Str.ofString f) pos) (sFld g f cs) :=
  ⟨(pe_fld he.pe hb).weak fun σ H Q ⟨ι, env, h, R, V, p⟩ => ⟨ι, env, h, R, V, (RPost.bind p).mono fun d h1 ι1 H1 S1 R1 p1 v r => by
    obtain ⟨m, rfl, p1⟩ := p1.asRef
    obtain ⟨c, fs, hm, p1⟩ := p1.onIns
    obtain ⟨hcs, p1⟩ := p1.guard
    obtain ⟨d, hd, p1⟩ := p1.onSome
    cases r
    obtain ⟨ho, e3, ro⟩ := R1.obj m _ hm
    cases ro with
    | ins rf =>
      obtain ⟨v, ev, r⟩ := rf.some hd
      exact ⟨_, _, _, _, v, rfl, e3, (hc c hcs).1, (hc c hcs).2, ev, RPost.ok R1 p1 v r⟩⟩⟩
def sSetF (o : SE) (f : String) (cs : List String) (e : SE) : SS := fun env h => (e env h).lift env fun d h1 => (o env h1).lift env fun od h2 =>
  Res.lift (asRef od fun r => onIns h2 r fun c fs => guard' (c ∈ cs ∧ fs.length < 1000) (.ok () (h2.set r (.ins c (putD f d fs))))) env fun _ h3 => .ok (.nx env) h3
theorem ks_fld {o e : Expr} {g ge : SE} {f : String} {cs : List String} {pos pos' : Pos} (ho : KE Z o g) (he : KE Z e ge) (hc : FldK Z f cs) (hs : swapsWith e (some (.Attribute o (Str.ofString f) pos')) pos.line Z.X.env = pure false := by rfl) :
    KS Z (.Assign [.Attribute o (Str.ofString f) pos'] e pos) (sSetF g f cs ge) :=
  ⟨(ps_fld ho.pe he.pe hs).weak fun Dd σ H ⟨ι, env, h, R, V, p⟩ => ⟨ι, env, h, R, V, (RsPost.of R V p).mono fun d h1 ι1 H1 S1 R1 p1 v r =>
    ⟨ι1, env, h1, R1, V.step S1 R, (RsPost.of R1 (V.step S1 R) p1).mono fun od h2 ι2 H2 S2 R2 p2 ov ro => by
      have V2 := (V.step S1 R).step S2 R1
      have q := RsPost.of R2 V2 p2
      obtain ⟨m, rfl, q⟩ := q.asRef
      obtain ⟨c, fs, hm, q⟩ := q.onIns
      obtain ⟨hcs, q⟩ := q.guard
      cases ro with
      | ref hlt =>
        obtain ⟨ho, e3, ro⟩ := R2.obj m _ hm
        cases ro with
        | @ins _ dx fv _ rf =>
          have rv := r.step S2 R1
          refine ⟨_, _, _, fv, rfl, e3, (hc c hcs.1).1, (hc c hcs.1).2, by rw [rf.len]; exact hcs.2, ?_⟩
          have hf : ∀ x u, H2 (ι2 m) ≠ some (.frz x u) := fun x u z => by rw [e3] at z; cases z
          have S3 := Step.set R2 hlt hf (.ins (Z.cA c) dx (putF (Str.ofString f) v fv)) (.ins c (putD f d fs))
          have R3 : HRep Z.X.K Z.cA ι2 (upd H2 (ι2 m) (.ins (Z.cA c) dx (putF (Str.ofString f) v fv))) (h2.set m (.ins c (putD f d fs))) := R2.set hlt hf (.ins (rf.put rv))
          have q2 := q ι2 _ S3 R3
          exact RsPost.fin R3 q2 σ (V2.step S3 R2)⟩⟩⟩
/-! ### instances made -/
def sNewI (c : String) (n : Nat) (M : FA) (dds : List D) (a : SA) : SE := fun env h => (a env h).bind fun ds h1 => guard' (ds.length + 1 + dds.length = n) ((M (.ref h1.length :: (ds ++ dds)) (h1 ++ [.ins c []])).bind fun v h2 => match v with | .non => .ok (.ref h1.length) h2 | _ => .stuck)
theorem ins_new {ι : Nat → Addr} {h : Hd} {H : Hp} (c : String) (R : HRep Z.X.K Z.cA ι H h) {x dx : Addr} (hx : H x = none) (hdx : H dx = none) (hne : dx ≠ x) :
    Step ι h H (more ι h.length x) (h ++ [.ins c []]) (upd (upd H dx (.own x)) x (.ins (Z.cA c) dx [])) ∧ HRep Z.X.K Z.cA (more ι h.length x) (upd (upd H dx (.own x)) x (.ins (Z.cA c) dx [])) (h ++ [.ins c []]) := by
  have S1 := Step.aside R hdx (.own x)
  have R1 := R.aside hdx (.own x)
  have hx1 : upd H dx (.own x) x = none := by rw [upd_ne (Ne.symm hne)]; exact hx
  exact ⟨S1.trans (Step.alloc R1 hx1 _ _), R1.alloc hx1 (.ins .nil)⟩
theorem new_post {σ : St} {ι : Nat → Addr} {h : Hd} {H : Hp} {c : String} {n : Nat} {M : FA} {dds : List D} {vs dvs : List V} {ds : List D} {Q : VK} (R : HRep Z.X.K Z.cA ι H h) (rs : Reps Z.X.K ι h.length H (vs ++ dvs) (ds ++ dds)) (hl : ds.length + 1 + dds.length = n)
    (q : RPost Z.X.K Z.cA Z.W σ ι h H ((M (.ref h.length :: (ds ++ dds)) (h ++ [.ins c []])).bind fun v h2 => match v with | .non => .ok (.ref h.length) h2 | _ => .stuck) fun d h' ι' H' => ∀ v, Rep Z.X.K ι' h'.length H' v d → Q v H')
    {x dx : Addr} (hx : H x = none) (hdx : H dx = none) (hne : dx ≠ x) : spOf Z.X.K Z.cA n M (.ref x :: (vs ++ dvs)) (upd (upd H dx (.own x)) x (.ins (Z.cA c) dx [])) (fun v H2 => v = .non ∧ Q (.ref x) H2) (WE Z.W σ) := by
  obtain ⟨S, R1⟩ := ins_new (Z := Z) c R hx hdx hne
  have rx : Rep Z.X.K (more ι h.length x) (h ++ [O.ins c []]).length (upd (upd H dx (.own x)) x (.ins (Z.cA c) dx [])) (.ref x) (.ref h.length) := by
    have e : Rep Z.X.K (more ι h.length x) (h ++ [O.ins c []]).length (upd (upd H dx (.own x)) x (.ins (Z.cA c) dx [])) (.ref (more ι h.length x h.length)) (.ref h.length) := .ref (by simp)
    rw [more_at] at e; exact e
  have rr := Reps.cons rx (rs.step S R)
  refine ⟨len2 rr (by simpa [Nat.add_comm, Nat.add_left_comm, Nat.add_assoc] using hl), _, _, _, R1, rr, ?_⟩
  refine ((RPost.bind (RPost.step S q)).toW fun _ _ _ w => w).mono fun v h2 ι2 H2 S2 R2 p2 w rw => ?_
  cases rw with
  | non => exact ⟨rfl, RPost.ok R2 p2 _ (rx.step S2 R1)⟩
  | bl => exact p2.elim
  | int => exact p2.elim
  | str => exact p2.elim
  | raw => exact p2.elim
  | xc0 => exact p2.elim
  | xc _ _ => exact p2.elim
  | fls _ _ => exact p2.elim
  | tup _ _ => exact p2.elim
  | ref _ => exact p2.elim
section
variable {k : Nat} {f : Addr} {fd : FuncData} {ps : List Str} {x m : Str} {c : String} {n : Nat} {M : FA} {dvs : List V} {dds : List D} {ds : List Value} {p pos apos : Pos} {e o : Expr} {es : List Expr} {a : SA} {fo : SE}
/-- an instance is made: what the hand layer says of it, the exceptions at the slots -/
theorem makes {pins : List (Addr × Obj)} {σ : L2.St} {H : Hp} {s : Shared} {Q : VK} {us : List Value} {vs : List V} {sp : Sp} {C : Addr} (hM : Mk Z.X.K C f)
    (F : FnG Z.X.prog Z.X.w Z.X.K Z.X.mg Z.X.base (L2.CX Z.X.prog Z.X.w) k f fd ps sp) (hr : RoomG (k + 1) Z.X.A) (hb : Binds Z.X.K fd ps ds) (hd : Vals dvs ds) (tk : Takes Z.X Z.W) (I : Inv Z.X pins σ H s) (r : Vals vs us)
    (q : ∀ y dy, H y = none → H dy = none → dy ≠ y → sp (.ref y :: (vs ++ dvs)) (upd (upd H dy (.own y)) y (.ins C dy [])) (fun v H2 => v = .non ∧ Q (.ref y) H2) (WE Z.W σ)) : wpAny (model Z.X.prog Z.X.w) Z.X.A (call (.ref C) us) (EP Z.X pins σ Q) Z.X.xe s := by
  have q0 := q (s.heap.objs.size + 1) s.heap.objs.size (I.hok.fresh (Nat.le_succ _)) (I.hok.fresh (Nat.le_refl _)) (Nat.ne_of_lt (Nat.lt_succ_self _))
  have J := Inv.made (C := C) I
  have rr : Vals (V.ref (s.heap.objs.size + 1) :: (vs ++ dvs)) (Value.ref (s.heap.objs.size + 1) :: (us ++ ds)) := Paired.cons rfl (r.append hd)
  have ll : (Value.ref (s.heap.objs.size + 1) :: us ++ ds).length = ps.length := (rr.length.symm.trans (F.len _ _ _ _ q0))
  have run := F.go (outer := Z.X.stack) (args := ⟨Value.ref (s.heap.objs.size + 1) :: us, []⟩) (us := Value.ref (s.heap.objs.size + 1) :: (us ++ ds)) (E := WE Z.W σ) (hr.make C us []) (J.env0.make C us []) (hb _ (Value.ref (s.heap.objs.size + 1) :: us) J.kIn ll) rr q0
  refine wpAny_call (make_map (f := f) I.kIn hM.makes hM.init (beq_iff_eq.mp hM.fn) (codeAny_mono run fun z s' hz => ?_))
  rcases z with e | fl
  · exact passAt tk σ pins _ _ e s' J hz
  · rcases fl with _ | _ | _ | u
    · exact hz.elim
    · exact hz.elim
    · exact hz.elim
    · obtain ⟨v, H', I3, rv, ev, q3⟩ := J.after hz
      subst ev
      exact ⟨rv, ⟨V.ref (s.heap.objs.size + 1), H', I3, rfl, q3⟩⟩
/-- the arguments have come; what is left to do -/
def After (Z : Kx) (σ : L2.St) (g : List D → Hd → Res D) (Q : VK) (vs : List V) (H : Hp) : Prop := ∃ ι h ds, HRep Z.X.K Z.cA ι H h ∧ Reps Z.X.K ι h.length H vs ds ∧ RPost Z.X.K Z.cA Z.W σ ι h H (g ds h) fun d h' ι' H' => ∀ v, Rep Z.X.K ι' h'.length H' v d → Q v H'
theorem after_of {σ : L2.St} {H : Hp} {Q : VK} {g : List D → Hd → Res D} {ι : Nat → Addr} {env : En} {h : Hd} (R : HRep Z.X.K Z.cA ι H h) (V : VRep Z.X.K ι h.length H σ env)
    (q : RPost Z.X.K Z.cA Z.W σ ι h H ((a env h).bind g) fun d h' ι' H' => ∀ v, Rep Z.X.K ι' h'.length H' v d → Q v H') : tDA Z a σ H (After Z σ g Q) :=
  ⟨ι, env, h, R, V, (RPost.bind q).mono fun ds h1 ι1 H1 S1 R1 p1 vs rs => ⟨ι1, h1, ds, R1, rs, p1⟩⟩
theorem ke_make (hM : Mk Z.X.K (Z.cA c) f) (F : FnG Z.X.prog Z.X.w Z.X.K Z.X.mg Z.X.base (L2.CX Z.X.prog Z.X.w) k f fd ps (spOf Z.X.K Z.cA n M)) (hr : RoomG (k + 1) Z.X.A) (hg : Gl Z.X x) (hm : Z.X.mg x = some (.ref (Z.cA c)))
    (hb : Binds Z.X.K fd ps ds) (hd : Vals dvs ds) (hq : ∀ ι n H, Reps Z.X.K ι n H dvs dds) (tk : Takes Z.X Z.W) (ha : KA Z (e :: es) a) (hdb : (x == ("__debug__" : Str)) = false := by decide)
    (he : starEach (e :: es) Z.X.env = (false, eval e Z.X.env) :: starEach es Z.X.env := by rfl) (hpl : (backTo pos (starEach es Z.X.env)).any (·.1) = false := by rfl) : KE Z (.Call (.Name x p) (e :: es) [] pos) (sNewI c n M dds a) := by
  refine ⟨⟨fun pins s σ H Q I ⟨ι, env, h, R, V, q⟩ => ?_⟩⟩
  refine wpAny_Call_Name_kw (ld_glob I hg hm ?_ hdb)
  refine PySem.W.callWith_K (h₀ := Z.X.base) I.ok.mod.kin hM.kp (thn (ha.pa.run pos pins s σ H _ I (after_of R V q)) fun us s1 ⟨vs, H1, I1, rv, ι1, h1, ds1, R1, rs, q1⟩ => ⟨I1.kIn, ?_⟩) he hpl
  obtain ⟨hl, q1⟩ := q1.guard
  exact makes hM F hr hb hd tk I1 rv fun y dy hy hdy hne => new_post R1 (rs.append (hq ι1 h1.length H1)) hl q1 hy hdy hne
theorem ke_make0 (hM : Mk Z.X.K (Z.cA c) f) (F : FnG Z.X.prog Z.X.w Z.X.K Z.X.mg Z.X.base (L2.CX Z.X.prog Z.X.w) k f fd ps (spOf Z.X.K Z.cA n M)) (hr : RoomG (k + 1) Z.X.A) (hg : Gl Z.X x) (hm : Z.X.mg x = some (.ref (Z.cA c)))
    (hb : Binds Z.X.K fd ps ds) (hd : Vals dvs ds) (hq : ∀ ι n H, Reps Z.X.K ι n H dvs dds) (tk : Takes Z.X Z.W) (hdb : (x == ("__debug__" : Str)) = false := by decide) : KE Z (.Call (.Name x p) [] [] pos) (sNewI c n M dds sNil) := by
  refine ⟨⟨fun pins s σ H Q I ⟨ι, env, h, R, V, q⟩ => ?_⟩⟩
  refine wpAny_Call_Name_kw (ld_glob I hg hm ?_ hdb)
  obtain ⟨hl, q1⟩ := (RPost.ok R (RPost.bind q)).guard
  exact PySem.W.callWith_K0 I.kIn hM.kp (makes (us := []) (vs := []) hM F hr hb hd tk I .nil fun y dy hy hdy hne => new_post R (Reps.nil.append (hq ι h.length H)) hl q1 hy hdy hne)
/-! ### methods -/
theorem ke_meth {mm : String} {T : MT} {pl : Sem Bool} (ho : KE Z o fo) (hT : MethT Z (Str.ofString mm) T) (tk : Takes Z.X Z.W) (ha : KA Z (e :: es) a)
    (hst : starEach (e :: es) Z.X.env = (false, eval e Z.X.env) :: starEach es Z.X.env := by rfl) (hpl : (backTo pos (starEach es Z.X.env)).any (·.1) = false := by rfl)
    (ht : eval (.Call (.Attribute o (Str.ofString mm) apos) (e :: es) [] pos) Z.X.env = (do
      let ov ← eval o Z.X.env; standAt apos.atName
      let (g, first) ← holding [ov] (getMethod ov (Str.ofString mm) pl); callWith pos g first (backTo pos (starEach (e :: es) Z.X.env)) (backToKw pos (keywordEach [] Z.X.env))) := by rfl) :
    KE Z (.Call (.Attribute o (Str.ofString mm) apos) (e :: es) [] pos) (sMeth mm T fo a) := by
  refine ⟨⟨fun pins s σ H Q I ⟨ι, env, h, R, V, q⟩ => ?_⟩⟩
  refine PySem.W.methodCall_KW (pl := pl) (thn (ho.pe.run pins s σ H (fun v H1 => ∃ ι1 h1 d, HRep Z.X.K Z.cA ι1 H1 h1 ∧ VRep Z.X.K ι1 h1.length H1 σ env ∧ Rep Z.X.K ι1 h1.length H1 v d ∧
      RPost Z.X.K Z.cA Z.W σ ι1 h1 H1 (asRef d fun r => onIns h1 r fun c fs => onSome (T c) fun t => guard' (fs.lookup mm = none) ((a env h1).bind fun ds h2 => guard' (ds.length + 1 + t.2.2.length = t.1) (t.2.1 (d :: ds ++ t.2.2) h2)))
        fun d h' ι' H' => ∀ v, Rep Z.X.K ι' h'.length H' v d → Q v H') I
      ⟨ι, env, h, R, V, (RPost.bind q).mono fun d h1 ι1 H1 S1 R1 p1 v r => ⟨ι1, h1, d, R1, V.step S1 R, r, p1⟩⟩) fun u s1 ⟨v, H1, I1, rv, ι1, h1, d, R1, V1, rd, p1⟩ => ?_) ht
  obtain ⟨r, rfl, p1⟩ := p1.asRef
  obtain ⟨c, fs, hm, p1⟩ := p1.onIns
  obtain ⟨⟨n, M, dds⟩, hT1, p1⟩ := p1.onSome
  obtain ⟨hfs, p1⟩ := p1.guard
  obtain ⟨k, f, fd, ps, dvs, dsv, hC, hMe, F, hr, hb, hd, hq⟩ := (hT c n M dds hT1).ex
  cases rd with
  | ref hlt =>
    obtain ⟨ho, e3, ro⟩ := R1.obj r _ hm
    cases ro with
    | @ins _ dx fv _ rf =>
      obtain rfl : u = Value.ref (ι1 r) := rv
      refine getmeth_ok I1 e3 hC hMe (rf.none hfs) ?_
      refine PySem.W.callWith_K (first := [Value.ref (ι1 r)]) (h₀ := Z.X.base) I.ok.mod.kin hMe.kp (thn (ha.pa.run pos pins s1 σ H1 (fun vs H2 => ∃ ι2 h2 ds, HRep Z.X.K Z.cA ι2 H2 h2 ∧ Reps Z.X.K ι2 h2.length H2 (.ref (ι1 r) :: vs) (.ref r :: ds) ∧
          RPost Z.X.K Z.cA Z.W σ ι2 h2 H2 (guard' (ds.length + 1 + dds.length = n) (M (.ref r :: ds ++ dds) h2)) fun d h' ι' H' => ∀ v, Rep Z.X.K ι' h'.length H' v d → Q v H') I1
        ⟨ι1, env, h1, R1, V1, (RPost.bind p1).mono fun ds h2 ι2 H2 S2 R2 p2 vs rs => ⟨ι2, h2, ds, R2, .cons ((Rep.ref hlt).step S2 R1) rs, p2⟩⟩) fun us s2 ⟨vs, H2, I2, rvs, ι2, h2, ds, R2, rs, p2⟩ => ⟨I2.kIn, ?_⟩) hst hpl
      obtain ⟨hl, p2⟩ := p2.guard
      exact run_call F hr hb hd hq tk I2 (Paired.cons (show RelV (.ref (ι1 r)) (Value.ref (ι1 r)) from rfl) rvs) R2 rs (by simpa using hl) p2
theorem ke_meth0 {mm : String} {T : MT} {pl : Sem Bool} (ho : KE Z o fo) (hT : MethT Z (Str.ofString mm) T) (tk : Takes Z.X Z.W)
    (ht : eval (.Call (.Attribute o (Str.ofString mm) apos) [] [] pos) Z.X.env = (do
      let ov ← eval o Z.X.env; standAt apos.atName
      let (g, first) ← holding [ov] (getMethod ov (Str.ofString mm) pl); callWith pos g first (backTo pos (starEach [] Z.X.env)) (backToKw pos (keywordEach [] Z.X.env))) := by rfl) :
    KE Z (.Call (.Attribute o (Str.ofString mm) apos) [] [] pos) (sMeth mm T fo sNil) := by
  refine ⟨⟨fun pins s σ H Q I ⟨ι, env, h, R, V, q⟩ => ?_⟩⟩
  refine PySem.W.methodCall_KW (pl := pl) (thn (ho.pe.run pins s σ H (fun v H1 => ∃ ι1 h1 d, HRep Z.X.K Z.cA ι1 H1 h1 ∧ VRep Z.X.K ι1 h1.length H1 σ env ∧ Rep Z.X.K ι1 h1.length H1 v d ∧
      RPost Z.X.K Z.cA Z.W σ ι1 h1 H1 (asRef d fun r => onIns h1 r fun c fs => onSome (T c) fun t => guard' (fs.lookup mm = none) ((sNil env h1).bind fun ds h2 => guard' (ds.length + 1 + t.2.2.length = t.1) (t.2.1 (d :: ds ++ t.2.2) h2)))
        fun d h' ι' H' => ∀ v, Rep Z.X.K ι' h'.length H' v d → Q v H') I
      ⟨ι, env, h, R, V, (RPost.bind q).mono fun d h1 ι1 H1 S1 R1 p1 v r => ⟨ι1, h1, d, R1, V.step S1 R, r, p1⟩⟩) fun u s1 ⟨v, H1, I1, rv, ι1, h1, d, R1, V1, rd, p1⟩ => ?_) ht
  obtain ⟨r, rfl, p1⟩ := p1.asRef
  obtain ⟨c, fs, hm, p1⟩ := p1.onIns
  obtain ⟨⟨n, M, dds⟩, hT1, p1⟩ := p1.onSome
  obtain ⟨hfs, p1⟩ := p1.guard
  obtain ⟨k, f, fd, ps, dvs, dsv, hC, hMe, F, hr, hb, hd, hq⟩ := (hT c n M dds hT1).ex
  cases rd with
  | ref hlt =>
    obtain ⟨ho, e3, ro⟩ := R1.obj r _ hm
    cases ro with
    | @ins _ dx fv _ rf =>
      obtain rfl : u = Value.ref (ι1 r) := rv
      refine getmeth_ok I1 e3 hC hMe (rf.none hfs) ?_
      obtain ⟨hl, p2⟩ := (RPost.ok R1 (RPost.bind p1)).guard
      exact PySem.W.callWith_K0 (first := [Value.ref (ι1 r)]) I1.kIn hMe.kp (run_call (us := [Value.ref (ι1 r)]) (vs := [.ref (ι1 r)]) F hr hb hd hq tk I1 (Paired.cons (show RelV (.ref (ι1 r)) (Value.ref (ι1 r)) from rfl) .nil) R1 (.cons (.ref hlt) .nil) (by simpa using hl) p2)
end
/-! ### a def by its body -/
def startD (n : Nat) (ds : List D) : En := ds.map some ++ List.replicate (n - ds.length) none
/-- the reading of a def by that of its body; n: how many names it has -/
def defM (n : Nat) (f : SS) : FA := fun ds h => match f (startD n ds) h with
  | .ok (.nx _) h' => .ok .non h'
  | .ok (.ret d) h' => .ok d h'
  | .ok (.exc c fs _) h' => .exc c fs h'
  | _ => .stuck
theorem vrep_start {K : PySem.W.Frag} {ι : Nat → Addr} {n : Nat} {H : Hp} {N : List Str} {vs : List V} {ds : List D} (r : Reps K ι n H vs ds) : VRep K ι n H (L2.start N vs) (startD N.length ds) := by
  unfold L2.start startD
  rw [r.len]
  refine ⟨by simp [r.len], fun i d e => ?_⟩
  by_cases hi : i < ds.length
  · rw [List.getElem?_append_left (by simpa using hi)] at e
    rw [List.getElem?_append_left (by simpa [r.len] using hi)]
    simp only [List.getElem?_map, Option.map_eq_some_iff] at e
    obtain ⟨d', e1, e2⟩ := e
    cases e2
    obtain ⟨v, e3, rv⟩ := r.get e1
    exact ⟨v, by rw [List.getElem?_map, e3]; rfl, rv⟩
  · rw [List.getElem?_append_right (by simpa using Nat.le_of_not_lt hi)] at e
    have := List.mem_of_getElem? e
    simp at this
theorem okM {P : Program} {w : World} {K : PySem.W.Frag} {mg : Str → Option Value} {base : Heap} {cA : CA} {x qual : Str} {st : Stmt} {f : Addr} {fd : FuncData} {N ps : List Str} {k : Nat} {g : SS} (F : Fun K x qual st f fd) (S : FnScope N ps (defScope st))
    (hbody : ∀ (cdv : Value) (A : Around) (outer : List Env) (s : Shared) (H : Hp) (E : XK), RoomG k (A.deeper (PyProof.Rows.envOfC qual (defScope st) s.heap.objs.size f cdv)) →
      KSs ⟨cxOf (L2.CX P w) P w K mg base N qual (defScope st) f cdv A outer s H E, cA, fun cls d _ H => E cls d H⟩ (defBody st) g) :
    FnG P w K mg base (L2.CX P w) (k + 1) f fd ps (spOf K cA ps.length (defM N.length g)) :=
  funG F S (fun vs H Q E h => h.1) fun cdv A outer s H vs Q E hr ⟨hl, ι, h, ds, R, rs, q⟩ => by
    refine ⟨_, (hbody cdv A outer s H E hr).pss, ι, _, h, R, vrep_start (N := N) rs, ?_⟩
    unfold defM at q
    cases e : g (startD N.length ds) h with
    | stuck => rw [e] at q; exact q.elim
    | ok fl h' =>
      rw [e] at q
      cases fl with
      | nx env => exact fun ι' H' S' R' σ' V' => q ι' H' S' R' _ .non
      | ret d => exact q
      | brk env => exact q.elim
      | ct env => exact q.elim
      | exc c fs env => exact fun ι' H' S' R' σ' cls od V' x => q ι' H' cls od S' R' x
end
end Kf
end
section
set_option maxHeartbeats 4000000
/-! Kf: dicts with keys that are ints and texts. -/
namespace Kf
open PySem PySem.Spec L2
def keyD : D → Option Key
  | .int i => some (.inl i)
  | .str s => some (.inr (Str.ofString s))
  | .raw s => some (.inr s)
  | _ => none
def keyEq : D → D → Bool
  | .int i, .int j => i == j
  | .str s, .str t => s == t
  | .raw s, .raw t => decide (s = t)
  | .str s, .raw t => decide (Str.ofString s = t)
  | .raw s, .str t => decide (s = Str.ofString t)
  | _, _ => false
def dget : List (D × D) → D → Option D
  | [], _ => none
  | (k', v) :: r, k => if keyEq k' k then some v else dget r k
def dhas (kvs : List (D × D)) (k : D) : Bool := (dget kvs k).isSome
def dput (kvs : List (D × D)) (k v : D) : List (D × D) := if dhas kvs k then kvs.map (fun p => if keyEq p.1 k then (p.1, v) else p) else kvs ++ [(k, v)]
def ddrop (kvs : List (D × D)) (k : D) : List (D × D) := kvs.filter fun p => !keyEq p.1 k
section
variable {K : PySem.W.Frag} {ι : Nat → Addr} {n : Nat} {H : Hp}
theorem keyD_rep {x : V} {d : D} {k : Key} (r : Rep K ι n H x d) (e : keyD d = some k) : x = kV k := by
  cases r <;> simp [keyD] at e <;> subst e <;> rfl
theorem kV_key {k : Key} {d : D} (r : Rep K ι n H (kV k) d) : keyD d = some k := by
  cases k with
  | inl i => cases r; rfl
  | inr s =>
    generalize hx : kV (Sum.inr s) = x at r
    cases r <;> simp [kV] at hx
    · subst hx; rfl
    · subst hx; rfl
theorem keyEq_iff {k k' : Key} {d d' : D} (e : keyD d = some k) (e' : keyD d' = some k') : keyEq d' d = decide (k' = k) := by
  cases d <;> simp [keyD] at e <;> cases d' <;> simp [keyD] at e' <;> subst e <;> subst e'
  · rename_i i j
    by_cases h : j = i
    · simp [keyEq, h]
    · have : ¬ (Sum.inl j : Key) = Sum.inl i := fun z => h (Sum.inl.inj z)
      simp [keyEq, h]
  · simp [keyEq]
  · simp [keyEq]
  · simp [keyEq]
  · rename_i s t
    by_cases h : t = s
    · simp [keyEq, h]
    · have h2 : ¬ Str.ofString t = Str.ofString s := fun z => h (ofString_inj z)
      simp [keyEq, h, h2]
  · simp [keyEq]
  · simp [keyEq]
  · simp [keyEq]
  · simp [keyEq]
theorem KRep.get {ks : List (Key × V)} {ds : List (D × D)} (r : KRep K ι n H ks ds) {k : Key} {kd : D} (e : keyD kd = some k) : match dget ds kd with
    | some d => ∃ v, valV ks k = some v ∧ Rep K ι n H v d
    | none => valV ks k = none := by
  induction r with
  | nil => rfl
  | @cons k' kd' x d ks ds rk rx _ ih =>
    have q := keyEq_iff e (kV_key rk)
    unfold dget
    by_cases c : k' = k
    · rw [q, decide_eq_true c, if_pos rfl]
      exact ⟨x, valV_pos c, rx⟩
    · rw [q, decide_eq_false c, if_neg (by simp), valV_neg c]
      exact ih
theorem KRep.has {ks : List (Key × V)} {ds : List (D × D)} (r : KRep K ι n H ks ds) {k : Key} {kd : D} (e : keyD kd = some k) : dhas ds kd = (valV ks k).isSome := by
  have q := r.get e
  unfold dhas
  cases h : dget ds kd with
  | none => rw [h] at q; rw [q]; rfl
  | some d => rw [h] at q; obtain ⟨v, e2, _⟩ := q; rw [e2]; rfl
theorem KRep.append {ks ks' : List (Key × V)} {ds ds' : List (D × D)} (r : KRep K ι n H ks ds) (r' : KRep K ι n H ks' ds') : KRep K ι n H (ks ++ ks') (ds ++ ds') := by
  induction r with
  | nil => exact r'
  | cons a b _ ih => exact .cons a b ih
theorem KRep.len {ks : List (Key × V)} {ds : List (D × D)} (r : KRep K ι n H ks ds) : ks.length = ds.length := by
  induction r with
  | nil => rfl
  | cons _ _ _ ih => simp [ih]
theorem KRep.put {ks : List (Key × V)} {ds : List (D × D)} (r : KRep K ι n H ks ds) {k : Key} {kd : D} {v : V} {d : D} (rk : Rep K ι n H (kV k) kd) (rv : Rep K ι n H v d) : KRep K ι n H (putK ks k v) (dput ds kd d) := by
  have e := kV_key rk
  unfold putK dput
  rw [valV_any, r.has e]
  by_cases c : (valV ks k).isSome = true
  · rw [if_pos c, if_pos c]
    clear c
    induction r with
    | nil => exact .nil
    | @cons k' kd' x d' ks ds rk' rx _ ih =>
      have q := keyEq_iff e (kV_key rk')
      simp only [List.map_cons]
      refine ?_
      by_cases c : k' = k
      · rw [if_pos c, q, decide_eq_true c, if_pos rfl]; exact .cons rk' rv ih
      · rw [if_neg c, q, decide_eq_false c, if_neg (by simp)]; exact .cons rk' rx ih
  · rw [if_neg c, if_neg c]
    exact r.append (.cons rk rv .nil)
theorem KRep.drop {ks : List (Key × V)} {ds : List (D × D)} (r : KRep K ι n H ks ds) {k : Key} {kd : D} (e : keyD kd = some k) : KRep K ι n H (dropK ks k) (ddrop ds kd) := by
  unfold dropK ddrop
  induction r with
  | nil => exact .nil
  | @cons k' kd' x d' ks ds rk' rx _ ih =>
    have q := keyEq_iff e (kV_key rk')
    rw [List.filter_cons, List.filter_cons, q]
    by_cases c : k' = k
    · simp [c]; simpa using ih
    · simp [c]; exact .cons rk' rx (by simpa using ih)
end

section
variable {Z : Kx}
theorem dict_at {ι : Nat → Addr} {H : Hp} {h : Hd} {m : Nat} {kvs : List (D × D)} (R : HRep Z.X.K Z.cA ι H h) (e : h[m]? = some (.dict kvs)) : ∃ ks, H (ι m) = some (.dK ks) ∧ KRep Z.X.K ι h.length H ks kvs := by
  obtain ⟨ho, e3, ro⟩ := R.obj m _ e
  cases ro with
  | dict r => exact ⟨_, e3, r⟩
/-! ### d[k] -/
/-- the pairs of a dict, walked or not -/
def dictD (h : Hd) (m : Nat) : Option (List (D × D)) := match h[m]? with
  | some (.dict kvs) => some kvs
  | some (.lkd kvs) => some kvs
  | _ => none
theorem dictD_of {h : Hd} {m : Nat} {kvs : List (D × D)} (e : h[m]? = some (.dict kvs)) : dictD h m = some kvs := by unfold dictD; rw [e]
theorem dictD_lkd {h : Hd} {m : Nat} {kvs : List (D × D)} (e : h[m]? = some (.lkd kvs)) : dictD h m = some kvs := by unfold dictD; rw [e]
theorem dictD_rep {ι : Nat → Addr} {H : Hp} {h : Hd} {m : Nat} {kvs : List (D × D)} (R : HRep Z.X.K Z.cA ι H h) (e : dictD h m = some kvs) : ∃ ks, Rd H (ι m) (.dK ks) ∧ KRep Z.X.K ι h.length H ks kvs := by
  unfold dictD at e
  cases hm : h[m]? with
  | none => rw [hm] at e; cases e
  | some o =>
    rw [hm] at e
    cases o with
    | dict k =>
      cases e
      obtain ⟨ks, e1, r⟩ := dict_at R hm
      exact ⟨ks, .inl e1, r⟩
    | lkd k =>
      cases e
      obtain ⟨ho, e3, ro⟩ := R.obj m _ hm
      cases ro with
      | lkd r => exact ⟨_, .inr ⟨_, e3⟩, r⟩
    | lst _ => cases e
    | ins _ _ => cases e
def rDGet : R2 := fun x y H Q => ∃ a v, x = .ref a ∧ DGet H a y (some v) ∧ Q v H
theorem ix_dict (hu : Z.X.A.units + 1 < cLine) : IxR Z.X rDGet := by
  intro value slice pins s σ H x y v u Q I rx ry ⟨a, w, ex, g, q⟩ hs
  subst ex
  obtain rfl : v = Value.ref a := rx
  exact PyProof.Rows.tail_any (dict_typeIs I g) PySem.F.slot_dict_getitem.lookup (d_getItem hu I g ry fun w' s3 I3 rw' => ⟨w, H, I3, rw', q⟩) hs
def dixF : F2 := fun x y h => asRef x fun m => onSome (dictD h m) fun kvs => onSome (keyD y) fun _ => onSome (dget kvs y) fun d => .ok d h
theorem ik_dict (hu : Z.X.A.units + 1 < cLine) : IxK Z dixF := ⟨_, ix_dict hu, fun σ ι h H x y dx dy Q R rx ry p => by
  obtain ⟨m, rfl, p⟩ := p.asRef
  obtain ⟨kvs, e, p⟩ := p.onSome
  obtain ⟨k, ek, p⟩ := p.onSome
  obtain ⟨d, ed, p⟩ := p.onSome
  cases rx
  obtain ⟨ks, e1, r⟩ := dictD_rep R e
  have q := r.get ek
  rw [ed] at q
  obtain ⟨v, ev, rv⟩ := q
  refine ⟨_, v, rfl, ?_, RPost.ok R p v rv⟩
  rw [keyD_rep ry ek]
  exact .inl ⟨ks, k, e1, rfl, ev.symm⟩⟩
/-- a[b], whatever a is: a tuple, a list, a dict -/
def getF : F2 := fun x y h => match x with
  | .ref m => match h[m]? with
    | some (.lst _) => ixF x y h
    | _ => dixF x y h
  | _ => ixF x y h
theorem IxK.alt {F G M : F2} (a : IxK Z F) (b : IxK Z G) (hm : ∀ x y h, M x y h = F x y h ∨ M x y h = G x y h) : IxK Z M := by
  obtain ⟨r, hr, kr⟩ := a
  obtain ⟨q, hq, kq⟩ := b
  refine ⟨_, hr.or hq, fun σ ι h H x y dx dy Q R rx ry p => ?_⟩
  rcases hm dx dy h with e | e
  · rw [e] at p; exact .inl (kr σ ι h H x y dx dy Q R rx ry p)
  · rw [e] at p; exact .inr (kq σ ι h H x y dx dy Q R rx ry p)
theorem ik_get (hu : Z.X.A.units + 1 < cLine) : IxK Z getF := .alt ik_seq (ik_dict hu) fun x y h => by
  unfold getF
  cases x with
  | ref m =>
    dsimp only
    cases h[m]? with
    | none => exact .inr rfl
    | some o => cases o <;> first | exact .inl rfl | exact .inr rfl
  | non => exact .inl rfl
  | bl _ => exact .inl rfl
  | int _ => exact .inl rfl
  | str _ => exact .inl rfl
  | raw _ => exact .inl rfl
  | xc _ _ _ _ => exact .inl rfl
  | fls _ => exact .inl rfl
  | tup _ => exact .inl rfl
/-! ### stores -/
abbrev F3 := D → D → D → Hd → Res Unit
def StK (Z : Kx) (F : F3) : Prop := ∃ r : TSet, PSet Z.X r ∧ ∀ (σ : L2.St) (ι : Nat → Addr) (h : Hd) (H : Hp) (o i v : V) (dO di dv : D) (Q : Hp → Prop), HRep Z.X.K Z.cA ι H h → Rep Z.X.K ι h.length H o dO → Rep Z.X.K ι h.length H i di → Rep Z.X.K ι h.length H v dv →
  RPost Z.X.K Z.cA Z.W σ ι h H (F dO di dv h) (fun _ h' ι' H' => Q H') → r o i v H Q
def gSub' (fo fi : SE) (F : F3) : SG := fun d env h => (fo env h).bind fun o h1 => (fi env h1).bind fun i h2 => (F o i d h2).bind fun _ h3 => .ok env h3
theorem kg_sub {F : F3} {o i : Expr} {fo fi : SE} {pos : Pos} (hF : StK Z F) (ho : KE Z o fo) (hi : KE Z i fi)
    (ha : ∀ v, assign (.Subscript o i pos) Z.X.env v = (do
      let ov ← holding [v] (eval o Z.X.env); let iv ← holding [v, ov] (eval i Z.X.env); standAt pos
      holding [v, ov, iv] (setItem ov iv v); release [v, ov, iv] []) := by intro _; rfl) : KG Z (.Subscript o i pos) (gSub' fo fi F) := by
  obtain ⟨r, hr, k⟩ := hF
  exact ⟨(pg_sub ho.pe hi.pe hr ha).weak fun v σ H Q ⟨ι, env, h, d, R, V, rv, p⟩ => ⟨ι, env, h, R, V, (RPost.bind p).mono fun od h1 ι1 H1 S1 R1 p1 ov ro =>
    ⟨ι1, env, h1, R1, V.step S1 R, (RPost.bind p1).mono fun di h2 ι2 H2 S2 R2 p2 iv ri =>
      k σ ι2 h2 H2 ov iv v od di d _ R2 (ro.step S2 R1) ri (rv.step (S1.trans S2) R) ((RPost.bind p2).mono fun _ h3 ι3 H3 S3 R3 p3 => RPost.ok R3 p3 σ (V.step (S1.trans (S2.trans S3)) R))⟩⟩⟩
theorem StK.alt {F G M : F3} (a : StK Z F) (b : StK Z G) (hm : ∀ x y z h, M x y z h = F x y z h ∨ M x y z h = G x y z h) : StK Z M := by
  obtain ⟨r, hr, kr⟩ := a
  obtain ⟨q, hq, kq⟩ := b
  refine ⟨fun o i v H Q => r o i v H Q ∨ q o i v H Q, fun pins s σ H o i v ov iv u Q I ro ri rv z => z.elim (hr pins s σ H o i v ov iv u Q I ro ri rv) (hq pins s σ H o i v ov iv u Q I ro ri rv), fun σ ι h H o i v dO di dv Q R ro ri rv p => ?_⟩
  rcases hm dO di dv h with e | e
  · rw [e] at p; exact .inl (kr σ ι h H o i v dO di dv Q R ro ri rv p)
  · rw [e] at p; exact .inr (kq σ ι h H o i v dO di dv Q R ro ri rv p)
def setL : F3 := fun o i v h => asRef o fun m => asInt i fun k => onLst h m fun ds => onSome (ixN ds.length k) fun j => .ok () (h.set m (.lst (ds.set j v)))
theorem Reps.set {K : PySem.W.Frag} {ι : Nat → Addr} {n : Nat} {H : Hp} : ∀ {vs : List V} {ds : List D} (j : Nat) {v : V} {d : D}, Reps K ι n H vs ds → Rep K ι n H v d → Reps K ι n H (vs.set j v) (ds.set j d)
  | _, _, _, _, _, .nil, _ => .nil
  | _, _, 0, _, _, .cons _ q, r => .cons r q
  | _, _, j + 1, _, _, .cons p q, r => .cons p (Reps.set j q r)
theorem lst_at {ι : Nat → Addr} {H : Hp} {h : Hd} {m : Nat} {ds : List D} (R : HRep Z.X.K Z.cA ι H h) (e : h[m]? = some (.lst ds)) : ∃ xs, H (ι m) = some (.lst xs) ∧ Reps Z.X.K ι h.length H xs ds ∧ ∀ x u, H (ι m) ≠ some (.frz x u) := by
  obtain ⟨ho, e3, ro⟩ := R.obj m _ e
  cases ro with
  | lst r => exact ⟨_, e3, r, fun x u z => by rw [e3] at z; cases z⟩
theorem st_list : StK Z setL := ⟨_, set_list, fun σ ι h H o i v dO di dv Q R ro ri rv p => by
  obtain ⟨m, rfl, p⟩ := p.asRef
  obtain ⟨k, rfl, p⟩ := p.asInt
  obtain ⟨ds, e, p⟩ := p.onLst
  obtain ⟨j, ej, p⟩ := p.onSome
  cases ri
  cases ro with
  | ref hlt =>
    obtain ⟨xs, e3, rs, hf⟩ := lst_at R e
    refine ⟨_, xs, k, j, rfl, rfl, e3, by rw [rs.len]; exact ej, ?_⟩
    exact p ι _ (Step.set R hlt hf (.lst (xs.set j v)) (.lst (ds.set j dv))) (R.set hlt hf (.lst (rs.set j rv)))⟩
def rDPut : TSet := fun o i v H Q => ∃ a H', o = .ref a ∧ DPut H a i v H' ∧ Q H'
theorem set_dict (hu : Z.X.A.units + 1 < cLine) : PSet Z.X rDPut := by
  intro pins s σ H o i v ov iv u Q I ro ri rv ⟨a, H', eo, g, q⟩
  subst eo
  obtain rfl : ov = Value.ref a := ro
  exact d_setItem hu I g ri rv fun s4 I4 => ⟨H', I4, q⟩
def setD : F3 := fun o i v h => asRef o fun m => onDict h m fun kvs => onSome (keyD i) fun _ => guard' (kvs.length < LIM) (.ok () (h.set m (.dict (dput kvs i v))))
theorem st_dict (hu : Z.X.A.units + 1 < cLine) : StK Z setD := ⟨_, set_dict hu, fun σ ι h H o i v dO di dv Q R ro ri rv p => by
  obtain ⟨m, rfl, p⟩ := p.asRef
  obtain ⟨kvs, e, p⟩ := p.onDict
  obtain ⟨k, ek, p⟩ := p.onSome
  obtain ⟨hl, p⟩ := p.guard
  cases ro with
  | ref hlt =>
    obtain ⟨ks, e3, rs⟩ := dict_at R e
    have hf : ∀ x u, H (ι m) ≠ some (.frz x u) := fun x u z => by rw [e3] at z; cases z
    have ei := keyD_rep ri ek
    subst ei
    refine ⟨_, _, rfl, DPut.k e3 (by rw [rs.len]; exact lim_lt hl), ?_⟩
    exact p ι _ (Step.set R hlt hf (.dK (putK ks k v)) (.dict (dput kvs di dv))) (R.set hlt hf (.dict (rs.put ri rv)))⟩
def setF : F3 := fun o i v h => match o with
  | .ref m => match h[m]? with
    | some (.lst _) => setL o i v h
    | _ => setD o i v h
  | _ => .stuck
theorem st_set (hu : Z.X.A.units + 1 < cLine) : StK Z setF := .alt st_list (st_dict hu) fun x y z h => by
  unfold setF
  cases x with
  | ref m =>
    dsimp only
    cases h[m]? with
    | none => exact .inr rfl
    | some o => cases o <;> first | exact .inl rfl | exact .inr rfl
  | non => exact .inl rfl
  | bl _ => exact .inl rfl
  | int _ => exact .inl rfl
  | str _ => exact .inl rfl
  | raw _ => exact .inl rfl
  | xc _ _ _ _ => exact .inl rfl
  | fls _ => exact .inl rfl
  | tup _ => exact .inl rfl
end
end Kf
end
section
set_option maxHeartbeats 4000000
/-! Kf: dicts: displays, in, get, len, del, walks. -/
namespace Kf
open PySem PySem.Spec L2
def dmerge (acc more : List (D × D)) : List (D × D) := more.foldl (fun a p => dput a p.1 p.2) acc
section
variable {K : PySem.W.Frag} {ι : Nat → Addr} {n : Nat} {H : Hp}
theorem KRep.merge {ks : List (Key × V)} {ds : List (D × D)} (r : KRep K ι n H ks ds) : ∀ {ks' : List (Key × V)} {ds' : List (D × D)}, KRep K ι n H ks' ds' → KRep K ι n H (mergeK ks' ks) (dmerge ds' ds) := by
  induction r with
  | nil => exact fun q => q
  | cons rk rv _ ih => exact fun q => ih (q.put rk rv)
end
section
variable {Z : Kx}
/-! ### displays -/
def sPairs : List (SE × SE) → En → Hd → Res (List (D × D))
  | [], _, h => .ok [] h
  | (f, g) :: r, env, h => (f env h).bind fun k h1 => (g env h1).bind fun v h2 => (sPairs r env h2).bind fun ps h3 => .ok ((k, v) :: ps) h3
inductive PRep (K : PySem.W.Frag) (ι : Nat → Addr) (n : Nat) (H : Hp) : List (V × V) → List (D × D) → Prop where
  | nil : PRep K ι n H [] []
  | cons {x y : V} {d e : D} {ps : List (V × V)} {ds : List (D × D)} : Rep K ι n H x d → Rep K ι n H y e → PRep K ι n H ps ds → PRep K ι n H ((x, y) :: ps) ((d, e) :: ds)
theorem tPairs_of {σ : L2.St} {env : En} : ∀ (r : List (SE × SE)) {ι : Nat → Addr} {h : Hd} {H : Hp} {Q : List (V × V) → Hp → Prop}, HRep Z.X.K Z.cA ι H h → VRep Z.X.K ι h.length H σ env →
    RPost Z.X.K Z.cA Z.W σ ι h H (sPairs r env h) (fun ds h' ι' H' => ∀ ps, PRep Z.X.K ι' h'.length H' ps ds → Q ps H') → tPairs (r.map fun p => (tD Z p.1, tD Z p.2)) σ H Q
  | [], ι, h, H, Q, R, V, p => RPost.ok R p [] .nil
  | (f, g) :: r, ι, h, H, Q, R, V, p => ⟨ι, env, h, R, V, (RPost.bind p).mono fun k h1 ι1 H1 S1 R1 p1 x rx => ⟨ι1, env, h1, R1, V.step S1 R, (RPost.bind p1).mono fun v h2 ι2 H2 S2 R2 p2 y ry =>
      tPairs_of r R2 (V.step (S1.trans S2) R) ((RPost.bind p2).mono fun ds h3 ι3 H3 S3 R3 p3 ps rp => RPost.ok R3 p3 _ (.cons (rx.step (S2.trans S3) R1) (ry.step S3 R2) rp))⟩⟩
structure KPs (Z : Kx) (pos : Pos) (ks : List (Option Expr)) (vs : List Expr) (r : List (SE × SE)) : Prop where
  pps : PPs Z.X pos ks vs (r.map fun p => (tD Z p.1, tD Z p.2))
theorem kps_nil {pos : Pos} : KPs Z pos [] [] [] := ⟨pps_nil⟩
theorem kps_cons {pos : Pos} {k v : Expr} {ks : List (Option Expr)} {vs : List Expr} {f g : SE} {r : List (SE × SE)} (hk : KE Z k f) (hv : KE Z v g) (hr : KPs Z pos ks vs r) : KPs Z pos (some k :: ks) (v :: vs) ((f, g) :: r) := ⟨pps_cons hk.pe hv.pe hr.pps⟩
def sDict (r : List (SE × SE)) : SE := fun env h => (sPairs r env h).bind fun ds h1 => guard' (ds.length ≤ 15 ∧ (ds.all fun p => (keyD p.1).isSome) = true) (.ok (.ref h1.length) (h1 ++ [.dict (dmerge [] ds)]))
theorem keys_of {K : PySem.W.Frag} {ι : Nat → Addr} {n : Nat} {H : Hp} {ps : List (V × V)} {ds : List (D × D)} (r : PRep K ι n H ps ds) (e : (ds.all fun p => (keyD p.1).isSome) = true) : ∃ kvs : List (Key × V), ps = kvs.map (fun kv => (kV kv.1, kv.2)) ∧ KRep K ι n H kvs ds := by
  induction r with
  | nil => exact ⟨[], rfl, .nil⟩
  | @cons x y d e' ps ds rx ry _ ih =>
    simp only [List.all_cons, Bool.and_eq_true] at e
    obtain ⟨k, ek⟩ := Option.isSome_iff_exists.mp e.1
    obtain ⟨kvs, e1, r1⟩ := ih e.2
    have ex := keyD_rep rx ek
    subst ex
    exact ⟨(k, y) :: kvs, by rw [e1]; rfl, .cons rx ry r1⟩
theorem ke_dict {pos : Pos} {ks : List (Option Expr)} {vs : List Expr} {r : List (SE × SE)} (hp : KPs Z pos ks vs r) (hall : ks.all (·.isSome) = true := by rfl) (hl : ks.length = vs.length := by rfl) (h0 : ks ≠ [] := by exact fun z => nomatch z)
    (h15 : ks.length ≤ 15 := by decide) : KE Z (.Dict ks vs pos) (sDict r) :=
  ⟨(pe_disp hp.pps hall hl h0 h15).weak fun σ H Q ⟨ι, env, h, R, V, p⟩ => fun a ha => by
    have S0 := Step.aside R ha (.dK [])
    have R0 := R.aside ha (.dK [])
    refine tPairs_of r R0 (V.step S0 R) (RPost.mono (RPost.bind1 S0 p) fun ds h1 ι1 H1 S1 R1 p1 ps rp => ?_)
    obtain ⟨⟨hl, hk⟩, p1⟩ := p1.guard
    have na : ∀ m, m < h1.length → a ≠ ι1 m := fun m hm z => by
      by_cases c : m < h.length
      · have := S1.eq m c
        rw [this] at z
        exact R.off ha c z.symm
      · have := S1.fresh m (Nat.le_of_not_lt c) hm
        rw [← z, upd_same] at this; cases this
    have ea : H1 a = some (.dK []) := S1.keep a _ upd_same fun m hm z => R.off ha hm z.symm
    obtain ⟨kvs, ek, rk⟩ := keys_of rp hk
    refine ⟨ea, kvs, ek, ?_, ?_⟩
    · have := rk.len; omega
    · have hne : ∀ x xs, HO.dK [] ≠ HO.frz x xs := fun x xs z => by cases z
      have t1 : TKeep Z.X.K H1 (upd H1 a (.dK (mergeK [] kvs))) := tkeep_upd ea (fun _ z => by cases z) (fun _ _ z => by cases z) _
      have R2 : HRep Z.X.K Z.cA ι1 (upd H1 a (.dK (mergeK [] kvs))) h1 := ⟨fun m o e => by
        obtain ⟨ho, e3, ro⟩ := R1.obj m o e
        exact ⟨ho, by rw [upd_ne (Ne.symm (na m (lt_of_get e)))]; exact e3, ro.keep t1 (Nat.le_refl _) fun _ _ => rfl⟩, R1.inj⟩
      have S2 : Step ι h H ι1 h1 (upd H1 a (.dK (mergeK [] kvs))) := (S0.trans S1).write ha na _
      have rd : KRep Z.X.K ι1 h1.length (upd H1 a (.dK (mergeK [] kvs))) (mergeK [] kvs) (dmerge [] ds) := (rk.merge .nil).keep t1 (Nat.le_refl _) fun _ _ => rfl
      have e4 : Rep Z.X.K (more ι1 h1.length a) (h1 ++ [O.dict (dmerge [] ds)]).length (upd H1 a (.dK (mergeK [] kvs))) (.ref (more ι1 h1.length a h1.length)) (.ref h1.length) := .ref (by simp)
      rw [more_at] at e4
      exact p1 _ _ (S2.take ha _) (R2.take upd_same na (.dict rd)) _ e4⟩
def sDict0 : SE := fun _ h => .ok (.ref h.length) (h ++ [.dict []])
theorem ke_dict0 {pos : Pos} : KE Z (.Dict [] [] pos) sDict0 := ⟨pe_dnewK.weak fun σ H Q ⟨ι, env, h, R, V, p⟩ => fun a ha => by
  have e4 : Rep Z.X.K (more ι h.length a) (h ++ [O.dict []]).length (upd H a (.dK [])) (.ref (more ι h.length a h.length)) (.ref h.length) := .ref (by simp)
  rw [more_at] at e4
  exact p _ _ (Step.alloc R ha _ _) (R.alloc ha (.dict .nil)) _ e4⟩
/-! ### in, len -/
def dinF (neg : Bool) : F2 := fun x y h => asRef y fun m => onSome (dictD h m) fun kvs => onSome (keyD x) fun _ => .ok (.bl (if neg then !dhas kvs x else dhas kvs x)) h
def rDIn (neg : Bool) : R2 := fun y x H Q => ∃ a o, x = .ref a ∧ DGet H a y o ∧ Q (.bl (if neg then !o.isSome else o.isSome)) H
theorem op_din (hu : Z.X.A.units + 1 < cLine) : OpR Z.X (compareOp .In) (rDIn false) := by
  intro pins s σ H y x iv u Q I ry rx ⟨a, o, ex, g, q⟩
  subst ex
  obtain rfl : u = Value.ref a := rx
  exact d_in hu I g ry fun s3 I3 => ⟨.bl o.isSome, H, I3, rfl, q⟩
theorem op_dnotin (hu : Z.X.A.units + 1 < cLine) : OpR Z.X (compareOp .NotIn) (rDIn true) := by
  intro pins s σ H y x iv u Q I ry rx ⟨a, o, ex, g, q⟩
  subst ex
  obtain rfl : u = Value.ref a := rx
  exact d_notIn hu I g ry fun s3 I3 => ⟨.bl (!o.isSome), H, I3, rfl, q⟩
theorem din_post {neg : Bool} {σ : L2.St} {ι : Nat → Addr} {h : Hd} {H : Hp} {x y : V} {dx dy : D} {Q : VK} (R : HRep Z.X.K Z.cA ι H h) (rx : Rep Z.X.K ι h.length H x dx) (ry : Rep Z.X.K ι h.length H y dy)
    (p : RPost Z.X.K Z.cA Z.W σ ι h H (dinF neg dx dy h) fun d h' ι' H' => ∀ v, Rep Z.X.K ι' h'.length H' v d → Q v H') : rDIn neg x y H Q := by
  obtain ⟨m, rfl, p⟩ := p.asRef
  obtain ⟨kvs, e, p⟩ := p.onSome
  obtain ⟨k, ek, p⟩ := p.onSome
  cases ry
  obtain ⟨ks, e1, r⟩ := dictD_rep R e
  refine ⟨_, valV ks k, rfl, by rw [keyD_rep rx ek]; exact .inl ⟨ks, k, e1, rfl, rfl⟩, ?_⟩
  rw [← r.has ek]
  exact RPost.ok R p _ .bl
theorem ko_din (hu : Z.X.A.units + 1 < cLine) : OpK Z (compareOp .In) (dinF false) := ⟨_, op_din hu, fun σ ι h H x y dx dy Q R rx ry p => din_post R rx ry p⟩
theorem ko_dnotin (hu : Z.X.A.units + 1 < cLine) : OpK Z (compareOp .NotIn) (dinF true) := ⟨_, op_dnotin hu, fun σ ι h H x y dx dy Q R rx ry p => din_post R rx ry p⟩
/-- x in y, whatever y is -/
def memF (neg : Bool) : F2 := fun x y h => match y with
  | .ref m => match h[m]? with
    | some (.lst _) => inF neg x y h
    | _ => dinF neg x y h
  | _ => inF neg x y h
theorem memF_or (neg : Bool) (x y : D) (h : Hd) : memF neg x y h = inF neg x y h ∨ memF neg x y h = dinF neg x y h := by
  unfold memF
  cases y with
  | ref m =>
    dsimp only
    cases h[m]? with
    | none => exact .inr rfl
    | some o => cases o <;> first | exact .inl rfl | exact .inr rfl
  | non => exact .inl rfl
  | bl _ => exact .inl rfl
  | int _ => exact .inl rfl
  | str _ => exact .inl rfl
  | raw _ => exact .inl rfl
  | xc _ _ _ _ => exact .inl rfl
  | fls _ => exact .inl rfl
  | tup _ => exact .inl rfl
theorem ko_mem (hu : Z.X.A.units + 65 < cLine) : OpK Z (compareOp .In) (memF false) := .alt (ko_in hu) (ko_din (by omega)) fun x y h => memF_or _ x y h
theorem ko_notmem (hu : Z.X.A.units + 65 < cLine) : OpK Z (compareOp .NotIn) (memF true) := .alt (ko_notin hu) (ko_dnotin (by omega)) fun x y h => memF_or _ x y h
theorem CallK.alt {f : Value} {F G M : FA} (a : CallK Z f F) (b : CallK Z f G) (hm : ∀ x h, M x h = F x h ∨ M x h = G x h) : CallK Z f M := by
  obtain ⟨r, hr, kr⟩ := a
  obtain ⟨q, hq, kq⟩ := b
  refine ⟨fun xs H Q => r xs H Q ∨ q xs H Q, fun pins s σ H xs us Q I rs z => z.elim (hr pins s σ H xs us Q I rs) (hq pins s σ H xs us Q I rs), fun σ ι h H xs ds Q R rs p => ?_⟩
  rcases hm ds h with e | e
  · rw [e] at p; exact .inl (kr σ ι h H xs ds Q R rs p)
  · rw [e] at p; exact .inr (kq σ ι h H xs ds Q R rs p)
def dlenF : FA := fa1 fun d h => asRef d fun m => onDict h m fun kvs => .ok (.int kvs.length) h
theorem ck_dlen : CallK Z (.builtin "len") dlenF := ⟨_, call_lenD, fun σ ι h H xs ds Q R rs p => by
  obtain ⟨d, rfl, p⟩ := p.fa1
  obtain ⟨x, rfl, r⟩ := wit rs
  obtain ⟨m, rfl, p⟩ := p.asRef
  obtain ⟨kvs, e, p⟩ := p.onDict
  cases r
  obtain ⟨ks, e3, rk⟩ := dict_at R e
  exact ⟨_, ks, rfl, e3, by rw [rk.len]; exact RPost.ok R p _ .int⟩⟩
def lenA : FA := fun ds h => match ds with
  | [.ref m] => match h[m]? with
    | some (.dict _) => dlenF ds h
    | _ => lenF ds h
  | _ => lenF ds h
theorem ck_lenA : CallK Z (.builtin "len") lenA := .alt ck_len ck_dlen fun x h => by
  unfold lenA
  split
  · split
    · exact .inr rfl
    · exact .inl rfl
  · exact .inl rfl
end
end Kf
end
section
set_option maxHeartbeats 4000000
/-! Kf: the top's facts in bundles, short words, a law's end. -/
namespace Kf
open PySem PySem.Spec L2
/-- what stays the same through a whole law -/
structure Gx where
  P : Program
  w : World
  K : PySem.W.Frag
  mg : Str → Option Value
  base : Heap
  cA : CA
/-- a body's surroundings stand in those of the law -/
structure Kx.In (Z : Kx) (G : Gx) (k : Nat) : Prop where
  P : Z.X.prog = G.P
  w : Z.X.w = G.w
  K : Z.X.K = G.K
  mg : Z.X.mg = G.mg
  base : Z.X.base = G.base
  cA : Z.cA = G.cA
  room : RoomG k Z.X.A
  tk : Takes Z.X Z.W
  ow : PassesOwn (model Z.X.prog Z.X.w) Z.X.A Z.X.env Z.X.xe
  cm : Z.X.calm = true
theorem Kx.In.hu {Z : Kx} {G : Gx} {k : Nat} (i : Z.In G k) : Z.X.A.units + 65 < cLine := by have := i.room.rm.un; omega
theorem Kx.In.hu64 {Z : Kx} {G : Gx} {k : Nat} (i : Z.In G k) : Z.X.A.units + 64 < cLine := by have := i.room.rm.un; omega
theorem Kx.In.hu1 {Z : Kx} {G : Gx} {k : Nat} (i : Z.In G k) : Z.X.A.units + 1 < cLine := by have := i.room.rm.un; omega
theorem Kx.In.blk {Z : Kx} {G : Gx} {k : Nat} (i : Z.In G k) (s : Shared) (H : Hp) (scope : Scope) (C : Addr) (cl : List (Str × Addr)) (fp : List Addr) : (Z.blk s H scope C cl fp).In G k := ⟨i.P, i.w, i.K, i.mg, i.base, i.cA, i.room, takes0, PassesOwn.never, i.cm⟩
/-- a def of the module, ready to be called: its level, how many parameters, its reading, the defaults that fill up -/
structure CF (G : Gx) (x : Str) (k n : Nat) (M : FA) (dds : List D) : Prop where
  ex : ∃ (f : Addr) (fd : FuncData) (ps : List Str) (ds : List Value) (dvs : List V), G.mg x = some (.ref f) ∧ PySem.W.keepIn G.K (.ref f) = true ∧ FnG G.P G.w G.K G.mg G.base (L2.CX G.P G.w) k f fd ps (spOf G.K G.cA n M) ∧
    Binds G.K fd ps ds ∧ Vals dvs ds ∧ ∀ ι n H, Reps G.K ι n H dvs dds
/-- a class of the module, ready to be made -/
structure CM (G : Gx) (x : Str) (c : String) (k n : Nat) (M : FA) (dds : List D) : Prop where
  ex : ∃ (f : Addr) (fd : FuncData) (ps : List Str) (ds : List Value) (dvs : List V), G.mg x = some (.ref (G.cA c)) ∧ Mk G.K (G.cA c) f ∧ FnG G.P G.w G.K G.mg G.base (L2.CX G.P G.w) k f fd ps (spOf G.K G.cA n M) ∧
    Binds G.K fd ps ds ∧ Vals dvs ds ∧ ∀ ι n H, Reps G.K ι n H dvs dds
/-- a method of a class -/
structure CMeth (G : Gx) (m : Str) (c : String) (k n : Nat) (M : FA) (dds : List D) : Prop where
  ex : ∃ (f : Addr) (fd : FuncData) (ps : List Str) (ds : List Value) (dvs : List V), Cls G.K (G.cA c) ∧ Meth G.K (G.cA c) m f ∧ FnG G.P G.w G.K G.mg G.base (L2.CX G.P G.w) k f fd ps (spOf G.K G.cA n M) ∧
    Binds G.K fd ps ds ∧ Vals dvs ds ∧ ∀ ι n H, Reps G.K ι n H dvs dds
section
variable {Z : Kx} {G : Gx} {j k n : Nat} {x : Str} {c : String} {M : FA} {dds : List D} {p pos apos : Pos} {e o : Expr} {es : List Expr} {a : SA} {fo : SE}
theorem kc {i : Z.In G j} (F : CF G x k n M dds) (hj : k ≤ j) (hg : Gl Z.X x) (ha : KA Z (e :: es) a) (hdb : (x == ("__debug__" : Str)) = false := by decide)
    (he : starEach (e :: es) Z.X.env = (false, eval e Z.X.env) :: starEach es Z.X.env := by rfl) (hpl : (backTo pos (starEach es Z.X.env)).any (·.1) = false := by rfl) : KE Z (.Call (.Name x p) (e :: es) [] pos) (sFn n M dds a) := by
  obtain ⟨X, cA, W⟩ := Z
  obtain ⟨P, w, K, mg, base, cA'⟩ := G
  obtain ⟨h1, h2, h3, h4, h5, h6, room, tk, ow, cm⟩ := i
  obtain ⟨f, fd, ps, ds, dvs, g1, g2, g3, g4, g5, g6⟩ := F.ex
  dsimp only at *
  subst h1 h2 h3 h4 h5 h6
  exact ke_call g3 (room.mono hj) hg g1 g2 g4 g5 g6 tk ha hdb he hpl
theorem kc0 {i : Z.In G j} (F : CF G x k n M dds) (hj : k ≤ j) (hg : Gl Z.X x) (hdb : (x == ("__debug__" : Str)) = false := by decide) : KE Z (.Call (.Name x p) [] [] pos) (sFn n M dds sNil) := by
  obtain ⟨X, cA, W⟩ := Z
  obtain ⟨P, w, K, mg, base, cA'⟩ := G
  obtain ⟨h1, h2, h3, h4, h5, h6, room, tk, ow, cm⟩ := i
  obtain ⟨f, fd, ps, ds, dvs, g1, g2, g3, g4, g5, g6⟩ := F.ex
  dsimp only at *
  subst h1 h2 h3 h4 h5 h6
  exact ke_call0 g3 (room.mono hj) hg g1 g2 g4 g5 g6 tk hdb
theorem km {i : Z.In G j} (F : CM G x c k n M dds) (hj : k + 1 ≤ j) (hg : Gl Z.X x) (ha : KA Z (e :: es) a) (hdb : (x == ("__debug__" : Str)) = false := by decide)
    (he : starEach (e :: es) Z.X.env = (false, eval e Z.X.env) :: starEach es Z.X.env := by rfl) (hpl : (backTo pos (starEach es Z.X.env)).any (·.1) = false := by rfl) : KE Z (.Call (.Name x p) (e :: es) [] pos) (sNewI c n M dds a) := by
  obtain ⟨X, cA, W⟩ := Z
  obtain ⟨P, w, K, mg, base, cA'⟩ := G
  obtain ⟨h1, h2, h3, h4, h5, h6, room, tk, ow, cm⟩ := i
  obtain ⟨f, fd, ps, ds, dvs, g1, g2, g3, g4, g5, g6⟩ := F.ex
  dsimp only at *
  subst h1 h2 h3 h4 h5 h6
  exact ke_make g2 g3 (room.mono hj) hg g1 g4 g5 g6 tk ha hdb he hpl
theorem km0 {i : Z.In G j} (F : CM G x c k n M dds) (hj : k + 1 ≤ j) (hg : Gl Z.X x) (hdb : (x == ("__debug__" : Str)) = false := by decide) : KE Z (.Call (.Name x p) [] [] pos) (sNewI c n M dds sNil) := by
  obtain ⟨X, cA, W⟩ := Z
  obtain ⟨P, w, K, mg, base, cA'⟩ := G
  obtain ⟨h1, h2, h3, h4, h5, h6, room, tk, ow, cm⟩ := i
  obtain ⟨f, fd, ps, ds, dvs, g1, g2, g3, g4, g5, g6⟩ := F.ex
  dsimp only at *
  subst h1 h2 h3 h4 h5 h6
  exact ke_make0 g2 g3 (room.mono hj) hg g1 g4 g5 g6 tk hdb
/-- methods by the classes that have them -/
def tabM (l : List (String × (Nat × FA × List D))) : MT := fun c => l.lookup c
inductive CMeths (G : Gx) (j : Nat) (m : Str) : List (String × (Nat × FA × List D)) → Prop where
  | nil : CMeths G j m []
  | cons {c : String} {k n : Nat} {M : FA} {dds : List D} {l : List (String × (Nat × FA × List D))} : CMeth G m c k n M dds → k ≤ j → CMeths G j m l → CMeths G j m ((c, n, M, dds) :: l)
theorem CMeths.at {m : Str} {l : List (String × (Nat × FA × List D))} (h : CMeths G j m l) {c : String} {n : Nat} {M : FA} {dds : List D} (e : l.lookup c = some (n, M, dds)) : ∃ k, k ≤ j ∧ CMeth G m c k n M dds := by
  induction h with
  | nil => cases e
  | @cons c' k n' M' dds' l h hj _ ih =>
    rw [List.lookup_cons] at e
    cases q : c == c' with
    | true =>
      rw [q] at e
      cases e
      have := eq_of_beq q
      subst this
      exact ⟨k, hj, h⟩
    | false => rw [q] at e; exact ih e
theorem mt_of {i : Z.In G j} {m : Str} {l : List (String × (Nat × FA × List D))} (h : CMeths G j m l) : MethT Z m (tabM l) := fun c n M dds e => by
  obtain ⟨k, hk, hm⟩ := h.at e
  obtain ⟨X, cA, W⟩ := Z
  obtain ⟨P, w, K, mg, base, cA'⟩ := G
  obtain ⟨h1, h2, h3, h4, h5, h6, room, tk, ow, cm⟩ := i
  obtain ⟨f, fd, ps, ds, dvs, g1, g2, g3, g4, g5, g6⟩ := hm.ex
  dsimp only at *
  subst h1 h2 h3 h4 h5 h6
  exact ⟨k, f, fd, ps, dvs, ds, g1, g2, g3, room.mono hk, g4, g5, g6⟩
theorem ks_meth {i : Z.In G j} {mm : String} {l : List (String × (Nat × FA × List D))} {pl : Sem Bool} (ho : KE Z o fo) (h : CMeths G j (Str.ofString mm) l) (ha : KA Z (e :: es) a)
    (hst : starEach (e :: es) Z.X.env = (false, eval e Z.X.env) :: starEach es Z.X.env := by rfl) (hpl : (backTo pos (starEach es Z.X.env)).any (·.1) = false := by rfl)
    (ht : eval (.Call (.Attribute o (Str.ofString mm) apos) (e :: es) [] pos) Z.X.env = (do
      let ov ← eval o Z.X.env; standAt apos.atName
      let (g, first) ← holding [ov] (getMethod ov (Str.ofString mm) pl); callWith pos g first (backTo pos (starEach (e :: es) Z.X.env)) (backToKw pos (keywordEach [] Z.X.env))) := by rfl) :
    KE Z (.Call (.Attribute o (Str.ofString mm) apos) (e :: es) [] pos) (sMeth mm (tabM l) fo a) := ke_meth ho (mt_of (i := i) h) i.tk ha hst hpl ht
theorem ks_meth0 {i : Z.In G j} {mm : String} {l : List (String × (Nat × FA × List D))} {pl : Sem Bool} (ho : KE Z o fo) (h : CMeths G j (Str.ofString mm) l)
    (ht : eval (.Call (.Attribute o (Str.ofString mm) apos) [] [] pos) Z.X.env = (do
      let ov ← eval o Z.X.env; standAt apos.atName
      let (g, first) ← holding [ov] (getMethod ov (Str.ofString mm) pl); callWith pos g first (backTo pos (starEach [] Z.X.env)) (backToKw pos (keywordEach [] Z.X.env))) := by rfl) :
    KE Z (.Call (.Attribute o (Str.ofString mm) apos) [] [] pos) (sMeth mm (tabM l) fo sNil) := ke_meth0 ho (mt_of (i := i) h) i.tk ht
end
/-! ### a def of the text -/
/-- a def (or method) as the top leaves it, with its defaults -/
structure GF (G : Gx) (x qual : Str) (st : Stmt) (f : Addr) (fd : FuncData) (ps : List Str) (ds : List Value) : Prop where
  F : Fun G.K x qual st f fd
  b : Binds G.K fd ps ds
abbrev Gx.kx (G : Gx) (N : List Str) (qual : Str) (sc : Scope) (f : Addr) (cdv : Value) (A : Around) (outer : List Env) (s : Shared) (H : Hp) (E : XK) : Kx :=
  ⟨cxOf (L2.CX G.P G.w) G.P G.w G.K G.mg G.base N qual sc f cdv A outer s H E, G.cA, fun cls d _ H => E cls d H⟩
theorem kx_in {G : Gx} {N : List Str} {qual : Str} {sc : Scope} {f : Addr} {cdv : Value} {A : Around} {outer : List Env} {s : Shared} {H : Hp} {E : XK} {k : Nat} (hr : RoomG k (A.deeper (PyProof.Rows.envOfC qual sc s.heap.objs.size f cdv))) :
    (G.kx N qual sc f cdv A outer s H E).In G k := ⟨rfl, rfl, rfl, rfl, rfl, rfl, hr, takes_of rfl rfl rfl rfl, passes_of rfl, rfl⟩
theorem fn_of' {G : Gx} {x qual : Str} {st : Stmt} {f : Addr} {fd : FuncData} {N ps : List Str} {k : Nat} {g : SS} (F : Fun G.K x qual st f fd) (S : FnScope N ps (defScope st))
    (hbody : ∀ (cdv : Value) (A : Around) (outer : List Env) (s : Shared) (H : Hp) (E : XK), (G.kx N qual (defScope st) f cdv A outer s H E).In G k → KSs (G.kx N qual (defScope st) f cdv A outer s H E) (defBody st) g) :
    FnG G.P G.w G.K G.mg G.base (L2.CX G.P G.w) (k + 1) f fd ps (spOf G.K G.cA ps.length (defM N.length g)) := okM F S fun cdv A outer s H E hr => hbody cdv A outer s H E (kx_in hr)
/-- the end of a law -/
theorem law_sp {K : PySem.W.Frag} {cA : CA} {M : FA} {n : Nat} (h : ∀ ns : List Int, ns.length ≤ n → ∃ h', M [.fls (ns.map D.int)] [] = .ok (.bl true) h') (H : Hp) (a : Addr) (ns : List Int) (hl : ns.length ≤ n) (hO : Only H) (hS : SqL K H a (ns.map V.int)) :
    spOf K cA 1 M [.ref a] H (fun v _ => v = .bl true) fun _ _ _ => False := by
  refine ⟨rfl, fun _ => 0, [], [.fls (ns.map D.int)], ⟨fun m o e => by simp at e, fun m k hm _ _ => absurd hm (Nat.not_lt_zero _)⟩, .cons (.fls (xs := ns.map V.int) ?_ ?_) .nil, ?_⟩
  · rcases hS with (e | ⟨o, e⟩) | q
    · rcases hO a with z | ⟨o, xs, z⟩ <;> rw [z] at e <;> cases e
    · exact .inl ⟨o, e⟩
    · exact .inr q
  · clear hl hS
    induction ns with
    | nil => exact .nil
    | cons _ _ ih => exact .cons .int ih
  · obtain ⟨h', e⟩ := h ns hl
    rw [e]
    exact fun ι' H' _ _ v r => by cases r; rfl
end Kf
end
section
set_option maxHeartbeats 4000000
/-! Kf: more rules: chains, values of and, or, not; pairs stored at once; lists joined; built-ins over new lists. -/
namespace Kf
open PySem PySem.Spec L2
section
variable {Z : Kx}
theorem kv (i : Nat) {x : Str} {pos : Pos} (hN : Z.X.N[i]? = some x := by rfl) (hv : Vis Z.X.env.scope x := by first | exact Or.inl rfl | exact Or.inr (Or.inl rfl) | exact Or.inr (Or.inr rfl)) (hd : (x == ("__debug__" : Str)) = false := by decide)
    (hcd : (x == ("__classdict__" : Str)) = false := by decide) : KE Z (.Name x pos) (sVar i) := ke_var hN hv hd hcd
theorem gn (i : Nat) {x : Str} {pos : Pos} (hN : Z.X.N.Nodup) (hi : Z.X.N[i]? = some x := by rfl) (hx : Loc Z.X.env.scope x := by first | exact Or.inl rfl | exact Or.inr rfl)
    (hf : Z.X.fn x = true ∨ Z.X.env.scope.names.lookup x = some .local := by first | exact .inl rfl | exact .inr rfl) : KG Z (.Name x pos) (gN i) := kg_name hN hi hx hf
theorem gw (i : Nat) {x : Str} {pos : Pos} {vs : List Nat} (hN : Z.X.N.Nodup) (hv : i ∈ vs := by decide) (hi : Z.X.N[i]? = some x := by rfl) (hx : Loc Z.X.env.scope x := by first | exact Or.inl rfl | exact Or.inr rfl)
    (hf : Z.X.fn x = true ∨ Z.X.env.scope.names.lookup x = some .local := by first | exact .inl rfl | exact .inr rfl) : KGw Z (.Name x pos) (gN i) vs := kgw_name hv hN hi hx hf
/-! ### values of tests -/
section
variable {a b c : Expr} {rest : List Expr} {f g k : SE} {pos : Pos}
def sAndV (f g : SE) : SE := fun env h => (f env h).bind fun d h1 => asBl d fun b => if b = true then g env h1 else .ok (.bl false) h1
def sOrV (f g : SE) : SE := fun env h => (f env h).bind fun d h1 => asBl d fun b => if b = true then .ok (.bl true) h1 else g env h1
def sNotV (f : SE) : SE := fun env h => (f env h).bind fun d h1 => asBl d fun b => .ok (.bl (!b)) h1
theorem ke_one {op : BoolOp} (h : KE Z a f) : KE Z (.BoolOp op [a] pos) f := ⟨pe_one h.pe⟩
theorem ke_and (ha : KE Z a f) (hb : KE Z (.BoolOp .And (b :: rest) pos) g) : KE Z (.BoolOp .And (a :: b :: rest) pos) (sAndV f g) :=
  ⟨(pe_and ha.pe hb.pe).weak fun σ H Q ⟨ι, env, h, R, V, p⟩ => ⟨ι, env, h, R, V, (RPost.bind p).mono fun d h1 ι1 H1 S1 R1 p1 v r => by
    obtain ⟨t, e0, p2⟩ := p1.asBl
    subst e0
    cases r
    refine ⟨t, rfl, ?_⟩
    cases t with
    | true => rw [if_pos rfl] at p2 ⊢; exact ⟨ι1, env, h1, R1, V.step S1 R, p2⟩
    | false => rw [if_neg Bool.false_ne_true] at p2 ⊢; exact RPost.ok R1 p2 _ .bl⟩⟩
theorem ke_or (ha : KE Z a f) (hb : KE Z (.BoolOp .Or (b :: rest) pos) g) : KE Z (.BoolOp .Or (a :: b :: rest) pos) (sOrV f g) :=
  ⟨(pe_or ha.pe hb.pe).weak fun σ H Q ⟨ι, env, h, R, V, p⟩ => ⟨ι, env, h, R, V, (RPost.bind p).mono fun d h1 ι1 H1 S1 R1 p1 v r => by
    obtain ⟨t, e0, p2⟩ := p1.asBl
    subst e0
    cases r
    refine ⟨t, rfl, ?_⟩
    cases t with
    | false => rw [if_neg Bool.false_ne_true] at p2 ⊢; exact ⟨ι1, env, h1, R1, V.step S1 R, p2⟩
    | true => rw [if_pos rfl] at p2 ⊢; exact RPost.ok R1 p2 _ .bl⟩⟩
theorem ke_not (ha : KE Z a f) : KE Z (.UnaryOp .Not a pos) (sNotV f) :=
  ⟨(pe_not ha.pe).weak fun σ H Q ⟨ι, env, h, R, V, p⟩ => ⟨ι, env, h, R, V, (RPost.bind p).mono fun d h1 ι1 H1 S1 R1 p1 v r => by
    obtain ⟨t, rfl, p1⟩ := p1.asBl
    cases r
    exact ⟨t, rfl, RPost.ok R1 p1 _ .bl⟩⟩⟩
def sNeg (f : SE) : SE := fun env h => (f env h).bind fun d h1 => asInt d fun i => .ok (.int (-i)) h1
theorem ke_neg (ha : KE Z a f) : KE Z (.UnaryOp .USub a pos) (sNeg f) :=
  ⟨(pe_un un_neg ha.pe).weak fun σ H Q ⟨ι, env, h, R, V, p⟩ => ⟨ι, env, h, R, V, (RPost.bind p).mono fun d h1 ι1 H1 S1 R1 p1 v r => by
    obtain ⟨t, rfl, p1⟩ := p1.asInt
    cases r
    exact ⟨t, rfl, RPost.ok R1 p1 _ .int⟩⟩⟩
def sChain (F F' : F2) (f g k : SE) : SE := fun env h => (f env h).bind fun x h1 => (g env h1).bind fun y h2 => (F x y h2).bind fun t h3 => asBl t fun b => if b = true then (k env h3).bind fun z h4 => F' y z h4 else .ok (.bl false) h3
theorem ke_chain {op op' : CmpOp} {F F' : F2} (ho : OpK Z (compareOp op) F) (ho' : OpK Z (compareOp op') F') (ha : KE Z a f) (hb : KE Z b g) (hc : KE Z c k)
    (hm : lastMarks [op, op'] [b, c] = false := by with_unfolding_all rfl) : KE Z (.Compare a [op, op'] [b, c] pos) (sChain F F' f g k) := by
  obtain ⟨r, hr, kr⟩ := ho
  obtain ⟨q, hq, kq⟩ := ho'
  exact ⟨(pe_chain hr hq ha.pe hb.pe hc.pe hm).weak fun σ H Q ⟨ι, env, h, R, V, p⟩ => ⟨ι, env, h, R, V, (RPost.bind p).mono fun d h1 ι1 H1 S1 R1 p1 v rx =>
    ⟨ι1, env, h1, R1, V.step S1 R, (RPost.bind p1).mono fun e h2 ι2 H2 S2 R2 p2 u ry => kr σ ι2 h2 H2 v u d e _ R2 (rx.step S2 R1) ry ((RPost.bind p2).mono fun t h3 ι3 H3 S3 R3 p3 z rz => by
      obtain ⟨b, e0, p5⟩ := p3.asBl
      subst e0
      cases rz
      refine ⟨b, rfl, ?_⟩
      cases b with
      | true =>
        rw [if_pos rfl] at p5 ⊢
        exact ⟨ι3, env, h3, R3, V.step (S1.trans (S2.trans S3)) R, (RPost.bind p5).mono fun d4 h4 ι4 H4 S4 R4 p4 w rw => kq σ ι4 h4 H4 u w e d4 Q R4 (ry.step (S3.trans S4) R2) rw p4⟩
      | false => rw [if_neg Bool.false_ne_true] at p5 ⊢; exact RPost.ok R3 p5 _ .bl)⟩⟩⟩
end
theorem test_of {f : SE} {t : TE} {σ : L2.St} {H : Hp} {Q : Bool → Hp → Prop} (k : ∀ σ H Q, tD Z f σ H Q → t σ H Q) (q : tDB Z (sTest f) σ H Q) : tTest t σ H Q := by
  obtain ⟨ι, env, h, R, V, p⟩ := q
  exact k σ H _ ⟨ι, env, h, R, V, (RPost.bind p).mono fun d h1 ι1 H1 S1 R1 p1 v r => by
    cases r with
    | bl => exact ⟨_, rfl, RPost.ok R1 p1⟩
    | non => exact p1.elim
    | int => exact p1.elim
    | str => exact p1.elim
    | raw => exact p1.elim
    | tup _ _ => exact p1.elim
    | ref _ => exact p1.elim
    | xc0 => exact p1.elim
    | xc _ _ => exact p1.elim
    | fls _ _ => exact p1.elim⟩
theorem kb_cmp {op : CmpOp} {F : F2} {a b : Expr} {f g : SE} {pos : Pos} (ho : OpK Z (compareOp op) F) (ha : KE Z a f) (hb : KE Z b g) (hm : behindInMarks op b = false := by first | exact nomark _ | rfl) : KB Z (.Compare a [op] [b] pos) (sTest (s2 F f g)) := by
  obtain ⟨r, hr, k⟩ := ho
  exact ⟨(pt_cmpR hr ha.pe hb.pe hm).weak fun σ H Q q => test_of (t2_of k) q⟩
theorem chain_of {op op' : CmpOp} {F F' : F2} {a b c : Expr} {f g k : SE} {pos : Pos} {r r' : R2}
    (kr : ∀ (σ : L2.St) (ι : Nat → Addr) (h : Hd) (H : Hp) (x y : V) (dx dy : D) (Q : VK), HRep Z.X.K Z.cA ι H h → Rep Z.X.K ι h.length H x dx → Rep Z.X.K ι h.length H y dy → RPost Z.X.K Z.cA Z.W σ ι h H (F dx dy h) (fun d h' ι' H' => ∀ v, Rep Z.X.K ι' h'.length H' v d → Q v H') → r x y H Q)
    (kq : ∀ (σ : L2.St) (ι : Nat → Addr) (h : Hd) (H : Hp) (x y : V) (dx dy : D) (Q : VK), HRep Z.X.K Z.cA ι H h → Rep Z.X.K ι h.length H x dx → Rep Z.X.K ι h.length H y dy → RPost Z.X.K Z.cA Z.W σ ι h H (F' dx dy h) (fun d h' ι' H' => ∀ v, Rep Z.X.K ι' h'.length H' v d → Q v H') → r' x y H Q)
    (σ : L2.St) (H : Hp) (Q : VK) (z : tD Z (sChain F F' f g k) σ H Q) : tChain r r' (tD Z f) (tD Z g) (tD Z k) σ H Q := by
  obtain ⟨ι, env, h, R, V, p⟩ := z
  exact ⟨ι, env, h, R, V, (RPost.bind p).mono fun d h1 ι1 H1 S1 R1 p1 v rx =>
    ⟨ι1, env, h1, R1, V.step S1 R, (RPost.bind p1).mono fun e h2 ι2 H2 S2 R2 p2 u ry => kr σ ι2 h2 H2 v u d e _ R2 (rx.step S2 R1) ry ((RPost.bind p2).mono fun t h3 ι3 H3 S3 R3 p3 z rz => by
      obtain ⟨b, e0, p5⟩ := p3.asBl
      subst e0
      cases rz
      refine ⟨b, rfl, ?_⟩
      cases b with
      | true =>
        rw [if_pos rfl] at p5 ⊢
        exact ⟨ι3, env, h3, R3, V.step (S1.trans (S2.trans S3)) R, (RPost.bind p5).mono fun d4 h4 ι4 H4 S4 R4 p4 w rw => kq σ ι4 h4 H4 u w e d4 Q R4 (ry.step (S3.trans S4) R2) rw p4⟩
      | false => rw [if_neg Bool.false_ne_true] at p5 ⊢; exact RPost.ok R3 p5 _ .bl)⟩⟩
theorem kb_chain {op op' : CmpOp} {F F' : F2} {a b c : Expr} {f g k : SE} {pos : Pos} (ho : OpK Z (compareOp op) F) (ho' : OpK Z (compareOp op') F') (ha : KE Z a f) (hb : KE Z b g) (hc : KE Z c k)
    (hm : lastMarks [op, op'] [b, c] = false := by with_unfolding_all rfl) : KB Z (.Compare a [op, op'] [b, c] pos) (sTest (sChain F F' f g k)) := by
  obtain ⟨r, hr, kr⟩ := ho
  obtain ⟨q, hq, kq⟩ := ho'
  exact ⟨(pt_chain hr hq ha.pe hb.pe hc.pe hm).weak fun σ H Q z => test_of (chain_of (op := op) (op' := op') (a := a) (b := b) (c := c) (pos := pos) kr kq) z⟩
/-! ### a, b = x, y -/
def sPar (is : List Nat) (a : SA) : SS := fun env h => (a env h).lift env fun ds h1 => if ds.length = is.length then .ok (.nx ((is.zip ds).foldl (fun e p => e.set p.1 (some p.2)) env)) h1 else .stuck
theorem ks_par2 {i j : Nat} {x y : Str} {a b : Expr} {f : SA} {px py pt pos : Pos} {kt k2 : Nat} {pt2 : Pos} (hc : Z.X.calm = true) (hN : Z.X.N.Nodup) (ha : KA Z [a, b] f) (hij : i ≠ j := by decide) (hi : Z.X.N[i]? = some x := by rfl) (hj : Z.X.N[j]? = some y := by rfl)
    (hx : Z.X.env.scope.names.lookup x = some .local := by rfl) (hy : Z.X.env.scope.names.lookup y = some .local := by rfl)
    (hw : swappedStores [.Tuple [.Name x px, .Name y py] kt pt] (.Tuple [a, b] k2 pt2) Z.X.env = pure (some [x, y]) := by rfl)
    (hs : swapsWithSole [.Tuple [.Name x px, .Name y py] kt pt] (.Tuple [a, b] k2 pt2) pos.line Z.X.env = pure false := by rfl) :
    KS Z (.Assign [.Tuple [.Name x px, .Name y py] kt pt] (.Tuple [a, b] k2 pt2) pos) (sPar [i, j] f) :=
  ⟨(ps_par hc hN hi hj hij hx hy ha.pa hw hs).weak fun Dd σ H ⟨ι, env, h, R, V, p⟩ => ⟨ι, env, h, R, V, (RsPost.of R V p).mono fun ds h1 ι1 H1 S1 R1 p1 vs rs => by
    match ds, rs, p1 with
    | [], _, p1 => exact p1.elim
    | [_], _, p1 => exact p1.elim
    | _ :: _ :: _ :: _, _, p1 => simp at p1; exact p1.elim
    | [d, e], rs, p1 =>
      obtain ⟨v, w, rfl, r1, r2⟩ := wit2 rs
      exact ⟨v, w, rfl, RsPost.fin (fl := .nx ((env.set i (some d)).set j (some e))) R1 p1 _ (((V.step S1 R).set r1).set r2)⟩⟩⟩
theorem ks_par3 {i j l : Nat} {x y z : Str} {a b c : Expr} {f : SA} {px py pz pt pos : Pos} {kt k2 : Nat} {pt2 : Pos} (hc : Z.X.calm = true) (hN : Z.X.N.Nodup) (ha : KA Z [a, b, c] f) (hij : i ≠ j := by decide) (hil : i ≠ l := by decide) (hjl : j ≠ l := by decide)
    (hi : Z.X.N[i]? = some x := by rfl) (hj : Z.X.N[j]? = some y := by rfl) (hl : Z.X.N[l]? = some z := by rfl)
    (hx : Z.X.env.scope.names.lookup x = some .local := by rfl) (hy : Z.X.env.scope.names.lookup y = some .local := by rfl) (hz : Z.X.env.scope.names.lookup z = some .local := by rfl)
    (hw : swappedStores [.Tuple [.Name x px, .Name y py, .Name z pz] kt pt] (.Tuple [a, b, c] k2 pt2) Z.X.env = pure (some [x, y, z]) := by rfl)
    (hs : swapsWithSole [.Tuple [.Name x px, .Name y py, .Name z pz] kt pt] (.Tuple [a, b, c] k2 pt2) pos.line Z.X.env = pure false := by rfl) :
    KS Z (.Assign [.Tuple [.Name x px, .Name y py, .Name z pz] kt pt] (.Tuple [a, b, c] k2 pt2) pos) (sPar [i, j, l] f) :=
  ⟨(ps_par3 hc hN hi hj hl hij hil hjl hx hy hz ha.pa hw hs).weak fun Dd σ H ⟨ι, env, h, R, V, p⟩ => ⟨ι, env, h, R, V, (RsPost.of R V p).mono fun ds h1 ι1 H1 S1 R1 p1 vs rs => by
    match ds, rs, p1 with
    | [], _, p1 => exact p1.elim
    | [_], _, p1 => exact p1.elim
    | [_, _], _, p1 => exact p1.elim
    | _ :: _ :: _ :: _ :: _, _, p1 => simp at p1; exact p1.elim
    | [d, e, u], rs, p1 =>
      cases rs with
      | cons r1 rs =>
        obtain ⟨v, w, rfl, r2, r3⟩ := wit2 rs
        exact ⟨_, v, w, rfl, RsPost.fin (fl := .nx (((env.set i (some d)).set j (some e)).set l (some u))) R1 p1 _ ((((V.step S1 R).set r1).set r2).set r3)⟩⟩⟩
/-! ### name += e -/
def sAug (i : Nat) (F : F2) (f : SE) : SS := fun env h => Res.lift (sVar i env h) env fun x h0 => (f env h0).lift env fun y h1 => (F x y h1).lift env fun z h2 => .ok (.nx (env.set i (some z))) h2
theorem ks_augI {i : Nat} {x : Str} {e : Expr} {f : SE} {pos pos' : Pos} (hN : Z.X.N.Nodup) (he : KE Z e f) (hi : Z.X.N[i]? = some x := by rfl) (hx : Loc Z.X.env.scope x := by first | exact Or.inl rfl | exact Or.inr rfl)
    (hf : Z.X.fn x = true ∨ Z.X.env.scope.names.lookup x = some .local := by first | exact .inl rfl | exact .inr rfl) : KS Z (.AugAssign (.Name x pos') .Add e pos) (sAug i (f2I yes2 fun i j => .int (i + j)) f) :=
  ⟨(ps_aug hN hi hx he.pe ip_add hf).weak fun Dd σ H ⟨ι, env, h, R, V, p⟩ => by
    unfold sAug sVar at p
    cases e : env[i]? with
    | none => rw [e] at p; exact p.elim
    | some o =>
      cases o with
      | none => rw [e] at p; exact p.elim
      | some d =>
        rw [e] at p
        have p : RsPost Z Dd ι h H ((f env h).lift env fun y h1 => (f2I yes2 (fun i j => D.int (i + j)) d y h1).lift env fun z h2 => .ok (.nx (env.set i (some z))) h2) := p
        obtain ⟨v, e1, r⟩ := V.var i d e
        refine ⟨v, e1, ι, env, h, R, V, (RsPost.of R V p).mono fun dy h1 ι1 H1 S1 R1 p1 y ry => ?_⟩
        cases r <;> cases ry <;> first | exact p1.elim | skip
        exact ⟨_, _, rfl, rfl, RsPost.fin R1 p1 _ ((V.step S1 R).set .int)⟩⟩
/-! ### lists joined, many times over -/
theorem alloc_post {σ : L2.St} {ι : Nat → Addr} {h : Hd} {H : Hp} {o : O} {ho : HO} {a : Addr} {Q : VK} (R : HRep Z.X.K Z.cA ι H h) (ha : H a = none) (r : ORep Z.X.K Z.cA ι h.length H ho o)
    (p : RPost Z.X.K Z.cA Z.W σ ι h H (.ok (.ref h.length) (h ++ [o])) fun d h' ι' H' => ∀ v, Rep Z.X.K ι' h'.length H' v d → Q v H') : Q (.ref a) (upd H a ho) := by
  have e4 : Rep Z.X.K (more ι h.length a) (h ++ [o]).length (upd H a ho) (.ref (more ι h.length a h.length)) (.ref h.length) := .ref (by simp)
  rw [more_at] at e4
  exact p _ _ (Step.alloc R ha _ _) (R.alloc ha r) _ e4
def addL : F2 := fun x y h => asRef x fun m => asRef y fun k => onLst h m fun xs => onLst h k fun ys => guard' (xs.length + ys.length ≤ LIM) (.ok (.ref h.length) (h ++ [.lst (xs ++ ys)]))
theorem ko_addL : OpK Z (binaryOp .Add) addL := ⟨_, op_cat, fun σ ι h H x y dx dy Q R rx ry p => by
  obtain ⟨m, em, q1⟩ := p.asRef
  obtain ⟨k, ek, q2⟩ := q1.asRef
  obtain ⟨xs, e1, q3⟩ := q2.onLst
  obtain ⟨ys, e2, q4⟩ := q3.onLst
  obtain ⟨c, q5⟩ := q4.guard
  subst em ek
  cases rx
  cases ry
  obtain ⟨us, f1, r1, _⟩ := lst_at R e1
  obtain ⟨vs, f2, r2, _⟩ := lst_at R e2
  exact ⟨_, _, us, vs, rfl, rfl, f1, f2, by rw [r1.len, r2.len]; exact lim_le c, fun a ha => alloc_post R ha (.lst (r1.append r2)) q5⟩⟩
def addA : F2 := fun x y h => match x with
  | .ref _ => addL x y h
  | _ => addF x y h
theorem ko_plusA : OpK Z (binaryOp .Add) addA := .alt ko_plus ko_addL fun x y h => by cases x <;> simp [addA]
theorem Reps.rep {K : PySem.W.Frag} {ι : Nat → Addr} {n : Nat} {H : Hp} {vs : List V} {ds : List D} (r : Reps K ι n H vs ds) : ∀ k : Nat, Reps K ι n H (List.replicate k vs).flatten (List.replicate k ds).flatten
  | 0 => .nil
  | k + 1 => by
    rw [List.replicate_succ, List.replicate_succ, List.flatten_cons, List.flatten_cons]
    exact r.append (r.rep k)
def repL : F2 := fun x y h => asRef x fun m => asInt y fun k => onLst h m fun xs => guard' ((-9223372036854775808 ≤ k ∧ k < 9223372036854775808) ∧ xs.length * k.toNat ≤ LIM) (.ok (.ref h.length) (h ++ [.lst (List.replicate k.toNat xs).flatten]))
theorem ko_repL : OpK Z (binaryOp .Mult) repL := ⟨_, op_rep, fun σ ι h H x y dx dy Q R rx ry p => by
  obtain ⟨m, em, q1⟩ := p.asRef
  obtain ⟨k, ek, q2⟩ := q1.asInt
  obtain ⟨xs, e1, q3⟩ := q2.onLst
  obtain ⟨c, q5⟩ := q3.guard
  subst em ek
  cases rx
  cases ry
  obtain ⟨us, f1, r1, _⟩ := lst_at R e1
  have e63 : (2 : Int) ^ 63 = 9223372036854775808 := by decide
  exact ⟨_, k, us, rfl, rfl, f1, by rw [e63]; exact c.1.1, by rw [e63]; exact c.1.2, by rw [r1.len]; exact lim_le c.2, fun a ha => alloc_post R ha (.lst (r1.rep _)) q5⟩⟩
def mulF : F2 := f2I (fun i j => (decide (-(18446744073709551616) < i) && decide (i < 18446744073709551616)) || (decide (-(18446744073709551616) < j) && decide (j < 18446744073709551616))) fun i j => .int (i * j)
def mulA : F2 := fun x y h => match x with
  | .ref _ => repL x y h
  | _ => mulF x y h
theorem ko_times : OpK Z (binaryOp .Mult) mulA := .alt ko_mul ko_repL fun x y h => by cases x <;> simp [mulA, mulF]
/-! ### built-ins over a new list -/
def CallKN (Z : Kx) (f : Value) (F : List D → Hd → Res D) : Prop := ∃ r, CallR Z.X f r ∧ ∀ (σ : L2.St) (ι : Nat → Addr) (h : Hd) (H : Hp) (p : Addr) (xs : List V) (ds : List D) (Q : VK), HRep Z.X.K Z.cA ι H h → H p = some (.lst xs) → Reps Z.X.K ι h.length H xs ds →
  RPost Z.X.K Z.cA Z.W σ ι h H (F ds h) (fun d h' ι' H' => ∀ v, Rep Z.X.K ι' h'.length H' v d → Q v H') → r [.ref p] H Q
section
variable {x : Str} {p pos : Pos} {e : Expr} {a : SA} {F : List D → Hd → Res D} {id T : String}
def sCallN (F : List D → Hd → Res D) (a : SA) : SE := fun env h => (a env h).bind fun ds h1 => F ds h1
theorem ke_callBN (hc : CallKN Z (.builtin id) F) (hg : Gl Z.X x) (hm : Z.X.mg x = none) (hv : bootBuiltins x = some (.builtin id)) (hl : KL Z e a) (hn : x ≠ "__name__" := by decide) (hdb : (x == ("__debug__" : Str)) = false := by decide)
    (he : starEach [e] Z.X.env = (false, eval e Z.X.env) :: starEach [] Z.X.env := by rfl) (hpl : (backTo pos (starEach [] Z.X.env)).any (·.1) = false := by rfl) : KE Z (.Call (.Name x p) [e] [] pos) (sCallN F a) := by
  obtain ⟨r, hr, k⟩ := hc
  exact ⟨(pe_callB hr hg hm hv (pa_cons hl.pe pa_nil he) hn hdb he hpl).weak fun σ H Q ⟨ι, env, h, R, V, p⟩ => ⟨ι, env, h, R, V, (RPost.bind p).mono fun ds h1 ι1 H1 S1 R1 p1 b vs _ e2 _ rs => k σ ι1 h1 H1 b vs ds Q R1 e2 rs p1⟩⟩
theorem ke_callTN (hc : CallKN Z (.type T) F) (hg : Gl Z.X x) (hm : Z.X.mg x = none) (hv : bootBuiltins x = some (.type T)) (hl : KL Z e a) (hn : x ≠ "__name__" := by decide) (hdb : (x == ("__debug__" : Str)) = false := by decide)
    (he : starEach [e] Z.X.env = (false, eval e Z.X.env) :: starEach [] Z.X.env := by rfl) (hpl : (backTo pos (starEach [] Z.X.env)).any (·.1) = false := by rfl) : KE Z (.Call (.Name x p) [e] [] pos) (sCallN F a) := by
  obtain ⟨r, hr, k⟩ := hc
  exact ⟨(pe_callTy hr hg hm hv (pa_cons hl.pe pa_nil he) hn hdb he hpl).weak fun σ H Q ⟨ι, env, h, R, V, p⟩ => ⟨ι, env, h, R, V, (RPost.bind p).mono fun ds h1 ι1 H1 S1 R1 p1 b vs _ e2 _ rs => k σ ι1 h1 H1 b vs ds Q R1 e2 rs p1⟩⟩
end
def tupN : List D → Hd → Res D := fun ds h => .ok (.tup ds) h
theorem cn_tuple : CallKN Z (.type "tuple") tupN := ⟨_, call_tuple_of, fun σ ι h H p xs ds Q R e rs q => ⟨p, xs, rfl, .inl ⟨.of e, fun l hl => q ι _ (Step.aside R hl (.tup xs)) (R.aside hl _) _ (.tup (.of upd_same) (rs.step (Step.aside R hl (.tup xs)) R))⟩⟩⟩
def lenN : List D → Hd → Res D := fun ds h => .ok (.int ds.length) h
theorem cn_len : CallKN Z (.builtin "len") lenN := ⟨_, call_len, fun σ ι h H p xs ds Q R e rs q => ⟨.ref p, xs.length, rfl, .inl ⟨xs, .of e, rfl⟩, by rw [rs.len]; exact RPost.ok R q _ .int⟩⟩
/-- all truth values | whole numbers -/
def blsD : List D → Option (List Bool)
  | [] => some []
  | .bl b :: ds => (blsD ds).map (b :: ·)
  | _ :: _ => none
def intsD : List D → Option (List Int)
  | [] => some []
  | .int b :: ds => (intsD ds).map (b :: ·)
  | _ :: _ => none
theorem bls_rep {K : PySem.W.Frag} {ι : Nat → Addr} {n : Nat} {H : Hp} : ∀ {vs : List V} {ds : List D} {bs : List Bool}, Reps K ι n H vs ds → blsD ds = some bs → vs = bs.map V.bl
  | _, _, _, .nil, e => by cases e; rfl
  | _, _, bs, .cons (d := d) r q, e => by
    cases r <;> simp [blsD] at e
    obtain ⟨cs, e1, e2⟩ := e
    subst e2
    rw [bls_rep q e1]; rfl
theorem ints_rep {K : PySem.W.Frag} {ι : Nat → Addr} {n : Nat} {H : Hp} : ∀ {vs : List V} {ds : List D} {bs : List Int}, Reps K ι n H vs ds → intsD ds = some bs → vs = bs.map V.int
  | _, _, _, .nil, e => by cases e; rfl
  | _, _, bs, .cons (d := d) r q, e => by
    cases r <;> simp [intsD] at e
    obtain ⟨cs, e1, e2⟩ := e
    subst e2
    rw [ints_rep q e1]; rfl
def allN : List D → Hd → Res D := fun ds h => onSome (blsD ds) fun bs => .ok (.bl (bs.all id)) h
def anyN : List D → Hd → Res D := fun ds h => onSome (blsD ds) fun bs => .ok (.bl (bs.any id)) h
def sumN : List D → Hd → Res D := fun ds h => onSome (intsD ds) fun bs => .ok (.int bs.sum) h
theorem cn_all (hc : Z.X.calm = true) : CallKN Z (.builtin "all") allN := ⟨_, cr_all hc, fun σ ι h H p xs ds Q R e rs q => by
  obtain ⟨bs, eb, q⟩ := q.onSome
  have := bls_rep rs eb
  subst this
  exact ⟨p, bs, rfl, .of e, RPost.ok R q _ .bl⟩⟩
theorem cn_any (hc : Z.X.calm = true) : CallKN Z (.builtin "any") anyN := ⟨_, cr_any hc, fun σ ι h H p xs ds Q R e rs q => by
  obtain ⟨bs, eb, q⟩ := q.onSome
  have := bls_rep rs eb
  subst this
  exact ⟨p, bs, rfl, .of e, RPost.ok R q _ .bl⟩⟩
theorem cn_sum (hc : Z.X.calm = true) : CallKN Z (.builtin "sum") sumN := ⟨_, cr_sum hc, fun σ ι h H p xs ds Q R e rs q => by
  obtain ⟨bs, eb, q⟩ := q.onSome
  have := ints_rep rs eb
  subst this
  exact ⟨p, bs, rfl, .of e, RPost.ok R q _ .int⟩⟩
/-- a slice, whatever it is of: of a list of ours a new one -/
def sSlA (f : SE) (l u : SO) : SE := fun env h => (f env h).bind fun d h1 => (l env h1).bind fun lo h2 => (u env h2).bind fun hi h3 => match d with
  | .tup ds => .ok (.tup (cutD ds lo hi)) h3
  | .fls ds => .ok (.ref h3.length) (h3 ++ [.lst (cutD ds lo hi)])
  | .ref m => onLst h3 m fun ds => .ok (.ref h3.length) (h3 ++ [.lst (cutD ds lo hi)])
  | _ => .stuck
theorem ke_sl {e : Expr} {lo hi : Option Expr} {f : SE} {l u : SO} {pos p2 : Pos} (he : KE Z e f) (hl : KO Z lo l) (hu : KO Z hi u) : KE Z (.Subscript e (.Slice lo hi none p2) pos) (sSlA f l u) :=
  ⟨(pe_slice (sl_tupA.or sl_list) he.pe hl.po hu.po).weak fun σ H Q ⟨ι, env, h, R, V, p⟩ => ⟨ι, env, h, R, V, (RPost.bind p).mono fun d h1 ι1 H1 S1 R1 p1 v r =>
    ⟨ι1, env, h1, R1, V.step S1 R, (RPost.bind p1).mono fun o1 h2 ι2 H2 S2 R2 p2 => ⟨ι2, env, h2, R2, (V.step S1 R).step S2 R1, (RPost.bind p2).mono fun o2 h3 ι3 H3 S3 R3 p3 => by
      have r3 := r.step (S2.trans S3) R1
      cases r3 with
      | @tup a xs ds q rs =>
        have p4 : RPost Z.X.K Z.cA Z.W σ ι3 h3 H3 (.ok (.tup (cutD ds o1 o2)) h3) fun d h' ι' H' => ∀ v, Rep Z.X.K ι' h'.length H' v d → Q v H' := p3
        refine .inl ⟨a, xs, rfl, q, fun hw => ?_, fun _ b hb => ?_⟩
        · have e : cutD ds o1 o2 = ds := by
            unfold cutD
            rw [rs.len] at hw
            rw [hw.1, hw.2]
            simp
          rw [e] at p4
          exact RPost.ok R3 p4 _ (.tup q rs)
        · have S4 := Step.aside R3 hb (.tup (cutV xs o1 o2))
          exact p4 ι3 _ S4 (R3.aside hb _) _ (.tup (.of upd_same) ((rs.cut o1 o2).step S4 R3))
      | @ref m hlt =>
        have p4 : RPost Z.X.K Z.cA Z.W σ ι3 h3 H3 (onLst h3 m fun ds => .ok (.ref h3.length) (h3 ++ [.lst (cutD ds o1 o2)])) fun d h' ι' H' => ∀ v, Rep Z.X.K ι' h'.length H' v d → Q v H' := p3
        obtain ⟨ds, hm, p4⟩ := p4.onLst
        obtain ⟨xs, e3, rs, _⟩ := lst_at R3 hm
        exact .inr ⟨_, xs, rfl, .of e3, fun b hb => alloc_post R3 hb (.lst (rs.cut o1 o2)) p4⟩
      | non => exact p3.elim
      | bl => exact p3.elim
      | int => exact p3.elim
      | str => exact p3.elim
      | raw => exact p3.elim
      | xc0 => exact p3.elim
      | xc _ _ => exact p3.elim
      | @fls a xs ds q rs =>
        have p4 : RPost Z.X.K Z.cA Z.W σ ι3 h3 H3 (.ok (.ref h3.length) (h3 ++ [.lst (cutD ds o1 o2)])) fun d h' ι' H' => ∀ v, Rep Z.X.K ι' h'.length H' v d → Q v H' := p3
        exact .inr ⟨_, xs, rfl, q.sql, fun b hb => alloc_post R3 hb (.lst (rs.cut o1 o2)) p4⟩⟩⟩⟩⟩
end
abbrev fdivF : F2 := f2I (fun _ j => decide (0 < j) && decide (j < 1073741824)) fun i j => .int (i / j)
abbrev modF : F2 := f2I (fun _ j => decide (0 < j)) fun i j => .int (i % j)
abbrev powF : F2 := f2I (fun i j => decide (0 ≤ j) && decide (j ≤ 1000000) && decide (i.natAbs < 18446744073709551616)) fun i j => .int (i ^ j.toNat)
def FldG (G : Gx) (f : String) (cs : List String) : Prop := ∀ c, c ∈ cs → Cls G.K (G.cA c) ∧ NoAttr G.K (G.cA c) (Str.ofString f)
end Kf
end
section
set_option maxHeartbeats 4000000
/-! Kf: a try with several clauses, each with or without a name. -/
namespace Kf
open PySem PySem.Spec L2 PyProof.Rows
abbrev SuT := Addr → Value → Option Addr → TS
/-- what a clause with a name makes of its suite's reading: the slot is the exception's, and empty behind it -/
def asSu (i : Nat) (t : SuT) : SuT := fun a cls d D σ H =>
  t a cls d ⟨fun σ' H' => D.nx (σ'.set i none) H', D.rt, fun σ' H' => D.bk (σ'.set i none) H', fun σ' H' => D.ct (σ'.set i none) H'⟩ (σ.set i (some (.ref a))) H
/-- a suite is read so, whatever is caught -/
def SuOk (X : Cx) (body : List Stmt) (t : SuT) : Prop :=
  ∀ (a : Addr) (oe : Obj) (cls : Value) (d : Option Addr) (pn : List (Addr × Obj)), Zc cls d oe → (∃ fv, oe.data = .fields fv) → PSs (X.suite a ((a, oe) :: pn)) body (t a cls d)
inductive ClsOk (X : Cx) : List ExceptHandler → List (Value × SuT) → Prop
  | nil : ClsOk X [] []
  | plain {x : Str} {c : Value} {t : SuT} {b : Stmt} {bs : List Stmt} {p1 p2 : Pos} {hds : List ExceptHandler} {l : List (Value × SuT)} (hc : Names X x c) (su : SuOk X (b :: bs) t) (r : ClsOk X hds l) :
      ClsOk X (.ExceptHandler (some (.Name x p1)) none (b :: bs) p2 :: hds) ((c, t) :: l)
  | named {x n : Str} {i : Nat} {c : Value} {t : SuT} {b : Stmt} {bs : List Stmt} {p1 p2 : Pos} {hds : List ExceptHandler} {l : List (Value × SuT)} (hN : X.N.Nodup) (hi : X.N[i]? = some n) (hl : X.env.kindOf n = some .local)
      (hc : Names X x c) (su : SuOk X (b :: bs) t) (r : ClsOk X hds l) : ClsOk X (.ExceptHandler (some (.Name x p1)) (some n) (b :: bs) p2 :: hds) ((c, asSu i t) :: l)
section
variable {X : Cx} {body : List Stmt} {h₀ : ExceptHandler} {hds : List ExceptHandler} {l : List (Value × SuT)} {pos : Pos} {tb : WX → TS} {Wo : WX}
theorem frees {s : Shared} {pins : List (Addr × Obj)} {σ : L2.St} {H : Hp} {a : Addr} {oe : Obj} {i : Nat} {n : Str} {p2 : Pos} {Q : Shared → Prop} (ok : X.Ok) (hN : X.N.Nodup) (hi : X.N[i]? = some n) (hl : X.env.kindOf n = some .local)
    (S : Inv (X.suite a ((a, oe) :: (X.pn ++ pins))) [] σ H s) (hq : ∀ s7, Inv X pins (σ.set i none) H s7 → Q s7) :
    wpAny (model X.prog X.w) X.A (do bindName X.env n .none; unbindBehindTheSuite X.env n p2) (fun _ s7 => Q s7) X.xe s := gone_ok (S.unsuite ok) hN hi hl hq
/-- the clauses are gone through while the exception is held -/
theorem clauses (hs : X.stack = X.env :: X.outer) (hf : X.env.frame = some X.env.locals) (tk : Takes X Wo) {D : Ends} {pins pns : List (Addr × Obj)} {σ : L2.St} {H : Hp} {a : Addr} {B : Heap} {cls : Value} {d : Option Addr} {sI sE : Shared} {hp3 : Heap}
    (ok : X.Ok) (J : Inv X pins σ H sI) (up : sI.heap.UpToSlots hp3) (na : H a = none) (os : sE.os = sI.os) (ag : AllBare sE.gens) (nL : a ≠ X.env.locals) (nF : a ∉ X.fs)
    (fl : HandSPX.FlyingZ B (X.env :: X.outer) a (Zc cls d) hp3) (J3 : Inv X pins σ H { sE with heap := hp3 }) (land : ∀ {h5 : Heap}, HandSPX.FlyingZ B (X.env :: X.outer) a (Zc cls d) h5 → sI.heap.UpToSlots h5 → Inv X pins σ H { sE with heap := h5 })
    (out : ∀ {h5 : Heap}, HandSPX.HeldZ B (X.env :: X.outer) a (Zc cls d) X.env.locals h5 → sI.heap.UpToSlots h5 → Wo cls d σ H → X.xe (.ref a) { sE with heap := h5 }) :
    ∀ {hds : List ExceptHandler} {l : List (Value × SuT)}, ClsOk X hds l → wMany X.K Wo D l cls d σ H → wpAny (model X.prog X.w) X.A (handleBy (.ref a) X.env hds) (SP X pins D) X.xe { sE with heap := hp3 } := by
  obtain ⟨oe3, vs3, he3, hz3, hd3⟩ := fl.there
  have S3 := J3.suite he3 hd3 na nL nF
  have LT : PySem.W.Looks (model X.prog X.w) hp3 (typeOf (.ref a)) cls := fun A Q E s k q => wpAny_typeOf_ref (k _ _ he3) (by rw [hz3.1]; exact q)
  have naming : ∀ {x : Str} {c : Value} {np : Pos} {Q : Value → Shared → Prop} {E : Value → Shared → Prop}, Names X x c → Q c { sE with heap := hp3 } →
      wpAny (model X.prog X.w) (X.A.mark (some (.ref a))) (eval (.Name x np) X.env) Q E { sE with heap := hp3 } := by
    rintro x c np Q E ⟨g1, g2, g3 | ⟨g3, g4, g5⟩⟩ q
    · exact ld_glob (X := X.suite a ((a, oe3) :: (X.pn ++ pins))) S3 g1 g3 q g2
    · exact ld_blt (X := X.suite a ((a, oe3) :: (X.pn ++ pins))) S3 g1 g3 g4 q g5 g2
  intro hds l k
  induction k with
  | nil =>
    intro w
    refine wpAny_handleBy_nil ?_
    obtain ⟨k1, k2, k3, oe, vs, T, oT, ts', he, hz, hd, h1, hr⟩ := id fl
    unfold PySem.passOn
    refine wpAny_bind (wpAny_field he hd h1 ?_)
    rw [if_neg (show ¬ ((Value.ref T == Value.none) = true) by simp)]
    have fin : wpAny (model X.prog X.w) X.A (setFlight (.ref a) X.env.frame) (fun _ s4 => wpAny (model X.prog X.w) X.A (throw (.ref a) : Sem Flow) (SP X pins D) X.xe s4) X.xe { sE with heap := hp3 } := by
      rw [hf]
      exact HandSPX.setFlight_upZ fl fun h5 e5 u5 => wpAny_throw (out e5 (up.trans u5) w)
    first | exact wpAny_bind (wpAny_pure (wpAny_bind fin)) | exact wpAny_bind fin
  | @plain x c t b bs p1 p2 hds2 l2 hc su r ih =>
    rintro ⟨m, hm, yes, no⟩
    refine wpAny_handleBy_cons (codeAny_handlers_test ?_) (by intro q; cases q)
    refine naming hc ((PySem.W.exm_one (M := model X.prog X.w) J3.kIn LT hm).here ?_)
    cases m with
    | false => exact ih (no rfl)
    | true =>
      refine codeAny_handlers_suite (HandSPX.lands_againZ fl fun h5 f5 u5 => ?_)
      obtain ⟨oe5, vs5, he5, hz5, hd5⟩ := f5.there
      have S5 := (land f5 (up.trans u5)).suite he5 hd5 na nL nF
      refine wpAny_mono ((su a oe5 cls d (X.pn ++ pins) hz5 ⟨_, hd5⟩).run [] _ _ H _ S5 (yes rfl a na)) (fun f s6 z => ?_) (fun _ _ z => False.elim z)
      cases f with
      | ret u => obtain ⟨v6, σ6, H6, S6, r6, q6⟩ := z; exact ⟨_, _, _, S6.unsuite ok, r6, q6⟩
      | next => obtain ⟨σ6, H6, S6, q6⟩ := z; exact ⟨_, _, S6.unsuite ok, q6⟩
      | brk => obtain ⟨σ6, H6, S6, q6⟩ := z; exact ⟨_, _, S6.unsuite ok, q6⟩
      | cont => obtain ⟨σ6, H6, S6, q6⟩ := z; exact ⟨_, _, S6.unsuite ok, q6⟩
  | @named x n i c t b bs p1 p2 hds2 l2 hN hi hl hc su r ih =>
    rintro ⟨m, hm, yes, no⟩
    refine wpAny_handleBy_cons (codeAny_handlers_test ?_) (by intro q; cases q)
    refine naming hc ((PySem.W.exm_one (M := model X.prog X.w) J3.kIn LT hm).here ?_)
    cases m with
    | false => exact ih (no rfl)
    | true =>
      refine codeAny_handlers_suite_as (HandSPX.lands_againZ fl fun h5 f5 u5 => ?_)
      obtain ⟨oe5, vs5, he5, hz5, hd5⟩ := f5.there
      have S5 := (land f5 (up.trans u5)).suite he5 hd5 na nL nF
      refine store_ok (X := X.suite a ((a, oe5) :: (X.pn ++ pins))) (v := .ref a) S5 hN hi (.inl hl) rfl (fun s5 S5' => ?_) (.inr hl)
      refine wpAny_mono ((su a oe5 cls d (X.pn ++ pins) hz5 ⟨_, hd5⟩).run [] s5 _ H _ S5' (yes rfl a na)) (fun f s6 z => ?_) (fun _ _ z => False.elim z)
      cases f with
      | ret u => obtain ⟨v6, σ6, H6, S6, r6, q6⟩ := z; exact frees ok hN hi hl S6 fun s7 J7 => ⟨_, _, _, J7, r6, q6⟩
      | next => obtain ⟨σ6, H6, S6, q6⟩ := z; exact frees ok hN hi hl S6 fun s7 J7 => ⟨_, _, J7, q6⟩
      | brk => obtain ⟨σ6, H6, S6, q6⟩ := z; exact frees ok hN hi hl S6 fun s7 J7 => ⟨_, _, J7, q6⟩
      | cont => obtain ⟨σ6, H6, S6, q6⟩ := z; exact frees ok hN hi hl S6 fun s7 J7 => ⟨_, _, J7, q6⟩
theorem ps_try_all (hs : X.stack = X.env :: X.outer) (hf : X.env.frame = some X.env.locals) (tk : Takes X Wo)
    (hb : ∀ (W : WX) (pn : List (Addr × Obj)) (xe : Value → Shared → Prop), Takes (X.tr pn xe) W → PassesOwn (model X.prog X.w) X.A X.env xe → PSs (X.tr pn xe) body (tb W)) (hh : ClsOk X (h₀ :: hds) l) :
    PS X (.Try body (h₀ :: hds) [] [] pos) (fun D σ H => tb (wMany X.K Wo D l) D σ H) := by
  refine ⟨fun pins s σ H D I h => ?_⟩
  have ok := I.ok
  have hfr : X.A.frames = some (X.env :: X.outer) := by rw [ok.frames, hs]
  refine wpAny_Try_except (wpAny_mono ((hb (wMany X.K Wo D l) (X.pn ++ pins) (fun e s₁ => wpAny (model X.prog X.w) X.A (noteFrame e X.env) (fun _ s₂ => wpAny (model X.prog X.w) X.A (setFlight e none)
    (fun _ s₃ => wpAny (model X.prog X.w) X.A (handleBy e X.env (h₀ :: hds)) (SP X pins D) X.xe s₃) X.xe s₂) X.xe s₁) (fun u sE xx => ?_) PassesOwn.looking).run [] s σ H D (I.toTry _) h) (fun f s1 z => ?_) (fun _ _ z => z))
  · obtain ⟨a, B, sI, pins', σ', H', cls, d, rfl, J', nb, up, sky, na, os, ag, w⟩ := xx
    have J : Inv X pins σ' H' sI := J'.ofTry ok
    refine Sky.land Zc.steady hfr hf (by rw [← hs]; exact sky) fun h3 fl up3 => ?_
    obtain ⟨oe3, vs3, he3, hz3, hd3⟩ := fl.there
    have nfr : a ∉ frs (X.env :: X.outer) := fun hm => by
      obtain ⟨_, o', e', hnf⟩ := (fl.2.2.1).mem hm
      rw [he3] at e'
      cases e'
      exact hnf _ hd3
    have nL : a ≠ X.env.locals := fun z => nfr (List.mem_filterMap.mpr ⟨X.env, List.mem_cons_self, by rw [hf, z]⟩)
    have nF : a ∉ X.fs := fun hm => by
      obtain ⟨e, he, q⟩ := List.mem_filterMap.mp hm
      exact nfr (List.mem_filterMap.mpr ⟨e, List.mem_cons_of_mem _ he, q⟩)
    exact clauses hs hf tk (pns := []) ok J (up.trans up3) na os ag nL nF fl (J.landed nb fl.1 (up.trans up3) os ag) (fun f5 u5 => J.landed nb f5.1 u5 os ag)
      (fun e5 u5 w5 => tk _ _ ⟨a, B, sI, pins, σ', H', cls, d, rfl, J, nb, u5, .inr (.inr (by rw [hs]; exact e5)), na, os, ag, w5⟩) hh w
  · cases f with
    | ret u => obtain ⟨v, σ', H', J', r, q⟩ := z; exact ⟨v, σ', H', J'.ofTry ok, r, q⟩
    | next => obtain ⟨σ', H', J', q⟩ := z; exact wpAny_execs_nil ⟨σ', H', J'.ofTry ok, q⟩
    | brk => obtain ⟨σ', H', J', q⟩ := z; exact ⟨σ', H', J'.ofTry ok, q⟩
    | cont => obtain ⟨σ', H', J', q⟩ := z; exact ⟨σ', H', J'.ofTry ok, q⟩
end
end Kf
end
section
set_option maxHeartbeats 4000000
/-! Kf: isinstance; raise; try. -/
namespace Kf
open PySem PySem.Spec L2
/-! ### isinstance with built-in types -/
def tyD (h : Hd) : D → Option String
  | .non => some "NoneType"
  | .bl _ => some "bool"
  | .int _ => some "int"
  | .str _ => some "str"
  | .raw _ => some "str"
  | .tup _ => some "tuple"
  | .fls _ => some "list"
  | .ref m => match h[m]? with
    | some (.lst _) => some "list"
    | some (.dict _) => some "dict"
    | _ => none
  | .xc _ _ _ _ => none
section
variable {Z : Kx}
theorem ty_rep {ι : Nat → Addr} {h : Hd} {H : Hp} {x : V} {d : D} {t : String} (R : HRep Z.X.K Z.cA ι H h) (r : Rep Z.X.K ι h.length H x d) (e : tyD h d = some t) : TyX Z.X.K H x (.type t) := by
  cases r with
  | non => cases e; exact .base .non
  | bl => cases e; exact .base (.bl _)
  | int => cases e; exact .base (.int _)
  | str => cases e; exact .base (.str _)
  | raw => cases e; exact .base (.str _)
  | tup q _ =>
    cases e
    rcases q with (q | ⟨o, q⟩) | ⟨o, its, n, q1, q2, _⟩
    · exact .base (.tup q)
    · exact .fTuple q
    · exact .kTuple q1 q2
  | fls q _ =>
    cases e
    rcases q with ⟨o, q⟩ | ⟨o, its, n, q1, q2, _⟩
    · exact .base (.frz q)
    · exact .kList q1 q2
  | ref hlt =>
    rename_i m
    unfold tyD at e
    cases hm : h[m]? with
    | none => simp [hm] at e
    | some o =>
      obtain ⟨ho, e3, ro⟩ := R.obj m _ hm
      cases ro with
      | lst _ => simp [hm] at e; subst e; exact .base (.lst e3)
      | dict _ => simp [hm] at e; subst e; exact .base (.dK e3)
      | lkd _ => simp [hm] at e
      | ins _ => simp [hm] at e
  | xc0 => cases e
  | xc _ _ => cases e
def isiF (T : String) : D → Hd → Res D := fun d h => onSome (tyD h d) fun t => onSome (kitB t T) fun b => .ok (.bl b) h
def sIsi (T : String) (f : SE) : SE := fun env h => (f env h).bind fun d h1 => isiF T d h1
theorem ke_isi {T : String} {x : Str} {e : Expr} {f : SE} {p p2 pos : Pos} (hg : Gl Z.X "isinstance") (hm : Z.X.mg "isinstance" = none) (he : KE Z e f) (hgT : Gl Z.X x) (hmT : Z.X.mg x = none) (hv : bootBuiltins x = some (.type T)) (hn : x ≠ "__name__" := by decide) (hdb : (x == ("__debug__" : Str)) = false := by decide)
    (h1 : starEach [e, .Name x p2] Z.X.env = (false, eval e Z.X.env) :: starEach [.Name x p2] Z.X.env := by rfl) (h2 : starEach [.Name x p2] Z.X.env = (false, eval (.Name x p2) Z.X.env) :: starEach [] Z.X.env := by rfl) (hpl : (backTo pos (starEach [.Name x p2] Z.X.env)).any (·.1) = false := by rfl) :
    KE Z (.Call (.Name "isinstance" p) [e, .Name x p2] [] pos) (sIsi T f) :=
  ⟨(pe_callB call_isi hg hm (by decide +kernel) (pa_cons he.pe (pa_cons (pe_bltn (v := .ty T) hgT hmT hv rfl hn hdb) pa_nil h2) h1) (by decide) (by decide) h1 hpl).weak fun σ H Q ⟨ι, env, h, R, V, p⟩ => ⟨ι, env, h, R, V, (RPost.bind p).mono fun d h1 ι1 H1 S1 R1 p1 v r => by
    obtain ⟨t, et, p1⟩ := p1.onSome
    obtain ⟨b, eb, p1⟩ := p1.onSome
    exact ⟨v, .ty T, .type t, .type T, b, rfl, .ty T, ty_rep R1 r et, kit_ty eb, RPost.ok R1 p1 _ .bl⟩⟩⟩
end
theorem kB_ii : kitB "int" "int" = some true := by decide +kernel
theorem kB_bi : kitB "bool" "int" = some true := by decide +kernel
theorem kB_ni : kitB "NoneType" "int" = some false := by decide +kernel
theorem kB_si : kitB "str" "int" = some false := by decide +kernel
theorem kB_ti : kitB "tuple" "int" = some false := by decide +kernel
theorem kB_li : kitB "list" "int" = some false := by decide +kernel
theorem kB_ib : kitB "int" "bool" = some false := by decide +kernel
theorem kB_bb : kitB "bool" "bool" = some true := by decide +kernel
theorem kB_nb : kitB "NoneType" "bool" = some false := by decide +kernel
theorem kB_sb : kitB "str" "bool" = some false := by decide +kernel
theorem kB_tb : kitB "tuple" "bool" = some false := by decide +kernel
theorem kB_lb : kitB "list" "bool" = some false := by decide +kernel

/-! ### isinstance with a tuple of built-in types -/
section
variable {Z : Kx}
def kitD (t : String) : List String → Option Bool
  | [] => some false
  | T :: r => match kitB t T with | some true => some true | some false => kitD t r | none => none
def isiTF (Ts : List String) : D → Hd → Res D := fun d h => onSome (tyD h d) fun t => onSome (kitD t Ts) fun b => .ok (.bl b) h
def sIsiT (Ts : List String) (f : SE) : SE := fun env h => (f env h).bind fun d h1 => isiTF Ts d h1
theorem kitD_any {K : PySem.W.Frag} {t : String} : ∀ {Ts : List String} {b : Bool}, kitD t Ts = some b → PySem.W.kitAny K (.type t) (Ts.map Value.type) = some b
  | [], b, e => by cases e; rfl
  | T :: r, b, e => by
    unfold kitD at e
    show PySem.W.kitAny K (.type t) (.type T :: r.map Value.type) = some b
    cases h : kitB t T with
    | none => rw [h] at e; cases e
    | some c =>
      rw [h] at e
      cases c with
      | true => cases e; exact kitAny_cons (kit_ty h) (fun z => by cases z) fun _ => rfl
      | false => exact kitAny_cons (kit_ty h) (fun _ => kitD_any e) fun z => by cases z
theorem kcls_all : ∀ (Ts : List String), Paired ClsV (Ts.map V.ty) (Ts.map Value.type)
  | [] => .nil
  | T :: r => .cons (.ty T) (kcls_all r)
theorem ke_isiT {T1 T2 : String} {x1 x2 : Str} {e : Expr} {f : SE} {j : Nat} {p p1 p2 p3 pos : Pos} (hg : Gl Z.X "isinstance") (hm : Z.X.mg "isinstance" = none) (he : KE Z e f)
    (hg1 : Gl Z.X x1) (hm1 : Z.X.mg x1 = none) (hv1 : bootBuiltins x1 = some (.type T1)) (hg2 : Gl Z.X x2) (hm2 : Z.X.mg x2 = none) (hv2 : bootBuiltins x2 = some (.type T2)) (hn1 : x1 ≠ "__name__" := by decide) (hd1 : (x1 == ("__debug__" : Str)) = false := by decide)
    (hn2 : x2 ≠ "__name__" := by decide) (hd2 : (x2 == ("__debug__" : Str)) = false := by decide)
    (q1 : starEach [.Name x1 p1, .Name x2 p2] Z.X.env = (false, eval (.Name x1 p1) Z.X.env) :: starEach [.Name x2 p2] Z.X.env := by rfl) (q2 : starEach [.Name x2 p2] Z.X.env = (false, eval (.Name x2 p2) Z.X.env) :: starEach [] Z.X.env := by rfl)
    (hT : PE Z.X (.Tuple [.Name x1 p1, .Name x2 p2] j p3) (tTup (tCons (tC (.ty T1)) (tCons (tC (.ty T2)) tNil))))
    (h1 : starEach [e, .Tuple [.Name x1 p1, .Name x2 p2] j p3] Z.X.env = (false, eval e Z.X.env) :: starEach [.Tuple [.Name x1 p1, .Name x2 p2] j p3] Z.X.env := by rfl)
    (h2 : starEach [.Tuple [.Name x1 p1, .Name x2 p2] j p3] Z.X.env = (false, eval (.Tuple [.Name x1 p1, .Name x2 p2] j p3) Z.X.env) :: starEach [] Z.X.env := by rfl)
    (hpl : (backTo pos (starEach [.Tuple [.Name x1 p1, .Name x2 p2] j p3] Z.X.env)).any (·.1) = false := by rfl) :
    KE Z (.Call (.Name "isinstance" p) [e, .Tuple [.Name x1 p1, .Name x2 p2] j p3] [] pos) (sIsiT [T1, T2] f) :=
  ⟨(pe_callB call_isiT hg hm (by decide +kernel) (pa_cons he.pe (pa_cons hT pa_nil h2) h1) (by decide) (by decide) h1 hpl).weak fun σ H Q ⟨ι, env, h, R, V, p⟩ => ⟨ι, env, h, R, V, (RPost.bind p).mono fun d h1 ι1 H1 S1 R1 p1 v r => by
    obtain ⟨t, et, p1⟩ := p1.onSome
    obtain ⟨b, eb, p1⟩ := p1.onSome
    refine ⟨by show 2 ≤ sizeLine; decide, fun a ha => ?_⟩
    have S2 := Step.aside R1 ha (.tup [.ty T1, .ty T2])
    exact ⟨v, a, [.ty T1, .ty T2], .type t, [.type T1, .type T2], b, rfl, upd_same, kcls_all [T1, T2], ty_rep (R1.aside ha _) (r.step S2 R1) et, kitD_any eb, p1 ι1 _ S2 (R1.aside ha _) _ .bl⟩⟩⟩
end

/-! ### raise -/
/-- what an own exception class's __init__ does: it keeps its arguments -/
def spX (C : Addr) (ns : List String) : Sp := fun vs H Q _ => ∃ (a : Addr) (ys : List V), vs = .ref a :: ys ∧ ys.length = ns.length ∧ H a = some (exo a C none) ∧
  ∀ dx, H dx = none → dx ≠ a → Q .non (upd (upd H dx (exd dx ((ns.map Str.ofString).zip ys).reverse)) a (exo a C (some dx)))
/-- an own exception class, ready to be raised -/
structure CE (G : Gx) (x : Str) (c : String) (k : Nat) (ns : List String) : Prop where
  mg : G.mg x = some (.ref (G.cA c))
  T : OexC G.K (G.cA c)
  ex : ∃ (f : Addr) (fd : FuncData) (ps : List Str), PySem.W.findIn G.K (.ref (G.cA c)) "__init__" = some (some (.ref f)) ∧ PySem.W.typeIn G.K (.ref f) = some (.type "function") ∧
    FnOk G.P G.w G.K G.mg G.base (L2.CX G.P G.w) k f fd ps (spX (G.cA c) ns) ∧ Binds G.K fd ps []
section
variable {Z : Kx} {G : Gx} {j k : Nat} {x : Str} {c : String} {ns : List String} {p pos pos2 : Pos} {e : Expr} {es : List Expr} {fa : SA}
def sRaise (c : String) (ns : List String) (fa : SA) : SS := fun env h => (fa env h).lift env fun ds h1 => if ds.length = ns.length ∧ ds.length ≤ 900 then .ok (.exc c (ns.zip ds).reverse env) h1 else .stuck
theorem FRep.append {K : PySem.W.Frag} {ι : Nat → Addr} {n : Nat} {H : Hp} : ∀ {fs fs' : List (Str × V)} {gs gs' : List (String × D)}, FRep K ι n H fs gs → FRep K ι n H fs' gs' → FRep K ι n H (fs ++ fs') (gs ++ gs')
  | _, _, _, _, .nil, q => q
  | _, _, _, _, .cons r p, q => .cons r (FRep.append p q)
theorem FRep.rev {K : PySem.W.Frag} {ι : Nat → Addr} {n : Nat} {H : Hp} : ∀ {fs : List (Str × V)} {gs : List (String × D)}, FRep K ι n H fs gs → FRep K ι n H fs.reverse gs.reverse
  | _, _, .nil => .nil
  | _, _, .cons r p => by
    rw [List.reverse_cons, List.reverse_cons]
    exact (FRep.rev p).append (.cons r .nil)
theorem frep_zip {K : PySem.W.Frag} {ι : Nat → Addr} {n : Nat} {H : Hp} : ∀ {ns : List String} {vs : List V} {ds : List D}, Reps K ι n H vs ds → FRep K ι n H ((ns.map Str.ofString).zip vs) (ns.zip ds)
  | [], _, _, _ => by simpa using FRep.nil
  | _ :: _, _, _, .nil => by simpa using FRep.nil
  | n :: ns, _, _, .cons r q => by
    simp only [List.map_cons, List.zip_cons_cons]
    exact .cons r (frep_zip q)
theorem kr {i : Z.In G j} (F : CE G x c k ns) (hj : k + 1 ≤ j) (hg : Gl Z.X x) (ha : KA Z (e :: es) fa) (hdb : (x == ("__debug__" : Str)) = false := by decide)
    (he : starEach (e :: es) Z.X.env = (false, eval e Z.X.env) :: starEach es Z.X.env := by rfl) (hpl : (backTo pos (starEach es Z.X.env)).any (·.1) = false := by rfl) : KS Z (.Raise (some (.Call (.Name x p) (e :: es) [] pos)) none pos2) (sRaise c ns fa) := by
  obtain ⟨X, cA, W⟩ := Z
  obtain ⟨P, w, K, mg, base, cA'⟩ := G
  obtain ⟨h1, h2, h3, h4, h5, h6, room, tk, ow, cm⟩ := i
  obtain ⟨g0, T, f, fd, ps, g1, g2, g3, g4⟩ := F
  dsimp only at *
  subst h1 h2 h3 h4 h5 h6
  refine ⟨(ps_raise cm tk (pmk_oex T g1 g2 g3 (room.mono hj).rm g4 .nil (passes_call tk fun _ _ _ _ z => z.elim) hg g0 ha.pa hdb he hpl)).weak fun D σ H ⟨ι, env, h, R, V, p⟩ => ⟨ι, env, h, R, V, (RsPost.of R V p).mono fun ds h1 ι1 H1 S1 R1 p1 vs rs => ?_⟩⟩
  by_cases hl : ds.length = ns.length ∧ ds.length ≤ 900
  · rw [if_pos hl] at p1
    have hv : vs.length = ds.length := rs.len
    refine ⟨by omega, fun a ha => ⟨a, vs, by rw [List.append_nil], by omega, upd_same, fun dx hdx hda => ⟨rfl, dx, ((ns.map Str.ofString).zip vs).reverse, upd_same, ?_, ?_, ?_⟩⟩⟩
    · rw [upd_ne hda, upd_same]
    · rw [upd_ne hda] at hdx; exact hdx
    · rw [upd_ne hda] at hdx
      have e : upd (del (upd (upd (upd H1 a (exo a (cA c) none)) dx (exd dx ((ns.map Str.ofString).zip vs).reverse)) a (exo a (cA c) (some dx))) a) dx (.xd ((ns.map Str.ofString).zip vs).reverse) = upd H1 dx (.xd ((ns.map Str.ofString).zip vs).reverse) := by
        funext b
        by_cases e1 : b = dx
        · subst e1; rw [upd_same, upd_same]
        · rw [upd_ne e1, upd_ne e1]
          by_cases e2 : b = a
          · subst e2; rw [del_same, ha]
          · rw [del_ne e2, upd_ne e2, upd_ne e1, upd_ne e2]
      rw [e]
      have S2 := Step.aside R1 hdx (.xd ((ns.map Str.ofString).zip vs).reverse)
      exact p1 ι1 _ S2 (R1.aside hdx _) σ _ _ ((V.step S1 R).step S2 R1) ⟨rfl, .inr ⟨dx, _, rfl, upd_same, (frep_zip (rs.step S2 R1)).rev⟩⟩
  · rw [if_neg hl] at p1
    exact p1.elim
end
end Kf
end
section
set_option maxHeartbeats 4000000
/-! Kf: try with its clauses; what a suite reads of its exception; an own exception's __init__. -/
namespace Kf
open PySem PySem.Spec L2
section
variable {K : PySem.W.Frag} {ι : Nat → Addr} {n : Nat} {H : Hp}
theorem VRep.wipe1 {σ : St} {env : En} (V : VRep K ι n H σ env) (i : Nat) : VRep K ι n H (σ.set i none) (env.set i none) := by
  refine ⟨by simp [V.len], fun j e he => ?_⟩
  by_cases q : j = i
  · subst q
    have hj : j < env.length := by have := lt_of_get he; simpa using this
    rw [List.getElem?_set_self hj] at he
    cases he
  · rw [List.getElem?_set_ne (Ne.symm q)] at he ⊢
    exact V.var j e he
end
/-- one result for all places that an exception may lie at -/
noncomputable def onAll (g : Nat → Option Nat → Rs) : Rs := open Classical in if h : ∃ r, ∀ a d, g a d = r then h.choose else .stuck
theorem onAll_of {g : Nat → Option Nat → Rs} {r : Rs} (h : ∀ a d, g a d = r) : onAll g = r := by
  have e : ∃ r, ∀ a d, g a d = r := ⟨r, h⟩
  unfold onAll
  rw [dif_pos e]
  exact ((h 0 none).symm.trans (e.choose_spec 0 none)).symm
theorem onAll_at {g : Nat → Option Nat → Rs} (hn : onAll g ≠ .stuck) (a : Nat) (d : Option Nat) : g a d = onAll g := by
  unfold onAll at hn ⊢
  by_cases h : ∃ r, ∀ a d, g a d = r
  · rw [dif_pos h]; exact h.choose_spec a d
  · rw [dif_neg h] at hn; exact absurd rfl hn
/-- behind a suite its exception's name is empty -/
def outN (sl : Option Nat) (r : Rs) : Rs := match sl with
  | none => match r with
    | .ok (.exc _ _ _) _ => .stuck
    | r => r
  | some i => match r with
    | .ok (.nx env) h => .ok (.nx (env.set i none)) h
    | .ok (.brk env) h => .ok (.brk (env.set i none)) h
    | .ok (.ct env) h => .ok (.ct (env.set i none)) h
    | .ok (.ret d) h => .ok (.ret d) h
    | _ => .stuck
def inN (sl : Option Nat) (d : D) (env : En) : En := match sl with | none => env | some i => env.set i (some d)
/-- which classes a clause takes; its name's slot; its suite -/
abbrev Cl := (String → Option Bool) × Option Nat × (String → Nat → Option Nat → SS)
noncomputable def sCls : List Cl → String → List (String × D) → En → Hd → Rs
  | [], c, fs, env, h => .ok (.exc c fs env) h
  | (mt, sl, f) :: r, c, fs, env, h => match mt c with
    | none => .stuck
    | some false => sCls r c fs env h
    | some true => onAll fun a d => outN sl (f c a d (inN sl (.xc c a d fs) env) h)
noncomputable def sTry (f : SS) (l : List Cl) : SS := fun env h => match f env h with
  | .ok (.exc c fs env1) h1 => sCls l c fs env1 h1
  | r => r
abbrev Kx.tr (Z : Kx) (pn : List (Addr × Obj)) (xe : Value → Shared → Prop) (W : WX) : Kx := ⟨Z.X.tr pn xe, Z.cA, W⟩
abbrev Kx.su (Z : Kx) (a : Addr) (oe : Obj) (pn : List (Addr × Obj)) : Kx := ⟨Z.X.suite a ((a, oe) :: pn), Z.cA, fun _ _ _ _ => False⟩
/-- a suite's readings, class by class -/
def KSu (Z : Kx) (body : List Stmt) (mt : String → Option Bool) (f : String → Nat → Option Nat → SS) : Prop :=
  ∀ c, mt c = some true → ∀ (a : Addr) (oe : Obj) (d : Option Addr) (pn : List (Addr × Obj)), Zc (.ref (Z.cA c)) d oe → (∃ fv, oe.data = .fields fv) → KSs (Z.su a oe pn) body (f c a d)
inductive KCl (Z : Kx) : List ExceptHandler → List Cl → Prop
  | nil : KCl Z [] []
  | plain {x : Str} {cv : Value} {mt : String → Option Bool} {f : String → Nat → Option Nat → SS} {b : Stmt} {bs : List Stmt} {p1 p2 : Pos} {hds : List ExceptHandler} {l : List Cl} (hc : Names Z.X x cv)
      (hm : ∀ c r, mt c = some r → PySem.W.exmOne Z.X.K (.ref (Z.cA c)) cv = some r) (su : KSu Z (b :: bs) mt f) (r : KCl Z hds l) : KCl Z (.ExceptHandler (some (.Name x p1)) none (b :: bs) p2 :: hds) ((mt, none, f) :: l)
  | named {x n : Str} {i : Nat} {cv : Value} {mt : String → Option Bool} {f : String → Nat → Option Nat → SS} {b : Stmt} {bs : List Stmt} {p1 p2 : Pos} {hds : List ExceptHandler} {l : List Cl} (hN : Z.X.N.Nodup) (hi : Z.X.N[i]? = some n)
      (hl : Z.X.env.kindOf n = some .local) (hc : Names Z.X x cv) (hm : ∀ c r, mt c = some r → PySem.W.exmOne Z.X.K (.ref (Z.cA c)) cv = some r) (su : KSu Z (b :: bs) mt f) (r : KCl Z hds l) :
      KCl Z (.ExceptHandler (some (.Name x p1)) (some n) (b :: bs) p2 :: hds) ((mt, some i, f) :: l)
section
variable {Z : Kx} {body : List Stmt} {h₀ : ExceptHandler} {hds : List ExceptHandler} {l : List Cl} {pos : Pos} {fb : SS}
/-- the suite's reading in the hand layer -/
def suT (Z : Kx) (mt : String → Option Bool) (f : String → Nat → Option Nat → SS) : SuT := fun a cls d D σ H => ∃ c, mt c = some true ∧ cls = .ref (Z.cA c) ∧ tDS ⟨Z.X, Z.cA, fun _ _ _ _ => False⟩ (f c a d) D σ H
theorem suT_ok {mt : String → Option Bool} {f : String → Nat → Option Nat → SS} {b : List Stmt} (h : KSu Z b mt f) : SuOk Z.X b (suT Z mt f) := fun a oe cls d pn hz hf =>
  ⟨fun pins s σ H D I ⟨c, hc, e, q⟩ => by
    subst e
    exact (h c hc a oe d pn hz hf).pss.run pins s σ H D I q⟩
theorem xc_rep {K : PySem.W.Frag} {cA : CA} {ι : Nat → Addr} {n : Nat} {H : Hp} {c : String} {fs : List (String × D)} {cls : Value} {d : Option Addr} (x : XRep K cA ι n H c fs cls d) (a : Addr) : Rep K ι n H (.ref a) (.xc c a d fs) := by
  rcases x.2 with ⟨e1, e2⟩ | ⟨dd, gs, e1, e2, r⟩
  · subst e1 e2; exact .xc0
  · subst e1; exact .xc e2 r
theorem kcl_cls (k : KCl Z hds l) : ∃ l' : List (Value × SuT), ClsOk Z.X hds l' ∧ ∀ (Dd : Ends) (c : String) (fs : List (String × D)) (env : En) (h : Hd) (σ : St) (H : Hp) (ι : Nat → Addr) (cls : Value) (od : Option Addr),
    HRep Z.X.K Z.cA ι H h → VRep Z.X.K ι h.length H σ env → XRep Z.X.K Z.cA ι h.length H c fs cls od → RsPost Z Dd ι h H (sCls l c fs env h) → wMany Z.X.K Z.W Dd l' cls od σ H := by
  induction k with
  | nil => exact ⟨[], .nil, fun D c fs env h σ H ι cls od R V x p => p ι H .refl R σ cls od V x⟩
  | @plain x cv mt f b bs p1 p2 hds l hc hm su r ih =>
    obtain ⟨l', k, q⟩ := ih
    refine ⟨(cv, suT Z mt f) :: l', .plain hc (suT_ok su) k, fun D c fs env h σ H ι cls od R V x p => ?_⟩
    unfold sCls at p
    cases e : mt c with
    | none => rw [e] at p; exact p.elim
    | some m =>
      rw [e] at p
      refine ⟨m, by rw [x.1]; exact hm c m e, fun z a ha => ?_, fun z => ?_⟩
      · subst z
        have p : RsPost Z D ι h H (onAll fun a d => outN none (f c a d (inN none (.xc c a d fs) env) h)) := p
        have hn : (onAll fun a d => outN none (f c a d (inN none (.xc c a d fs) env) h)) ≠ .stuck := fun z => by rw [z] at p; exact p
        rw [← onAll_at hn a od] at p
        refine ⟨c, e, x.1, ι, env, h, R, V, ?_⟩
        have p : RsPost Z D ι h H (outN none (f c a od env h)) := p
        cases e2 : f c a od env h with
        | stuck => rw [e2] at p; exact p
        | ok fl h2 => rw [e2] at p; cases fl <;> first | exact p | exact p.elim
      · subst z
        exact q D c fs env h σ H ι cls od R V x p
  | @named x n i cv mt f b bs p1 p2 hds l hN hi hl hc hm su r ih =>
    obtain ⟨l', k, q⟩ := ih
    refine ⟨(cv, asSu i (suT Z mt f)) :: l', .named hN hi hl hc (suT_ok su) k, fun D c fs env h σ H ι cls od R V x p => ?_⟩
    unfold sCls at p
    cases e : mt c with
    | none => rw [e] at p; exact p.elim
    | some m =>
      rw [e] at p
      refine ⟨m, by rw [x.1]; exact hm c m e, fun z a ha => ?_, fun z => ?_⟩
      · subst z
        have p : RsPost Z D ι h H (onAll fun a d => outN (some i) (f c a d (inN (some i) (.xc c a d fs) env) h)) := p
        have hn : (onAll fun a d => outN (some i) (f c a d (inN (some i) (.xc c a d fs) env) h)) ≠ .stuck := fun z => by rw [z] at p; exact p
        rw [← onAll_at hn a od] at p
        refine ⟨c, e, x.1, ι, env.set i (some (.xc c a od fs)), h, R, V.set (xc_rep x a), ?_⟩
        have p : RsPost Z D ι h H (outN (some i) (f c a od (env.set i (some (.xc c a od fs))) h)) := p
        cases e2 : f c a od (env.set i (some (.xc c a od fs))) h with
        | stuck => rw [e2] at p; exact p
        | ok fl h2 =>
          rw [e2] at p
          cases fl with
          | nx env2 => exact fun ι' H' S' R' σ' V' => p ι' H' S' R' _ (V'.wipe1 i)
          | brk env2 => exact fun ι' H' S' R' σ' V' => p ι' H' S' R' _ (V'.wipe1 i)
          | ct env2 => exact fun ι' H' S' R' σ' V' => p ι' H' S' R' _ (V'.wipe1 i)
          | ret v => exact p
          | exc _ _ _ => exact p.elim
      · subst z
        exact q D c fs env h σ H ι cls od R V x p
theorem ks_try (hs : Z.X.stack = Z.X.env :: Z.X.outer) (hf : Z.X.env.frame = some Z.X.env.locals) (tk : Takes Z.X Z.W)
    (hb : ∀ (W : WX) (pn : List (Addr × Obj)) (xe : Value → Shared → Prop), Takes (Z.X.tr pn xe) W → PassesOwn (model Z.X.prog Z.X.w) Z.X.A Z.X.env xe → KSs (Z.tr pn xe W) body fb) (hh : KCl Z (h₀ :: hds) l) :
    KS Z (.Try body (h₀ :: hds) [] [] pos) (sTry fb l) := by
  obtain ⟨l', k, q⟩ := kcl_cls hh
  refine ⟨(ps_try_all (tb := fun W => tDS ⟨Z.X, Z.cA, W⟩ fb) hs hf tk (fun W pn xe t o => ⟨fun pins s σ H D I z => (hb W pn xe t o).pss.run pins s σ H D I z⟩) k).weak fun D σ H ⟨ι, env, h, R, V, p⟩ => ⟨ι, env, h, R, V, ?_⟩⟩
  unfold sTry at p
  cases e : fb env h with
  | stuck => rw [e] at p; exact p.elim
  | ok fl h1 =>
    rw [e] at p
    cases fl with
    | nx env2 => exact p
    | brk env2 => exact p
    | ct env2 => exact p
    | ret v => exact p
    | exc c fs env1 => exact fun ι' H' S' R' σ' cls od V' x => q D c fs env1 h1 σ' H' ι' cls od R' V' x (RsPost.step S' p)
/-! ### in a suite -/
def sXf (c : String) (a : Nat) (d : Option Nat) (g : SE) (f : String) : SE := fun env h => (g env h).bind fun x h1 => match x with
  | .xc c' a' d' fs => if c' = c ∧ a' = a ∧ d' = d then onSome (fs.lookup f) fun v => .ok v h1 else .stuck
  | _ => .stuck
theorem ke_xf {a : Addr} {oe : Obj} {d : Option Addr} {pn : List (Addr × Obj)} {e : Expr} {g : SE} {c f : String} (T : XfC Z.X.K (Z.cA c)) (hno : PySem.W.findIn Z.X.K (.ref (Z.cA c)) (Str.ofString f) = some none)
    (hz : Zc (.ref (Z.cA c)) d oe) (hf : ∃ fv, oe.data = .fields fv) (he : KE (Z.su a oe pn) e g) (hb : attributeBase e (Str.ofString f) Z.X.env (eval e Z.X.env) = eval e Z.X.env := by rfl) : KE (Z.su a oe pn) (.Attribute e (Str.ofString f) pos) (sXf c a d g f) :=
  ⟨(pe_xf T hno hz hf he.pe hb).weak fun σ H Q ⟨ι, env, h, R, V, p⟩ => ⟨ι, env, h, R, V, (RPost.bind p).mono fun x h1 ι1 H1 S1 R1 p1 v r => by
    cases r with
    | non => exact p1.elim
    | bl => exact p1.elim
    | int => exact p1.elim
    | str => exact p1.elim
    | raw => exact p1.elim
    | tup _ _ => exact p1.elim
    | fls _ _ => exact p1.elim
    | ref _ => exact p1.elim
    | @xc0 c' a' =>
      have p1 : RPost Z.X.K Z.cA (fun _ _ _ _ => False) σ ι1 h1 H1 (if c' = c ∧ a' = a ∧ none = d then onSome (List.lookup f []) fun v => .ok v h1 else .stuck) _ := p1
      by_cases q : c' = c ∧ a' = a ∧ none = d
      · rw [if_pos q] at p1
        obtain ⟨w, ew, _⟩ := p1.onSome
        cases ew
      · rw [if_neg q] at p1; exact p1.elim
    | @xc c' a' d' gs fs e1 rf =>
      have p2 : RPost Z.X.K Z.cA (fun _ _ _ _ => False) σ ι1 h1 H1 (if c' = c ∧ a' = a ∧ some d' = d then onSome (fs.lookup f) fun v => .ok v h1 else .stuck) _ := p1
      clear p1
      by_cases q : c' = c ∧ a' = a ∧ some d' = d
      · rw [if_pos q] at p2
        obtain ⟨w, ew, p3⟩ := p2.onSome
        obtain ⟨u, eu, ru⟩ := rf.some ew
        exact ⟨by rw [q.2.1], by rw [← q.1], d', gs, u, q.2.2.symm, e1, eu, RPost.ok R1 p3 u ru⟩
      · rw [if_neg q] at p2; exact p2.elim⟩⟩
end
/-- a suite's surroundings stand in those of the law -/
structure Kx.InS (Z : Kx) (G : Gx) : Prop where
  P : Z.X.prog = G.P
  w : Z.X.w = G.w
  K : Z.X.K = G.K
  mg : Z.X.mg = G.mg
  base : Z.X.base = G.base
  cA : Z.cA = G.cA
  hu : Z.X.A.units + 65 < cLine
  gu : Z.X.A.guards = some []
theorem Kx.InS.hu64 {Z : Kx} {G : Gx} (i : Z.InS G) : Z.X.A.units + 64 < cLine := by have := i.hu; omega
theorem Kx.InS.hu1 {Z : Kx} {G : Gx} (i : Z.InS G) : Z.X.A.units + 1 < cLine := by have := i.hu; omega
theorem Kx.In.gu {Z : Kx} {G : Gx} {k : Nat} (i : Z.In G k) : Z.X.A.guards = some [] := i.room.gu
theorem Kx.In.su {Z : Kx} {G : Gx} {k : Nat} (i : Z.In G k) (a : Addr) (oe : Obj) (pn : List (Addr × Obj)) : (Z.su a oe pn).InS G := ⟨i.P, i.w, i.K, i.mg, i.base, i.cA, i.hu, i.room.gu⟩
theorem Kx.In.tr {Z : Kx} {G : Gx} {k : Nat} (i : Z.In G k) {pn : List (Addr × Obj)} {xe : Value → Shared → Prop} {W : WX} (tk : Takes (Z.X.tr pn xe) W) (o : PassesOwn (model Z.X.prog Z.X.w) Z.X.A Z.X.env xe) : (Z.tr pn xe W).In G k := ⟨i.P, i.w, i.K, i.mg, i.base, i.cA, i.room, tk, o, i.cm⟩
/-! ### __init__ -/
section
variable {P : Program} {w : World} {K : PySem.W.Frag} {mg : Str → Option Value} {base : Heap} {x qual : Str} {st : Stmt} {f : Addr} {fd : FuncData} {N ps : List Str} {C : Addr}
theorem st_one {ns : List String} {ys : List V} (S : ps.length = ns.length + 1) {vs : List V} {H : Hp} {Q : VK} {E : XK} (h : spX C ns vs H Q E) : vs.length = ps.length := by
  obtain ⟨a, ys, rfl, hl, _⟩ := h
  simp [S, hl]
theorem x_init1 {f1 : String} (T : OexC K C) (F : Fun K x qual st f fd) (S : FnScope N ps (defScope st)) (hN : N.length = 2) (hp : ps.length = 2) (n1 : PySem.W.findIn K (.ref C) (Str.ofString f1) = some none)
    (hd : ∀ (cdv : Value) (A : Around) (outer : List Env) (s : Shared) (H : Hp) (E : XK), PSs (cxOf (L2.CX P w) P w K mg base N qual (defScope st) f cdv A outer s H E) (defBody st) (tOst K (Str.ofString f1) (tVar 0) (tVar 1))) :
    FnOk P w K mg base (L2.CX P w) 1 f fd ps (spX C [f1]) :=
  F.okX (k := 0) S (fun vs H Q E h => st_one (ys := []) (by simpa using hp) h) fun cdv A outer s H vs Q E hr h => by
    refine ⟨_, hd cdv A outer s H E, ?_⟩
    obtain ⟨a, ys, rfl, hl, ha, q⟩ := h
    match ys, hl with
    | [y], _ =>
      have e : L2.start N [V.ref a, y] = [some (.ref a), some y] := by unfold L2.start; rw [hN]; rfl
      rw [e]
      exact ⟨_, rfl, _, rfl, a, C, rfl, T, n1, .inl ⟨ha, fun dx hdx hda => q dx hdx hda⟩⟩
theorem x_init2 {f1 f2 : String} (T : OexC K C) (F : Fun K x qual st f fd) (S : FnScope N ps (defScope st)) (hN : N.length = 3) (hp : ps.length = 3) (n1 : PySem.W.findIn K (.ref C) (Str.ofString f1) = some none) (n2 : PySem.W.findIn K (.ref C) (Str.ofString f2) = some none)
    (hd : ∀ (cdv : Value) (A : Around) (outer : List Env) (s : Shared) (H : Hp) (E : XK), PSs (cxOf (L2.CX P w) P w K mg base N qual (defScope st) f cdv A outer s H E) (defBody st) (tSeq (tOst K (Str.ofString f1) (tVar 0) (tVar 1)) (tOst K (Str.ofString f2) (tVar 0) (tVar 2)))) :
    FnOk P w K mg base (L2.CX P w) 1 f fd ps (spX C [f1, f2]) :=
  F.okX (k := 0) S (fun vs H Q E h => st_one (ys := []) (by simpa using hp) h) fun cdv A outer s H vs Q E hr h => by
    refine ⟨_, hd cdv A outer s H E, ?_⟩
    obtain ⟨a, ys, rfl, hl, ha, q⟩ := h
    match ys, hl with
    | [y, z], _ =>
      have e : L2.start N [V.ref a, y, z] = [some (.ref a), some y, some z] := by unfold L2.start; rw [hN]; rfl
      rw [e]
      refine ⟨_, rfl, _, rfl, a, C, rfl, T, n1, .inl ⟨ha, fun dx hdx hda => ?_⟩⟩
      refine ⟨_, rfl, _, rfl, a, C, rfl, T, n2, .inr ⟨dx, [(Str.ofString f1, y)], upd_same, ?_, (by show 1 ≤ 900; decide), ?_⟩⟩
      · rw [upd_ne hda, upd_same]
      · have e2 : upd (upd (upd H dx (exd dx [(Str.ofString f1, y)])) a (exo a C (some dx))) dx (exd dx ((Str.ofString f2, z) :: [(Str.ofString f1, y)])) = upd (upd H dx (exd dx [(Str.ofString f2, z), (Str.ofString f1, y)])) a (exo a C (some dx)) := by
          funext b
          by_cases e1 : b = dx
          · subst e1; rw [upd_same, upd_ne hda, upd_same]
          · rw [upd_ne e1]
            by_cases e2 : b = a
            · subst e2; rw [upd_same, upd_same]
            · rw [upd_ne e2, upd_ne e2, upd_ne e1, upd_ne e1]
        show Q .non (upd _ dx _)
        rw [e2]
        exact q dx hdx hda
end
end Kf
end
section
set_option maxHeartbeats 4000000
/-! Kf: zip, reversed, append, a tuple times a number. -/
namespace Kf
open PySem PySem.Spec L2
section
variable {Z : Kx}
/-! ### zip -/
def seqK (h : Hd) : D → Option Bool
  | .tup _ => some true
  | .fls _ => some false
  | .ref m => match h[m]? with | some (.lst _) => some false | _ => none
  | _ => none
theorem seqK_rep {ι : Nat → Addr} {h : Hd} {H : Hp} {v : V} {d : D} {b : Bool} (R : HRep Z.X.K Z.cA ι H h) (r : Rep Z.X.K ι h.length H v d) (e : seqK h d = some b) :
    ∃ a xs ds, v = .ref a ∧ itemsD h d = some ds ∧ Reps Z.X.K ι h.length H xs ds ∧ (b = true → SqT Z.X.K H a xs) ∧ (b = false → SqL Z.X.K H a xs) := by
  cases r with
  | tup q rs => cases e; exact ⟨_, _, _, rfl, rfl, rs, fun _ => q, fun z => (by cases z)⟩
  | fls q rs => cases e; exact ⟨_, _, _, rfl, rfl, rs, fun z => (by cases z), fun _ => q.sql⟩
  | ref hlt =>
    rename_i m
    unfold seqK at e
    cases hm : h[m]? with
    | none => simp [hm] at e
    | some o =>
      obtain ⟨ho, e3, ro⟩ := R.obj m _ hm
      cases ro with
      | lst rs => simp [hm] at e; subst e; exact ⟨_, _, _, rfl, by simp [itemsD, hm], rs, fun z => (by cases z), fun _ => .of e3⟩
      | dict _ => simp [hm] at e
      | lkd _ => simp [hm] at e
      | ins _ => simp [hm] at e
  | _ => cases e
def sZip (f g : SE) : SI := fun env h => (f env h).bind fun x h1 => (g env h1).bind fun y h2 => onSome (seqK h2 x) fun b => onSome (seqK h2 y) fun c => guardI (b = c) (.ok (.zp x y) h2)
where guardI (c : Prop) [Decidable c] (r : Res ItD) : Res ItD := guard' c r
/-- kinds stay -/
theorem seqK_nx {ι ι' : Nat → Addr} {h h' : Hd} {H H' : Hp} {v : V} {d : D} {b : Bool} {ds : List D} (R : HRep Z.X.K Z.cA ι H h) (S : Step ι h H ι' h' H') (R' : HRep Z.X.K Z.cA ι' H' h') (r : Rep Z.X.K ι h.length H v d) (e : seqK h d = some b) (e2 : itemsD h' d = some ds) :
    ∃ a xs, v = .ref a ∧ Reps Z.X.K ι' h'.length H' xs ds ∧ (b = true → SqT Z.X.K H' a xs) ∧ (b = false → SqL Z.X.K H' a xs) := by
  have e3 : seqK h' d = some b := by
    cases d <;> first | (cases e; done) | exact e | skip
    rename_i m
    cases hm : h'[m]? with
    | none => simp [itemsD, hm] at e2
    | some o =>
      cases o <;> simp [itemsD, hm] at e2
      cases hm2 : h[m]? with
      | none => simp [seqK, hm2] at e
      | some o => cases o <;> simp [seqK, hm2] at e <;> simp [seqK, hm, e]
  obtain ⟨a, xs, ds', e4, e5, e6, e7⟩ := seqK_rep R' (r.step S R) e3
  rw [e2] at e5
  cases e5
  exact ⟨a, xs, e4, e6, e7⟩
theorem ki_zip {tg : List Expr} {kk : Nat} {a b : Expr} {f g : SE} {p pos tpos : Pos} (hg : Gl Z.X "zip") (hm : Z.X.mg "zip" = none) (ha : KE Z a f) (hb : KE Z b g) (hs : starEach [a, b] Z.X.env = (false, eval a Z.X.env) :: starEach [b] Z.X.env := by rfl)
    (hs2 : starEach [b] Z.X.env = (false, eval b Z.X.env) :: starEach [] Z.X.env := by rfl) (hpl : (backTo pos (starEach [b] Z.X.env)).any (·.1) = false := by rfl) : KI Z (.Tuple tg kk tpos) (.Call (.Name "zip" p) [a, b] [] pos) (sZip f g) :=
  ⟨(RZ.pi_zipA hg hm (ka_cons ha (ka_cons hb ka_nil hs2) hs).pa hs hpl).weak fun σ H Q ⟨ι, env, h, R, V, p⟩ => ⟨ι, env, h, R, V, by
    have p' : RPost Z.X.K Z.cA Z.W σ ι h H ((f env h).bind fun x h1 => (g env h1).bind fun y h2 => onSome (seqK h2 x) fun b => onSome (seqK h2 y) fun c => guard' (b = c) (.ok (ItD.zp x y) h2)) _ := p
    refine RPost.mono (P := fun ds h1 ι1 H1 => ∃ x y, ds = [x, y] ∧ RPost Z.X.K Z.cA Z.W σ ι1 h1 H1 (onSome (seqK h1 x) fun b => onSome (seqK h1 y) fun c => guard' (b = c) (.ok (ItD.zp x y) h1)) fun it h' ι' H' => ∀ J, ItOk Z J it ι' h' H' → Q J H') ?_ ?_
    · show RPost _ _ _ _ _ _ _ ((f env h).bind _) _
      cases e : f env h with
      | ok d h1 =>
        rw [e] at p'
        have p' : RPost Z.X.K Z.cA Z.W σ ι h H ((g env h1).bind _) _ := p'
        show RPost _ _ _ _ _ _ _ (((g env h1).bind _).bind _) _
        cases e2 : g env h1 with
        | ok d2 h2 => rw [e2] at p'; exact fun ι' H' S R' => ⟨d, d2, rfl, RPost.step S p'⟩
        | exc c fs h1 => rw [e2] at p'; exact p'
        | stuck => rw [e2] at p'; exact p'.elim
      | exc c fs h1 => rw [e] at p'; exact p'
      | stuck => rw [e] at p'; exact p'.elim
    · rintro ds h1 ι1 H1 S1 R1 ⟨x, y, rfl, p1⟩ vs rs
      obtain ⟨bx, kx, p2⟩ := p1.onSome
      obtain ⟨bY, ky, p3⟩ := p2.onSome
      obtain ⟨eb, p4⟩ := p3.guard
      subst eb
      cases rs with
      | cons rx rr =>
        cases rr with
        | cons ry rr =>
          cases rr
          obtain ⟨a, xs, es, e1, e2, e3, e4, e5⟩ := seqK_rep R1 rx kx
          obtain ⟨b, ys, fs, f1, f2, f3, f4, f5⟩ := seqK_rep R1 ry ky
          subst e1 f1
          have base : ∀ J : It, (∀ ι2 h2 H2, Step ι1 h1 H1 ι2 h2 H2 → HRep Z.X.K Z.cA ι2 H2 h2 → ∀ i us ws, itemsD h2 x = some us → itemsD h2 y = some ws →
              (∀ u w, us[i]? = some u → ws[i]? = some w → J.go i H2 ∧ ∀ v H3, J.yld i H2 v H3 → ∃ T p q, v = .ref T ∧ H2 T = none ∧ H3 = upd H2 T (.tup [p, q]) ∧ Rep Z.X.K ι2 h2.length H2 p u ∧ Rep Z.X.K ι2 h2.length H2 q w) ∧
              (us[i]? = none ∨ ws[i]? = none → J.stop i H2)) → ItOk Z J (.zp x y) ι1 h1 H1 := fun J k ι2 h2 H2 S2 R2 i => by
            cases ex : itemsD h2 x with
            | none => exact ⟨fun d e => by simp [nextD, ex] at e, fun e => by simp [nextD, ex] at e⟩
            | some us =>
              cases ey : itemsD h2 y with
              | none => exact ⟨fun d e => by simp [nextD, ex, ey] at e, fun e => by simp [nextD, ex, ey] at e⟩
              | some ws =>
                obtain ⟨k1, k2⟩ := k ι2 h2 H2 S2 R2 i us ws ex ey
                have en : nextD (.zp x y) h2 i = some (match us[i]?, ws[i]? with | some u, some v => some (.tup [u, v]) | _, _ => none) := by show (match itemsD h2 x, itemsD h2 y with | some xs, some ys => some (match xs[i]?, ys[i]? with | some u, some v => some (D.tup [u, v]) | _, _ => none) | _, _ => none) = _; rw [ex, ey]
                rw [en]
                cases eu : us[i]? with
                | none => exact ⟨fun d e => by simp at e, fun _ => k2 (.inl eu)⟩
                | some u =>
                  cases ew : ws[i]? with
                  | none => exact ⟨fun d e => by simp at e, fun _ => k2 (.inr ew)⟩
                  | some w =>
                    refine ⟨fun d e => ?_, fun e => by simp at e⟩
                    simp at e
                    subst e
                    obtain ⟨go, yl⟩ := k1 u w eu ew
                    refine ⟨go, fun v H3 yy => ?_⟩
                    obtain ⟨T, p, q, t1, t2, t3, t4, t5⟩ := yl v H3 yy
                    subst t1 t3
                    have S3 := Step.aside R2 t2 (.tup [p, q])
                    exact ⟨S3, R2.aside t2 _, .tup (.of upd_same) (.cons (t4.step S3 R2) (.cons (t5.step S3 R2) .nil))⟩
          cases bx with
          | true =>
            refine ⟨a, b, xs, ys, rfl, .inr ⟨e4 rfl, f4 rfl, RPost.ok R1 p4 _ (base _ fun ι2 h2 H2 S2 R2 i us ws g1 g2 => ?_)⟩⟩
            obtain ⟨a', xs2, c1, c2, c3, _⟩ := seqK_nx R1 S2 R2 rx kx g1
            obtain ⟨b', ys2, d1, d2, d3, _⟩ := seqK_nx R1 S2 R2 ry ky g2
            cases c1; cases d1
            refine ⟨fun u w gu gw => ?_, fun z => ⟨xs2, ys2, c3 rfl, d3 rfl, ?_⟩⟩
            · obtain ⟨p, hp, rp⟩ := c2.get gu
              obtain ⟨q, hq, rq⟩ := d2.get gw
              refine ⟨⟨xs2, ys2, p, q, c3 rfl, d3 rfl, hp, hq⟩, fun v H3 ⟨T, x', y', t1, t2, t3, t4, t5⟩ => ⟨T, x', y', t1, t2, t3, ?_, ?_⟩⟩
              · have := t4 _ (c3 rfl); rw [hp] at this; cases this; exact rp
              · have := t5 _ (d3 rfl); rw [hq] at this; cases this; exact rq
            · rcases z with z | z
              · exact .inl (by rw [c2.len]; exact List.getElem?_eq_none_iff.mp z)
              · exact .inr (by rw [d2.len]; exact List.getElem?_eq_none_iff.mp z)
          | false =>
            refine ⟨a, b, xs, ys, rfl, .inl ⟨e5 rfl, f5 rfl, RPost.ok R1 p4 _ (base _ fun ι2 h2 H2 S2 R2 i us ws g1 g2 => ?_)⟩⟩
            obtain ⟨a', xs2, c1, c2, _, c3⟩ := seqK_nx R1 S2 R2 rx kx g1
            obtain ⟨b', ys2, d1, d2, _, d3⟩ := seqK_nx R1 S2 R2 ry ky g2
            cases c1; cases d1
            refine ⟨fun u w gu gw => ?_, fun z => ⟨xs2, ys2, c3 rfl, d3 rfl, ?_⟩⟩
            · obtain ⟨p, hp, rp⟩ := c2.get gu
              obtain ⟨q, hq, rq⟩ := d2.get gw
              refine ⟨⟨xs2, ys2, p, q, c3 rfl, d3 rfl, hp, hq⟩, fun v H3 ⟨T, x', y', t1, t2, t3, t4, t5⟩ => ⟨T, x', y', t1, t2, t3, ?_, ?_⟩⟩
              · have := t4 _ (c3 rfl); rw [hp] at this; cases this; exact rp
              · have := t5 _ (d3 rfl); rw [hq] at this; cases this; exact rq
            · rcases z with z | z
              · exact .inl (by rw [c2.len]; exact List.getElem?_eq_none_iff.mp z)
              · exact .inr (by rw [d2.len]; exact List.getElem?_eq_none_iff.mp z)⟩⟩
/-! ### reversed, of what nobody changes -/
def sRev (f : SE) : SI := fun env h => (f env h).bind fun x h1 => match x with
  | .tup ds => .ok (.snap ds.reverse) h1
  | _ => .stuck
theorem ki_rev {tg e : Expr} {f : SE} {p pos : Pos} (hg : Gl Z.X "reversed") (hm : Z.X.mg "reversed" = none) (he : KE Z e f) (hs : starEach [e] Z.X.env = (false, eval e Z.X.env) :: starEach [] Z.X.env := by rfl) : KI Z tg (.Call (.Name "reversed" p) [e] [] pos) (sRev f) :=
  ⟨(RT.pi_revA hg hm he.pe hs).weak fun σ H Q ⟨ι, env, h, R, V, p⟩ => ⟨ι, env, h, R, V, (RPost.bind p).mono fun x h1 ι1 H1 S1 R1 p1 v r => by
    cases r with
    | @tup a xs ds q rs =>
      refine ⟨a, xs, rfl, .inr ⟨q, RPost.ok R1 p1 _ fun ι2 h2 H2 S2 R2 i => ?_⟩⟩
      have q2 := (S2.tkeep R1).tup _ _ q
      have rs2 := rs.step S2 R1
      have hl := rs2.len
      have key : ∀ j, j < ds.length → ds.reverse[j]? = ds[xs.length - 1 - j]? := fun j hj => by rw [List.getElem?_reverse hj, hl]
      refine ⟨fun d hd => ?_, fun hd => ?_⟩
      · have hd := Option.some.inj hd
        have hi : i < ds.length := by have := lt_of_get hd; simpa using this
        rw [key i hi] at hd
        obtain ⟨w, hw, rw'⟩ := rs2.get hd
        refine ⟨⟨by omega, xs, w, q2, hw⟩, fun x' H3 ⟨z1, z2⟩ => ?_⟩
        subst z1
        have hx := z2 xs q2
        rw [hw] at hx; cases hx
        exact ⟨.refl, R2, rw'⟩
      · have hd := Option.some.inj hd
        have : ds.reverse.length ≤ i := List.getElem?_eq_none_iff.mp hd
        show xs.length ≤ i
        simp at this; omega
    | _ => exact p1.elim⟩⟩
/-! ### append -/
def sAppend (f g : SE) : SE := fun env h => (f env h).bind fun x h1 => asRef x fun m => onLst h1 m fun _ => (g env h1).bind fun d h2 => onLst h2 m fun ds => guard' (ds.length < LIM) (.ok .non (h2.set m (.lst (ds ++ [d]))))
end
end Kf
end
section
set_option maxHeartbeats 4000000
/-! Kf: a tuple times a number; append. -/
namespace PySem
open PySem.Spec PyProof.Rows
theorem tuple_once (l : Addr) (items : Array Value) (n : Nat) (dd : Option Addr) (sl : Array (Option Value)) (u : Tok) (hne : items.isEmpty = false) :
    Meets (Builtin.«tuple.__mul__» ⟨[.ref l, .int 1 u], []⟩) (fun _ R s => s.heap.get? l = some { cls := .type "tuple", dict := dd, data := .seq items n, slots := sl } ∧ R (.ok (.ret (.ref l))) s) :=
  .of_wp fun prog w A R s h => by
    obtain ⟨hp, g, d, tk, os⟩ := s
    obtain ⟨hl, h⟩ := h
    have f1 := AutoSeq1.idx_int
    have c0 : (decide ((1 : Int) < -(2 ^ 63)) || decide ((1 : Int) ≥ 2 ^ 63)) = false := by decide
    have c1 : (items.isEmpty || (1 : Int) == 1) = true := by rw [hne]; rfl
    wp_walk using wpAny_loadPart' hl
    repeat (first
      | (refine wpAny_ite_false (decide_eq_false (by rw [c0]; exact Bool.false_ne_true)) ?_; wp_walk using wpAny_loadPart' hl)
      | (refine wpAny_ite_true (decide_eq_true c1) ?_; wp_walk using wpAny_loadPart' hl))
    exact ⟨_, rfl, h⟩
end PySem
namespace Kf
open PySem PySem.Spec L2 PyProof.Rows
theorem op_once {X : Cx} : OpR X (binaryOp .Mult) (fun x y H Q => ∃ l xs, x = .ref l ∧ y = .int 1 ∧ SqT X.K H l xs ∧ xs ≠ [] ∧ Q (.ref l) H) := by
  rintro pins s σ H x y v u Q I rx ry ⟨l, xs, rfl, rfl, hT, hne, q⟩
  cases rx
  obtain ⟨t, rfl⟩ := ry
  obtain ⟨its, r, ⟨⟨cls, dd, data, sl⟩, ho, hc, n, hd⟩, hs⟩ := I.tuple hT
  have e1 : cls = .type "tuple" := hc
  have e2 : data = .seq its.toArray n := hd
  subst e1 e2
  have hi : its.toArray.isEmpty = false := by
    cases r with
    | nil => exact absurd rfl hne
    | cons _ _ => rfl
  exact wpAny_binaryOp_repeat_ref (T := "tuple") (U := "int") (by decide) ⟨_, ho, rfl⟩ (fun s' => typeIs_int s' 1 t) noFill_tuple_mul PySem.F.fills_int_mul PySem.F.slot_int_rmul repeat_tuple PySem.F.slot_int_index.lookup
    (call_meets PySem.F.slot_int_rmul (typeIs_int s 1 t) PySem.F.entry_int_rmul (PySem.F.args_int_rmul_2 _ _) (int_rmul_tuple 1 t l its.toArray n dd sl) ⟨ho, rfl, ⟨_, ho, rfl⟩,
      call_meets PySem.F.slot_tuple_mul ⟨_, ho, rfl⟩ PySem.F.entry_tuple_mul (PySem.F.args_tuple_mul_2 _ _) (tuple_once l its.toArray n dd sl t hi) ⟨ho, .ref l, H, I, rfl, q⟩⟩)
section
variable {Z : Kx}
def repT : F2 := fun x y h => asTup x fun xs => asInt y fun k => guard' (xs ≠ [] ∧ 1 ≤ k ∧ k ≤ 1000 ∧ xs.length ≤ 1000) (.ok (.tup (List.replicate k.toNat xs).flatten) h)
theorem ko_repT : OpK Z (binaryOp .Mult) repT := by
  refine ⟨fun x y H Q => (∃ l xs, x = .ref l ∧ y = .int 1 ∧ SqT Z.X.K H l xs ∧ xs ≠ [] ∧ Q (.ref l) H) ∨ rRepT Z.X.K x y H Q, fun pins s σ H x y v u Q I rx ry z => z.elim (op_once pins s σ H x y v u Q I rx ry) (op_repT pins s σ H x y v u Q I rx ry), fun σ ι h H x y dx dy Q R rx ry p => ?_⟩
  obtain ⟨ds, e1, p1⟩ := p.asTup
  obtain ⟨k, e2, p2⟩ := p1.asInt
  obtain ⟨⟨c1, c2, c3, c4⟩, p3⟩ := p2.guard
  subst e1 e2
  cases ry
  cases rx with
  | @tup a xs ds q rs =>
    have hne : xs ≠ [] := fun z => by subst z; cases rs; exact c1 rfl
    by_cases hk : k = 1
    · subst hk
      have e : (List.replicate (1 : Int).toNat ds).flatten = ds := by simp
      rw [e] at p3
      exact .inl ⟨a, xs, rfl, rfl, q, hne, RPost.ok R p3 _ (.tup q rs)⟩
    · refine .inr ⟨a, k, xs, rfl, rfl, q, hne, by omega, c3, by rw [rs.len]; exact c4, fun l hl => ?_⟩
      have S2 := Step.aside R hl (.tup (List.replicate k.toNat xs).flatten)
      exact p3 ι _ S2 (R.aside hl _) _ (.tup (.of upd_same) ((rs.rep _).step S2 R))
def mulB : F2 := fun x y h => match x with
  | .tup _ => repT x y h
  | _ => mulA x y h
theorem ko_timesB : OpK Z (binaryOp .Mult) mulB := .alt ko_times ko_repT fun x y h => by cases x <;> simp [mulB]
/-! ### append -/
theorem ke_append {o e : Expr} {f g : SE} {p pos : Pos} (ho : KE Z o f) (he : KE Z e g) (hbase : attributeBase o "append" Z.X.env (eval o Z.X.env) = eval o Z.X.env := by rfl)
    (hfew : ((backTo pos (starEach [e] Z.X.env)).all (fun x => !x.1) && (backToKw pos (keywordEach [] Z.X.env)).all (fun x => x.1.isSome) && decide ([e].length + ([] : List Keyword).length + (if ([] : List Keyword).isEmpty then 0 else 1) < 30)) = true := by rfl)
    (hline : (p.endLine == pos.line) = true := by rfl) (hs : starEach [e] Z.X.env = (false, eval e Z.X.env) :: starEach [] Z.X.env := by rfl) (hpl : (backTo pos (starEach [] Z.X.env)).any (·.1) = false := by rfl) :
    KE Z (.Call (.Attribute o "append" p) [e] [] pos) (sAppend f g) :=
  ⟨(pe_bm PySem.F.plainAttrs_list PySem.F.slot_list_append PySem.F.type_list_append mt_append ho.pe (pa_cons he.pe pa_nil hs) hbase hfew hline hs hpl).weak fun σ H Q ⟨ι, env, h, R, V, p⟩ => ⟨ι, env, h, R, V, (RPost.bind p).mono fun x h1 ι1 H1 S1 R1 p1 v r => by
    obtain ⟨m, e1, p2⟩ := p1.asRef
    obtain ⟨ds, e2, p3⟩ := p2.onLst
    subst e1
    cases r with
    | ref hlt =>
      obtain ⟨xs, e3, _, _⟩ := lst_at R1 e2
      refine ⟨.inl ⟨rfl, xs, .of e3⟩, ι1, env, h1, R1, V.step S1 R, (RPost.bind p3).mono fun d h2 ι2 H2 S2 R2 p4 w rw' => ?_⟩
      obtain ⟨es, e4, p5⟩ := p4.onLst
      obtain ⟨hl, p6⟩ := p5.guard
      have hm2 : m < h2.length := Nat.lt_of_lt_of_le hlt S2.len
      obtain ⟨ys, e5, rs2, hf⟩ := lst_at R2 e4
      refine ⟨ι1 m, ys, w, rfl, by first | rfl | simp, by rw [← S2.eq m hlt]; exact e5, by rw [rs2.len, sizeLine_eq]; exact hl, ?_⟩
      rw [← S2.eq m hlt]
      exact p6 ι2 _ (Step.set R2 hm2 hf (.lst (ys ++ [w])) (.lst (es ++ [d]))) (R2.set hm2 hf (.lst (rs2.append (.cons rw' .nil)))) _ .non⟩⟩
end
end Kf
namespace Kf
open PySem PySem.Spec L2
/-- a class that a clause names -/
structure CH (G : Gx) (x : Str) (cv : Value) (mt : List (String × Bool)) : Prop where
  nm : (x == ("__debug__" : Str)) = false ∧ (G.mg x = some cv ∨ (G.mg x = none ∧ bootBuiltins x = some cv ∧ x ≠ "__name__"))
  ex : ∀ c r, mt.lookup c = some r → PySem.W.exmOne G.K (.ref (G.cA c)) cv = some r
/-- a field of an own exception class -/
structure XFG (G : Gx) (c f : String) : Prop where
  T : XfC G.K (G.cA c)
  no : PySem.W.findIn G.K (.ref (G.cA c)) (Str.ofString f) = some none
section
variable {Z : Kx} {G : Gx} {j : Nat} {x : Str} {cv : Value} {mt : List (String × Bool)}
theorem CH.names (h : CH G x cv mt) (i : Z.In G j) (hg : Gl Z.X x) : Names Z.X x cv := ⟨hg, h.nm.1, by rw [i.mg]; exact h.nm.2⟩
theorem CH.exm (h : CH G x cv mt) (i : Z.In G j) : ∀ c r, mt.lookup c = some r → PySem.W.exmOne Z.X.K (.ref (Z.cA c)) cv = some r := by
  rw [i.K, i.cA]; exact h.ex
theorem one_true {c0 : String} : ∀ {l : List (String × Bool)}, (l.all fun p => !p.2 || p.1 == c0) = true → ∀ c, l.lookup c = some true → c = c0
  | [], _, c, e => by cases e
  | (a, b) :: l, h, c, e => by
    simp only [List.all_cons, Bool.and_eq_true] at h
    rw [List.lookup_cons] at e
    cases q : c == a with
    | true =>
      rw [q] at e
      cases e
      have h1 : a = c0 := by simpa using h.1
      rw [eq_of_beq q, h1]
    | false => rw [q] at e; exact one_true h.2 c e
theorem ksu_one {body : List Stmt} {mt : String → Option Bool} {f : String → Nat → Option Nat → SS} {c0 : String} (h1 : ∀ c, mt c = some true → c = c0)
    (h : ∀ (a : Addr) (oe : Obj) (d : Option Addr) (pn : List (Addr × Obj)), Zc (.ref (Z.cA c0)) d oe → (∃ fv, oe.data = .fields fv) → KSs (Z.su a oe pn) body (f c0 a d)) : KSu Z body mt f := fun c hc a oe d pn hz hf => by
  cases h1 c hc
  exact h a oe d pn hz hf
end
end Kf
namespace Kf
open PySem PySem.Spec L2
section
variable {Z : Kx}
theorem reps_rg {K : PySem.W.Frag} {ι : Nat → Addr} {n : Nat} {H : Hp} (b : Int) : Reps K ι n H (rgV 0 b) (rangeL 0 b.toNat) := by
  unfold rgV rangeL
  rw [Int.sub_zero]
  generalize List.range b.toNat = l
  induction l with
  | nil => exact .nil
  | cons _ _ ih => exact .cons .int ih
/-- list(range(n)) -/
def sLstRg (f : SE) : SA := fun env h => (f env h).bind fun d h1 => asInt d fun b => guard' (-16777216 ≤ b ∧ b ≤ 16777216) (.ok (rangeL 0 b.toNat) h1)
theorem kl_listRg {a : Expr} {f : SE} {p p2 pos pos2 : Pos} (hc : Z.X.calm = true) (hl : Gl Z.X "list") (hlm : Z.X.mg "list" = none) (hg : Gl Z.X "range") (hm : Z.X.mg "range" = none) (ha : KE Z a f)
    (n1 : starEach [a] Z.X.env = (false, eval a Z.X.env) :: starEach [] Z.X.env := by rfl)
    (n2 : starEach [.Call (.Name "range" p2) [a] [] pos2] Z.X.env = (false, eval (.Call (.Name "range" p2) [a] [] pos2) Z.X.env) :: starEach [] Z.X.env := by rfl) : KL Z (.Call (.Name "list" p) [.Call (.Name "range" p2) [a] [] pos2] [] pos) (sLstRg f) :=
  ⟨(pe_listRg hc hl hlm (prg_1 hg hm ha.pe n1) n2).weak fun σ H Q ⟨ι, env, h, R, V, p⟩ => ⟨ι, env, h, R, V, (RPost.bind p).mono fun d h1 ι1 H1 S1 R1 p1 v r => by
    obtain ⟨b, e1, p2⟩ := p1.asInt
    obtain ⟨c, p3⟩ := p2.guard
    subst e1
    cases r
    refine ⟨b, rfl, ⟨by decide, by decide, by omega, by omega, by omega⟩, fun q hq => ?_⟩
    have S2 := Step.aside R1 hq (.lst (rgV 0 b))
    have hH : H q = none := none_of_there' S1 hq
    exact p3 ι1 _ S2 (R1.aside hq _) q _ hH upd_same (fun m hm z => R1.off hq hm z.symm) (reps_rg b)⟩⟩
end
end Kf
end
section
set_option maxHeartbeats 4000000
/-! Kf: repr of data. -/
namespace Kf
open PySem PySem.Spec L2 PyProof.Rows
theorem cr_repr {X : Cx} (hg : X.A.guards = some []) (hu : X.A.units + 65 < cLine) : CallR X (.builtin "repr") fun xs H Q => ∃ v p, xs = [v] ∧ Dp X.K H v p ∧ p.canLay0 = true ∧ p.depth ≤ 60 ∧ p.showable = true ∧ p.shown.length ≤ sizeLine ∧ Q (.str p.shown) H := by
  rintro pins s σ H xs us Q I r ⟨v, p, rfl, dp, cl, dpt, sh, sz, q⟩
  cases r with
  | cons rv rn =>
    rename_i u us'
    cases rn
    obtain ⟨as, rd⟩ := Dp.reads I p v u dp rv
    have deep : ∀ a, u = .ref a → wpAny (model X.prog X.w) X.A (call (.builtin "repr") [u]) (EP X pins σ Q) X.xe s := fun a e => by
      subst e
      exact repr_of_reads' rd sh (PyData.noDict_hsm (PyData.hasDict_of_canLay p cl)) hg (by omega) (fun b o z => z) (fun h' t tk k => ⟨.str p.shown, H, I.kept k, ⟨_, rfl⟩, q⟩) sz
    cases p with
    | none => cases rd; exact PySem.P.repr_of_none ⟨.str _, H, I.tok _, ⟨_, rfl⟩, by simpa only [PyData.shown] using q⟩
    | bool b => cases rd; exact PySem.P.repr_of_bool ⟨.str _, H, I.tok _, ⟨_, rfl⟩, by simpa only [PyData.shown] using q⟩
    | int i => cases rd; exact PySem.P.repr_of_int (by simpa [PyData.showable] using sh) ⟨.str _, H, I.tok _, ⟨_, rfl⟩, by simpa only [PyData.shown] using q⟩
    | str x => cases rd; exact PySem.P.repr_of_str ⟨.str _, H, I.tok _, ⟨_, rfl⟩, by simpa only [PyData.shown] using q⟩ (by simpa only [PyData.shown] using sz)
    | list xs => cases rd; exact deep _ rfl
    | tuple xs => cases rd; exact deep _ rfl
    | dict kvs => exact absurd cl (by simp [PyData.canLay0])
def reprF : FA := fa1 fun d h => onSome (py h 60 d) fun p => guard' (p.showable = true ∧ p.shown.length ≤ LIM) (.ok (.raw p.shown) h)
section
variable {Z : Kx}
theorem ck_repr (hg : Z.X.A.guards = some []) (hu : Z.X.A.units + 65 < cLine) : CallK Z (.builtin "repr") reprF := ⟨_, cr_repr hg hu, fun σ ι h H xs ds Q R rs p => by
  obtain ⟨d, rfl, p⟩ := p.fa1
  obtain ⟨x, rfl, r⟩ := wit rs
  obtain ⟨q, e, p⟩ := p.onSome
  obtain ⟨c, p⟩ := p.guard
  obtain ⟨c1, c2⟩ := py_ok e
  exact ⟨x, q, rfl, py_dp R e r, c1, c2, c.1, lim_le c.2, RPost.ok R p _ .raw⟩⟩
end
end Kf
end
section
set_option maxHeartbeats 4000000
/-! Kf: min and max of two numbers; a list's index. -/
namespace Kf
open PySem PySem.Spec L2 PyProof.Rows
def min2F : FA := fa2 fun d e h => asInt d fun i => asInt e fun j => .ok (.int (if j < i then j else i)) h
def max2F : FA := fa2 fun d e h => asInt d fun i => asInt e fun j => .ok (.int (if j > i then j else i)) h
section
variable {Z : Kx}
theorem fa2_ints {K : PySem.W.Frag} {ι : Nat → Addr} {n : Nat} {H : Hp} {xs : List V} {i j : Int} (rs : Reps K ι n H xs [.int i, .int j]) : xs = [.int i, .int j] := by
  cases rs with
  | cons r rs => cases r; cases rs with
    | cons r rs => cases r; cases rs; rfl
theorem ck_min2 (hc : Z.X.calm = true) : CallK Z (.builtin "min") min2F := ⟨_, call_min2 hc, fun σ ι h H xs ds Q R rs p => by
  obtain ⟨d, e, rfl, p⟩ := p.fa2
  obtain ⟨i, rfl, p⟩ := p.asInt
  obtain ⟨j, rfl, p⟩ := p.asInt
  exact ⟨i, j, fa2_ints rs, RPost.ok R p _ .int⟩⟩
theorem ck_max2 (hc : Z.X.calm = true) : CallK Z (.builtin "max") max2F := ⟨_, call_max2 hc, fun σ ι h H xs ds Q R rs p => by
  obtain ⟨d, e, rfl, p⟩ := p.fa2
  obtain ⟨i, rfl, p⟩ := p.asInt
  obtain ⟨j, rfl, p⟩ := p.asInt
  exact ⟨i, j, fa2_ints rs, RPost.ok R p _ .int⟩⟩
def idxP : List PyData → PyData → Option Nat
  | [], _ => none
  | z :: r, q => if PyData.eqv z q = true then some 0 else (idxP r q).map (· + 1)
theorem idxP_at : ∀ {ps : List PyData} {q : PyData} {j : Nat}, idxP ps q = some j → (∃ z, ps[j]? = some z ∧ PyData.eqv z q = true) ∧ ∀ (m : Nat) (z : PyData), m < j → ps[m]? = some z → PyData.eqv z q = false
  | [], _, _, e => by cases e
  | z :: r, q, j, e => by
    unfold idxP at e
    cases c : PyData.eqv z q with
    | true =>
      rw [c, if_pos rfl] at e
      cases e
      exact ⟨⟨z, rfl, c⟩, fun m z' hm => absurd hm (Nat.not_lt_zero _)⟩
    | false =>
      rw [c, if_neg Bool.false_ne_true] at e
      obtain ⟨k, e1, e2⟩ := Option.map_eq_some_iff.mp e
      subst e2
      obtain ⟨⟨w, e3, e4⟩, no⟩ := idxP_at e1
      refine ⟨⟨w, by simpa using e3, e4⟩, fun m z' hm hz => ?_⟩
      cases m with
      | zero => cases hz; exact c
      | succ m => exact no m z' (by omega) (by simpa using hz)
def sIndex (f g : SE) : SE := fun env h => (f env h).bind fun x h1 => asRef x fun m => onLst h1 m fun _ => (g env h1).bind fun d h2 => onSome (py h2 60 (.ref m)) fun p => onSome (itemsP p) fun ps => onSome (py h2 60 d) fun q => onSome (idxP ps q) fun j => .ok (.int (j : Nat)) h2
theorem ke_index (hu : Z.X.A.units + 65 < cLine) {o e : Expr} {f g : SE} {p pos : Pos} (ho : KE Z o f) (he : KE Z e g) (hbase : attributeBase o "index" Z.X.env (eval o Z.X.env) = eval o Z.X.env := by rfl)
    (hfew : ((backTo pos (starEach [e] Z.X.env)).all (fun x => !x.1) && (backToKw pos (keywordEach [] Z.X.env)).all (fun x => x.1.isSome) && decide ([e].length + ([] : List Keyword).length + (if ([] : List Keyword).isEmpty then 0 else 1) < 30)) = true := by rfl)
    (hline : (p.endLine == pos.line) = true := by rfl) (hs : starEach [e] Z.X.env = (false, eval e Z.X.env) :: starEach [] Z.X.env := by rfl) (hpl : (backTo pos (starEach [] Z.X.env)).any (·.1) = false := by rfl) :
    KE Z (.Call (.Attribute o "index" p) [e] [] pos) (sIndex f g) :=
  ⟨(pe_bm PySem.F.plainAttrs_list PySem.F.slot_list_index PySem.F.type_list_index (mt_indexD hu) ho.pe (pa_cons he.pe pa_nil hs) hbase hfew hline hs hpl).weak fun σ H Q ⟨ι, env, h, R, V, p⟩ => ⟨ι, env, h, R, V, (RPost.bind p).mono fun x h1 ι1 H1 S1 R1 p1 v r => by
    obtain ⟨m, e1, p2⟩ := p1.asRef
    obtain ⟨ds, e2, p3⟩ := p2.onLst
    subst e1
    cases r with
    | ref hlt =>
      obtain ⟨xs, e3, _, _⟩ := lst_at R1 e2
      refine ⟨.inl ⟨rfl, xs, .of e3⟩, ι1, env, h1, R1, V.step S1 R, (RPost.bind p3).mono fun d h2 ι2 H2 S2 R2 p4 w rw' => ?_⟩
      obtain ⟨p, ep, p5⟩ := p4.onSome
      obtain ⟨ps, eps, p6⟩ := p5.onSome
      obtain ⟨q, eq, p7⟩ := p6.onSome
      obtain ⟨j, ej, p8⟩ := p7.onSome
      obtain ⟨⟨z, ez1, ez2⟩, no⟩ := idxP_at ej
      have hp : p = .list ps := by
        unfold py at ep
        cases q1 : h2[m]? with
        | none => simp [q1] at ep
        | some o =>
          cases o <;> simp [q1] at ep
          obtain ⟨ys, _, rfl⟩ := ep
          cases eps; rfl
      subst hp
      obtain ⟨c1, c2⟩ := py_ok ep
      obtain ⟨c3, c4⟩ := py_ok eq
      have rr : Rep Z.X.K ι2 h2.length H2 (.ref (ι1 m)) (.ref m) := by
        rw [← S2.eq m hlt]; exact .ref (Nat.lt_of_lt_of_le hlt S2.len)
      refine ⟨ι1 m, w, q, ps, j, z, rfl, by first | rfl | simp, py_dp R2 ep rr, py_dp R2 eq rw', ?_, ?_, ez1, ez2, no, RPost.ok R2 p8 _ .int⟩
      · unfold SeqAt.shaped; rw [c1, decide_eq_true (by omega)]; rfl
      · unfold SeqAt.shaped; rw [c3, decide_eq_true (by omega)]; rfl⟩⟩
end
end Kf
end
set_option maxHeartbeats 8000000
noncomputable section
namespace Kq
open PySem PySem.Spec L2 Kf
def topS (i : Nat) : Stmt := PySem.Challenge.pw_keptfiles_k01_settings.main.body.getD i (.Pass ⟨0, 0, 0, 0⟩)
/-! ### _law_pen -/
abbrev st_law_pen : Stmt := topS 10
theorem sc_law_pen : FnScope ["_law_script", "_law_fold", "_law_cell"] ["_law_script"] (defScope st_law_pen) := ⟨rfl, rfl, rfl, by decide +kernel, rfl, by decide +kernel, by decide +kernel⟩
def s_law_pen : SS :=
    (sSeq (sAsg (sC (.int 0)) (gN 1))
    (sSeq (sFor (sVal (sVar 0)) (gN 2) (sAsg (s2 modF (sCall intF (sCons (s2 addA (s2 mulB (sVar 1) (sC (.int 41))) (sVar 2)) sNil)) (sC (.int 1000000007))) (gN 1)))
    (sRet (sDict [((sC (.str "cells")), (sNew (sCallL listF (sCons (sVar 0) sNil)))), ((sC (.str "at")), (sC (.int 0))), ((sC (.str "digits")), (sC (.int 0))), ((sC (.str "count")), (sC (.int 0))), ((sC (.str "fold")), (sVar 1))]))))
def M_law_pen : FA := defM 3 s_law_pen
theorem ok_law_pen {G : Gx} {f : Addr} {fd : FuncData} (F : Fun G.K "_law_pen" "_law_pen" st_law_pen f fd) (b_int : G.mg "int" = none) (b_list : G.mg "list" = none) :
    FnG G.P G.w G.K G.mg G.base (L2.CX G.P G.w) 1 f fd ["_law_script"] (spOf G.K G.cA 1 M_law_pen) := fn_of' (k := 0) F sc_law_pen fun cdv A outer s H E i =>
    (kss_cons (ks_asg ke_int (gn 1 sc_law_pen.nd))
    (kss_cons (ks_for i.ow i.cm (ki_val (kv 0)) (gn 2 sc_law_pen.nd) (kss_one (ks_asg (ke_op ko_mod (ke_callTy ck_int (by rfl) b_int (by decide +kernel) (ka_cons (ke_op ko_plusA (ke_op ko_timesB (kv 1) ke_int) (kv 2)) ka_nil)) ke_int) (gn 1 sc_law_pen.nd))))
    (kss_one (ks_ret (ke_dict (kps_cons ke_str (ke_new (kl_callTy ck_list (by rfl) b_list (by decide +kernel) (ka_cons (kv 0) ka_nil))) (kps_cons ke_str ke_int (kps_cons ke_str ke_int (kps_cons ke_str ke_int (kps_cons ke_str (kv 1) kps_nil))))))))))
/-! ### _law_is_whole -/
abbrev st_law_is_whole : Stmt := topS 13
theorem sc_law_is_whole : FnScope ["_law_value"] ["_law_value"] (defScope st_law_is_whole) := ⟨rfl, rfl, rfl, by decide +kernel, rfl, by decide +kernel, by decide +kernel⟩
def s_law_is_whole : SS :=
    (sRet (sAndV (sIsi "int" (sVar 0)) (sNotV (sIsi "bool" (sVar 0)))))
def M_law_is_whole : FA := defM 1 s_law_is_whole
theorem ok_law_is_whole {G : Gx} {f : Addr} {fd : FuncData} (F : Fun G.K "_law_is_whole" "_law_is_whole" st_law_is_whole f fd) (b_bool : G.mg "bool" = none) (b_int : G.mg "int" = none) (b_isinstance : G.mg "isinstance" = none) :
    FnG G.P G.w G.K G.mg G.base (L2.CX G.P G.w) 1 f fd ["_law_value"] (spOf G.K G.cA 1 M_law_is_whole) := fn_of' (k := 0) F sc_law_is_whole fun cdv A outer s H E i =>
    (kss_one (ks_ret (ke_and (ke_isi (by rfl) b_isinstance (kv 0) (by rfl) b_int (by decide +kernel)) (ke_one (ke_not (ke_isi (by rfl) b_isinstance (kv 0) (by rfl) b_bool (by decide +kernel)))))))
/-! ### _law_wrong -/
abbrev st_law_wrong : Stmt := topS 15
theorem sc_law_wrong : FnScope ["_law_row", "_law_servers", "_law_shelves", "_law_k", "_law_e", "_law_f", "_law_prime", "_law_size", "_law_width", "_law_divisor"] ["_law_row"] (defScope st_law_wrong) := ⟨rfl, rfl, rfl, by decide +kernel, rfl, by decide +kernel, by decide +kernel⟩
def s_law_wrong : SS :=
    (sSeq (sAsg (sVar 0) (gTp 8 (gCons' (gN 1) (gCons' (gN 2) (gCons' (gN 3) (gCons' (gN 4) (gCons' (gN 5) (gCons' (gN 6) (gCons' (gN 7) (gCons' (gN 8) gNil'))))))))))
    (sSeq (sIf (sOr (sNot (sTest (sFn 1 M_law_is_whole [] (sCons (sVar 1) sNil)))) (sTest (s2 (memF true) (sVar 1) (sNew (sLst (sCons (sC (.int 1)) (sCons (sC (.int 3)) (sCons (sC (.int 5)) (sCons (sC (.int 7)) sNil)))))))))
    (sRet (sC (.str "servers")))
    sNext)
    (sSeq (sIf (sOr (sNot (sTest (sFn 1 M_law_is_whole [] (sCons (sVar 2) sNil)))) (sOr (sTest (s2 ltF (sVar 2) (sC (.int 1)))) (sTest (s2 gtF (sVar 2) (sC (.int 8))))))
    (sRet (sC (.str "shelves")))
    sNext)
    (sSeq (sIf (sOr (sNot (sTest (sFn 1 M_law_is_whole [] (sCons (sVar 3) sNil)))) (sOr (sTest (s2 ltF (sVar 3) (sC (.int 1)))) (sTest (s2 gtF (sVar 3) (sC (.int 4))))))
    (sRet (sC (.str "k")))
    sNext)
    (sSeq (sIf (sOr (sNot (sTest (sFn 1 M_law_is_whole [] (sCons (sVar 4) sNil)))) (sOr (sTest (s2 ltF (sVar 4) (sC (.int 0)))) (sTest (s2 gtF (sVar 4) (sC (.int 2))))))
    (sRet (sC (.str "e")))
    sNext)
    (sSeq (sIf (sOr (sNot (sTest (sFn 1 M_law_is_whole [] (sCons (sVar 5) sNil)))) (sOr (sTest (s2 ltF (sVar 5) (sC (.int 0)))) (sOr (sTest (s2 gtF (sVar 5) (sC (.int 3)))) (sTest (s2 gtF (s2 addA (s2 addA (sVar 3) (s2 mulB (sC (.int 2)) (sVar 4))) (sVar 5)) (sVar 2))))))
    (sRet (sC (.str "f")))
    sNext)
    (sSeq (sIf (sOr (sNot (sTest (sFn 1 M_law_is_whole [] (sCons (sVar 6) sNil)))) (sOr (sTest (s2 leF (sVar 6) (sVar 2))) (sTest (s2 gtF (sVar 6) (s2 powF (sC (.int 10)) (sC (.int 6)))))))
    (sRet (sC (.str "prime")))
    sNext)
    (sSeq (sIf (sTest (s2 neF (sNew (sLc (sRange2 (sC (.int 2)) (sC (.int 1001))) (gN 9) (sAnd (sTest (s2 ltF (sVar 9) (sVar 6))) (sTest (s2 eqF (s2 modF (sCall intF (sCons (sVar 6) sNil)) (sVar 9)) (sC (.int 0))))) (sVar 9) [9])) (sNew (sLst sNil))))
    (sRet (sC (.str "prime")))
    sNext)
    (sSeq (sIf (sOr (sNot (sTest (sFn 1 M_law_is_whole [] (sCons (sVar 7) sNil)))) (sOr (sTest (s2 ltF (sVar 7) (sC (.int 9)))) (sTest (s2 gtF (sVar 7) (sC (.int 4000))))))
    (sRet (sC (.str "size")))
    sNext)
    (sRet (sIfE (sOr (sNot (sTest (sFn 1 M_law_is_whole [] (sCons (sVar 8) sNil)))) (sOr (sTest (s2 ltF (sVar 8) (sC (.int 1)))) (sTest (s2 gtF (sVar 8) (sC (.int 16)))))) (sC (.str "width")) (sC .non))))))))))))
def M_law_wrong : FA := defM 10 s_law_wrong
theorem ok_law_wrong {G : Gx} {f : Addr} {fd : FuncData} (F : Fun G.K "_law_wrong" "_law_wrong" st_law_wrong f fd) (b_int : G.mg "int" = none) (b_range : G.mg "range" = none) (c_law_is_whole_0 : CF G "_law_is_whole" 1 1 M_law_is_whole []) :
    FnG G.P G.w G.K G.mg G.base (L2.CX G.P G.w) 2 f fd ["_law_row"] (spOf G.K G.cA 1 M_law_wrong) := fn_of' (k := 1) F sc_law_wrong fun cdv A outer s H E i =>
    (kss_cons (ks_asg (kv 0) (kg_tup i.cm (kgs_cons (gn 1 sc_law_wrong.nd) (kgs_cons (gn 2 sc_law_wrong.nd) (kgs_cons (gn 3 sc_law_wrong.nd) (kgs_cons (gn 4 sc_law_wrong.nd) (kgs_cons (gn 5 sc_law_wrong.nd) (kgs_cons (gn 6 sc_law_wrong.nd) (kgs_cons (gn 7 sc_law_wrong.nd) (kgs_cons (gn 8 sc_law_wrong.nd) kgs_nil))))))))))
    (kss_cons (ks_if (kb_w (kw_or (kb_not (kb_val (kc (i := i) c_law_is_whole_0 (by decide) (by rfl) (ka_cons (kv 1) ka_nil)))) (kw_or1 (kb_cmp (ko_notmem i.hu) (kv 1) (ke_new (kl_lst (ka_cons ke_int (ka_cons ke_int (ka_cons ke_int (ka_cons ke_int ka_nil)))))))))) (kss_one (ks_ret ke_str)) kss_nil)
    (kss_cons (ks_if (kb_w (kw_or (kb_not (kb_val (kc (i := i) c_law_is_whole_0 (by decide) (by rfl) (ka_cons (kv 2) ka_nil)))) (kw_or (kb_cmp (ko_ltD i.hu64) (kv 2) ke_int) (kw_or1 (kb_cmp (ko_gtD i.hu64) (kv 2) ke_int))))) (kss_one (ks_ret ke_str)) kss_nil)
    (kss_cons (ks_if (kb_w (kw_or (kb_not (kb_val (kc (i := i) c_law_is_whole_0 (by decide) (by rfl) (ka_cons (kv 3) ka_nil)))) (kw_or (kb_cmp (ko_ltD i.hu64) (kv 3) ke_int) (kw_or1 (kb_cmp (ko_gtD i.hu64) (kv 3) ke_int))))) (kss_one (ks_ret ke_str)) kss_nil)
    (kss_cons (ks_if (kb_w (kw_or (kb_not (kb_val (kc (i := i) c_law_is_whole_0 (by decide) (by rfl) (ka_cons (kv 4) ka_nil)))) (kw_or (kb_cmp (ko_ltD i.hu64) (kv 4) ke_int) (kw_or1 (kb_cmp (ko_gtD i.hu64) (kv 4) ke_int))))) (kss_one (ks_ret ke_str)) kss_nil)
    (kss_cons (ks_if (kb_w (kw_or (kb_not (kb_val (kc (i := i) c_law_is_whole_0 (by decide) (by rfl) (ka_cons (kv 5) ka_nil)))) (kw_or (kb_cmp (ko_ltD i.hu64) (kv 5) ke_int) (kw_or (kb_cmp (ko_gtD i.hu64) (kv 5) ke_int) (kw_or1 (kb_cmp (ko_gtD i.hu64) (ke_op ko_plusA (ke_op ko_plusA (kv 3) (ke_op ko_timesB ke_int (kv 4))) (kv 5)) (kv 2))))))) (kss_one (ks_ret ke_str)) kss_nil)
    (kss_cons (ks_if (kb_w (kw_or (kb_not (kb_val (kc (i := i) c_law_is_whole_0 (by decide) (by rfl) (ka_cons (kv 6) ka_nil)))) (kw_or (kb_cmp (ko_leD i.hu64) (kv 6) (kv 2)) (kw_or1 (kb_cmp (ko_gtD i.hu64) (kv 6) (ke_op ko_pow ke_int ke_int)))))) (kss_one (ks_ret ke_str)) kss_nil)
    (kss_cons (ks_if (kb_cmp (ko_ne i.hu64) (ke_new (kl_lc i.cm sc_law_wrong.nd (ki_range2 (by rfl) b_range ke_int ke_int) (blkOk_by (own := [("_law_divisor", 9)]) (N := ["_law_row", "_law_servers", "_law_shelves", "_law_k", "_law_e", "_law_f", "_law_prime", "_law_size", "_law_width", "_law_divisor"]) (sc := defScope st_law_wrong) (by decide +kernel)) (fun s H C cl fp => (gw 9 sc_law_wrong.nd)) (fun s H C cl fp => (kt_one (kb_w (kw_and (kb_cmp (ko_ltD (i.blk s H _ C cl fp).hu64) (kv 9) (kv 6)) (kw_and1 (kb_cmp (ko_eq (i.blk s H _ C cl fp).hu64) (ke_op ko_mod (ke_callTy ck_int (by rfl) b_int (by decide +kernel) (ka_cons (kv 6) ka_nil)) (kv 9)) ke_int)))))) (fun s H C cl fp => (kv 9)))) (ke_new (kl_lst ka_nil))) (kss_one (ks_ret ke_str)) kss_nil)
    (kss_cons (ks_if (kb_w (kw_or (kb_not (kb_val (kc (i := i) c_law_is_whole_0 (by decide) (by rfl) (ka_cons (kv 7) ka_nil)))) (kw_or (kb_cmp (ko_ltD i.hu64) (kv 7) ke_int) (kw_or1 (kb_cmp (ko_gtD i.hu64) (kv 7) ke_int))))) (kss_one (ks_ret ke_str)) kss_nil)
    (kss_one (ks_ret (ke_ife (kb_w (kw_or (kb_not (kb_val (kc (i := i) c_law_is_whole_0 (by decide) (by rfl) (ka_cons (kv 8) ka_nil)))) (kw_or (kb_cmp (ko_ltD i.hu64) (kv 8) ke_int) (kw_or1 (kb_cmp (ko_gtD i.hu64) (kv 8) ke_int))))) ke_str ke_non))))))))))))
/-! ### _law_draw -/
abbrev st_law_draw : Stmt := topS 11
theorem sc_law_draw : FnScope ["_law_pen_here", "_law_many", "_law_cell", "_law_digit", "_law_blend"] ["_law_pen_here", "_law_many"] (defScope st_law_draw) := ⟨rfl, rfl, rfl, by decide +kernel, rfl, by decide +kernel, by decide +kernel⟩
def s_law_draw : SS :=
    (sSeq (sAsg (s2 addA (s2 getF (sVar 0) (sC (.str "count"))) (sC (.int 1))) (gSub' (sVar 0) (sC (.str "count")) setF))
    (sSeq (sIf (sAnd (sTest (s2 eqF (s2 getF (sVar 0) (sC (.str "digits"))) (sC (.int 0)))) (sTest (s2 ltF (s2 getF (sVar 0) (sC (.str "at"))) (sCall lenA (sCons (s2 getF (sVar 0) (sC (.str "cells"))) sNil)))))
    (sSeq (sAsg (s2 getF (s2 getF (sVar 0) (sC (.str "cells"))) (s2 getF (sVar 0) (sC (.str "at")))) (gN 2))
    (sSeq (sAsg (s2 addA (s2 getF (sVar 0) (sC (.str "at"))) (sC (.int 1))) (gSub' (sVar 0) (sC (.str "at")) setF))
    (sIf (sTest (s2 geF (sVar 2) (s2 powF (sC (.int 10)) (sC (.int 18)))))
    (sAsg (s2 (f2I yes2 fun i j => .int (i - j)) (sVar 2) (s2 powF (sC (.int 10)) (sC (.int 18)))) (gSub' (sVar 0) (sC (.str "digits")) setF))
    (sAsg (s2 modF (sCall intF (sCons (s2 addA (s2 mulB (s2 getF (sVar 0) (sC (.str "fold"))) (sC (.int 69069))) (sVar 2)) sNil)) (sC (.int 2147483587))) (gSub' (sVar 0) (sC (.str "fold")) setF)))))
    sNext)
    (sSeq (sIf (sTest (s2 gtF (s2 getF (sVar 0) (sC (.str "digits"))) (sC (.int 0))))
    (sSeq (sAsg (s2 modF (sCall intF (sCons (s2 getF (sVar 0) (sC (.str "digits"))) sNil)) (sVar 1)) (gN 3))
    (sSeq (sAsg (s2 fdivF (s2 getF (sVar 0) (sC (.str "digits"))) (sVar 1)) (gSub' (sVar 0) (sC (.str "digits")) setF))
    (sRet (sVar 3))))
    sNext)
    (sSeq (sAsg (s2 addA (s2 addA (s2 getF (sVar 0) (sC (.str "fold"))) (s2 mulB (s2 getF (sVar 0) (sC (.str "count"))) (sC (.int 7907)))) (sC (.int 37))) (gN 4))
    (sRet (s2 modF (s2 fdivF (sCall intF (sCons (s2 modF (s2 powF (sVar 4) (sC (.int 17))) (sC (.int 2305843009213693951))) sNil)) (sC (.int 128))) (sVar 1)))))))
def M_law_draw : FA := defM 5 s_law_draw
theorem ok_law_draw {G : Gx} {f : Addr} {fd : FuncData} (F : Fun G.K "_law_draw" "_law_draw" st_law_draw f fd) (b_int : G.mg "int" = none) (b_len : G.mg "len" = none) :
    FnG G.P G.w G.K G.mg G.base (L2.CX G.P G.w) 1 f fd ["_law_pen_here", "_law_many"] (spOf G.K G.cA 2 M_law_draw) := fn_of' (k := 0) F sc_law_draw fun cdv A outer s H E i =>
    (kss_cons (ks_asg (ke_op ko_plusA (ke_ix (ik_get i.hu1) (kv 0) ke_str) ke_int) (kg_sub (st_set i.hu1) (kv 0) ke_str))
    (kss_cons (ks_if (kb_w (kw_and (kb_cmp (ko_eq i.hu64) (ke_ix (ik_get i.hu1) (kv 0) ke_str) ke_int) (kw_and1 (kb_cmp (ko_ltD i.hu64) (ke_ix (ik_get i.hu1) (kv 0) ke_str) (ke_callB ck_lenA (by rfl) b_len (by decide +kernel) (ka_cons (ke_ix (ik_get i.hu1) (kv 0) ke_str) ka_nil)))))) (kss_cons (ks_asg (ke_ix (ik_get i.hu1) (ke_ix (ik_get i.hu1) (kv 0) ke_str) (ke_ix (ik_get i.hu1) (kv 0) ke_str)) (gn 2 sc_law_draw.nd))
    (kss_cons (ks_asg (ke_op ko_plusA (ke_ix (ik_get i.hu1) (kv 0) ke_str) ke_int) (kg_sub (st_set i.hu1) (kv 0) ke_str))
    (kss_one (ks_if (kb_cmp (ko_geD i.hu64) (kv 2) (ke_op ko_pow ke_int ke_int)) (kss_one (ks_asg (ke_op ko_sub (kv 2) (ke_op ko_pow ke_int ke_int)) (kg_sub (st_set i.hu1) (kv 0) ke_str))) (kss_one (ks_asg (ke_op ko_mod (ke_callTy ck_int (by rfl) b_int (by decide +kernel) (ka_cons (ke_op ko_plusA (ke_op ko_timesB (ke_ix (ik_get i.hu1) (kv 0) ke_str) ke_int) (kv 2)) ka_nil)) ke_int) (kg_sub (st_set i.hu1) (kv 0) ke_str))))))) kss_nil)
    (kss_cons (ks_if (kb_cmp (ko_gtD i.hu64) (ke_ix (ik_get i.hu1) (kv 0) ke_str) ke_int) (kss_cons (ks_asg (ke_op ko_mod (ke_callTy ck_int (by rfl) b_int (by decide +kernel) (ka_cons (ke_ix (ik_get i.hu1) (kv 0) ke_str) ka_nil)) (kv 1)) (gn 3 sc_law_draw.nd))
    (kss_cons (ks_asg (ke_op ko_fdiv (ke_ix (ik_get i.hu1) (kv 0) ke_str) (kv 1)) (kg_sub (st_set i.hu1) (kv 0) ke_str))
    (kss_one (ks_ret (kv 3))))) kss_nil)
    (kss_cons (ks_asg (ke_op ko_plusA (ke_op ko_plusA (ke_ix (ik_get i.hu1) (kv 0) ke_str) (ke_op ko_timesB (ke_ix (ik_get i.hu1) (kv 0) ke_str) ke_int)) ke_int) (gn 4 sc_law_draw.nd))
    (kss_one (ks_ret (ke_op ko_mod (ke_op ko_fdiv (ke_callTy ck_int (by rfl) b_int (by decide +kernel) (ka_cons (ke_op ko_mod (ke_op ko_pow (kv 4) ke_int) ke_int) ka_nil)) ke_int) (kv 1))))))))
/-! ### _law_pick -/
abbrev st_law_pick : Stmt := topS 12
theorem sc_law_pick : FnScope ["_law_pen_here", "_law_some"] ["_law_pen_here", "_law_some"] (defScope st_law_pick) := ⟨rfl, rfl, rfl, by decide +kernel, rfl, by decide +kernel, by decide +kernel⟩
def s_law_pick : SS :=
    (sRet (s2 getF (sVar 1) (sFn 2 M_law_draw [] (sCons (sVar 0) (sCons (sCall lenA (sCons (sVar 1) sNil)) sNil)))))
def M_law_pick : FA := defM 2 s_law_pick
theorem ok_law_pick {G : Gx} {f : Addr} {fd : FuncData} (F : Fun G.K "_law_pick" "_law_pick" st_law_pick f fd) (b_len : G.mg "len" = none) (c_law_draw_0 : CF G "_law_draw" 1 2 M_law_draw []) :
    FnG G.P G.w G.K G.mg G.base (L2.CX G.P G.w) 2 f fd ["_law_pen_here", "_law_some"] (spOf G.K G.cA 2 M_law_pick) := fn_of' (k := 1) F sc_law_pick fun cdv A outer s H E i =>
    (kss_one (ks_ret (ke_ix (ik_get i.hu1) (kv 1) (kc (i := i) c_law_draw_0 (by decide) (by rfl) (ka_cons (kv 0) (ka_cons (ke_callB ck_lenA (by rfl) b_len (by decide +kernel) (ka_cons (kv 1) ka_nil)) ka_nil))))))
/-! ### _law_odd_one -/
abbrev st_law_odd_one : Stmt := topS 16
theorem sc_law_odd_one : FnScope ["_law_pen_here", "_law_way", "_law_number", "_law_lap", "_law_rest", "_law_power", "_law_left", "_law_divisor"] ["_law_pen_here"] (defScope st_law_odd_one) := ⟨rfl, rfl, rfl, by decide +kernel, rfl, by decide +kernel, by decide +kernel⟩
def s_law_odd_one : SS :=
    (sSeq (sAsg (sFn 2 M_law_draw [] (sCons (sVar 0) (sCons (sC (.int 3)) sNil))) (gN 1))
    (sSeq (sIf (sTest (s2 eqF (sVar 1) (sC (.int 0))))
    (sRet (s2 addA (sC (.int 1)) (sFn 2 M_law_draw [] (sCons (sVar 0) (sCons (s2 powF (sC (.int 10)) (sC (.int 6))) sNil)))))
    sNext)
    (sSeq (sIf (sTest (s2 eqF (sVar 1) (sC (.int 1))))
    (sRet (s2 mulB (s2 addA (sC (.int 2)) (sFn 2 M_law_draw [] (sCons (sVar 0) (sCons (sC (.int 998)) sNil)))) (s2 addA (sC (.int 2)) (sFn 2 M_law_draw [] (sCons (sVar 0) (sCons (sC (.int 998)) sNil))))))
    sNext)
    (sSeq (sAsg (s2 addA (sC (.int 9)) (s2 mulB (sC (.int 2)) (sFn 2 M_law_draw [] (sCons (sVar 0) (sCons (sC (.int 1000)) sNil))))) (gN 2))
    (sSeq (sFor (sRange1 (sC (.int 1500))) (gN 3) (sSeq (sPar [4, 5, 6] (sCons (sC (.int 1)) (sCons (sC (.int 2)) (sCons (s2 (f2I yes2 fun i j => .int (i - j)) (sVar 2) (sC (.int 1))) sNil))))
    (sSeq (sWhile 64 (sTest (s2 gtF (sVar 6) (sC (.int 0)))) (sSeq (sIf (sTest (s2 eqF (s2 modF (sCall intF (sCons (sVar 6) sNil)) (sC (.int 2))) (sC (.int 1))))
    (sAsg (s2 modF (s2 mulB (sVar 4) (sVar 5)) (sVar 2)) (gN 4))
    sNext)
    (sPar [5, 6] (sCons (s2 modF (s2 mulB (sVar 5) (sVar 5)) (sVar 2)) (sCons (s2 fdivF (sVar 6) (sC (.int 2))) sNil)))))
    (sSeq (sIf (sAnd (sTest (s2 eqF (sVar 4) (sC (.int 1)))) (sTest (s2 neF (sNew (sLc (sRange2 (sC (.int 3)) (sC (.int 72))) (gN 7) (sAnd (sTest (s2 eqF (s2 modF (sCall intF (sCons (sVar 2) sNil)) (sVar 7)) (sC (.int 0)))) (sTest (s2 ltF (sVar 7) (sVar 2)))) (sVar 7) [7])) (sNew (sLst sNil)))))
    (sRet (sVar 2))
    sNext)
    (sAsg (s2 addA (sVar 2) (sC (.int 2))) (gN 2))))))
    (sRet (sVar 2)))))))
def M_law_odd_one : FA := defM 8 s_law_odd_one
theorem ok_law_odd_one {G : Gx} {f : Addr} {fd : FuncData} (F : Fun G.K "_law_odd_one" "_law_odd_one" st_law_odd_one f fd) (b_int : G.mg "int" = none) (b_range : G.mg "range" = none) (c_law_draw_0 : CF G "_law_draw" 1 2 M_law_draw []) :
    FnG G.P G.w G.K G.mg G.base (L2.CX G.P G.w) 2 f fd ["_law_pen_here"] (spOf G.K G.cA 1 M_law_odd_one) := fn_of' (k := 1) F sc_law_odd_one fun cdv A outer s H E i =>
    (kss_cons (ks_asg (kc (i := i) c_law_draw_0 (by decide) (by rfl) (ka_cons (kv 0) (ka_cons ke_int ka_nil))) (gn 1 sc_law_odd_one.nd))
    (kss_cons (ks_if (kb_cmp (ko_eq i.hu64) (kv 1) ke_int) (kss_one (ks_ret (ke_op ko_plusA ke_int (kc (i := i) c_law_draw_0 (by decide) (by rfl) (ka_cons (kv 0) (ka_cons (ke_op ko_pow ke_int ke_int) ka_nil)))))) kss_nil)
    (kss_cons (ks_if (kb_cmp (ko_eq i.hu64) (kv 1) ke_int) (kss_one (ks_ret (ke_op ko_timesB (ke_op ko_plusA ke_int (kc (i := i) c_law_draw_0 (by decide) (by rfl) (ka_cons (kv 0) (ka_cons ke_int ka_nil)))) (ke_op ko_plusA ke_int (kc (i := i) c_law_draw_0 (by decide) (by rfl) (ka_cons (kv 0) (ka_cons ke_int ka_nil))))))) kss_nil)
    (kss_cons (ks_asg (ke_op ko_plusA ke_int (ke_op ko_timesB ke_int (kc (i := i) c_law_draw_0 (by decide) (by rfl) (ka_cons (kv 0) (ka_cons ke_int ka_nil))))) (gn 2 sc_law_odd_one.nd))
    (kss_cons (ks_for i.ow i.cm (ki_range1 (by rfl) b_range ke_int) (gn 3 sc_law_odd_one.nd) (kss_cons (ks_par3 (i := 4) (j := 5) (l := 6) i.cm sc_law_odd_one.nd (ka_cons ke_int (ka_cons ke_int (ka_cons (ke_op ko_sub (kv 2) ke_int) ka_nil))))
    (kss_cons (ks_while 64 i.ow (kb_cmp (ko_gtD i.hu64) (kv 6) ke_int) (kss_cons (ks_if (kb_cmp (ko_eq i.hu64) (ke_op ko_mod (ke_callTy ck_int (by rfl) b_int (by decide +kernel) (ka_cons (kv 6) ka_nil)) ke_int) ke_int) (kss_one (ks_asg (ke_op ko_mod (ke_op ko_timesB (kv 4) (kv 5)) (kv 2)) (gn 4 sc_law_odd_one.nd))) kss_nil)
    (kss_one (ks_par2 (i := 5) (j := 6) i.cm sc_law_odd_one.nd (ka_cons (ke_op ko_mod (ke_op ko_timesB (kv 5) (kv 5)) (kv 2)) (ka_cons (ke_op ko_fdiv (kv 6) ke_int) ka_nil))))))
    (kss_cons (ks_if (kb_w (kw_and (kb_cmp (ko_eq i.hu64) (kv 4) ke_int) (kw_and1 (kb_cmp (ko_ne i.hu64) (ke_new (kl_lc i.cm sc_law_odd_one.nd (ki_range2 (by rfl) b_range ke_int ke_int) (blkOk_by (own := [("_law_divisor", 7)]) (N := ["_law_pen_here", "_law_way", "_law_number", "_law_lap", "_law_rest", "_law_power", "_law_left", "_law_divisor"]) (sc := defScope st_law_odd_one) (by decide +kernel)) (fun s H C cl fp => (gw 7 sc_law_odd_one.nd)) (fun s H C cl fp => (kt_one (kb_w (kw_and (kb_cmp (ko_eq (i.blk s H _ C cl fp).hu64) (ke_op ko_mod (ke_callTy ck_int (by rfl) b_int (by decide +kernel) (ka_cons (kv 2) ka_nil)) (kv 7)) ke_int) (kw_and1 (kb_cmp (ko_ltD (i.blk s H _ C cl fp).hu64) (kv 7) (kv 2))))))) (fun s H C cl fp => (kv 7)))) (ke_new (kl_lst ka_nil)))))) (kss_one (ks_ret (kv 2))) kss_nil)
    (kss_one (ks_asg (ke_op ko_plusA (kv 2) ke_int) (gn 2 sc_law_odd_one.nd)))))))
    (kss_one (ks_ret (kv 2))))))))
/-! ### is_whole -/
abbrev st_is_whole : Stmt := topS 3
theorem sc_is_whole : FnScope ["value"] ["value"] (defScope st_is_whole) := ⟨rfl, rfl, rfl, by decide +kernel, rfl, by decide +kernel, by decide +kernel⟩
def s_is_whole : SS :=
    (sRet (sAndV (sIsi "int" (sVar 0)) (sNotV (sIsi "bool" (sVar 0)))))
def M_is_whole : FA := defM 1 s_is_whole
theorem ok_is_whole {G : Gx} {f : Addr} {fd : FuncData} (F : Fun G.K "is_whole" "is_whole" st_is_whole f fd) (b_bool : G.mg "bool" = none) (b_int : G.mg "int" = none) (b_isinstance : G.mg "isinstance" = none) :
    FnG G.P G.w G.K G.mg G.base (L2.CX G.P G.w) 1 f fd ["value"] (spOf G.K G.cA 1 M_is_whole) := fn_of' (k := 0) F sc_is_whole fun cdv A outer s H E i =>
    (kss_one (ks_ret (ke_and (ke_isi (by rfl) b_isinstance (kv 0) (by rfl) b_int (by decide +kernel)) (ke_one (ke_not (ke_isi (by rfl) b_isinstance (kv 0) (by rfl) b_bool (by decide +kernel)))))))
/-! ### is_between -/
abbrev st_is_between : Stmt := topS 4
theorem sc_is_between : FnScope ["value", "low", "high"] ["value", "low", "high"] (defScope st_is_between) := ⟨rfl, rfl, rfl, by decide +kernel, rfl, by decide +kernel, by decide +kernel⟩
def s_is_between : SS :=
    (sRet (sAndV (sFn 1 M_is_whole [] (sCons (sVar 0) sNil)) (sChain leF leF (sVar 1) (sVar 0) (sVar 2))))
def M_is_between : FA := defM 3 s_is_between
theorem ok_is_between {G : Gx} {f : Addr} {fd : FuncData} (F : Fun G.K "is_between" "is_between" st_is_between f fd) (c_is_whole_0 : CF G "is_whole" 1 1 M_is_whole []) :
    FnG G.P G.w G.K G.mg G.base (L2.CX G.P G.w) 2 f fd ["value", "low", "high"] (spOf G.K G.cA 3 M_is_between) := fn_of' (k := 1) F sc_is_between fun cdv A outer s H E i =>
    (kss_one (ks_ret (ke_and (kc (i := i) c_is_whole_0 (by decide) (by rfl) (ka_cons (kv 0) ka_nil)) (ke_one (ke_chain (ko_leD i.hu64) (ko_leD i.hu64) (kv 1) (kv 0) (kv 2))))))
/-! ### is_prime -/
abbrev st_is_prime : Stmt := topS 5
theorem sc_is_prime : FnScope ["number", "divisor"] ["number"] (defScope st_is_prime) := ⟨rfl, rfl, rfl, by decide +kernel, rfl, by decide +kernel, by decide +kernel⟩
def s_is_prime : SS :=
    (sSeq (sAsg (sC (.int 2)) (gN 1))
    (sSeq (sWhile 1100 (sTest (s2 leF (s2 mulB (sVar 1) (sVar 1)) (sVar 0))) (sSeq (sIf (sTest (s2 eqF (s2 modF (sVar 0) (sVar 1)) (sC (.int 0))))
    (sRet (sC (.bl false)))
    sNext)
    (sAug 1 (f2I yes2 fun i j => .int (i + j)) (sC (.int 1)))))
    (sRet (sC (.bl true)))))
def M_is_prime : FA := defM 2 s_is_prime
theorem ok_is_prime {G : Gx} {f : Addr} {fd : FuncData} (F : Fun G.K "is_prime" "is_prime" st_is_prime f fd)  :
    FnG G.P G.w G.K G.mg G.base (L2.CX G.P G.w) 1 f fd ["number"] (spOf G.K G.cA 1 M_is_prime) := fn_of' (k := 0) F sc_is_prime fun cdv A outer s H E i =>
    (kss_cons (ks_asg ke_int (gn 1 sc_is_prime.nd))
    (kss_cons (ks_while 1100 i.ow (kb_cmp (ko_leD i.hu64) (ke_op ko_timesB (kv 1) (kv 1)) (kv 0)) (kss_cons (ks_if (kb_cmp (ko_eq i.hu64) (ke_op ko_mod (kv 0) (kv 1)) ke_int) (kss_one (ks_ret ke_bl)) kss_nil)
    (kss_one (ks_augI (i := 1) sc_is_prime.nd ke_int))))
    (kss_one (ks_ret ke_bl))))
/-! ### Settings.__init__ -/
abbrev st_Settings_init : Stmt := inClass (topS 6) 0
theorem sc_Settings_init : FnScope ["self", "servers", "shelves", "k", "e", "f", "prime", "size", "width"] ["self", "servers", "shelves", "k", "e", "f", "prime", "size", "width"] (defScope st_Settings_init) := ⟨rfl, rfl, rfl, by decide +kernel, rfl, by decide +kernel, by decide +kernel⟩
def s_Settings_init : SS :=
    (sSeq (sIf (sOr (sTest (s2 (memF true) (sVar 1) (sTup (sCons (sC (.int 1)) (sCons (sC (.int 3)) (sCons (sC (.int 5)) (sCons (sC (.int 7)) sNil))))))) (sNot (sTest (sFn 1 M_is_whole [] (sCons (sVar 1) sNil)))))
    (sRaise "BadNumber" ["what", "number"] (sCons (sC (.str "servers")) (sCons (sVar 1) sNil)))
    sNext)
    (sSeq (sIf (sNot (sTest (sFn 3 M_is_between [] (sCons (sVar 2) (sCons (sC (.int 1)) (sCons (sC (.int 8)) sNil))))))
    (sRaise "BadNumber" ["what", "number"] (sCons (sC (.str "shelves")) (sCons (sVar 2) sNil)))
    sNext)
    (sSeq (sIf (sNot (sTest (sFn 3 M_is_between [] (sCons (sVar 3) (sCons (sC (.int 1)) (sCons (sC (.int 4)) sNil))))))
    (sRaise "BadNumber" ["what", "number"] (sCons (sC (.str "k")) (sCons (sVar 3) sNil)))
    sNext)
    (sSeq (sIf (sNot (sTest (sFn 3 M_is_between [] (sCons (sVar 4) (sCons (sC (.int 0)) (sCons (sC (.int 2)) sNil))))))
    (sRaise "BadNumber" ["what", "number"] (sCons (sC (.str "e")) (sCons (sVar 4) sNil)))
    sNext)
    (sSeq (sIf (sOr (sNot (sTest (sFn 3 M_is_between [] (sCons (sVar 5) (sCons (sC (.int 0)) (sCons (sC (.int 3)) sNil)))))) (sTest (s2 gtF (s2 addA (s2 addA (sVar 3) (s2 mulB (sC (.int 2)) (sVar 4))) (sVar 5)) (sVar 2))))
    (sRaise "BadNumber" ["what", "number"] (sCons (sC (.str "f")) (sCons (sVar 5) sNil)))
    sNext)
    (sSeq (sIf (sOr (sNot (sTest (sFn 3 M_is_between [] (sCons (sVar 6) (sCons (s2 addA (sVar 2) (sC (.int 1))) (sCons (s2 powF (sC (.int 10)) (sC (.int 6))) sNil)))))) (sNot (sTest (sFn 1 M_is_prime [] (sCons (sVar 6) sNil)))))
    (sRaise "BadNumber" ["what", "number"] (sCons (sC (.str "prime")) (sCons (sVar 6) sNil)))
    sNext)
    (sSeq (sIf (sNot (sTest (sFn 3 M_is_between [] (sCons (sVar 7) (sCons (sC (.int 9)) (sCons (sC (.int 4000)) sNil))))))
    (sRaise "BadNumber" ["what", "number"] (sCons (sC (.str "size")) (sCons (sVar 7) sNil)))
    sNext)
    (sSeq (sIf (sNot (sTest (sFn 3 M_is_between [] (sCons (sVar 8) (sCons (sC (.int 1)) (sCons (sC (.int 16)) sNil))))))
    (sRaise "BadNumber" ["what", "number"] (sCons (sC (.str "width")) (sCons (sVar 8) sNil)))
    sNext)
    (sSeq (sSetF (sVar 0) "servers" ["Settings"] (sVar 1))
    (sSeq (sSetF (sVar 0) "shelves" ["Settings"] (sVar 2))
    (sSeq (sSetF (sVar 0) "k" ["Settings"] (sVar 3))
    (sSeq (sSetF (sVar 0) "e" ["Settings"] (sVar 4))
    (sSeq (sSetF (sVar 0) "f" ["Settings"] (sVar 5))
    (sSeq (sSetF (sVar 0) "prime" ["Settings"] (sVar 6))
    (sSeq (sSetF (sVar 0) "size" ["Settings"] (sVar 7))
    (sSeq (sSetF (sVar 0) "width" ["Settings"] (sVar 8))
    (sSetF (sVar 0) "need" ["Settings"] (s2 addA (s2 addA (sVar 3) (s2 mulB (sC (.int 2)) (sVar 4))) (sVar 5)))))))))))))))))))
def M_Settings_init : FA := defM 9 s_Settings_init
theorem ok_Settings_init {G : Gx} {f : Addr} {fd : FuncData} (F : Fun G.K "__init__" "Settings.__init__" st_Settings_init f fd) (fl_e : FldG G "e" ["Settings"]) (fl_f : FldG G "f" ["Settings"]) (fl_k : FldG G "k" ["Settings"]) (fl_need : FldG G "need" ["Settings"]) (fl_prime : FldG G "prime" ["Settings"]) (fl_servers : FldG G "servers" ["Settings"]) (fl_shelves : FldG G "shelves" ["Settings"]) (fl_size : FldG G "size" ["Settings"]) (fl_width : FldG G "width" ["Settings"]) (x_BadNumber : CE G "BadNumber" "BadNumber" 1 ["what", "number"]) (c_is_whole_0 : CF G "is_whole" 1 1 M_is_whole []) (c_is_between_0 : CF G "is_between" 2 3 M_is_between []) (c_is_prime_0 : CF G "is_prime" 1 1 M_is_prime []) :
    FnG G.P G.w G.K G.mg G.base (L2.CX G.P G.w) 3 f fd ["self", "servers", "shelves", "k", "e", "f", "prime", "size", "width"] (spOf G.K G.cA 9 M_Settings_init) := fn_of' (k := 2) F sc_Settings_init fun cdv A outer s H E i =>
    (kss_cons (ks_if (kb_w (kw_or (kb_cmp (ko_notmem i.hu) (kv 1) (ke_tup (ka_cons ke_int (ka_cons ke_int (ka_cons ke_int (ka_cons ke_int ka_nil)))))) (kw_or1 (kb_not (kb_val (kc (i := i) c_is_whole_0 (by decide) (by rfl) (ka_cons (kv 1) ka_nil))))))) (kss_one (kr (i := i) x_BadNumber (by decide) (by rfl) (ka_cons ke_str (ka_cons (kv 1) ka_nil)))) kss_nil)
    (kss_cons (ks_if (kb_not (kb_val (kc (i := i) c_is_between_0 (by decide) (by rfl) (ka_cons (kv 2) (ka_cons ke_int (ka_cons ke_int ka_nil)))))) (kss_one (kr (i := i) x_BadNumber (by decide) (by rfl) (ka_cons ke_str (ka_cons (kv 2) ka_nil)))) kss_nil)
    (kss_cons (ks_if (kb_not (kb_val (kc (i := i) c_is_between_0 (by decide) (by rfl) (ka_cons (kv 3) (ka_cons ke_int (ka_cons ke_int ka_nil)))))) (kss_one (kr (i := i) x_BadNumber (by decide) (by rfl) (ka_cons ke_str (ka_cons (kv 3) ka_nil)))) kss_nil)
    (kss_cons (ks_if (kb_not (kb_val (kc (i := i) c_is_between_0 (by decide) (by rfl) (ka_cons (kv 4) (ka_cons ke_int (ka_cons ke_int ka_nil)))))) (kss_one (kr (i := i) x_BadNumber (by decide) (by rfl) (ka_cons ke_str (ka_cons (kv 4) ka_nil)))) kss_nil)
    (kss_cons (ks_if (kb_w (kw_or (kb_not (kb_val (kc (i := i) c_is_between_0 (by decide) (by rfl) (ka_cons (kv 5) (ka_cons ke_int (ka_cons ke_int ka_nil)))))) (kw_or1 (kb_cmp (ko_gtD i.hu64) (ke_op ko_plusA (ke_op ko_plusA (kv 3) (ke_op ko_timesB ke_int (kv 4))) (kv 5)) (kv 2))))) (kss_one (kr (i := i) x_BadNumber (by decide) (by rfl) (ka_cons ke_str (ka_cons (kv 5) ka_nil)))) kss_nil)
    (kss_cons (ks_if (kb_w (kw_or (kb_not (kb_val (kc (i := i) c_is_between_0 (by decide) (by rfl) (ka_cons (kv 6) (ka_cons (ke_op ko_plusA (kv 2) ke_int) (ka_cons (ke_op ko_pow ke_int ke_int) ka_nil)))))) (kw_or1 (kb_not (kb_val (kc (i := i) c_is_prime_0 (by decide) (by rfl) (ka_cons (kv 6) ka_nil))))))) (kss_one (kr (i := i) x_BadNumber (by decide) (by rfl) (ka_cons ke_str (ka_cons (kv 6) ka_nil)))) kss_nil)
    (kss_cons (ks_if (kb_not (kb_val (kc (i := i) c_is_between_0 (by decide) (by rfl) (ka_cons (kv 7) (ka_cons ke_int (ka_cons ke_int ka_nil)))))) (kss_one (kr (i := i) x_BadNumber (by decide) (by rfl) (ka_cons ke_str (ka_cons (kv 7) ka_nil)))) kss_nil)
    (kss_cons (ks_if (kb_not (kb_val (kc (i := i) c_is_between_0 (by decide) (by rfl) (ka_cons (kv 8) (ka_cons ke_int (ka_cons ke_int ka_nil)))))) (kss_one (kr (i := i) x_BadNumber (by decide) (by rfl) (ka_cons ke_str (ka_cons (kv 8) ka_nil)))) kss_nil)
    (kss_cons (ks_fld (f := "servers") (kv 0) (kv 1) fl_servers)
    (kss_cons (ks_fld (f := "shelves") (kv 0) (kv 2) fl_shelves)
    (kss_cons (ks_fld (f := "k") (kv 0) (kv 3) fl_k)
    (kss_cons (ks_fld (f := "e") (kv 0) (kv 4) fl_e)
    (kss_cons (ks_fld (f := "f") (kv 0) (kv 5) fl_f)
    (kss_cons (ks_fld (f := "prime") (kv 0) (kv 6) fl_prime)
    (kss_cons (ks_fld (f := "size") (kv 0) (kv 7) fl_size)
    (kss_cons (ks_fld (f := "width") (kv 0) (kv 8) fl_width)
    (kss_one (ks_fld (f := "need") (kv 0) (ke_op ko_plusA (ke_op ko_plusA (kv 3) (ke_op ko_timesB ke_int (kv 4))) (kv 5)) fl_need))))))))))))))))))
/-! ### server_names -/
abbrev st_server_names : Stmt := topS 7
theorem sc_server_names : FnScope ["settings", "number"] ["settings"] (defScope st_server_names) := ⟨rfl, rfl, rfl, by decide +kernel, rfl, by decide +kernel, by decide +kernel⟩
def s_server_names : SS :=
    (sRet (sCallN tupN (sLc (sRange1 (sFld (sVar 0) "servers" ["Settings"])) (gN 1) sYes (s2 addA (sC (.str "b")) (sCall strF (sCons (s2 addA (sVar 1) (sC (.int 1))) sNil))) [1])))
def M_server_names : FA := defM 2 s_server_names
theorem ok_server_names {G : Gx} {f : Addr} {fd : FuncData} (F : Fun G.K "server_names" "server_names" st_server_names f fd) (b_range : G.mg "range" = none) (b_str : G.mg "str" = none) (b_tuple : G.mg "tuple" = none) (fl_servers : FldG G "servers" ["Settings"]) :
    FnG G.P G.w G.K G.mg G.base (L2.CX G.P G.w) 1 f fd ["settings"] (spOf G.K G.cA 1 M_server_names) := fn_of' (k := 0) F sc_server_names fun cdv A outer s H E i =>
    (kss_one (ks_ret (ke_callTN cn_tuple (by rfl) b_tuple (by decide +kernel) (kl_lc i.cm sc_server_names.nd (ki_range1 (by rfl) b_range (ke_fld (f := "servers") (kv 0) fl_servers)) (blkOk_by (own := [("number", 1)]) (N := ["settings", "number"]) (sc := defScope st_server_names) (by decide +kernel)) (fun s H C cl fp => (gw 1 sc_server_names.nd)) (fun s H C cl fp => kt_nil) (fun s H C cl fp => (ke_op ko_plusA ke_str (ke_callTy ck_str (by rfl) b_str (by decide +kernel) (ka_cons (ke_op ko_plusA (kv 1) ke_int) ka_nil))))))))
/-! ### shelf_names -/
abbrev st_shelf_names : Stmt := topS 8
theorem sc_shelf_names : FnScope ["settings", "number"] ["settings"] (defScope st_shelf_names) := ⟨rfl, rfl, rfl, by decide +kernel, rfl, by decide +kernel, by decide +kernel⟩
def s_shelf_names : SS :=
    (sRet (sCallN tupN (sLc (sRange1 (sFld (sVar 0) "shelves" ["Settings"])) (gN 1) sYes (s2 addA (sC (.str "s")) (sCall strF (sCons (s2 addA (sVar 1) (sC (.int 1))) sNil))) [1])))
def M_shelf_names : FA := defM 2 s_shelf_names
theorem ok_shelf_names {G : Gx} {f : Addr} {fd : FuncData} (F : Fun G.K "shelf_names" "shelf_names" st_shelf_names f fd) (b_range : G.mg "range" = none) (b_str : G.mg "str" = none) (b_tuple : G.mg "tuple" = none) (fl_shelves : FldG G "shelves" ["Settings"]) :
    FnG G.P G.w G.K G.mg G.base (L2.CX G.P G.w) 1 f fd ["settings"] (spOf G.K G.cA 1 M_shelf_names) := fn_of' (k := 0) F sc_shelf_names fun cdv A outer s H E i =>
    (kss_one (ks_ret (ke_callTN cn_tuple (by rfl) b_tuple (by decide +kernel) (kl_lc i.cm sc_shelf_names.nd (ki_range1 (by rfl) b_range (ke_fld (f := "shelves") (kv 0) fl_shelves)) (blkOk_by (own := [("number", 1)]) (N := ["settings", "number"]) (sc := defScope st_shelf_names) (by decide +kernel)) (fun s H C cl fp => (gw 1 sc_shelf_names.nd)) (fun s H C cl fp => kt_nil) (fun s H C cl fp => (ke_op ko_plusA ke_str (ke_callTy ck_str (by rfl) b_str (by decide +kernel) (ka_cons (ke_op ko_plusA (kv 1) ke_int) ka_nil))))))))
/-! ### _law_setting -/
abbrev st_law_setting : Stmt := topS 14
theorem sc_law_setting : FnScope ["_law_pen_here", "_law_k", "_law_e", "_law_f", "_law_shelves", "_law_servers", "_law_prime"] ["_law_pen_here"] (defScope st_law_setting) := ⟨rfl, rfl, rfl, by decide +kernel, rfl, by decide +kernel, by decide +kernel⟩
def s_law_setting : SS :=
    (sSeq (sIf (sTest (s2 eqF (sFn 2 M_law_draw [] (sCons (sVar 0) (sCons (sC (.int 10)) sNil))) (sC (.int 0))))
    (sSeq (sPar [1, 2] (sCons (s2 addA (sC (.int 1)) (sFn 2 M_law_draw [] (sCons (sVar 0) (sCons (sC (.int 4)) sNil)))) (sCons (sFn 2 M_law_draw [] (sCons (sVar 0) (sCons (sC (.int 3)) sNil))) sNil)))
    (sSeq (sAsg (sFn 2 M_law_draw [] (sCons (sVar 0) (sCons (s2 addA (sCall min2F (sCons (sC (.int 3)) (sCons (s2 (f2I yes2 fun i j => .int (i - j)) (s2 (f2I yes2 fun i j => .int (i - j)) (sC (.int 8)) (sVar 1)) (s2 mulB (sC (.int 2)) (sVar 2))) sNil))) (sC (.int 1))) sNil))) (gN 3))
    (sRet (sTup (sCons (sFn 2 M_law_pick [] (sCons (sVar 0) (sCons (sNew (sLst (sCons (sC (.int 1)) (sCons (sC (.int 3)) (sCons (sC (.int 7)) sNil))))) sNil))) (sCons (s2 addA (s2 addA (s2 addA (sVar 1) (s2 mulB (sC (.int 2)) (sVar 2))) (sVar 3)) (sFn 2 M_law_draw [] (sCons (sVar 0) (sCons (s2 (f2I yes2 fun i j => .int (i - j)) (s2 (f2I yes2 fun i j => .int (i - j)) (s2 (f2I yes2 fun i j => .int (i - j)) (sC (.int 9)) (sVar 1)) (s2 mulB (sC (.int 2)) (sVar 2))) (sVar 3)) sNil)))) (sCons (sVar 1) (sCons (sVar 2) (sCons (sVar 3) (sCons (sC (.int 101)) (sCons (sC (.int 200)) sNil)))))))))))
    sNext)
    (sSeq (sAsg (sFn 2 M_law_pick [] (sCons (sVar 0) (sCons (sNew (sLst (sCons (sC (.int 1)) (sCons (sC (.int 2)) (sCons (sC (.int 3)) (sCons (sC (.int 4)) (sCons (sC (.int 5)) (sCons (sC (.int 5)) sNil)))))))) sNil))) (gN 4))
    (sSeq (sAsg (s2 addA (sC (.int 1)) (sFn 2 M_law_draw [] (sCons (sVar 0) (sCons (sCall min2F (sCons (sC (.int 3)) (sCons (sVar 4) sNil))) sNil)))) (gN 1))
    (sSeq (sAsg (sFn 2 M_law_draw [] (sCons (sVar 0) (sCons (s2 addA (sCall min2F (sCons (sC (.int 1)) (sCons (s2 fdivF (s2 (f2I yes2 fun i j => .int (i - j)) (sVar 4) (sVar 1)) (sC (.int 2))) sNil))) (sC (.int 1))) sNil))) (gN 2))
    (sSeq (sAsg (sFn 2 M_law_draw [] (sCons (sVar 0) (sCons (s2 addA (sCall min2F (sCons (sC (.int 2)) (sCons (s2 (f2I yes2 fun i j => .int (i - j)) (s2 (f2I yes2 fun i j => .int (i - j)) (sVar 4) (sVar 1)) (s2 mulB (sC (.int 2)) (sVar 2))) sNil))) (sC (.int 1))) sNil))) (gN 3))
    (sSeq (sPar [5, 6] (sCons (sFn 2 M_law_pick [] (sCons (sVar 0) (sCons (sNew (sLst (sCons (sC (.int 1)) (sCons (sC (.int 3)) (sCons (sC (.int 3)) (sCons (sC (.int 3)) (sCons (sC (.int 5)) sNil))))))) sNil))) (sCons (sFn 2 M_law_pick [] (sCons (sVar 0) (sCons (sNew (sLst (sCons (sC (.int 11)) (sCons (sC (.int 101)) (sCons (sC (.int 997)) (sCons (sC (.int 999983)) sNil)))))) sNil))) sNil)))
    (sRet (sTup (sCons (sVar 5) (sCons (sVar 4) (sCons (sVar 1) (sCons (sVar 2) (sCons (sVar 3) (sCons (sVar 6) (sCons (s2 addA (sC (.int 60)) (sFn 2 M_law_draw [] (sCons (sVar 0) (sCons (sC (.int 300)) sNil)))) sNil)))))))))))))))
def M_law_setting : FA := defM 7 s_law_setting
theorem ok_law_setting {G : Gx} {f : Addr} {fd : FuncData} (F : Fun G.K "_law_setting" "_law_setting" st_law_setting f fd) (b_min : G.mg "min" = none) (c_law_draw_0 : CF G "_law_draw" 1 2 M_law_draw []) (c_law_pick_0 : CF G "_law_pick" 2 2 M_law_pick []) :
    FnG G.P G.w G.K G.mg G.base (L2.CX G.P G.w) 3 f fd ["_law_pen_here"] (spOf G.K G.cA 1 M_law_setting) := fn_of' (k := 2) F sc_law_setting fun cdv A outer s H E i =>
    (kss_cons (ks_if (kb_cmp (ko_eq i.hu64) (kc (i := i) c_law_draw_0 (by decide) (by rfl) (ka_cons (kv 0) (ka_cons ke_int ka_nil))) ke_int) (kss_cons (ks_par2 (i := 1) (j := 2) i.cm sc_law_setting.nd (ka_cons (ke_op ko_plusA ke_int (kc (i := i) c_law_draw_0 (by decide) (by rfl) (ka_cons (kv 0) (ka_cons ke_int ka_nil)))) (ka_cons (kc (i := i) c_law_draw_0 (by decide) (by rfl) (ka_cons (kv 0) (ka_cons ke_int ka_nil))) ka_nil)))
    (kss_cons (ks_asg (kc (i := i) c_law_draw_0 (by decide) (by rfl) (ka_cons (kv 0) (ka_cons (ke_op ko_plusA (ke_callB (ck_min2 i.cm) (by rfl) b_min (by decide +kernel) (ka_cons ke_int (ka_cons (ke_op ko_sub (ke_op ko_sub ke_int (kv 1)) (ke_op ko_timesB ke_int (kv 2))) ka_nil))) ke_int) ka_nil))) (gn 3 sc_law_setting.nd))
    (kss_one (ks_ret (ke_tup (ka_cons (kc (i := i) c_law_pick_0 (by decide) (by rfl) (ka_cons (kv 0) (ka_cons (ke_new (kl_lst (ka_cons ke_int (ka_cons ke_int (ka_cons ke_int ka_nil))))) ka_nil))) (ka_cons (ke_op ko_plusA (ke_op ko_plusA (ke_op ko_plusA (kv 1) (ke_op ko_timesB ke_int (kv 2))) (kv 3)) (kc (i := i) c_law_draw_0 (by decide) (by rfl) (ka_cons (kv 0) (ka_cons (ke_op ko_sub (ke_op ko_sub (ke_op ko_sub ke_int (kv 1)) (ke_op ko_timesB ke_int (kv 2))) (kv 3)) ka_nil)))) (ka_cons (kv 1) (ka_cons (kv 2) (ka_cons (kv 3) (ka_cons ke_int (ka_cons ke_int ka_nil)))))))))))) kss_nil)
    (kss_cons (ks_asg (kc (i := i) c_law_pick_0 (by decide) (by rfl) (ka_cons (kv 0) (ka_cons (ke_new (kl_lst (ka_cons ke_int (ka_cons ke_int (ka_cons ke_int (ka_cons ke_int (ka_cons ke_int (ka_cons ke_int ka_nil)))))))) ka_nil))) (gn 4 sc_law_setting.nd))
    (kss_cons (ks_asg (ke_op ko_plusA ke_int (kc (i := i) c_law_draw_0 (by decide) (by rfl) (ka_cons (kv 0) (ka_cons (ke_callB (ck_min2 i.cm) (by rfl) b_min (by decide +kernel) (ka_cons ke_int (ka_cons (kv 4) ka_nil))) ka_nil)))) (gn 1 sc_law_setting.nd))
    (kss_cons (ks_asg (kc (i := i) c_law_draw_0 (by decide) (by rfl) (ka_cons (kv 0) (ka_cons (ke_op ko_plusA (ke_callB (ck_min2 i.cm) (by rfl) b_min (by decide +kernel) (ka_cons ke_int (ka_cons (ke_op ko_fdiv (ke_op ko_sub (kv 4) (kv 1)) ke_int) ka_nil))) ke_int) ka_nil))) (gn 2 sc_law_setting.nd))
    (kss_cons (ks_asg (kc (i := i) c_law_draw_0 (by decide) (by rfl) (ka_cons (kv 0) (ka_cons (ke_op ko_plusA (ke_callB (ck_min2 i.cm) (by rfl) b_min (by decide +kernel) (ka_cons ke_int (ka_cons (ke_op ko_sub (ke_op ko_sub (kv 4) (kv 1)) (ke_op ko_timesB ke_int (kv 2))) ka_nil))) ke_int) ka_nil))) (gn 3 sc_law_setting.nd))
    (kss_cons (ks_par2 (i := 5) (j := 6) i.cm sc_law_setting.nd (ka_cons (kc (i := i) c_law_pick_0 (by decide) (by rfl) (ka_cons (kv 0) (ka_cons (ke_new (kl_lst (ka_cons ke_int (ka_cons ke_int (ka_cons ke_int (ka_cons ke_int (ka_cons ke_int ka_nil))))))) ka_nil))) (ka_cons (kc (i := i) c_law_pick_0 (by decide) (by rfl) (ka_cons (kv 0) (ka_cons (ke_new (kl_lst (ka_cons ke_int (ka_cons ke_int (ka_cons ke_int (ka_cons ke_int ka_nil)))))) ka_nil))) ka_nil)))
    (kss_one (ks_ret (ke_tup (ka_cons (kv 5) (ka_cons (kv 4) (ka_cons (kv 1) (ka_cons (kv 2) (ka_cons (kv 3) (ka_cons (kv 6) (ka_cons (ke_op ko_plusA ke_int (kc (i := i) c_law_draw_0 (by decide) (by rfl) (ka_cons (kv 0) (ka_cons ke_int ka_nil)))) ka_nil))))))))))))))))
/-! ### law -/
abbrev st_law : Stmt := topS 17
theorem sc_law : FnScope ["_law_script", "_law_pen_here", "_law_names", "_law_turn", "_law_row", "_law_borders", "_law_lap", "_law_at", "_law_due", "_law_made", "_law_e", "_law_k"] ["_law_script"] (defScope st_law) := ⟨rfl, rfl, rfl, by decide +kernel, rfl, by decide +kernel, by decide +kernel⟩
def s_law : SS :=
    (sSeq (sAsg (sFn 1 M_law_pen [] (sCons (sVar 0) sNil)) (gN 1))
    (sSeq (sAsg (sNew (sLst (sCons (sC (.str "servers")) (sCons (sC (.str "shelves")) (sCons (sC (.str "k")) (sCons (sC (.str "e")) (sCons (sC (.str "f")) (sCons (sC (.str "prime")) (sCons (sC (.str "size")) (sCons (sC (.str "width")) sNil)))))))))) (gN 2))
    (sSeq (sFor (sRange1 (sC (.int 12))) (gN 3) (sSeq (sAsg (s2 addA (sNew (sCallL listF (sCons (sFn 1 M_law_setting [] (sCons (sVar 1) sNil)) sNil))) (sNew (sLst (sCons (s2 addA (sC (.int 1)) (sFn 2 M_law_draw [] (sCons (sVar 1) (sCons (sC (.int 16)) sNil)))) sNil)))) (gN 4))
    (sSeq (sAsg (sNew (sLst (sCons (sNew (sLst (sCons (sC (.int 1)) (sCons (sC (.int 7)) (sCons (sC (.int 2)) (sCons (sC (.int 9)) (sCons (sC (.int 0)) sNil))))))) (sCons (sNew (sLst (sCons (sC (.int 1)) (sCons (sC (.int 8)) (sCons (sC (.int 0)) (sCons (sC (.int 9)) sNil)))))) (sCons (sNew (sLst (sCons (sC (.int 1)) (sCons (sC (.int 4)) (sCons (sC (.int 0)) (sCons (sC (.int 5)) sNil)))))) (sCons (sNew (sLst (sCons (sC (.int 0)) (sCons (sC (.int 2)) (sCons (sC (.int 3)) (sCons (sNeg (sC (.int 1))) sNil)))))) (sCons (sNew (sLst (sCons (sC (.int 0)) (sCons (sC (.int 3)) (sCons (sC (.int 4)) (sCons (sNeg (sC (.int 1))) sNil)))))) sNil))))))) (gN 5))
    (sSeq (sAsg (s2 addA (sVar 5) (sNew (sLst (sCons (sNew (sLst (sCons (sC (.int 2)) (sCons (sC (.int 7)) (sCons (sC (.int 9)) (sCons (sC (.int 999983)) (sCons (sC (.int 1000003)) (sCons (s2 mulB (sC (.int 997)) (sC (.int 3))) (sCons (sC (.int 1)) sNil))))))))) (sCons (sNew (sLst (sCons (sC (.int 9)) (sCons (sC (.int 8)) (sCons (sC (.int 4000)) (sCons (sC (.int 4001)) sNil)))))) (sCons (sNew (sLst (sCons (sC (.int 1)) (sCons (sC (.int 16)) (sCons (sC (.int 0)) (sCons (sC (.int 17)) sNil)))))) sNil)))))) (gN 5))
    (sSeq (sFor (sRange1 (sFn 2 M_law_draw [] (sCons (sVar 1) (sCons (sC (.int 4)) sNil)))) (gN 6) (sSeq (sAsg (sFn 2 M_law_draw [] (sCons (sVar 1) (sCons (sC (.int 8)) sNil))) (gN 7))
    (sAsg (sFn 2 M_law_pick [] (sCons (sVar 1) (sCons (s2 addA (s2 getF (sVar 5) (sVar 7)) (sNew (sLst (sCons (sC .non) (sCons (sC (.bl true)) (sCons (sC (.str "3")) (sCons (sTup (sCons (sC (.int 3)) sNil)) sNil))))))) sNil))) (gSub' (sVar 4) (sVar 7) setF))))
    (sSeq (sIf (sTest (s2 eqF (s2 modF (sVar 3) (sC (.int 3))) (sC (.int 0))))
    (sAsg (sFn 1 M_law_odd_one [] (sCons (sVar 1) sNil)) (gSub' (sVar 4) (sC (.int 5)) setF))
    sNext)
    (sSeq (sAsg (sFn 1 M_law_wrong [] (sCons (sVar 4) sNil)) (gN 8))
    (sSeq (sTry (sAsg (sNewI "Settings" 9 M_Settings_init [] (sCons (s2 getF (sVar 4) (sC (.int 0))) (sCons (s2 getF (sVar 4) (sC (.int 1))) (sCons (s2 getF (sVar 4) (sC (.int 2))) (sCons (s2 getF (sVar 4) (sC (.int 3))) (sCons (s2 getF (sVar 4) (sC (.int 4))) (sCons (s2 getF (sVar 4) (sC (.int 5))) (sCons (s2 getF (sVar 4) (sC (.int 6))) (sCons (s2 getF (sVar 4) (sC (.int 7))) sNil))))))))) (gN 9)) [((fun c => List.lookup c [("BadNumber", true)]), (some 10), fun _ a d => (sSeq (sIf (sOr (sTest (s2 isF (sVar 8) (sC .non))) (sTest (s2 neF (sTup (sCons (sXf "BadNumber" a d (sVar 10) "what") (sCons (sCall reprF (sCons (sXf "BadNumber" a d (sVar 10) "number") sNil)) sNil))) (sTup (sCons (sVar 8) (sCons (sCall reprF (sCons (s2 getF (sVar 4) (sIndex (sVar 2) (sVar 8))) sNil)) sNil))))))
    (sRet (sC (.bl false)))
    sNext)
    sCt))])
    (sSeq (sIf (sOr (sTest (s2 notF (sVar 8) (sC .non))) (sTest (s2 neF (sNew (sLst (sCons (sFld (sVar 9) "servers" ["Settings"]) (sCons (sFld (sVar 9) "shelves" ["Settings"]) (sCons (sFld (sVar 9) "k" ["Settings"]) (sCons (sFld (sVar 9) "e" ["Settings"]) sNil)))))) (sSlA (sVar 4) sNoPart (sPart (sC (.int 4)))))))
    (sRet (sC (.bl false)))
    sNext)
    (sSeq (sIf (sTest (s2 neF (sNew (sLst (sCons (sFld (sVar 9) "f" ["Settings"]) (sCons (sFld (sVar 9) "prime" ["Settings"]) (sCons (sFld (sVar 9) "size" ["Settings"]) (sCons (sFld (sVar 9) "width" ["Settings"]) sNil)))))) (sSlA (sVar 4) (sPart (sC (.int 4))) sNoPart)))
    (sRet (sC (.bl false)))
    sNext)
    (sSeq (sIf (sTest (s2 neF (sFld (sVar 9) "need" ["Settings"]) (s2 addA (s2 addA (s2 getF (sVar 4) (sC (.int 2))) (s2 mulB (sC (.int 2)) (s2 getF (sVar 4) (sC (.int 3))))) (s2 getF (sVar 4) (sC (.int 4))))))
    (sRet (sC (.bl false)))
    sNext)
    (sSeq (sIf (sTest (s2 neF (sFn 1 M_server_names [] (sCons (sVar 9) sNil)) (sCallN tupN (sLc (sRange1 (s2 getF (sVar 4) (sC (.int 0)))) (gN 11) sYes (s2 addA (sC (.str "b")) (sCall strF (sCons (s2 addA (sVar 11) (sC (.int 1))) sNil))) [11]))))
    (sRet (sC (.bl false)))
    sNext)
    (sIf (sTest (s2 neF (sFn 1 M_shelf_names [] (sCons (sVar 9) sNil)) (sCallN tupN (sLc (sRange1 (s2 getF (sVar 4) (sC (.int 1)))) (gN 11) sYes (s2 addA (sC (.str "s")) (sCall strF (sCons (s2 addA (sVar 11) (sC (.int 1))) sNil))) [11]))))
    (sRet (sC (.bl false)))
    sNext)))))))))))))
    (sRet (sC (.bl true))))))
def M_law : FA := defM 12 s_law
theorem ok_law {G : Gx} {f : Addr} {fd : FuncData} (F : Fun G.K "law" "law" st_law f fd) (b_list : G.mg "list" = none) (b_range : G.mg "range" = none) (b_repr : G.mg "repr" = none) (b_str : G.mg "str" = none) (b_tuple : G.mg "tuple" = none) (fl_e : FldG G "e" ["Settings"]) (fl_f : FldG G "f" ["Settings"]) (fl_k : FldG G "k" ["Settings"]) (fl_need : FldG G "need" ["Settings"]) (fl_prime : FldG G "prime" ["Settings"]) (fl_servers : FldG G "servers" ["Settings"]) (fl_shelves : FldG G "shelves" ["Settings"]) (fl_size : FldG G "size" ["Settings"]) (fl_width : FldG G "width" ["Settings"]) (h_BadNumber : CH G "BadNumber" (.ref (G.cA "BadNumber")) [("BadNumber", true)]) (xf_BadNumber_number : XFG G "BadNumber" "number") (xf_BadNumber_what : XFG G "BadNumber" "what") (c_law_pen_0 : CF G "_law_pen" 1 1 M_law_pen []) (c_law_setting_0 : CF G "_law_setting" 3 1 M_law_setting []) (c_law_draw_0 : CF G "_law_draw" 1 2 M_law_draw []) (c_law_pick_0 : CF G "_law_pick" 2 2 M_law_pick []) (c_law_odd_one_0 : CF G "_law_odd_one" 2 1 M_law_odd_one []) (c_law_wrong_0 : CF G "_law_wrong" 2 1 M_law_wrong []) (c_Settings_init_0 : CM G "Settings" "Settings" 3 9 M_Settings_init []) (c_server_names_0 : CF G "server_names" 1 1 M_server_names []) (c_shelf_names_0 : CF G "shelf_names" 1 1 M_shelf_names []) :
    FnG G.P G.w G.K G.mg G.base (L2.CX G.P G.w) 5 f fd ["_law_script"] (spOf G.K G.cA 1 M_law) := fn_of' (k := 4) F sc_law fun cdv A outer s H E i =>
    (kss_cons (ks_asg (kc (i := i) c_law_pen_0 (by decide) (by rfl) (ka_cons (kv 0) ka_nil)) (gn 1 sc_law.nd))
    (kss_cons (ks_asg (ke_new (kl_lst (ka_cons ke_str (ka_cons ke_str (ka_cons ke_str (ka_cons ke_str (ka_cons ke_str (ka_cons ke_str (ka_cons ke_str (ka_cons ke_str ka_nil)))))))))) (gn 2 sc_law.nd))
    (kss_cons (ks_for i.ow i.cm (ki_range1 (by rfl) b_range ke_int) (gn 3 sc_law.nd) (kss_cons (ks_asg (ke_op ko_plusA (ke_new (kl_callTy ck_list (by rfl) b_list (by decide +kernel) (ka_cons (kc (i := i) c_law_setting_0 (by decide) (by rfl) (ka_cons (kv 1) ka_nil)) ka_nil))) (ke_new (kl_lst (ka_cons (ke_op ko_plusA ke_int (kc (i := i) c_law_draw_0 (by decide) (by rfl) (ka_cons (kv 1) (ka_cons ke_int ka_nil)))) ka_nil)))) (gn 4 sc_law.nd))
    (kss_cons (ks_asg (ke_new (kl_lst (ka_cons (ke_new (kl_lst (ka_cons ke_int (ka_cons ke_int (ka_cons ke_int (ka_cons ke_int (ka_cons ke_int ka_nil))))))) (ka_cons (ke_new (kl_lst (ka_cons ke_int (ka_cons ke_int (ka_cons ke_int (ka_cons ke_int ka_nil)))))) (ka_cons (ke_new (kl_lst (ka_cons ke_int (ka_cons ke_int (ka_cons ke_int (ka_cons ke_int ka_nil)))))) (ka_cons (ke_new (kl_lst (ka_cons ke_int (ka_cons ke_int (ka_cons ke_int (ka_cons (ke_neg ke_int) ka_nil)))))) (ka_cons (ke_new (kl_lst (ka_cons ke_int (ka_cons ke_int (ka_cons ke_int (ka_cons (ke_neg ke_int) ka_nil)))))) ka_nil))))))) (gn 5 sc_law.nd))
    (kss_cons (ks_asg (ke_op ko_plusA (kv 5) (ke_new (kl_lst (ka_cons (ke_new (kl_lst (ka_cons ke_int (ka_cons ke_int (ka_cons ke_int (ka_cons ke_int (ka_cons ke_int (ka_cons (ke_op ko_timesB ke_int ke_int) (ka_cons ke_int ka_nil))))))))) (ka_cons (ke_new (kl_lst (ka_cons ke_int (ka_cons ke_int (ka_cons ke_int (ka_cons ke_int ka_nil)))))) (ka_cons (ke_new (kl_lst (ka_cons ke_int (ka_cons ke_int (ka_cons ke_int (ka_cons ke_int ka_nil)))))) ka_nil)))))) (gn 5 sc_law.nd))
    (kss_cons (ks_for i.ow i.cm (ki_range1 (by rfl) b_range (kc (i := i) c_law_draw_0 (by decide) (by rfl) (ka_cons (kv 1) (ka_cons ke_int ka_nil)))) (gn 6 sc_law.nd) (kss_cons (ks_asg (kc (i := i) c_law_draw_0 (by decide) (by rfl) (ka_cons (kv 1) (ka_cons ke_int ka_nil))) (gn 7 sc_law.nd))
    (kss_one (ks_asg (kc (i := i) c_law_pick_0 (by decide) (by rfl) (ka_cons (kv 1) (ka_cons (ke_op ko_plusA (ke_ix (ik_get i.hu1) (kv 5) (kv 7)) (ke_new (kl_lst (ka_cons ke_non (ka_cons ke_bl (ka_cons ke_str (ka_cons (ke_tup (ka_cons ke_int ka_nil)) ka_nil))))))) ka_nil))) (kg_sub (st_set i.hu1) (kv 4) (kv 7))))))
    (kss_cons (ks_if (kb_cmp (ko_eq i.hu64) (ke_op ko_mod (kv 3) ke_int) ke_int) (kss_one (ks_asg (kc (i := i) c_law_odd_one_0 (by decide) (by rfl) (ka_cons (kv 1) ka_nil)) (kg_sub (st_set i.hu1) (kv 4) ke_int))) kss_nil)
    (kss_cons (ks_asg (kc (i := i) c_law_wrong_0 (by decide) (by rfl) (ka_cons (kv 4) ka_nil)) (gn 8 sc_law.nd))
    (kss_cons (ks_try rfl rfl i.tk (fun W pn xe tk o => (kss_one (ks_asg (km (i := (i.tr tk o)) c_Settings_init_0 (by decide) (by rfl) (ka_cons (ke_ix (ik_get (i.tr tk o).hu1) (kv 4) ke_int) (ka_cons (ke_ix (ik_get (i.tr tk o).hu1) (kv 4) ke_int) (ka_cons (ke_ix (ik_get (i.tr tk o).hu1) (kv 4) ke_int) (ka_cons (ke_ix (ik_get (i.tr tk o).hu1) (kv 4) ke_int) (ka_cons (ke_ix (ik_get (i.tr tk o).hu1) (kv 4) ke_int) (ka_cons (ke_ix (ik_get (i.tr tk o).hu1) (kv 4) ke_int) (ka_cons (ke_ix (ik_get (i.tr tk o).hu1) (kv 4) ke_int) (ka_cons (ke_ix (ik_get (i.tr tk o).hu1) (kv 4) ke_int) ka_nil))))))))) (gn 9 sc_law.nd)))) (.named (i := 10) sc_law.nd rfl rfl (h_BadNumber.names i (by rfl)) (h_BadNumber.exm i) (ksu_one (one_true (c0 := "BadNumber") (by decide)) fun a oe d pn hz hf => (kss_cons (ks_if (kb_w (kw_or (kb_cmp ko_is (kv 8) ke_non) (kw_or1 (kb_cmp (ko_ne (i.su a oe pn).hu64) (ke_tup (ka_cons (ke_xf xf_BadNumber_what.1 xf_BadNumber_what.2 hz hf (kv 10)) (ka_cons (ke_callB (ck_repr (i.su a oe pn).gu (i.su a oe pn).hu) (by rfl) b_repr (by decide +kernel) (ka_cons (ke_xf xf_BadNumber_number.1 xf_BadNumber_number.2 hz hf (kv 10)) ka_nil)) ka_nil))) (ke_tup (ka_cons (kv 8) (ka_cons (ke_callB (ck_repr (i.su a oe pn).gu (i.su a oe pn).hu) (by rfl) b_repr (by decide +kernel) (ka_cons (ke_ix (ik_get (i.su a oe pn).hu1) (kv 4) (ke_index (i.su a oe pn).hu (kv 2) (kv 8))) ka_nil)) ka_nil))))))) (kss_one (ks_ret ke_bl)) kss_nil)
    (kss_one ks_ct))) .nil))
    (kss_cons (ks_if (kb_w (kw_or (kb_cmp ko_isnot (kv 8) ke_non) (kw_or1 (kb_cmp (ko_ne i.hu64) (ke_new (kl_lst (ka_cons (ke_fld (f := "servers") (kv 9) fl_servers) (ka_cons (ke_fld (f := "shelves") (kv 9) fl_shelves) (ka_cons (ke_fld (f := "k") (kv 9) fl_k) (ka_cons (ke_fld (f := "e") (kv 9) fl_e) ka_nil)))))) (ke_sl (kv 4) ko_none (ko_some ke_int)))))) (kss_one (ks_ret ke_bl)) kss_nil)
    (kss_cons (ks_if (kb_cmp (ko_ne i.hu64) (ke_new (kl_lst (ka_cons (ke_fld (f := "f") (kv 9) fl_f) (ka_cons (ke_fld (f := "prime") (kv 9) fl_prime) (ka_cons (ke_fld (f := "size") (kv 9) fl_size) (ka_cons (ke_fld (f := "width") (kv 9) fl_width) ka_nil)))))) (ke_sl (kv 4) (ko_some ke_int) ko_none)) (kss_one (ks_ret ke_bl)) kss_nil)
    (kss_cons (ks_if (kb_cmp (ko_ne i.hu64) (ke_fld (f := "need") (kv 9) fl_need) (ke_op ko_plusA (ke_op ko_plusA (ke_ix (ik_get i.hu1) (kv 4) ke_int) (ke_op ko_timesB ke_int (ke_ix (ik_get i.hu1) (kv 4) ke_int))) (ke_ix (ik_get i.hu1) (kv 4) ke_int))) (kss_one (ks_ret ke_bl)) kss_nil)
    (kss_cons (ks_if (kb_cmp (ko_ne i.hu64) (kc (i := i) c_server_names_0 (by decide) (by rfl) (ka_cons (kv 9) ka_nil)) (ke_callTN cn_tuple (by rfl) b_tuple (by decide +kernel) (kl_lc i.cm sc_law.nd (ki_range1 (by rfl) b_range (ke_ix (ik_get i.hu1) (kv 4) ke_int)) (blkOk_by (own := [("_law_k", 11)]) (N := ["_law_script", "_law_pen_here", "_law_names", "_law_turn", "_law_row", "_law_borders", "_law_lap", "_law_at", "_law_due", "_law_made", "_law_e", "_law_k"]) (sc := defScope st_law) (by decide +kernel)) (fun s H C cl fp => (gw 11 sc_law.nd)) (fun s H C cl fp => kt_nil) (fun s H C cl fp => (ke_op ko_plusA ke_str (ke_callTy ck_str (by rfl) b_str (by decide +kernel) (ka_cons (ke_op ko_plusA (kv 11) ke_int) ka_nil))))))) (kss_one (ks_ret ke_bl)) kss_nil)
    (kss_one (ks_if (kb_cmp (ko_ne i.hu64) (kc (i := i) c_shelf_names_0 (by decide) (by rfl) (ka_cons (kv 9) ka_nil)) (ke_callTN cn_tuple (by rfl) b_tuple (by decide +kernel) (kl_lc i.cm sc_law.nd (ki_range1 (by rfl) b_range (ke_ix (ik_get i.hu1) (kv 4) ke_int)) (blkOk_by (own := [("_law_k", 11)]) (N := ["_law_script", "_law_pen_here", "_law_names", "_law_turn", "_law_row", "_law_borders", "_law_lap", "_law_at", "_law_due", "_law_made", "_law_e", "_law_k"]) (sc := defScope st_law) (by decide +kernel)) (fun s H C cl fp => (gw 11 sc_law.nd)) (fun s H C cl fp => kt_nil) (fun s H C cl fp => (ke_op ko_plusA ke_str (ke_callTy ck_str (by rfl) b_str (by decide +kernel) (ka_cons (ke_op ko_plusA (kv 11) ke_int) ka_nil))))))) (kss_one (ks_ret ke_bl)) kss_nil))))))))))))))
    (kss_one (ks_ret ke_bl)))))
end Kq
end
section
set_option maxHeartbeats 4000000
/-! Kf: what simp may use to run a reading. -/
namespace Kf
open PySem PySem.Spec L2
theorem LIM_eq : LIM = 16777216 := rfl
theorem guard_true {β : Type} (c : Prop) [Decidable c] (r : Res β) (hc : c) : guard' c r = r := if_pos hc
/-- only what is at the head is looked at -/
theorem bind_congr {α β : Type} {r r' : Res α} {f : α → Hd → Res β} (e : r = r') : r.bind f = r'.bind f := by rw [e]
theorem lift_congr {α : Type} {r r' : Res α} {env : En} {f : α → Hd → Rs} (e : r = r') : r.lift env f = r'.lift env f := by rw [e]
def iteR {α : Type} (b : Bool) (x y : α) : α := if b = true then x else y
@[simp] theorem iteR_true {α : Type} (x y : α) : iteR true x y = x := id rfl
@[simp] theorem iteR_false {α : Type} (x y : α) : iteR false x y = y := id rfl
theorem iteR_congr {α : Type} {b b' : Bool} {x y : α} (e : b = b') : iteR b x y = iteR b' x y := by rw [e]
theorem guard_congr {β : Type} {c c' : Prop} [Decidable c] [Decidable c'] {r : Res β} (e : c = c') : guard' c r = guard' c' r := by subst e; unfold guard'; congr
def andThen (r : Rs) (g : SS) : Rs := match r with | .ok (.nx env1) h1 => g env1 h1 | r => r
theorem andThen_congr {r r' : Rs} {g : SS} (e : r = r') : andThen r g = andThen r' g := by rw [e]
@[simp] theorem andThen_nx (env : En) (h : Hd) (g : SS) : andThen (.ok (.nx env) h) g = g env h := id rfl
@[simp] theorem andThen_ret (d : D) (h : Hd) (g : SS) : andThen (.ok (.ret d) h) g = .ok (.ret d) h := id rfl
@[simp] theorem andThen_brk (env : En) (h : Hd) (g : SS) : andThen (.ok (.brk env) h) g = .ok (.brk env) h := id rfl
@[simp] theorem andThen_ct (env : En) (h : Hd) (g : SS) : andThen (.ok (.ct env) h) g = .ok (.ct env) h := id rfl
@[simp] theorem andThen_exc (c fs) (env : En) (h : Hd) (g : SS) : andThen (.ok (.exc c fs env) h) g = .ok (.exc c fs env) h := id rfl
def finR (r : Rs) : Res D := match r with
  | .ok (.nx _) h' => .ok .non h'
  | .ok (.ret d) h' => .ok d h'
  | .ok (.exc c fs _) h' => .exc c fs h'
  | _ => .stuck
@[simp] theorem finR_nx (env : En) (h : Hd) : finR (.ok (.nx env) h) = .ok .non h := id rfl
@[simp] theorem finR_ret (d : D) (h : Hd) : finR (.ok (.ret d) h) = .ok d h := id rfl
@[simp] theorem finR_exc (c fs) (env : En) (h : Hd) : finR (.ok (.exc c fs env) h) = .exc c fs h := id rfl
theorem defM_ev (n : Nat) (f : SS) (ds : List D) (h : Hd) : defM n f ds h = finR (f (startD n ds) h) := rfl
def onVar (o : Option (Option D)) (h : Hd) : Res D := match o with | some (some d) => .ok d h | _ => .stuck
@[simp] theorem onVar_some (d : D) (h : Hd) : onVar (some (some d)) h = .ok d h := id rfl
def nth : En → Nat → Option (Option D)
  | [], _ => none
  | a :: _, 0 => some a
  | _ :: l, n + 1 => nth l n
@[simp] theorem nth_zero (a : Option D) (l : En) : nth (a :: l) 0 = some a := id rfl
@[simp] theorem nth_succ (a : Option D) (l : En) (n : Nat) : nth (a :: l) (n + 1) = nth l n := id rfl
theorem nth_get : ∀ (env : En) (i : Nat), env[i]? = nth env i
  | [], _ => rfl
  | _ :: _, 0 => rfl
  | _ :: l, n + 1 => by rw [List.getElem?_cons_succ, nth_get l n]; rfl
@[simp] theorem ev_var (i : Nat) (env : En) (h : Hd) : sVar i env h = onVar (nth env i) h := by rw [← nth_get]; rfl
@[simp] theorem ev_c (d : D) (env : En) (h : Hd) : sC d env h = .ok d h := id rfl
@[simp] theorem ev_nil (env : En) (h : Hd) : sNil env h = .ok [] h := id rfl
@[simp] theorem ev_cons (f : SE) (g : SA) (env : En) (h : Hd) : sCons f g env h = (f env h).bind fun d h1 => (g env h1).bind fun ds h2 => .ok (d :: ds) h2 := id rfl
@[simp] theorem ev_2 (F : F2) (f g : SE) (env : En) (h : Hd) : s2 F f g env h = (f env h).bind fun x h1 => (g env h1).bind fun y h2 => F x y h2 := id rfl
@[simp] theorem ev_tup (f : SA) (env : En) (h : Hd) : sTup f env h = (f env h).bind fun ds h1 => guard' (ds.length ≤ LIM) (.ok (.tup ds) h1) := id rfl
@[simp] theorem ev_lst (f : SA) (env : En) (h : Hd) : sLst f env h = (f env h).bind fun ds h1 => guard' (ds.length ≤ LIM) (.ok ds h1) := id rfl
@[simp] theorem ev_new (f : SA) (env : En) (h : Hd) : sNew f env h = (f env h).bind fun ds h1 => .ok (.ref h1.length) (h1 ++ [.lst ds]) := id rfl
@[simp] theorem ev_test (f : SE) (env : En) (h : Hd) : sTest f env h = (f env h).bind fun d h1 => asBl d fun b => .ok b h1 := id rfl
@[simp] theorem ev_and (f g : SB) (env : En) (h : Hd) : sAnd f g env h = (f env h).bind fun b h1 => iteR b (g env h1) (.ok false h1) := id rfl
@[simp] theorem ev_or (f g : SB) (env : En) (h : Hd) : sOr f g env h = (f env h).bind fun b h1 => iteR b (.ok true h1) (g env h1) := id rfl
@[simp] theorem ev_not (f : SB) (env : En) (h : Hd) : sNot f env h = (f env h).bind fun b h1 => .ok (!b) h1 := id rfl
@[simp] theorem ev_ife (c : SB) (f g : SE) (env : En) (h : Hd) : sIfE c f g env h = (c env h).bind fun b h1 => iteR b (f env h1) (g env h1) := id rfl
@[simp] theorem ev_andV (f g : SE) (env : En) (h : Hd) : sAndV f g env h = (f env h).bind fun d h1 => asBl d fun b => iteR b (g env h1) (.ok (.bl false) h1) := id rfl
@[simp] theorem ev_orV (f g : SE) (env : En) (h : Hd) : sOrV f g env h = (f env h).bind fun d h1 => asBl d fun b => iteR b (.ok (.bl true) h1) (g env h1) := id rfl
@[simp] theorem ev_notV (f : SE) (env : En) (h : Hd) : sNotV f env h = (f env h).bind fun d h1 => asBl d fun b => .ok (.bl (!b)) h1 := id rfl
@[simp] theorem ev_next (env : En) (h : Hd) : sNext env h = .ok (.nx env) h := id rfl
@[simp] theorem ev_seq (f g : SS) (env : En) (h : Hd) : sSeq f g env h = andThen (f env h) g := id rfl
@[simp] theorem ev_ret (f : SE) (env : En) (h : Hd) : sRet f env h = (f env h).lift env fun d h1 => .ok (.ret d) h1 := id rfl
@[simp] theorem ev_retN (env : En) (h : Hd) : sRetN env h = .ok (.ret .non) h := id rfl
@[simp] theorem ev_brk (env : En) (h : Hd) : sBrk env h = .ok (.brk env) h := id rfl
@[simp] theorem ev_ct (env : En) (h : Hd) : sCt env h = .ok (.ct env) h := id rfl
@[simp] theorem ev_drop (f : SE) (env : En) (h : Hd) : sDrop f env h = (f env h).lift env fun _ h1 => .ok (.nx env) h1 := id rfl
@[simp] theorem ev_if (c : SB) (f g : SS) (env : En) (h : Hd) : sIf c f g env h = (c env h).lift env fun b h1 => iteR b (f env h1) (g env h1) := id rfl
@[simp] theorem ev_gN (i : Nat) (d : D) (env : En) (h : Hd) : gN i d env h = .ok (env.set i (some d)) h := id rfl
@[simp] theorem ev_gsub (fo fi : SE) (F : F3) (d : D) (env : En) (h : Hd) : gSub' fo fi F d env h = (fo env h).bind fun o h1 => (fi env h1).bind fun i h2 => (F o i d h2).bind fun _ h3 => .ok env h3 := id rfl
@[simp] theorem ev_gnil (env : En) (h : Hd) : gNil' [] env h = .ok env h := id rfl
@[simp] theorem ev_gcons (g : SG) (k : SGs) (d : D) (ds : List D) (env : En) (h : Hd) : gCons' g k (d :: ds) env h = (noX (g d env h)).bind fun env1 h1 => noX (k ds env1 h1) := id rfl
@[simp] theorem ev_gtp (n : Nat) (k : SGs) (ds : List D) (env : En) (h : Hd) : gTp n k (.tup ds) env h = guard' (ds.length = n) (k ds env h) := id rfl
@[simp] theorem ev_gtpf (n : Nat) (k : SGs) (ds : List D) (env : En) (h : Hd) : gTp n k (.fls ds) env h = guard' (ds.length = n) (k ds env h) := id rfl
@[simp] theorem ev_nox {α : Type} (a : α) (h : Hd) : noX (.ok a h) = .ok a h := id rfl
@[simp] theorem ev_asg (f : SE) (g : SG) (env : En) (h : Hd) : sAsg f g env h = (f env h).lift env fun d h1 => (noX (g d env h1)).lift env fun env' h2 => .ok (.nx env') h2 := id rfl
@[simp] theorem ev_call (F : FA) (a : SA) (env : En) (h : Hd) : sCall F a env h = (a env h).bind fun ds h1 => F ds h1 := id rfl
@[simp] theorem ev_callL (F : List D → Hd → Res (List D)) (a : SA) (env : En) (h : Hd) : sCallL F a env h = (a env h).bind fun ds h1 => F ds h1 := id rfl
@[simp] theorem ev_callN (F : List D → Hd → Res D) (a : SA) (env : En) (h : Hd) : sCallN F a env h = (a env h).bind fun ds h1 => F ds h1 := id rfl
@[simp] theorem ev_fn (n : Nat) (M : FA) (dds : List D) (a : SA) (env : En) (h : Hd) : sFn n M dds a env h = (a env h).bind fun ds h1 => guard' (ds.length + dds.length = n) (M (ds ++ dds) h1) := id rfl
@[simp] theorem ev_for (it : SI) (g : SG) (b : SS) (env : En) (h : Hd) : sFor it g b env h = (it env h).lift env fun j h1 => loopI j g b (turnsD j h1) 0 env h1 := id rfl
@[simp] theorem ev_val (f : SE) (env : En) (h : Hd) : sVal f env h = (f env h).bind fun d h1 => onSome (itOf d h1) fun it => .ok it h1 := by
  unfold sVal
  congr
  funext d h1
  cases itOf d h1 <;> rfl
@[simp] theorem ev_snap (f : SA) (env : En) (h : Hd) : sSnap f env h = (f env h).bind fun ds h1 => .ok (.snap ds) h1 := id rfl
@[simp] theorem ev_lc (it : SI) (g : SG) (t : SB) (f : SE) (vs : List Nat) (env : En) (h : Hd) : sLc it g t f vs env h = (it env h).bind fun j h1 => compI j g t f (wipeD env vs) (turnsD j h1) 0 0 h1 := id rfl
@[simp] theorem ev_yes (env : En) (h : Hd) : sYes env h = .ok true h := id rfl
@[simp] theorem ev_dict0 (env : En) (h : Hd) : sDict0 env h = .ok (.ref h.length) (h ++ [.dict []]) := id rfl
@[simp] theorem ev_dict (r : List (SE × SE)) (env : En) (h : Hd) : sDict r env h = (sPairs r env h).bind fun ds h1 => guard' (ds.length ≤ 15 ∧ (ds.all fun p => (keyD p.1).isSome) = true) (.ok (.ref h1.length) (h1 ++ [.dict (dmerge [] ds)])) := id rfl
@[simp] theorem ev_pairs0 (env : En) (h : Hd) : sPairs [] env h = .ok [] h := id rfl
@[simp] theorem ev_pairs (f g : SE) (r : List (SE × SE)) (env : En) (h : Hd) : sPairs ((f, g) :: r) env h = (f env h).bind fun k h1 => (g env h1).bind fun v h2 => (sPairs r env h2).bind fun ps h3 => .ok ((k, v) :: ps) h3 := id rfl
@[simp] theorem ev_par (is : List Nat) (a : SA) (env : En) (h : Hd) : sPar is a env h = (a env h).lift env fun ds h1 => if ds.length = is.length then .ok (.nx ((is.zip ds).foldl (fun e p => e.set p.1 (some p.2)) env)) h1 else .stuck := id rfl
@[simp] theorem ev_neg (f : SE) (env : En) (h : Hd) : sNeg f env h = (f env h).bind fun d h1 => asInt d fun i => .ok (.int (-i)) h1 := id rfl
/-! ### operators -/
theorem f2I_int (C : Int → Int → Bool) (g : Int → Int → D) (i j : Int) (h : Hd) : f2I C g (.int i) (.int j) h = guard' (C i j = true) (.ok (g i j) h) := rfl
@[simp] theorem addA_int (i j : Int) (h : Hd) : addA (.int i) (.int j) h = .ok (.int (i + j)) h := id rfl
@[simp] theorem addA_str (s t : String) (h : Hd) : addA (.str s) (.str t) h = guard' (s.length + t.length ≤ LIM) (.ok (.str (s ++ t)) h) := id rfl
@[simp] theorem addA_tup (s t : List D) (h : Hd) : addA (.tup s) (.tup t) h = guard' (s.length + t.length ≤ LIM) (.ok (.tup (s ++ t)) h) := id rfl
@[simp] theorem mulB_int (i j : Int) (h : Hd) (c : (-(18446744073709551616) < i ∧ i < 18446744073709551616) ∨ (-(18446744073709551616) < j ∧ j < 18446744073709551616)) : mulB (.int i) (.int j) h = .ok (.int (i * j)) h := by
  show (if ((decide (-(18446744073709551616) < i) && decide (i < 18446744073709551616)) || (decide (-(18446744073709551616) < j) && decide (j < 18446744073709551616))) = true then _ else _) = _
  rw [if_pos]
  simpa using c
@[simp] theorem modF_int (i j : Int) (h : Hd) (c : 0 < j) : modF (.int i) (.int j) h = .ok (.int (i % j)) h := by
  show (if decide (0 < j) = true then _ else _) = _
  rw [if_pos (by simpa using c)]
@[simp] theorem fdivF_int (i j : Int) (h : Hd) (c : 0 < j ∧ j < 1073741824) : fdivF (.int i) (.int j) h = .ok (.int (i / j)) h := by
  show (if (decide (0 < j) && decide (j < 1073741824)) = true then _ else _) = _
  rw [if_pos (by simpa using c)]
@[simp] theorem powF_int (i j : Int) (h : Hd) (c : 0 ≤ j ∧ j ≤ 1000000 ∧ i.natAbs < 18446744073709551616) : powF (.int i) (.int j) h = .ok (.int (i ^ j.toNat)) h := by
  show (if (decide (0 ≤ j) && decide (j ≤ 1000000) && decide (i.natAbs < 18446744073709551616)) = true then _ else _) = _
  rw [if_pos (by simpa [and_assoc] using c)]
@[simp] theorem subF_int (i j : Int) (h : Hd) : f2I yes2 (fun i j => .int (i - j)) (.int i) (.int j) h = .ok (.int (i - j)) h := id rfl
theorem beq_dec (i j : Int) : (i == j) = decide (i = j) := by
  by_cases e : i = j
  · subst e; simp
  · rw [decide_eq_false e, beq_eq_false_iff_ne.mpr e]
@[simp] theorem eqF_int (i j : Int) (h : Hd) : eqF (.int i) (.int j) h = .ok (.bl (decide (i = j))) h := by
  rw [← beq_dec]; rfl
@[simp] theorem neF_int (i j : Int) (h : Hd) : neF (.int i) (.int j) h = .ok (.bl (!decide (i = j))) h := by
  rw [← beq_dec]; rfl
theorem cmp_int {r : PyData → PyData → Bool} {b : Bool} (i j : Int) (h : Hd) (e : r (.int i) (.int j) = b) : f2P (cmpG r) (.int i) (.int j) h = .ok (.bl b) h := by
  subst e; rfl
@[simp] theorem ltF_int (i j : Int) (h : Hd) : ltF (.int i) (.int j) h = .ok (.bl (decide (i < j))) h := cmp_int i j h (PySem.W.dataLt_int i j)
@[simp] theorem gtF_int (i j : Int) (h : Hd) : gtF (.int i) (.int j) h = .ok (.bl (decide (j < i))) h := cmp_int i j h (PySem.W.dataLt_int j i)
@[simp] theorem leF_int (i j : Int) (h : Hd) : leF (.int i) (.int j) h = .ok (.bl (!decide (j < i))) h := cmp_int i j h (by rw [PySem.W.dataLt_int])
@[simp] theorem geF_int (i j : Int) (h : Hd) : geF (.int i) (.int j) h = .ok (.bl (!decide (i < j))) h := cmp_int i j h (by rw [PySem.W.dataLt_int])
@[simp] theorem isF_ev (x : D) (h : Hd) : isF x .non h = .ok (.bl (isNonD x)) h := id rfl
@[simp] theorem notF_ev (x : D) (h : Hd) : notF x .non h = .ok (.bl (!isNonD x)) h := id rfl
@[simp] theorem intF_int (i : Int) (h : Hd) : intF [.int i] h = .ok (.int i) h := id rfl
/-! ### places -/
def lk (h : Hd) (m : Nat) : Option O := h[m]?
theorem lk_def (h : Hd) (m : Nat) : h[m]? = lk h m := rfl
@[simp] theorem lk_set (h : Hd) (p q : Nat) (u : O) : lk (h.set p u) q = if p = q then (if p < h.length then some u else none) else lk h q := by
  unfold lk
  rw [List.getElem?_set]
@[simp] theorem lk_app (h : Hd) (q : Nat) (u : O) : lk (h ++ [u]) q = if q < h.length then lk h q else if q = h.length then some u else none := by
  unfold lk
  by_cases e : q < h.length
  · rw [if_pos e, List.getElem?_append_left e]
  · rw [if_neg e, List.getElem?_append_right (by omega)]
    by_cases e2 : q = h.length
    · subst e2; simp
    · rw [if_neg e2]; exact List.getElem?_eq_none (by simp; omega)
theorem lk_lt {h : Hd} {m : Nat} {o : O} (e : lk h m = some o) : m < h.length := lt_of_get e
def gO (o : Option O) (y : D) (h : Hd) : Res D := match o with
  | some (.lst ds) => asInt y fun i => onSome (atI ds i) fun d => .ok d h
  | some (.dict kvs) => onSome (keyD y) fun _ => onSome (dget kvs y) fun d => .ok d h
  | some (.lkd kvs) => onSome (keyD y) fun _ => onSome (dget kvs y) fun d => .ok d h
  | _ => .stuck
@[simp] theorem getF_ref (m : Nat) (y : D) (h : Hd) : getF (.ref m) y h = gO (lk h m) y h := by
  unfold getF lk
  cases e : h[m]? with
  | none => simp [gO, e, dixF, dictD]; rfl
  | some o => cases o <;> simp [gO, e, dixF, dictD, ixF, itemsD] <;> rfl
@[simp] theorem getF_tup (ds : List D) (i : Int) (h : Hd) : getF (.tup ds) (.int i) h = onSome (atI ds i) fun d => .ok d h := id rfl
@[simp] theorem gO_lst (ds : List D) (i : Int) (h : Hd) : gO (some (.lst ds)) (.int i) h = onSome (atI ds i) fun d => .ok d h := id rfl
@[simp] theorem gO_dict (kvs : List (D × D)) (s : String) (h : Hd) : gO (some (.dict kvs)) (.str s) h = onSome (dget kvs (.str s)) fun d => .ok d h := id rfl
def stO (o : Option O) (m : Nat) (i v : D) (h : Hd) : Res Unit := match o with
  | some (.lst ds) => asInt i fun k => onSome (ixN ds.length k) fun j => .ok () (h.set m (.lst (ds.set j v)))
  | some (.dict kvs) => onSome (keyD i) fun _ => guard' (kvs.length < LIM) (.ok () (h.set m (.dict (dput kvs i v))))
  | _ => .stuck
@[simp] theorem setF_ref (m : Nat) (i v : D) (h : Hd) : setF (.ref m) i v h = stO (lk h m) m i v h := by
  unfold setF lk
  cases e : h[m]? with
  | none => simp [stO, setD, onDict, e]
  | some o => cases o <;> simp [stO, e, setL, setD, onDict, onLst, asRef]
@[simp] theorem stO_lst (ds : List D) (m : Nat) (k : Int) (v : D) (h : Hd) : stO (some (.lst ds)) m (.int k) v h = onSome (ixN ds.length k) fun j => .ok () (h.set m (.lst (ds.set j v))) := id rfl
@[simp] theorem stO_dict (kvs : List (D × D)) (m : Nat) (s : String) (v : D) (h : Hd) : stO (some (.dict kvs)) m (.str s) v h = guard' (kvs.length < LIM) (.ok () (h.set m (.dict (dput kvs (.str s) v)))) := id rfl
def lnO (o : Option O) (h : Hd) : Res D := match o with
  | some (.lst ds) => .ok (.int ds.length) h
  | some (.dict ds) => .ok (.int ds.length) h
  | _ => .stuck
@[simp] theorem lenA_ref (m : Nat) (h : Hd) : lenA [.ref m] h = lnO (lk h m) h := by
  unfold lenA lk
  cases e : h[m]? with
  | none => simp [lnO, e, lenF, itemsD, onSome]
  | some o => cases o <;> simp [lnO, e, lenF, dlenF, itemsD, onSome, onDict]
@[simp] theorem lnO_lst (ds : List D) (h : Hd) : lnO (some (.lst ds)) h = .ok (.int ds.length) h := id rfl
@[simp] theorem lenA_tup (ds : List D) (h : Hd) : lenA [.tup ds] h = .ok (.int ds.length) h := id rfl
@[simp] theorem lenA_fls (ds : List D) (h : Hd) : lenA [.fls ds] h = .ok (.int ds.length) h := id rfl
def klO {β : Type} (o : Option O) (k : List D → Res β) : Res β := match o with | some (.lst ds) => k ds | _ => .stuck
@[simp] theorem onLst_ev {β : Type} (h : Hd) (m : Nat) (k : List D → Res β) : onLst h m k = klO (lk h m) k := id rfl
@[simp] theorem klO_lst {β : Type} (ds : List D) (k : List D → Res β) : klO (some (.lst ds)) k = k ds := id rfl
@[simp] theorem ev_gtpl (n : Nat) (k : SGs) (m : Nat) (env : En) (h : Hd) : gTp n k (.ref m) env h = klO (lk h m) fun ds => guard' (ds.length = n) (k ds env h) := id rfl
def kiO {β : Type} (o : Option O) (k : String → List (String × D) → Res β) : Res β := match o with | some (.ins c fs) => k c fs | _ => .stuck
@[simp] theorem onIns_ev {β : Type} (h : Hd) (m : Nat) (k : String → List (String × D) → Res β) : onIns h m k = kiO (lk h m) k := id rfl
@[simp] theorem kiO_ins {β : Type} (c : String) (fs : List (String × D)) (k : String → List (String × D) → Res β) : kiO (some (.ins c fs)) k = k c fs := id rfl
@[simp] theorem dget_cons (k' v : D) (r : List (D × D)) (k : D) : dget ((k', v) :: r) k = if keyEq k' k then some v else dget r k := id rfl
@[simp] theorem dget_nil (k : D) : dget [] k = none := id rfl
@[simp] theorem keyEq_str (s t : String) : keyEq (.str s) (.str t) = (s == t) := id rfl
@[simp] theorem keyEq_int (s t : Int) : keyEq (.int s) (.int t) = (s == t) := id rfl
@[simp] theorem keyD_str (s : String) : (keyD (.str s)).isSome = true := id rfl
@[simp] theorem guard_T {β : Type} (r : Res β) : guard' True r = r := id rfl
@[simp] theorem guard_T2 {β : Type} [Decidable True] (r : Res β) : guard' True r = r := if_pos trivial
/-! ### more words -/
@[simp] theorem ev_fld (o : SE) (f : String) (cs : List String) (env : En) (h : Hd) : sFld o f cs env h = (o env h).bind fun d h1 => asRef d fun r => onIns h1 r fun c fs => guard' (c ∈ cs) (onSome (fs.lookup f) fun v => .ok v h1) := id rfl
@[simp] theorem ev_setF (o : SE) (f : String) (cs : List String) (e : SE) (env : En) (h : Hd) : sSetF o f cs e env h = (e env h).lift env fun d h1 => (o env h1).lift env fun od h2 =>
  Res.lift (asRef od fun r => onIns h2 r fun c fs => guard' (c ∈ cs ∧ fs.length < 1000) (.ok () (h2.set r (.ins c (putD f d fs))))) env fun _ h3 => .ok (.nx env) h3 := rfl
@[simp] theorem ev_meth (mm : String) (T : MT) (o : SE) (a : SA) (env : En) (h : Hd) : sMeth mm T o a env h = (o env h).bind fun d h1 => asRef d fun r => onIns h1 r fun c fs => onSome (T c) fun t => guard' (fs.lookup mm = none) ((a env h1).bind fun ds h2 => guard' (ds.length + 1 + t.2.2.length = t.1) (t.2.1 (d :: ds ++ t.2.2) h2)) := id rfl
def onNon (v : D) (r : Res D) : Res D := match v with | .non => r | _ => .stuck
@[simp] theorem onNon_non (r : Res D) : onNon .non r = r := id rfl
@[simp] theorem ev_newI (c : String) (n : Nat) (M : FA) (dds : List D) (a : SA) (env : En) (h : Hd) : sNewI c n M dds a env h = (a env h).bind fun ds h1 => guard' (ds.length + 1 + dds.length = n) ((M (.ref h1.length :: (ds ++ dds)) (h1 ++ [.ins c []])).bind fun v h2 => onNon v (.ok (.ref h1.length) h2)) := by
  unfold sNewI
  congr
@[simp] theorem ev_isi (T : String) (f : SE) (env : En) (h : Hd) : sIsi T f env h = (f env h).bind fun d h1 => isiF T d h1 := id rfl
@[simp] theorem ev_isiT (T : List String) (f : SE) (env : En) (h : Hd) : sIsiT T f env h = (f env h).bind fun d h1 => isiTF T d h1 := id rfl
@[simp] theorem ev_raise (c : String) (ns : List String) (fa : SA) (env : En) (h : Hd) : sRaise c ns fa env h = (fa env h).lift env fun ds h1 => if ds.length = ns.length ∧ ds.length ≤ 900 then .ok (.exc c (ns.zip ds).reverse env) h1 else .stuck := id rfl
@[simp] theorem ev_append (f g : SE) (env : En) (h : Hd) : sAppend f g env h = (f env h).bind fun x h1 => asRef x fun m => onLst h1 m fun _ => (g env h1).bind fun d h2 => onLst h2 m fun ds => guard' (ds.length < LIM) (.ok .non (h2.set m (.lst (ds ++ [d])))) := id rfl
@[simp] theorem ev_lstRg (f : SE) (env : En) (h : Hd) : sLstRg f env h = (f env h).bind fun d h1 => asInt d fun b => guard' (-16777216 ≤ b ∧ b ≤ 16777216) (.ok (rangeL 0 b.toNat) h1) := id rfl
@[simp] theorem ev_chain (F F' : F2) (f g k : SE) (env : En) (h : Hd) : sChain F F' f g k env h = (f env h).bind fun x h1 => (g env h1).bind fun y h2 => (F x y h2).bind fun t h3 => asBl t fun b => iteR b ((k env h3).bind fun z h4 => F' y z h4) (.ok (.bl false) h3) := id rfl
def rg1 (d : D) (h : Hd) : Res ItD := asInt d fun j => guard' (-BIG ≤ j ∧ j < BIG) (.ok (.snap (rangeL 0 j.toNat)) h)
@[simp] theorem ev_range1 (f : SE) (env : En) (h : Hd) : sRange1 f env h = (f env h).bind fun d h1 => rg1 d h1 := by
  unfold sRange1
  congr
theorem big_a : -BIG ≤ 0 := by decide +kernel
theorem big_b : (1000000 : Int) ≤ BIG := by decide +kernel
@[simp] theorem rg1_int (j : Int) (h : Hd) (c : 0 ≤ j ∧ j < 1000000) : rg1 (.int j) h = .ok (.snap (rangeL 0 j.toNat)) h :=
  guard_true _ _ ⟨Int.le_trans big_a c.1, Int.lt_of_lt_of_le c.2 big_b⟩
@[simp] theorem loop_snap0 (g : SG) (b : SS) (ds : List D) (h1 : Hd) (env : En) (h : Hd) : loopI (.snap ds) g b (turnsD (.snap ds) h1) 0 env h = loopItems g b ds env h := loop_snap g b ds ds.length 0 env h rfl
@[simp] theorem comp_snap0 (g : SG) (t : SB) (f : SE) (ds : List D) (h1 : Hd) (env : En) (h : Hd) : compI (.snap ds) g t f env (turnsD (.snap ds) h1) 0 0 h = compItems g t f env ds 0 h := comp_snap g t f env ds ds.length 0 0 h rfl
/-! ### what comes out -/
def Tr {α : Type} (r : Res α) (Q : α → Hd → Prop) : Prop := match r with | .ok a h => Q a h | _ => False
@[simp] theorem Tr_ok {α : Type} (a : α) (h : Hd) (Q : α → Hd → Prop) : Tr (.ok a h) Q = Q a h := id rfl
theorem Tr.get {α : Type} {r : Res α} {Q : α → Hd → Prop} (t : Tr r Q) : ∃ a h, r = .ok a h ∧ Q a h := by
  cases r with
  | ok a h => exact ⟨a, h, rfl, t⟩
  | exc _ _ _ => exact t.elim
  | stuck => exact t.elim
end Kf
end
set_option maxHeartbeats 8000000
noncomputable section
namespace Kq
open PySem PySem.Spec L2 Kf
/-- a pen at p: its cells at c -/
def penO (c : Nat) (at' dg ct fo : Int) : O := .dict [(.str "cells", .ref c), (.str "at", .int at'), (.str "digits", .int dg), (.str "count", .int ct), (.str "fold", .int fo)]
structure IsPen (h : Hd) (p c n : Nat) : Prop where
  ex : ∃ (cells : List Int) (at' dg ct fo : Int), lk h p = some (penO c at' dg ct fo) ∧ lk h c = some (.lst (cells.map D.int)) ∧ c ≠ p ∧ 0 ≤ at' ∧ at' ≤ cells.length ∧ 0 ≤ dg ∧ 0 ≤ ct ∧ ct ≤ n ∧ 0 ≤ fo ∧ fo < 2147483648
theorem atI_map {cells : List Int} {i : Int} (h0 : 0 ≤ i) (h1 : i < cells.length) : atI (cells.map D.int) i = some (.int (cells[i.toNat]'(by omega))) := by
  unfold atI ixN
  rw [if_pos h0, if_pos (by simpa using h1)]
  simp
def drawC : SS :=
    (sSeq (sIf (sTest (s2 gtF (s2 getF (sVar 0) (sC (.str "digits"))) (sC (.int 0))))
    (sSeq (sAsg (s2 modF (sCall intF (sCons (s2 getF (sVar 0) (sC (.str "digits"))) sNil)) (sVar 1)) (gN 3))
    (sSeq (sAsg (s2 fdivF (s2 getF (sVar 0) (sC (.str "digits"))) (sVar 1)) (gSub' (sVar 0) (sC (.str "digits")) setF))
    (sRet (sVar 3))))
    sNext)
    (sSeq (sAsg (s2 addA (s2 addA (s2 getF (sVar 0) (sC (.str "fold"))) (s2 mulB (s2 getF (sVar 0) (sC (.str "count"))) (sC (.int 7907)))) (sC (.int 37))) (gN 4))
    (sRet (s2 modF (s2 fdivF (sCall intF (sCons (s2 modF (s2 powF (sVar 4) (sC (.int 17))) (sC (.int 2305843009213693951))) sNil)) (sC (.int 128))) (sVar 1)))))
def s_law_drawA : SS := (sAsg (s2 addA (s2 getF (sVar 0) (sC (.str "count"))) (sC (.int 1))) (gSub' (sVar 0) (sC (.str "count")) setF))
def s_law_drawB : SS := (sIf (sAnd (sTest (s2 eqF (s2 getF (sVar 0) (sC (.str "digits"))) (sC (.int 0)))) (sTest (s2 ltF (s2 getF (sVar 0) (sC (.str "at"))) (sCall lenA (sCons (s2 getF (sVar 0) (sC (.str "cells"))) sNil)))))
    (sSeq (sAsg (s2 getF (s2 getF (sVar 0) (sC (.str "cells"))) (s2 getF (sVar 0) (sC (.str "at")))) (gN 2))
    (sSeq (sAsg (s2 addA (s2 getF (sVar 0) (sC (.str "at"))) (sC (.int 1))) (gSub' (sVar 0) (sC (.str "at")) setF))
    (sIf (sTest (s2 geF (sVar 2) (s2 powF (sC (.int 10)) (sC (.int 18)))))
    (sAsg (s2 (f2I yes2 fun i j => .int (i - j)) (sVar 2) (s2 powF (sC (.int 10)) (sC (.int 18)))) (gSub' (sVar 0) (sC (.str "digits")) setF))
    (sAsg (s2 modF (sCall intF (sCons (s2 addA (s2 mulB (s2 getF (sVar 0) (sC (.str "fold"))) (sC (.int 69069))) (sVar 2)) sNil)) (sC (.int 2147483587))) (gSub' (sVar 0) (sC (.str "fold")) setF)))))
    sNext)
theorem draw_tr {h : Hd} {p c n : Nat} (P : IsPen h p c n) (hn : n < 1000000000) {many : Int} (h0 : 0 < many) (h1 : many < 1073741824) {Q : D → Hd → Prop}
    (kQ : ∀ (r : Int) (o : O), 0 ≤ r → r < many → IsPen (h.set p o) p c (n + 1) → Q (.int r) (h.set p o)) : Tr (M_law_draw [.ref p, .int many] h) Q := by
  obtain ⟨cells, at', dg, ct, fo, e1, e2, hc, a0, a1, d0, c0, c1, f0, f1⟩ := P.ex
  unfold penO at e1
  have hp := lk_lt e1
  have hcp : ¬ p = c := fun z => hc z.symm
  have pen : ∀ (at2 dg2 fo2 : Int), 0 ≤ at2 → at2 ≤ cells.length → 0 ≤ dg2 → 0 ≤ fo2 → fo2 < 2147483648 → IsPen (h.set p (penO c at2 dg2 (ct + 1) fo2)) p c (n + 1) := fun at2 dg2 fo2 q3 q4 q5 q6 q7 =>
    ⟨cells, at2, dg2, ct + 1, fo2, by simp [hp], by simp [hcp, e2], hc, q3, q4, q5, by omega, by omega, q6, q7⟩
  have m0 : ∀ x : Int, 0 ≤ x % many := fun x => Int.emod_nonneg _ (by omega)
  have m1 : ∀ x : Int, x % many < many := fun x => Int.emod_lt_of_pos _ h0
  have key : ∀ (at2 dg2 fo2 : Int) (u : Option D), 0 ≤ at2 → at2 ≤ cells.length → 0 ≤ dg2 → 0 ≤ fo2 → fo2 < 2147483648 → Tr (finR (drawC [some (.ref p), some (.int many), u, none, none] (h.set p (penO c at2 dg2 (ct + 1) fo2))))
      Q := by
    intro at2 dg2 fo2 u q3 q4 q5 q6 q7
    have := pen at2 dg2 fo2 q3 q4 q5 q6 q7
    have := pen at2 (dg2 / many) fo2 q3 q4 (Int.ediv_nonneg q5 (by omega)) q6 q7
    unfold penO at *
    by_cases hd : 0 < dg2
    · simp (disch := omega) [drawC, hp, hd, LIM_eq, dput, dhas]
      exact kQ _ _ (m0 _) (m1 _) (by assumption)
    · simp (disch := omega) [drawC, hp, hd, LIM_eq, dput, dhas]
      exact kQ _ _ (m0 _) (m1 _) (by assumption)
  have enter : ∀ Q, (Tr (finR (andThen (s_law_drawA [some (.ref p), some (.int many), none, none, none] h) (sSeq s_law_drawB drawC))) Q) → Tr (M_law_draw [.ref p, .int many] h) Q := fun Q z => z
  apply enter
  have eA : s_law_drawA [some (.ref p), some (.int many), none, none, none] h = .ok (.nx [some (.ref p), some (.int many), none, none, none]) (h.set p (penO c at' dg (ct + 1) fo)) := by
    unfold penO
    simp (disch := omega) [s_law_drawA, e1, hp, LIM_eq, dput, dhas]
  rw [eA, andThen_nx, ev_seq]
  by_cases hd : dg = 0
  · by_cases ha : at' < cells.length
    · have ea := atI_map a0 ha
      generalize cells[at'.toNat]'(by omega) = cell at ea
      by_cases hb : cell < 1000000000000000000
      · have := key (at' + 1) 0 ((fo * 69069 + cell) % 2147483587) (some (.int cell)) (by omega) (by omega) (by omega) (by omega) (by omega)
        unfold penO at *
        simp (disch := omega) [s_law_drawB, hp, LIM_eq, dput, dhas, hd, ha, ea, hb, hcp, e2]
        exact this
      · have := key (at' + 1) (cell - 1000000000000000000) fo (some (.int cell)) (by omega) (by omega) (by omega) (by omega) (by omega)
        unfold penO at *
        simp (disch := omega) [s_law_drawB, hp, LIM_eq, dput, dhas, hd, ha, ea, hb, hcp, e2]
        exact this
    · have := key at' 0 fo none (by omega) (by omega) (by omega) (by omega) (by omega)
      unfold penO at *
      simp (disch := omega) [s_law_drawB, hp, LIM_eq, dput, dhas, hd, ha, hcp, e2]
      exact this
  · have := key at' dg fo none (by omega) (by omega) (by omega) (by omega) (by omega)
    unfold penO at *
    simp (disch := omega) [s_law_drawB, hp, LIM_eq, dput, dhas, hd, hcp, e2]
    exact this
theorem draw_ex {h : Hd} {p c n : Nat} (P : IsPen h p c n) (hn : n < 1000000000) {many : Int} (h0 : 0 < many) (h1 : many < 1073741824) :
    ∃ (r : Int) (o : O), M_law_draw [.ref p, .int many] h = .ok (.int r) (h.set p o) ∧ 0 ≤ r ∧ r < many ∧ IsPen (h.set p o) p c (n + 1) := by
  obtain ⟨a, h', e, r, o, e1, e2, q⟩ := (draw_tr P hn h0 h1 (Q := fun d h' => ∃ (r : Int) (o : O), d = .int r ∧ h' = h.set p o ∧ 0 ≤ r ∧ r < many ∧ IsPen (h.set p o) p c (n + 1)) fun r o a b q => ⟨r, o, rfl, rfl, a, b, q⟩).get
  subst e1 e2
  exact ⟨r, o, e, q⟩
theorem IsPen.lt {h : Hd} {p c n : Nat} (P : IsPen h p c n) : p < h.length := by
  obtain ⟨cells, at', dg, ct, fo, e1, _⟩ := P.ex
  exact lk_lt e1
theorem IsPen.ltc {h : Hd} {p c n : Nat} (P : IsPen h p c n) : c < h.length := by
  obtain ⟨cells, at', dg, ct, fo, _, e1, _⟩ := P.ex
  exact lk_lt e1
theorem IsPen.ne {h : Hd} {p c n : Nat} (P : IsPen h p c n) : c ≠ p := by
  obtain ⟨cells, at', dg, ct, fo, _, _, e1, _⟩ := P.ex
  exact e1
theorem IsPen.mono {h h' : Hd} {p c n n' : Nat} (P : IsPen h p c n) (hn : n ≤ n') (e1 : lk h' p = lk h p) (e2 : lk h' c = lk h c) : IsPen h' p c n' := by
  obtain ⟨cells, at', dg, ct, fo, q1, q2, q3, q4, q5, q6, q7, q8, q9⟩ := P.ex
  exact ⟨cells, at', dg, ct, fo, by rw [e1, q1], by rw [e2, q2], q3, q4, q5, q6, q7, by omega, q9⟩
/-- what stays: all but the places T -/
structure Fr (T : List Nat) (h h' : Hd) : Prop where
  len : h.length ≤ h'.length
  at_ : ∀ m, m < h.length → m ∉ T → lk h' m = lk h m
theorem Fr.refl {T : List Nat} {h : Hd} : Fr T h h := ⟨Nat.le_refl _, fun _ _ _ => rfl⟩
theorem Fr.trans {T : List Nat} {h h' h'' : Hd} (a : Fr T h h') (b : Fr T h' h'') : Fr T h h'' := ⟨Nat.le_trans a.len b.len, fun m hm hT => (b.at_ m (Nat.lt_of_lt_of_le hm a.len) hT).trans (a.at_ m hm hT)⟩
theorem Fr.sub {T T' : List Nat} {h h' : Hd} (a : Fr T h h') (s : ∀ m, m ∈ T → m ∈ T') : Fr T' h h' := ⟨a.len, fun m hm hT => a.at_ m hm fun z => hT (s m z)⟩
theorem Fr.get {T : List Nat} {h h' : Hd} {m : Nat} {o : O} (a : Fr T h h') (e : lk h m = some o) (hT : m ∉ T) : lk h' m = some o := (a.at_ m (lk_lt e) hT).trans e
theorem Fr.set {T : List Nat} {h : Hd} {p : Nat} {o : O} (hp : p ∈ T) : Fr T h (h.set p o) := ⟨by simp, fun m _ hT => by
  rw [lk_set, if_neg]
  intro z; subst z; exact hT hp⟩
theorem Fr.app {T : List Nat} {h : Hd} {o : O} : Fr T h (h ++ [o]) := ⟨by simp, fun m hm _ => by rw [lk_app, if_pos hm]⟩
theorem Fr.pen {h h' : Hd} {T : List Nat} {p c n : Nat} (a : Fr T h h') (P : IsPen h p c n) (h1 : p ∉ T) (h2 : c ∉ T) : IsPen h' p c n := P.mono (Nat.le_refl _) (a.at_ p P.lt h1) (a.at_ c P.ltc h2)
/-! ### flat data -/
def Dk (k : Nat) (d : D) : Prop := ∃ q, ∀ h n, k ≤ n → py h n d = some q
theorem Dk.up {k j : Nat} {d : D} (h : Dk k d) (e : k ≤ j) : Dk j d := by
  obtain ⟨q, z⟩ := h
  exact ⟨q, fun h n hn => z h n (by omega)⟩
theorem dk_int {i : Int} : Dk 1 (.int i) := ⟨.int i, fun h n hn => by cases n with | zero => omega | succ n => rfl⟩
theorem dk_str {i : String} : Dk 1 (.str i) := ⟨.str (Str.ofString i), fun h n hn => by cases n with | zero => omega | succ n => rfl⟩
theorem dk_bl {i : Bool} : Dk 1 (.bl i) := ⟨.bool i, fun h n hn => by cases n with | zero => omega | succ n => rfl⟩
theorem dk_non : Dk 1 .non := ⟨.none, fun h n hn => by cases n with | zero => omega | succ n => rfl⟩
theorem dk_all {k : Nat} : ∀ {ds : List D}, (∀ d ∈ ds, Dk k d) → ∃ qs, ∀ h n, k ≤ n → allS (ds.map (py h n)) = some qs
  | [], _ => ⟨[], fun _ _ _ => rfl⟩
  | d :: ds, z => by
    obtain ⟨q, e⟩ := z d List.mem_cons_self
    obtain ⟨qs, es⟩ := dk_all fun x hx => z x (List.mem_cons_of_mem _ hx)
    refine ⟨q :: qs, fun h n hn => ?_⟩
    rw [List.map_cons, e h n hn]
    show (allS (ds.map (py h n))).map (q :: ·) = _
    rw [es h n hn]; rfl
theorem dk_tup {k : Nat} {ds : List D} (z : ∀ d ∈ ds, Dk k d) : Dk (k + 1) (.tup ds) := by
  obtain ⟨qs, e⟩ := dk_all z
  refine ⟨.tuple qs, fun h n hn => ?_⟩
  obtain ⟨m, rfl⟩ : ∃ m, n = m + 1 := ⟨n - 1, by omega⟩
  show (allS (ds.map (py h m))).map PyData.tuple = _
  rw [e h m (by omega)]; rfl
/-- a value of the menus: flat data, or a list of such -/
inductive Val (h : Hd) : D → Prop where
  | flat {d : D} : Dk 10 d → Val h d
  | lst {m : Nat} {ds : List D} : lk h m = some (.lst ds) → (∀ d ∈ ds, Dk 10 d) → Val h (.ref m)
theorem Val.fr {h h' : Hd} {T : List Nat} {d : D} (v : Val h d) (f : Fr T h h') (hT : ∀ m, d = .ref m → m ∉ T) : Val h' d := by
  cases v with
  | flat k => exact .flat k
  | @lst m ds e k => exact .lst (f.get e (hT m rfl)) k
/-! ### a pick -/
theorem atI_mem {ds : List D} {i : Int} (h0 : 0 ≤ i) (h1 : i < ds.length) : ∃ d, atI ds i = some d ∧ d ∈ ds := by
  unfold atI ixN
  rw [if_pos h0, if_pos (by simpa using h1)]
  have : i.toNat < ds.length := by omega
  exact ⟨ds[i.toNat], by simp [this], List.getElem_mem _⟩
theorem pick_ex {h : Hd} {p c n m : Nat} (P : IsPen h p c n) (hn : n < 1000000000) {ds : List D} (e : lk h m = some (.lst ds)) (hm : m ≠ p) (h0 : 0 < ds.length) (h1 : ds.length < 1000000) :
    ∃ (d : D) (o : O), M_law_pick [.ref p, .ref m] h = .ok d (h.set p o) ∧ d ∈ ds ∧ IsPen (h.set p o) p c (n + 1) := by
  obtain ⟨r, o, e1, r0, r1, P1⟩ := draw_ex P hn (many := (ds.length : Int)) (by omega) (by omega)
  obtain ⟨d, ed, hd⟩ := atI_mem r0 r1
  refine ⟨d, o, ?_, hd, P1⟩
  have hpm : ¬ p = m := fun z => hm z.symm
  simp [M_law_pick, defM_ev, s_law_pick, startD, e, e1, hpm, ed, guard_true]
end Kq
end
set_option maxHeartbeats 8000000
noncomputable section
namespace Kq
open PySem PySem.Spec L2 Kf
@[simp] theorem itOf_tup (ds : List D) (h : Hd) : itOf (.tup ds) h = some (.snap ds) := id rfl
@[simp] theorem itOf_fls (ds : List D) (h : Hd) : itOf (.fls ds) h = some (.snap ds) := id rfl
def ivO (o : Option O) (m : Nat) : Option ItD := match o with | some (.lst _) => some (.live m) | _ => none
@[simp] theorem itOf_ref (m : Nat) (h : Hd) : itOf (.ref m) h = ivO (lk h m) m := id rfl
@[simp] theorem ivO_lst (m : Nat) (ds : List D) : ivO (some (.lst ds)) m = some (.live m) := id rfl
@[simp] theorem loopItems_nil (g : SG) (b : SS) (env : En) (h : Hd) : loopItems g b [] env h = .ok (.nx env) h := id rfl
/-- a turn's end -/
def turnE (r : Rs) (k : En → Hd → Rs) : Rs := match r with
  | .ok (.nx env2) h2 => k env2 h2
  | .ok (.ct env2) h2 => k env2 h2
  | .ok (.brk env2) h2 => .ok (.nx env2) h2
  | r => r
@[simp] theorem turnE_nx (env : En) (h : Hd) (k : En → Hd → Rs) : turnE (.ok (.nx env) h) k = k env h := id rfl
@[simp] theorem turnE_ret (d : D) (h : Hd) (k : En → Hd → Rs) : turnE (.ok (.ret d) h) k = .ok (.ret d) h := id rfl
theorem loopItems_cons (g : SG) (b : SS) (d : D) (ds : List D) (env : En) (h : Hd) : loopItems g b (d :: ds) env h = (noX (g d env h)).lift env fun env1 h1 => turnE (b env1 h1) fun env2 h2 => loopItems g b ds env2 h2 := by
  conv => lhs; unfold loopItems
  congr
@[simp] theorem listF_fls (ds : List D) (h : Hd) : listF [.fls ds] h = .ok ds h := id rfl
@[simp] theorem listF_tup (ds : List D) (h : Hd) : listF [.tup ds] h = .ok ds h := id rfl
def itemsO (o : Option O) : Option (List D) := match o with | some (.lst ds) => some ds | _ => none
@[simp] theorem itemsO_lst (ds : List D) : itemsO (some (.lst ds)) = some ds := id rfl
@[simp] theorem listF_ref (m : Nat) (h : Hd) : listF [.ref m] h = onSome (itemsO (lk h m)) fun es => .ok es h := id rfl
@[simp] theorem tupF_ref (m : Nat) (h : Hd) : tupF [.ref m] h = onSome (itemsO (lk h m)) fun es => .ok (.tup es) h := id rfl
/-! ### the pen -/
def penB : SS := (sAsg (s2 modF (sCall intF (sCons (s2 addA (s2 mulB (sVar 1) (sC (.int 41))) (sVar 2)) sNil)) (sC (.int 1000000007))) (gN 1))
theorem pen_loop (a : Option D) (h : Hd) : ∀ (ns : List Int) (f : Int) (x : Option D), 0 ≤ f → f < 1000000007 → ∃ (f' : Int) (x' : Option D), 0 ≤ f' ∧ f' < 1000000007 ∧
    loopItems (gN 2) penB (ns.map D.int) [a, some (.int f), x] h = .ok (.nx [a, some (.int f'), x']) h
  | [], f, x, q1, q2 => ⟨f, x, q1, q2, rfl⟩
  | i :: ns, f, x, q1, q2 => by
    obtain ⟨f', x', r1, r2, r3⟩ := pen_loop a h ns ((f * 41 + i) % 1000000007) (some (.int i)) (by omega) (by omega)
    refine ⟨f', x', r1, r2, ?_⟩
    rw [List.map_cons, loopItems_cons]
    simp (disch := omega) [penB]
    exact r3
theorem pen_ex (ns : List Int) : ∃ h', M_law_pen [.fls (ns.map D.int)] [] = .ok (.ref 1) h' ∧ IsPen h' 1 0 0 ∧ h'.length = 2 := by
  obtain ⟨f, x, q1, q2, q3⟩ := pen_loop (some (.fls (ns.map D.int))) [] ns 0 none (by omega) (by omega)
  have e : M_law_pen [.fls (ns.map D.int)] [] = .ok (.ref 1) [.lst (ns.map D.int), penO 0 0 0 0 f] := by
    unfold penB at q3
    simp [M_law_pen, defM_ev, s_law_pen, startD, q3, guard_true, dmerge, dput, dhas, penO, keyD]
  exact ⟨_, e, ⟨ns, 0, 0, 0, f, rfl, rfl, by decide, by omega, by omega, by omega, by omega, by omega, q1, by omega⟩, rfl⟩
theorem comp_pure {it : ItD} {g : SG} {t : SB} {f : SE} {env : En} {h : Hd} {β : D → Bool} {φ : D → D} : ∀ (ds : List D) (m i n : Nat), (∀ j, nextD it h (i + j) = some ds[j]?) → ds.length < m → n + ds.length ≤ LIM →
    (∀ d ∈ ds, ∃ env1, g d env h = .ok env1 h ∧ t env1 h = .ok (β d) h ∧ (β d = true → f env1 h = .ok (φ d) h)) → compI it g t f env m i n h = .ok ((ds.filter β).map φ) h
  | [], m, i, n, hn, hm, _, _ => by
    obtain ⟨m, rfl⟩ : ∃ k, m = k + 1 := ⟨m - 1, by simp at hm; omega⟩
    unfold compI
    rw [show nextD it h i = some none by simpa using hn 0]
    rfl
  | d :: ds, m, i, n, hn, hm, hl, hp => by
    obtain ⟨m, rfl⟩ : ∃ k, m = k + 1 := ⟨m - 1, by simp at hm; omega⟩
    have hm' : ds.length < m := by simp at hm; omega
    have hl' : n + ds.length + 1 ≤ LIM := by simp at hl; omega
    have hn' : ∀ j, nextD it h (i + 1 + j) = some ds[j]? := fun j => by
      have := hn (j + 1)
      rw [show i + 1 + j = i + (j + 1) by omega]
      simpa using this
    have ih := fun n (q : n + ds.length ≤ LIM) => comp_pure ds m (i + 1) n hn' hm' q fun x hx => hp x (List.mem_cons_of_mem _ hx)
    obtain ⟨env1, e1, e2, e3⟩ := hp d List.mem_cons_self
    unfold compI
    rw [show nextD it h i = some (some d) by simpa using hn 0]
    dsimp only
    rw [e1, ev_nox, Res.bind_ok, e2, ev_nox, Res.bind_ok]
    cases hb : β d with
    | true =>
      rw [if_pos rfl, e3 hb, ev_nox, Res.bind_ok, if_pos (by omega), ih (n + 1) (by omega)]
      simp [List.filter_cons, hb]
    | false =>
      rw [if_neg (by simp), ih n (by omega)]
      simp [List.filter_cons, hb]
theorem comp_snapP {g : SG} {t : SB} {f : SE} {env : En} {h : Hd} {h1 : Hd} {β : D → Bool} {φ : D → D} (ds : List D) (hl : ds.length ≤ LIM)
    (hp : ∀ d ∈ ds, ∃ env1, g d env h = .ok env1 h ∧ t env1 h = .ok (β d) h ∧ (β d = true → f env1 h = .ok (φ d) h)) : compI (.snap ds) g t f env (turnsD (.snap ds) h1) 0 0 h = .ok ((ds.filter β).map φ) h :=
  comp_pure ds _ 0 0 (fun j => by rw [Nat.zero_add]; rfl) (Nat.lt_succ_self _) (by omega) hp
theorem comp_liveP {g : SG} {t : SB} {f : SE} {env : En} {h : Hd} {m : Nat} {β : D → Bool} {φ : D → D} (ds : List D) (e : lk h m = some (.lst ds)) (hl : ds.length ≤ LIM)
    (hp : ∀ d ∈ ds, ∃ env1, g d env h = .ok env1 h ∧ t env1 h = .ok (β d) h ∧ (β d = true → f env1 h = .ok (φ d) h)) : compI (.live m) g t f env (turnsD (.live m) h) 0 0 h = .ok ((ds.filter β).map φ) h := by
  have e' : h[m]? = some (.lst ds) := e
  refine comp_pure ds _ 0 0 (fun j => ?_) ?_ (by omega) hp
  · rw [Nat.zero_add]; simp [nextD, e']
  · simp [turnsD, e']
theorem rangeL_mem {n : Nat} {d : D} (h : d ∈ rangeL 0 n) : ∃ k : Nat, k < n ∧ d = .int k := by
  unfold rangeL at h
  simp at h
  obtain ⟨k, hk, rfl⟩ := h
  exact ⟨k, hk, by simp⟩
theorem rangeL_len (n : Nat) : (rangeL 0 n).length = n := by simp [rangeL]
theorem rangeL_dk {n : Nat} : ∀ d ∈ rangeL 0 n, Dk 1 d := fun d hd => by
  obtain ⟨k, _, rfl⟩ := rangeL_mem hd
  exact dk_int
/-- many draws -/
theorem comp_draws {p c : Nat} {a : En} {many : Int} (h0 : 0 < many) (h1 : many < 1073741824) (f : SE) (hf : ∀ env1 h, (∃ x, env1 = some (.ref p) :: x) → f env1 h = M_law_draw [.ref p, .int many] h) (i : Nat) (hi : 0 < i) : ∀ (ds : List D) (n k : Nat) (h : Hd), IsPen h p c n → n + ds.length < 1000000 → k + ds.length ≤ LIM →
    ∃ (o : O) (out : List Int), compItems (gN i) sYes f (some (.ref p) :: a) ds k h = .ok (out.map D.int) (h.set p o) ∧ out.length = ds.length ∧ IsPen (h.set p o) p c (n + ds.length)
  | [], n, k, h, P, _, _ => by
    obtain ⟨cells, at', dg, ct, fo, q1, _⟩ := P.ex
    refine ⟨penO c at' dg ct fo, [], ?_, rfl, ?_⟩
    · have : h.set p (penO c at' dg ct fo) = h := by
        apply List.ext_getElem?
        intro j
        have := lk_set h p j (penO c at' dg ct fo)
        unfold lk at this q1
        rw [this]
        by_cases e : p = j
        · subst e; rw [if_pos rfl, if_pos P.lt, q1]
        · rw [if_neg e]
      rw [this]; rfl
    · refine P.mono (by simp) ?_ ?_
      · rw [lk_set, if_pos rfl, if_pos P.lt, q1]
      · rw [lk_set, if_neg (fun z => P.ne z.symm)]
  | d :: ds, n, k, h, P, hn, hk => by
    simp only [List.length_cons] at hn hk
    obtain ⟨r, o, e1, r0, r1, P1⟩ := draw_ex P (by omega) h0 h1
    obtain ⟨o2, out, e2, e3, e4⟩ := comp_draws h0 h1 f hf i hi ds (n + 1) (k + 1) _ P1 (by omega) (by omega)
    refine ⟨o2, r :: out, ?_, by simp [e3], ?_⟩
    · unfold compItems
      have hg : (some (D.ref p) :: a).set i (some d) = some (.ref p) :: a.set (i - 1) (some d) := by
        obtain ⟨j, rfl⟩ : ∃ j, i = j + 1 := ⟨i - 1, by omega⟩
        rfl
      rw [ev_gN, ev_nox, Res.bind_ok, ev_yes, ev_nox, Res.bind_ok, if_pos rfl, hf _ _ ⟨_, hg⟩, e1, ev_nox, Res.bind_ok, if_pos (by omega), e2, Res.bind_ok, List.set_set]
      rfl
    · rw [List.set_set] at e4
      have : n + 1 + ds.length = n + (d :: ds).length := by simp; omega
      rw [← this]; exact e4
@[simp] theorem compItems_nil (g : SG) (t : SB) (f : SE) (env : En) (n : Nat) (h : Hd) : compItems g t f env [] n h = .ok [] h := id rfl
theorem comp_itemsP {g : SG} {t : SB} {f : SE} {env : En} {h : Hd} {β : D → Bool} {φ : D → D} (ds : List D) (hl : ds.length ≤ LIM)
    (hp : ∀ d ∈ ds, ∃ env1, g d env h = .ok env1 h ∧ t env1 h = .ok (β d) h ∧ (β d = true → f env1 h = .ok (φ d) h)) : compItems g t f env ds 0 h = .ok ((ds.filter β).map φ) h := by
  rw [← comp_snapP (h1 := h) ds hl hp, comp_snap0]
@[simp] theorem wipeD_one (env : En) (v : Nat) : wipeD env [v] = env.set v none := id rfl
@[simp] theorem wipeD_two (env : En) (v w : Nat) : wipeD env [v, w] = (env.set w none).set v none := id rfl
theorem lk_append (h l : Hd) (q : Nat) : lk (h ++ l) q = if q < h.length then lk h q else l[q - h.length]? := by
  unfold lk
  by_cases e : q < h.length
  · rw [if_pos e, List.getElem?_append_left e]
  · rw [if_neg e, List.getElem?_append_right (by omega)]
theorem drawF {h : Hd} {p c n : Nat} (P : IsPen h p c n) (hn : n < 1000000000) {many : Int} (h0 : 0 < many) (h1 : many < 1073741824) :
    ∃ (r : Int) (h' : Hd), M_law_draw [.ref p, .int many] h = .ok (.int r) h' ∧ 0 ≤ r ∧ r < many ∧ IsPen h' p c (n + 1) ∧ Fr [p] h h' := by
  obtain ⟨r, o, e, a, b, q⟩ := draw_ex P hn h0 h1
  exact ⟨r, _, e, a, b, q, .set (by simp)⟩
theorem pickF {h : Hd} {p c n m : Nat} (P : IsPen h p c n) (hn : n < 1000000000) {ds : List D} (e : lk h m = some (.lst ds)) (hm : m ≠ p) (h0 : 0 < ds.length) (h1 : ds.length < 1000000) :
    ∃ (d : D) (h' : Hd), M_law_pick [.ref p, .ref m] h = .ok d h' ∧ d ∈ ds ∧ IsPen h' p c (n + 1) ∧ Fr [p] h h' := by
  obtain ⟨d, o, e, a, q⟩ := pick_ex P hn e hm h0 h1
  exact ⟨d, _, e, a, q, .set (by simp)⟩
theorem Fr.apps {T : List Nat} {h l : Hd} : Fr T h (h ++ l) := ⟨by simp, fun m hm _ => by rw [lk_append, if_pos hm]⟩
@[simp] theorem addA_ref (m k : Nat) (h : Hd) : addA (.ref m) (.ref k) h = klO (lk h m) fun xs => klO (lk h k) fun ys => guard' (xs.length + ys.length ≤ LIM) (.ok (.ref h.length) (h ++ [.lst (xs ++ ys)])) := id rfl
/-- a loop whose turns all go on -/
theorem loop_inv {it : ItD} {g : SG} {b : SS} (I : Nat → En → Hd → Prop) (ds : List D) (hn : ∀ i env h, I i env h → nextD it h i = some ds[i]?)
    (hs : ∀ i env h d, ds[i]? = some d → I i env h → ∃ env1 h1, g d env h = .ok env1 h1 ∧ ∃ env2 h2, b env1 h1 = .ok (.nx env2) h2 ∧ I (i + 1) env2 h2) :
    ∀ m i env h, I i env h → ds.length < m + i → i ≤ ds.length → ∃ env' h', loopI it g b m i env h = .ok (.nx env') h' ∧ I ds.length env' h'
  | 0, i, env, h, _, l, l2 => absurd l (by omega)
  | m + 1, i, env, h, a, l, l2 => by
    unfold loopI
    rw [hn i env h a]
    by_cases hi : i < ds.length
    · rw [List.getElem?_eq_getElem hi]
      obtain ⟨env1, h1, e1, env2, h2, e2, a2⟩ := hs i env h _ (List.getElem?_eq_getElem hi) a
      obtain ⟨env', h', e3, a3⟩ := loop_inv I ds hn hs m (i + 1) env2 h2 a2 (by omega) (by omega)
      refine ⟨env', h', ?_, a3⟩
      dsimp only
      rw [e1, ev_nox, Res.lift_ok, e2]
      exact e3
    · rw [List.getElem?_eq_none (Nat.le_of_not_lt hi)]
      have : i = ds.length := by omega
      subst this
      exact ⟨env, h, rfl, a⟩
def kD (k : Nat) : D := .int (k : Int)
theorem atI_nat {ds : List D} {k : Nat} {d : D} (e : ds[k]? = some d) : atI ds (k : Int) = some d := by
  have hk := lt_of_get e
  unfold atI ixN
  rw [if_pos (by omega), if_pos (by omega)]
  simpa using e
theorem ixN_nat {n k : Nat} (h : k < n) : ixN n (k : Int) = some k := by
  unfold ixN
  rw [if_pos (by omega), if_pos (by omega)]
  simp
def stepE (o : Option (Option D)) (k0 : Rs) (k : D → Rs) : Rs := match o with | none => .stuck | some none => k0 | some (some d) => k d
@[simp] theorem stepE_end (k0 : Rs) (k : D → Rs) : stepE (some none) k0 k = k0 := id rfl
@[simp] theorem stepE_on (d : D) (k0 : Rs) (k : D → Rs) : stepE (some (some d)) k0 k = k d := id rfl
theorem loopI_ev (it : ItD) (g : SG) (b : SS) (n i : Nat) (env : En) (h : Hd) : loopI it g b (n + 1) i env h = stepE (nextD it h i) (.ok (.nx env) h) fun d => (noX (g d env h)).lift env fun env1 h1 => turnE (b env1 h1) fun env2 h2 => loopI it g b n (i + 1) env2 h2 := by
  conv => lhs; unfold loopI
  unfold stepE
  cases nextD it h i with
  | none => rfl
  | some o => cases o <;> rfl
def nvO (o : Option O) (i : Nat) : Option (Option D) := match o with | some (.lst ds) => some ds[i]? | _ => none
@[simp] theorem nextD_live (m : Nat) (h : Hd) (i : Nat) : nextD (.live m) h i = nvO (lk h m) i := id rfl
def nD : List D → Nat → Option D
  | [], _ => none
  | a :: _, 0 => some a
  | _ :: l, n + 1 => nD l n
theorem nD_get : ∀ (l : List D) (i : Nat), l[i]? = nD l i
  | [], _ => rfl
  | _ :: _, 0 => rfl
  | _ :: l, n + 1 => by rw [List.getElem?_cons_succ, nD_get l n]; rfl
@[simp] theorem nD_nil (n : Nat) : nD [] n = none := id rfl
@[simp] theorem nD_zero (a : D) (l : List D) : nD (a :: l) 0 = some a := id rfl
@[simp] theorem nD_succ (a : D) (l : List D) (n : Nat) : nD (a :: l) (n + 1) = nD l n := id rfl
@[simp] theorem nvO_lst (ds : List D) (i : Nat) : nvO (some (.lst ds)) i = some (nD ds i) := by rw [← nD_get]; rfl
@[simp] theorem eqF_non_int (i : Int) (h : Hd) : eqF .non (.int i) h = .ok (.bl false) h := by rfl
theorem isNon_non : isNonD .non = true := rfl
theorem isNon_int (i : Int) : isNonD (.int i) = false := rfl
theorem rangeL_kD (n : Nat) : rangeL 0 n = (List.range n).map kD := by
  unfold rangeL kD
  congr
  funext i
  simp
end Kq
end
set_option maxHeartbeats 8000000
noncomputable section
namespace Kq
open PySem PySem.Spec L2 Kf
theorem kq_NoneType_int : kitB "NoneType" "int" = some false := by decide +kernel
theorem kq_bool_int : kitB "bool" "int" = some true := by decide +kernel
theorem kq_int_int : kitB "int" "int" = some true := by decide +kernel
theorem kq_str_int : kitB "str" "int" = some false := by decide +kernel
theorem kq_tuple_int : kitB "tuple" "int" = some false := by decide +kernel
theorem kq_list_int : kitB "list" "int" = some false := by decide +kernel
theorem kq_NoneType_bool : kitB "NoneType" "bool" = some false := by decide +kernel
theorem kq_bool_bool : kitB "bool" "bool" = some true := by decide +kernel
theorem kq_int_bool : kitB "int" "bool" = some false := by decide +kernel
theorem kq_str_bool : kitB "str" "bool" = some false := by decide +kernel
theorem kq_tuple_bool : kitB "tuple" "bool" = some false := by decide +kernel
theorem kq_list_bool : kitB "list" "bool" = some false := by decide +kernel
theorem kq_NoneType_list : kitB "NoneType" "list" = some false := by decide +kernel
theorem kq_bool_list : kitB "bool" "list" = some false := by decide +kernel
theorem kq_int_list : kitB "int" "list" = some false := by decide +kernel
theorem kq_str_list : kitB "str" "list" = some false := by decide +kernel
theorem kq_tuple_list : kitB "tuple" "list" = some false := by decide +kernel
theorem kq_list_list : kitB "list" "list" = some true := by decide +kernel
theorem kq_NoneType_tuple : kitB "NoneType" "tuple" = some false := by decide +kernel
theorem kq_bool_tuple : kitB "bool" "tuple" = some false := by decide +kernel
theorem kq_int_tuple : kitB "int" "tuple" = some false := by decide +kernel
theorem kq_str_tuple : kitB "str" "tuple" = some false := by decide +kernel
theorem kq_tuple_tuple : kitB "tuple" "tuple" = some true := by decide +kernel
theorem kq_list_tuple : kitB "list" "tuple" = some false := by decide +kernel
@[simp] theorem isi_int_non (h : Hd) : isiF "int" .non h = .ok (.bl false) h := by
  show (onSome (kitB "NoneType" "int") fun b => (Res.ok (D.bl b) h : Res D)) = _
  rw [kq_NoneType_int]; rfl
@[simp] theorem isi_int_bl (b : Bool) (h : Hd) : isiF "int" (.bl b) h = .ok (.bl true) h := by
  show (onSome (kitB "bool" "int") fun b => (Res.ok (D.bl b) h : Res D)) = _
  rw [kq_bool_int]; rfl
@[simp] theorem isi_int_int (i : Int) (h : Hd) : isiF "int" (.int i) h = .ok (.bl true) h := by
  show (onSome (kitB "int" "int") fun b => (Res.ok (D.bl b) h : Res D)) = _
  rw [kq_int_int]; rfl
@[simp] theorem isi_int_str (s : String) (h : Hd) : isiF "int" (.str s) h = .ok (.bl false) h := by
  show (onSome (kitB "str" "int") fun b => (Res.ok (D.bl b) h : Res D)) = _
  rw [kq_str_int]; rfl
@[simp] theorem isi_int_raw (s : Str) (h : Hd) : isiF "int" (.raw s) h = .ok (.bl false) h := by
  show (onSome (kitB "str" "int") fun b => (Res.ok (D.bl b) h : Res D)) = _
  rw [kq_str_int]; rfl
@[simp] theorem isi_int_tup (ds : List D) (h : Hd) : isiF "int" (.tup ds) h = .ok (.bl false) h := by
  show (onSome (kitB "tuple" "int") fun b => (Res.ok (D.bl b) h : Res D)) = _
  rw [kq_tuple_int]; rfl
@[simp] theorem isi_int_fls (ds : List D) (h : Hd) : isiF "int" (.fls ds) h = .ok (.bl false) h := by
  show (onSome (kitB "list" "int") fun b => (Res.ok (D.bl b) h : Res D)) = _
  rw [kq_list_int]; rfl
theorem isi_int_ref {m : Nat} {ds : List D} {h : Hd} (e : lk h m = some (.lst ds)) : isiF "int" (.ref m) h = .ok (.bl false) h := by
  have e2 : tyD h (.ref m) = some "list" := by
    show (match lk h m with | some (.lst _) => some "list" | some (.dict _) => some "dict" | _ => none) = _
    rw [e]
  unfold isiF
  rw [e2]
  show (onSome (kitB "list" "int") fun b => (Res.ok (D.bl b) h : Res D)) = _
  rw [kq_list_int]; rfl
@[simp] theorem isi_bool_non (h : Hd) : isiF "bool" .non h = .ok (.bl false) h := by
  show (onSome (kitB "NoneType" "bool") fun b => (Res.ok (D.bl b) h : Res D)) = _
  rw [kq_NoneType_bool]; rfl
@[simp] theorem isi_bool_bl (b : Bool) (h : Hd) : isiF "bool" (.bl b) h = .ok (.bl true) h := by
  show (onSome (kitB "bool" "bool") fun b => (Res.ok (D.bl b) h : Res D)) = _
  rw [kq_bool_bool]; rfl
@[simp] theorem isi_bool_int (i : Int) (h : Hd) : isiF "bool" (.int i) h = .ok (.bl false) h := by
  show (onSome (kitB "int" "bool") fun b => (Res.ok (D.bl b) h : Res D)) = _
  rw [kq_int_bool]; rfl
@[simp] theorem isi_bool_str (s : String) (h : Hd) : isiF "bool" (.str s) h = .ok (.bl false) h := by
  show (onSome (kitB "str" "bool") fun b => (Res.ok (D.bl b) h : Res D)) = _
  rw [kq_str_bool]; rfl
@[simp] theorem isi_bool_raw (s : Str) (h : Hd) : isiF "bool" (.raw s) h = .ok (.bl false) h := by
  show (onSome (kitB "str" "bool") fun b => (Res.ok (D.bl b) h : Res D)) = _
  rw [kq_str_bool]; rfl
@[simp] theorem isi_bool_tup (ds : List D) (h : Hd) : isiF "bool" (.tup ds) h = .ok (.bl false) h := by
  show (onSome (kitB "tuple" "bool") fun b => (Res.ok (D.bl b) h : Res D)) = _
  rw [kq_tuple_bool]; rfl
@[simp] theorem isi_bool_fls (ds : List D) (h : Hd) : isiF "bool" (.fls ds) h = .ok (.bl false) h := by
  show (onSome (kitB "list" "bool") fun b => (Res.ok (D.bl b) h : Res D)) = _
  rw [kq_list_bool]; rfl
theorem isi_bool_ref {m : Nat} {ds : List D} {h : Hd} (e : lk h m = some (.lst ds)) : isiF "bool" (.ref m) h = .ok (.bl false) h := by
  have e2 : tyD h (.ref m) = some "list" := by
    show (match lk h m with | some (.lst _) => some "list" | some (.dict _) => some "dict" | _ => none) = _
    rw [e]
  unfold isiF
  rw [e2]
  show (onSome (kitB "list" "bool") fun b => (Res.ok (D.bl b) h : Res D)) = _
  rw [kq_list_bool]; rfl
@[simp] theorem isi_list_non (h : Hd) : isiF "list" .non h = .ok (.bl false) h := by
  show (onSome (kitB "NoneType" "list") fun b => (Res.ok (D.bl b) h : Res D)) = _
  rw [kq_NoneType_list]; rfl
@[simp] theorem isi_list_bl (b : Bool) (h : Hd) : isiF "list" (.bl b) h = .ok (.bl false) h := by
  show (onSome (kitB "bool" "list") fun b => (Res.ok (D.bl b) h : Res D)) = _
  rw [kq_bool_list]; rfl
@[simp] theorem isi_list_int (i : Int) (h : Hd) : isiF "list" (.int i) h = .ok (.bl false) h := by
  show (onSome (kitB "int" "list") fun b => (Res.ok (D.bl b) h : Res D)) = _
  rw [kq_int_list]; rfl
@[simp] theorem isi_list_str (s : String) (h : Hd) : isiF "list" (.str s) h = .ok (.bl false) h := by
  show (onSome (kitB "str" "list") fun b => (Res.ok (D.bl b) h : Res D)) = _
  rw [kq_str_list]; rfl
@[simp] theorem isi_list_raw (s : Str) (h : Hd) : isiF "list" (.raw s) h = .ok (.bl false) h := by
  show (onSome (kitB "str" "list") fun b => (Res.ok (D.bl b) h : Res D)) = _
  rw [kq_str_list]; rfl
@[simp] theorem isi_list_tup (ds : List D) (h : Hd) : isiF "list" (.tup ds) h = .ok (.bl false) h := by
  show (onSome (kitB "tuple" "list") fun b => (Res.ok (D.bl b) h : Res D)) = _
  rw [kq_tuple_list]; rfl
@[simp] theorem isi_list_fls (ds : List D) (h : Hd) : isiF "list" (.fls ds) h = .ok (.bl true) h := by
  show (onSome (kitB "list" "list") fun b => (Res.ok (D.bl b) h : Res D)) = _
  rw [kq_list_list]; rfl
theorem isi_list_ref {m : Nat} {ds : List D} {h : Hd} (e : lk h m = some (.lst ds)) : isiF "list" (.ref m) h = .ok (.bl true) h := by
  have e2 : tyD h (.ref m) = some "list" := by
    show (match lk h m with | some (.lst _) => some "list" | some (.dict _) => some "dict" | _ => none) = _
    rw [e]
  unfold isiF
  rw [e2]
  show (onSome (kitB "list" "list") fun b => (Res.ok (D.bl b) h : Res D)) = _
  rw [kq_list_list]; rfl
@[simp] theorem isi_tuple_non (h : Hd) : isiF "tuple" .non h = .ok (.bl false) h := by
  show (onSome (kitB "NoneType" "tuple") fun b => (Res.ok (D.bl b) h : Res D)) = _
  rw [kq_NoneType_tuple]; rfl
@[simp] theorem isi_tuple_bl (b : Bool) (h : Hd) : isiF "tuple" (.bl b) h = .ok (.bl false) h := by
  show (onSome (kitB "bool" "tuple") fun b => (Res.ok (D.bl b) h : Res D)) = _
  rw [kq_bool_tuple]; rfl
@[simp] theorem isi_tuple_int (i : Int) (h : Hd) : isiF "tuple" (.int i) h = .ok (.bl false) h := by
  show (onSome (kitB "int" "tuple") fun b => (Res.ok (D.bl b) h : Res D)) = _
  rw [kq_int_tuple]; rfl
@[simp] theorem isi_tuple_str (s : String) (h : Hd) : isiF "tuple" (.str s) h = .ok (.bl false) h := by
  show (onSome (kitB "str" "tuple") fun b => (Res.ok (D.bl b) h : Res D)) = _
  rw [kq_str_tuple]; rfl
@[simp] theorem isi_tuple_raw (s : Str) (h : Hd) : isiF "tuple" (.raw s) h = .ok (.bl false) h := by
  show (onSome (kitB "str" "tuple") fun b => (Res.ok (D.bl b) h : Res D)) = _
  rw [kq_str_tuple]; rfl
@[simp] theorem isi_tuple_tup (ds : List D) (h : Hd) : isiF "tuple" (.tup ds) h = .ok (.bl true) h := by
  show (onSome (kitB "tuple" "tuple") fun b => (Res.ok (D.bl b) h : Res D)) = _
  rw [kq_tuple_tuple]; rfl
@[simp] theorem isi_tuple_fls (ds : List D) (h : Hd) : isiF "tuple" (.fls ds) h = .ok (.bl false) h := by
  show (onSome (kitB "list" "tuple") fun b => (Res.ok (D.bl b) h : Res D)) = _
  rw [kq_list_tuple]; rfl
theorem isi_tuple_ref {m : Nat} {ds : List D} {h : Hd} (e : lk h m = some (.lst ds)) : isiF "tuple" (.ref m) h = .ok (.bl false) h := by
  have e2 : tyD h (.ref m) = some "list" := by
    show (match lk h m with | some (.lst _) => some "list" | some (.dict _) => some "dict" | _ => none) = _
    rw [e]
  unfold isiF
  rw [e2]
  show (onSome (kitB "list" "tuple") fun b => (Res.ok (D.bl b) h : Res D)) = _
  rw [kq_list_tuple]; rfl
/-! ### whole numbers, places -/
def isW : D → Bool | .int _ => true | _ => false
def isB : D → Bool | .bl _ => true | _ => false
/-- what a value of the menus may be -/
theorem Val.cases' {h : Hd} {x : D} (v : Val h x) : x = .non ∨ (∃ b, x = .bl b) ∨ (∃ i, x = .int i) ∨ (∃ s, x = .str s) ∨ (∃ s, x = .raw s) ∨ (∃ ds, x = .tup ds) ∨ (∃ ds, x = .fls ds) ∨ ∃ m ds, x = .ref m ∧ lk h m = some (.lst ds) ∧ ∀ d ∈ ds, Dk 10 d := by
  cases v with
  | lst e q => exact .inr (.inr (.inr (.inr (.inr (.inr (.inr ⟨_, _, rfl, e, q⟩))))))
  | flat q =>
    obtain ⟨q, z⟩ := q
    cases x with
    | non => exact .inl rfl
    | bl b => exact .inr (.inl ⟨b, rfl⟩)
    | int i => exact .inr (.inr (.inl ⟨i, rfl⟩))
    | str s => exact .inr (.inr (.inr (.inl ⟨s, rfl⟩)))
    | raw b => exact .inr (.inr (.inr (.inr (.inl ⟨b, rfl⟩))))
    | tup ds => exact .inr (.inr (.inr (.inr (.inr (.inl ⟨ds, rfl⟩)))))
    | fls ds => exact .inr (.inr (.inr (.inr (.inr (.inr (.inl ⟨ds, rfl⟩))))))
    | ref m => have := z [] 10 (by omega); simp [py] at this
    | xc c a d fs => have := z [] 10 (by omega); simp [py] at this
theorem isi_bool {h : Hd} {x : D} (v : Val h x) : isiF "bool" x h = .ok (.bl (isB x)) h := by
  rcases v.cases' with e | ⟨b, e⟩ | ⟨b, e⟩ | ⟨b, e⟩ | ⟨b, e⟩ | ⟨b, e⟩ | ⟨b, e⟩ | ⟨m, ds, e, e2, _⟩ <;> subst e <;> first | exact isi_bool_ref e2 | simp [isB]
theorem isi_list {h : Hd} {x : D} (v : Val h x) : ∃ b, isiF "list" x h = .ok (.bl b) h ∧ isiF "tuple" x h = .ok (.bl (!b && (match x with | .tup _ => true | _ => false))) h := by
  rcases v.cases' with e | ⟨b, e⟩ | ⟨b, e⟩ | ⟨b, e⟩ | ⟨b, e⟩ | ⟨b, e⟩ | ⟨b, e⟩ | ⟨m, ds, e, e2, _⟩ <;> subst e
  · exact ⟨false, by simp, by simp⟩
  · exact ⟨false, by simp, by simp⟩
  · exact ⟨false, by simp, by simp⟩
  · exact ⟨false, by simp, by simp⟩
  · exact ⟨false, by simp, by simp⟩
  · exact ⟨false, by simp, by simp⟩
  · exact ⟨true, by simp, by simp⟩
  · exact ⟨true, isi_list_ref e2, isi_tuple_ref e2⟩
theorem py_list {h : Hd} {m n : Nat} {ds : List D} (e : lk h m = some (.lst ds)) : py h (n + 1) (.ref m) = (allS (ds.map (py h n))).map .list := by
  have e' : h[m]? = some (.lst ds) := e
  show (match h[m]? with | some (.lst ds) => (allS (ds.map (py h n))).map PyData.list | _ => none) = _
  rw [e']
theorem f2P_of {g : PyData → PyData → Option Bool} {x y : D} {h : Hd} {p q : PyData} {b : Bool} (e1 : py h 60 x = some p) (e2 : py h 60 y = some q) (e3 : g p q = some b) : f2P g x y h = .ok (.bl b) h := by
  unfold f2P
  rw [e1, e2]
  simp only [e3]
/-- the data of a menu's value -/
theorem Val.py {h : Hd} {x : D} (v : Val h x) : ∃ q, ∀ n, 11 ≤ n → Kf.py h n x = some q := by
  cases v with
  | flat q => obtain ⟨q, z⟩ := q; exact ⟨q, fun n hn => z h n (by omega)⟩
  | @lst m ds e k =>
    obtain ⟨qs, z⟩ := dk_all k
    refine ⟨.list qs, fun n hn => ?_⟩
    obtain ⟨j, rfl⟩ : ∃ j, n = j + 1 := ⟨n - 1, by omega⟩
    rw [py_list e, z h j (by omega)]; rfl
theorem eqF_nil {h : Hd} {a b : Nat} {ds : List D} (ea : lk h a = some (.lst ds)) (eb : lk h b = some (.lst [])) (hd : ∀ d ∈ ds, Dk 10 d) : eqF (.ref a) (.ref b) h = .ok (.bl ds.isEmpty) h ∧ neF (.ref a) (.ref b) h = .ok (.bl !ds.isEmpty) h := by
  obtain ⟨qs, z⟩ := dk_all hd
  have e1 : Kf.py h 60 (.ref a) = some (.list qs) := by rw [py_list ea, z h 59 (by omega)]; rfl
  have e2 : Kf.py h 60 (.ref b) = some (.list []) := by rw [py_list eb]; rfl
  have e3 : PyData.eqv (.list qs) (.list []) = ds.isEmpty := by
    cases ds with
    | nil => have := z h 59 (by omega); cases this; simp [PyData.eqv, PyData.eqvAll]
    | cons d ds =>
      have := z h 59 (by omega)
      cases qs with
      | nil =>
        rw [List.map_cons] at this
        cases q : Kf.py h 59 d with
        | none => rw [q] at this; simp [allS] at this
        | some y =>
          rw [q] at this
          have this : (allS (ds.map (Kf.py h 59))).map (y :: ·) = some [] := this
          cases q2 : allS (ds.map (Kf.py h 59)) with
          | none => rw [q2] at this; cases this
          | some _ => rw [q2] at this; cases this
      | cons _ _ => simp [PyData.eqv, PyData.eqvAll]
  exact ⟨f2P_of e1 e2 (by rw [e3]), f2P_of e1 e2 (by rw [e3])⟩
/-- the items of a tuple or a list -/
def seqO (h : Hd) : D → Option (List D) | .tup ds => some ds | .fls ds => some ds | .ref m => itemsO (lk h m) | _ => none
theorem allS_inv {h : Hd} {n : Nat} : ∀ {ds : List D} {qs : List PyData}, allS (ds.map (Kf.py h n)) = some qs → ∀ (i : Nat) (d : D), ds[i]? = some d → ∃ q, qs[i]? = some q ∧ Kf.py h n d = some q
  | [], _, _, i, d, e => by simp at e
  | x :: ds, qs, e, i, d, ed => by
    rw [List.map_cons] at e
    cases q : Kf.py h n x with
    | none => rw [q] at e; cases e
    | some y =>
      rw [q] at e
      have e : (allS (ds.map (Kf.py h n))).map (y :: ·) = some qs := e
      cases q2 : allS (ds.map (Kf.py h n)) with
      | none => rw [q2] at e; cases e
      | some ys =>
        rw [q2] at e
        cases e
        cases i with
        | zero => cases ed; exact ⟨y, rfl, q⟩
        | succ i => exact allS_inv q2 i d ed
theorem dk_inv {k : Nat} {ds : List D} (h0 : Dk (k + 1) (.tup ds) ∨ Dk (k + 1) (.fls ds)) : ∀ d ∈ ds, Dk k d := fun d hd => by
  have key : ∃ qs, ∀ h n, k ≤ n → allS (ds.map (Kf.py h n)) = some qs := by
    rcases h0 with ⟨q, z⟩ | ⟨q, z⟩
    · have z1 : ∀ h n, k ≤ n → (allS (ds.map (Kf.py h n))).map PyData.tuple = some q := fun h n hn => z h (n + 1) (by omega)
      cases e : allS (ds.map (Kf.py [] k)) with
      | none => have := z1 [] k (by omega); rw [e] at this; cases this
      | some qs =>
        refine ⟨qs, fun h n hn => ?_⟩
        have a := z1 [] k (by omega)
        have b := z1 h n hn
        rw [e] at a
        cases e2 : allS (ds.map (Kf.py h n)) with
        | none => rw [e2] at b; cases b
        | some _ => rw [e2] at b; cases a; cases b; rfl
    · have z1 : ∀ h n, k ≤ n → (allS (ds.map (Kf.py h n))).map PyData.list = some q := fun h n hn => z h (n + 1) (by omega)
      cases e : allS (ds.map (Kf.py [] k)) with
      | none => have := z1 [] k (by omega); rw [e] at this; cases this
      | some qs =>
        refine ⟨qs, fun h n hn => ?_⟩
        have a := z1 [] k (by omega)
        have b := z1 h n hn
        rw [e] at a
        cases e2 : allS (ds.map (Kf.py h n)) with
        | none => rw [e2] at b; cases b
        | some _ => rw [e2] at b; cases a; cases b; rfl
  obtain ⟨qs, z⟩ := key
  obtain ⟨i, hi, e⟩ := List.getElem_of_mem hd
  have ei : ds[i]? = some d := by rw [List.getElem?_eq_getElem hi, e]
  obtain ⟨q, eq, _⟩ := allS_inv (z [] k (by omega)) i d ei
  refine ⟨q, fun h n hn => ?_⟩
  obtain ⟨q', eq', e'⟩ := allS_inv (z h n hn) i d ei
  rw [eq] at eq'
  cases eq'
  exact e'
/-- a menu's value is a row of flat things, or none at all -/
inductive Row (h : Hd) : D → List D → Prop where
  | tup {ds : List D} : Row h (.tup ds) ds
  | fls {ds : List D} : Row h (.fls ds) ds
  | lst {m : Nat} {ds : List D} : lk h m = some (.lst ds) → Row h (.ref m) ds
theorem Val.row {h : Hd} {x : D} (v : Val h x) : (∃ ds, Row h x ds ∧ ∀ d ∈ ds, Dk 10 d) ∨ (isiF "list" x h = .ok (.bl false) h ∧ isiF "tuple" x h = .ok (.bl false) h ∧ isiTF ["list", "tuple"] x h = .ok (.bl false) h) := by
  cases v with
  | lst e k => exact .inl ⟨_, .lst e, k⟩
  | @flat x q =>
    cases x with
    | tup ds => exact .inl ⟨ds, .tup, fun d hd => (dk_inv (k := 9) (.inl q) d hd).up (by omega)⟩
    | fls ds => exact .inl ⟨ds, .fls, fun d hd => (dk_inv (k := 9) (.inr q) d hd).up (by omega)⟩
    | non => exact .inr ⟨by simp, by simp, by show (onSome (kitD "NoneType" ["list", "tuple"]) fun b => (Res.ok (D.bl b) h : Res D)) = _; simp [kitD, kq_NoneType_list, kq_NoneType_tuple]⟩
    | bl b => exact .inr ⟨by simp, by simp, by show (onSome (kitD "bool" ["list", "tuple"]) fun b => (Res.ok (D.bl b) h : Res D)) = _; simp [kitD, kq_bool_list, kq_bool_tuple]⟩
    | int i => exact .inr ⟨by simp, by simp, by show (onSome (kitD "int" ["list", "tuple"]) fun b => (Res.ok (D.bl b) h : Res D)) = _; simp [kitD, kq_int_list, kq_int_tuple]⟩
    | str s => exact .inr ⟨by simp, by simp, by show (onSome (kitD "str" ["list", "tuple"]) fun b => (Res.ok (D.bl b) h : Res D)) = _; simp [kitD, kq_str_list, kq_str_tuple]⟩
    | raw s => exact .inr ⟨by simp, by simp, by show (onSome (kitD "str" ["list", "tuple"]) fun b => (Res.ok (D.bl b) h : Res D)) = _; simp [kitD, kq_str_list, kq_str_tuple]⟩
    | ref m => obtain ⟨q, z⟩ := q; have := z [] 10 (by omega); simp [Kf.py] at this
    | xc c a d fs => obtain ⟨q, z⟩ := q; have := z [] 10 (by omega); simp [Kf.py] at this
section
variable {h : Hd} {x : D} {ds : List D}
theorem Row.app (r : Row h x ds) (l : List O) : Row (h ++ l) x ds := by
  cases r with
  | tup => exact .tup
  | fls => exact .fls
  | lst e => exact .lst (by rw [lk_append, if_pos (lk_lt e), e])
theorem Row.len (r : Row h x ds) : lenA [x] h = .ok (.int ds.length) h := by
  cases r with
  | tup => simp
  | fls => simp
  | lst e => simp [e]
theorem Row.get (r : Row h x ds) (i : Int) : getF x (.int i) h = onSome (atI ds i) fun d => .ok d h := by
  cases r with
  | tup => simp
  | fls => rfl
  | lst e => simp [e]
theorem Row.isi (r : Row h x ds) : (∃ b, isiF "list" x h = .ok (.bl b) h ∧ isiF "tuple" x h = .ok (.bl !b) h) ∧ isiTF ["list", "tuple"] x h = .ok (.bl true) h := by
  cases r with
  | tup => exact ⟨⟨false, by simp, by simp⟩, by show (onSome (kitD "tuple" ["list", "tuple"]) fun b => (Res.ok (D.bl b) h : Res D)) = _; simp [kitD, kq_tuple_list, kq_tuple_tuple]⟩
  | fls => exact ⟨⟨true, by simp, by simp⟩, by show (onSome (kitD "list" ["list", "tuple"]) fun b => (Res.ok (D.bl b) h : Res D)) = _; simp [kitD, kq_list_list, kq_list_tuple]⟩
  | @lst m ds e =>
    refine ⟨⟨true, isi_list_ref e, isi_tuple_ref e⟩, ?_⟩
    have e2 : tyD h (.ref m) = some "list" := by
      show (match lk h m with | some (.lst _) => some "list" | some (.dict _) => some "dict" | _ => none) = _
      rw [e]
    unfold isiTF
    rw [e2]
    show (onSome (kitD "list" ["list", "tuple"]) fun b => (Res.ok (D.bl b) h : Res D)) = _
    simp [kitD, kq_list_list, kq_list_tuple]
/-- a comprehension over a row -/
theorem Row.comp (r : Row h x ds) {g : SG} {t : SB} {f : SE} {env : En} {β : D → Bool} {φ : D → D} (hl : ds.length ≤ LIM) (hp : ∀ d ∈ ds, ∃ env1, g d env h = .ok env1 h ∧ t env1 h = .ok (β d) h ∧ (β d = true → f env1 h = .ok (φ d) h)) :
    ∃ it, itOf x h = some it ∧ compI it g t f env (turnsD it h) 0 0 h = .ok ((ds.filter β).map φ) h := by
  cases r with
  | tup => exact ⟨_, rfl, comp_snapP ds hl hp⟩
  | fls => exact ⟨_, rfl, comp_snapP ds hl hp⟩
  | lst e => exact ⟨_, by simp [e], comp_liveP ds e hl hp⟩
end
theorem sTry_exc {f : SS} {l : List Cl} {env env1 : En} {h h1 : Hd} {c : String} {fs : List (String × D)} (e : f env h = .ok (.exc c fs env1) h1) : sTry f l env h = sCls l c fs env1 h1 := by
  unfold sTry; rw [e]
theorem sTry_nx {f : SS} {l : List Cl} {env env1 : En} {h h1 : Hd} (e : f env h = .ok (.nx env1) h1) : sTry f l env h = .ok (.nx env1) h1 := by
  unfold sTry; rw [e]
theorem sCls_yes {mt : String → Option Bool} {sl : Option Nat} {f : String → Nat → Option Nat → SS} {r : List Cl} {c : String} {fs : List (String × D)} {env : En} {h : Hd} {res : Rs} (e : mt c = some true)
    (k : ∀ a d, outN sl (f c a d (inN sl (.xc c a d fs) env) h) = res) : sCls ((mt, sl, f) :: r) c fs env h = res := by
  unfold sCls; rw [e]; exact onAll_of k
theorem sCls_no {mt : String → Option Bool} {sl : Option Nat} {f : String → Nat → Option Nat → SS} {r : List Cl} {c : String} {fs : List (String × D)} {env : En} {h : Hd} (e : mt c = some false) :
    sCls ((mt, sl, f) :: r) c fs env h = sCls r c fs env h := by
  conv => lhs; unfold sCls
  rw [e]
theorem xf_ev (c : String) (a : Nat) (d : Option Nat) (g : SE) (f : String) (env : En) (h : Hd) (fs : List (String × D)) (e : g env h = .ok (.xc c a d fs) h) : sXf c a d g f env h = onSome (fs.lookup f) fun v => .ok v h := by
  unfold sXf
  rw [e, Res.bind_ok]
  exact if_pos ⟨rfl, rfl, rfl⟩
theorem eqF_same {x y : D} {h : Hd} {p : PyData} (e : Kf.py h 60 x = some p) (e2 : Kf.py h 60 y = some p) : eqF x y h = .ok (.bl true) h ∧ neF x y h = .ok (.bl false) h := by
  have q := PySem.SeqAt.eqv_refl p (py_ok e).1
  exact ⟨f2P_of e e2 (by rw [q]), f2P_of e e2 (by rw [q]; rfl)⟩
/-- equal lists -/
theorem eqF_lists {h : Hd} {a b : Nat} {ds : List D} (ea : lk h a = some (.lst ds)) (eb : lk h b = some (.lst ds)) (hd : ∀ d ∈ ds, Dk 10 d) : eqF (.ref a) (.ref b) h = .ok (.bl true) h ∧ neF (.ref a) (.ref b) h = .ok (.bl false) h := by
  obtain ⟨qs, z⟩ := dk_all hd
  exact eqF_same (p := .list qs) (by rw [py_list ea, z h 59 (by omega)]; rfl) (by rw [py_list eb, z h 59 (by omega)]; rfl)
theorem blsD_map {α : Type} (β : α → Bool) : ∀ ds : List α, blsD (ds.map fun y => D.bl (β y)) = some (ds.map β)
  | [] => rfl
  | y :: ds => by
    show (blsD (ds.map fun y => D.bl (β y))).map (β y :: ·) = _
    rw [blsD_map β ds]; rfl
section
variable {h : Hd} {x : D} {ds : List D}
theorem Row.fr {h' : Hd} (r : Row h x ds) (F : Fr [] h h') : Row h' x ds := by
  cases r with
  | tup => exact .tup
  | fls => exact .fls
  | lst e => exact .lst (F.get e (by simp))
end
@[simp] theorem at2_0 (a b : D) : atI [a, b] 0 = some a := id rfl
@[simp] theorem at2_1 (a b : D) : atI [a, b] 1 = some b := id rfl
@[simp] theorem at3_0 (a b c : D) : atI [a, b, c] 0 = some a := id rfl
@[simp] theorem at3_1 (a b c : D) : atI [a, b, c] 1 = some b := id rfl
@[simp] theorem at3_2 (a b c : D) : atI [a, b, c] 2 = some c := id rfl
@[simp] theorem eqF_str (s t : String) (h : Hd) : eqF (.str s) (.str t) h = .ok (.bl (decide (s = t))) h := by
  have : PyData.eqv (.str (Str.ofString s)) (.str (Str.ofString t)) = decide (s = t) := by
    show (Str.ofString s == Str.ofString t) = _
    rw [ofString_beq]
    by_cases e : s = t
    · subst e; simp
    · rw [decide_eq_false e, beq_eq_false_iff_ne.mpr e]
  exact f2P_of (p := .str (Str.ofString s)) (q := .str (Str.ofString t)) rfl rfl (by rw [this])
theorem eqv_str (s t : String) : PyData.eqv (.str (Str.ofString s)) (.str (Str.ofString t)) = decide (s = t) := by
  show (Str.ofString s == Str.ofString t) = _
  rw [ofString_beq]
  by_cases e : s = t
  · subst e; simp
  · rw [decide_eq_false e, beq_eq_false_iff_ne.mpr e]
theorem mem_strs {h : Hd} {m : Nat} {ss : List String} (e : lk h m = some (.lst (ss.map D.str))) (s : String) : memF false (.str s) (.ref m) h = .ok (.bl (ss.any fun z => decide (z = s))) h := by
  have e' : h[m]? = some (.lst (ss.map D.str)) := e
  have ep : Kf.py h 60 (.ref m) = some (.list (ss.map fun z => .str (Str.ofString z))) := by
    rw [py_list e]
    have : ∀ l : List String, allS ((l.map D.str).map (Kf.py h 59)) = some (l.map fun z => .str (Str.ofString z)) := fun l => by
      induction l with
      | nil => rfl
      | cons z r ih =>
        show (allS ((r.map D.str).map (Kf.py h 59))).map (PyData.str (Str.ofString z) :: ·) = _
        rw [ih]; rfl
    rw [this]; rfl
  have e1 : memF false (.str s) (.ref m) h = inF false (.str s) (.ref m) h := by
    simp only [memF, e']
  rw [e1]
  unfold inF
  rw [show Kf.py h 60 (.str s) = some (.str (Str.ofString s)) from rfl, ep]
  simp only [onSome, itemsP, List.any_map]
  congr 2
  simp only [Bool.false_eq_true, if_false]
  congr 1
  congr 1
  funext z
  exact eqv_str z s
theorem val_int {h : Hd} {i : Int} : Val h (.int i) := .flat (dk_int.up (by omega))
theorem val_non {h : Hd} : Val h .non := .flat (dk_non.up (by omega))
def Like (h : Hd) (a' a : D) : Prop := ∃ p, Kf.py h 60 a' = some p ∧ Kf.py h 60 a = some p
theorem ne_of_lk {h : Hd} {a b : Nat} {x y : O} (e1 : lk h a = some x) (e2 : lk h b = some y) (hn : x ≠ y) : a ≠ b := fun z => by
  subst z
  rw [e1] at e2
  exact hn (Option.some.inj e2)
end Kq
end
set_option maxHeartbeats 8000000
noncomputable section
namespace Kq
open PySem PySem.Spec L2 Kf
def rg2 (d e : D) (h : Hd) : Res ItD := asInt d fun i => asInt e fun j => guard' ((-BIG ≤ i ∧ i < BIG) ∧ -BIG ≤ j ∧ j < BIG) (.ok (.snap (rangeL i (j - i).toNat)) h)
@[simp] theorem ev_range2 (f g : SE) (env : En) (h : Hd) : sRange2 f g env h = (f env h).bind fun d h1 => (g env h1).bind fun e h2 => rg2 d e h2 := by
  unfold sRange2
  congr
  funext d h1
  congr
  funext e h2
  cases d <;> first | rfl | (cases e <;> rfl)
theorem big_v : BIG = 4611686018427387904 := rfl
@[simp] theorem rg2_int (i j : Int) (h : Hd) (c : -1000000 ≤ i ∧ i < 1000000 ∧ -1000000 ≤ j ∧ j < 1000000) : rg2 (.int i) (.int j) h = .ok (.snap (rangeL i (j - i).toNat)) h :=
  guard_true _ _ ⟨⟨Int.le_trans (by decide +kernel) c.1, Int.lt_of_lt_of_le c.2.1 (by decide +kernel)⟩, Int.le_trans (by decide +kernel) c.2.2.1, Int.lt_of_lt_of_le c.2.2.2 (by decide +kernel)⟩
theorem rangeL_at {lo : Int} {n : Nat} {d : D} (h : d ∈ rangeL lo n) : ∃ k : Nat, k < n ∧ d = .int (lo + k) := by
  unfold rangeL at h
  simp at h
  obtain ⟨k, hk, rfl⟩ := h
  exact ⟨k, hk, rfl⟩
theorem rangeL_len' (lo : Int) (n : Nat) : (rangeL lo n).length = n := by simp [rangeL]
@[simp] theorem ev_while (n : Nat) (c : SB) (b : SS) (env : En) (h : Hd) : sWhile n c b env h = loopWhile c b n env h := id rfl
theorem loopWhile_ev (c : SB) (b : SS) (n : Nat) (env : En) (h : Hd) : loopWhile c b (n + 1) env h = (c env h).lift env fun t h1 => iteR t (turnE (b env h1) fun env2 h2 => loopWhile c b n env2 h2) (.ok (.nx env) h1) := by
  conv => lhs; unfold loopWhile
  unfold iteR
  congr
@[simp] theorem ev_aug (i : Nat) (F : F2) (f : SE) (env : En) (h : Hd) : sAug i F f env h = Res.lift (sVar i env h) env fun x h0 => (f env h0).lift env fun y h1 => (F x y h1).lift env fun z h2 => .ok (.nx (env.set i (some z))) h2 := id rfl
@[simp] theorem min2_int (i j : Int) (h : Hd) : min2F [.int i, .int j] h = .ok (.int (min i j)) h := by
  show Res.ok (D.int (if j < i then j else i)) h = _
  congr 2
  by_cases c : j < i
  · rw [if_pos c]; omega
  · rw [if_neg c]; omega
@[simp] theorem max2_int (i j : Int) (h : Hd) : max2F [.int i, .int j] h = .ok (.int (max i j)) h := by
  show Res.ok (D.int (if j > i then j else i)) h = _
  congr 2
  by_cases c : j > i
  · rw [if_pos c]; omega
  · rw [if_neg c]; omega
@[simp] theorem ev_callN' (F : List D → Hd → Res D) (a : SA) (env : En) (h : Hd) : sCallN F a env h = (a env h).bind fun ds h1 => F ds h1 := id rfl
@[simp] theorem tupN_ev (ds : List D) (h : Hd) : tupN ds h = .ok (.tup ds) h := id rfl
theorem reprF_ev {x : D} {h : Hd} {p : PyData} (e : Kf.py h 60 x = some p) (s : p.showable = true) (l : p.shown.length ≤ LIM) : reprF [x] h = .ok (.raw p.shown) h := by
  unfold reprF fa1
  simp only [e, onSome]
  exact guard_true _ _ ⟨s, l⟩
/-- in [lo, hi] -/
def isIn (lo hi : Int) : D → Bool | .int i => decide (lo ≤ i) && decide (i ≤ hi) | _ => false
theorem isIn_int {lo hi : Int} {x : D} (e : isIn lo hi x = true) : ∃ i, x = .int i ∧ lo ≤ i ∧ i ≤ hi := by
  cases x with
  | int i => exact ⟨i, rfl, by simpa [isIn] using e⟩
  | _ => cases e
end Kq
end
set_option maxHeartbeats 8000000
noncomputable section
namespace Kq
open PySem PySem.Spec L2 Kf
/-! ### primes -/
def NoSq (n d : Int) : Prop := ∀ e, d ≤ e → e * e ≤ n → n % e ≠ 0
theorem prime_eq {p : Int} (h2 : 2 ≤ p) (hp : p ≤ 1000000) : NoSq p 2 ↔ ∀ d, 2 ≤ d → d < 1001 → d < p → p % d ≠ 0 := by
  constructor
  · intro h d d2 d1 dp hd
    have e1 : p = d * (p / d) := by have := Int.mul_ediv_add_emod p d; omega
    have q2 : 2 ≤ p / d := by
      by_cases c : 2 ≤ p / d
      · exact c
      · have : p / d ≤ 1 := by omega
        have : d * (p / d) ≤ d * 1 := Int.mul_le_mul_of_nonneg_left this (by omega)
        omega
    by_cases c : d * d ≤ p
    · exact h d d2 c hd
    · have c2 : p / d < d := by
        by_cases c3 : p / d < d
        · exact c3
        · have : d * d ≤ d * (p / d) := Int.mul_le_mul_of_nonneg_left (by omega) (by omega)
          omega
      refine h (p / d) q2 ?_ ?_
      · have : (p / d) * (p / d) ≤ d * (p / d) := Int.mul_le_mul_of_nonneg_right (by omega) (by omega)
        omega
      · rw [show p % (p / d) = (d * (p / d)) % (p / d) by rw [← e1]]
        exact Int.mul_emod_left d (p / d)
  · intro h e e2 ee he
    have : 2 * e ≤ e * e := Int.mul_le_mul_of_nonneg_right e2 (by omega)
    refine h e e2 ?_ (by omega) he
    by_cases c : e < 1001
    · exact c
    · have h1 : 1001 * 1001 ≤ e * 1001 := Int.mul_le_mul_of_nonneg_right (by omega) (by omega)
      have h3 : e * 1001 ≤ e * e := Int.mul_le_mul_of_nonneg_left (by omega) (by omega)
      omega
def prC : SB := (sTest (s2 leF (s2 mulB (sVar 1) (sVar 1)) (sVar 0)))
def prB : SS := (sSeq (sIf (sTest (s2 eqF (s2 modF (sVar 0) (sVar 1)) (sC (.int 0)))) (sRet (sC (.bl false))) sNext) (sAug 1 (f2I yes2 fun i j => .int (i + j)) (sC (.int 1))))
@[simp] theorem augAdd_int (i j : Int) (h : Hd) : f2I yes2 (fun i j => .int (i + j)) (.int i) (.int j) h = .ok (.int (i + j)) h := id rfl
theorem pr_end {n d : Int} {h : Hd} (m : Nat) (h1 : 2 ≤ d) (hd : d < 100000) (c : ¬ d * d ≤ n) : loopWhile prC prB (m + 1) [some (.int n), some (.int d)] h = .ok (.nx [some (.int n), some (.int d)]) h := by
  have c' : n < d * d := by omega
  rw [loopWhile_ev]
  simp (disch := omega) [prC, c']
theorem pr_hit {n d : Int} {h : Hd} (m : Nat) (h1 : 2 ≤ d) (hd : d < 100000) (c : d * d ≤ n) (z : n % d = 0) : loopWhile prC prB (m + 1) [some (.int n), some (.int d)] h = .ok (.ret (.bl false)) h := by
  have c' : ¬ n < d * d := by omega
  rw [loopWhile_ev]
  simp (disch := omega) [prC, c', prB, z]
theorem pr_on {n d : Int} {h : Hd} (m : Nat) (h1 : 2 ≤ d) (hd : d < 100000) (c : d * d ≤ n) (z : n % d ≠ 0) : loopWhile prC prB (m + 1) [some (.int n), some (.int d)] h = loopWhile prC prB m [some (.int n), some (.int (d + 1))] h := by
  have c' : ¬ n < d * d := by omega
  rw [loopWhile_ev]
  simp (disch := omega) [prC, c', prB, z]
theorem sq_gt {n d : Int} (hn : n ≤ 1000000) (h : 1001 ≤ d) : ¬ d * d ≤ n := fun c => by
  have h1 : 1001 * 1001 ≤ d * 1001 := Int.mul_le_mul_of_nonneg_right h (by omega)
  have h3 : d * 1001 ≤ d * d := Int.mul_le_mul_of_nonneg_left h (by omega)
  omega
theorem pr_yes {n : Int} {h : Hd} (hn : n ≤ 1000000) : ∀ (m : Nat) (d : Int), 2 ≤ d → d ≤ 1002 → 1003 ≤ m + d → NoSq n d → ∃ d', loopWhile prC prB m [some (.int n), some (.int d)] h = .ok (.nx [some (.int n), some (.int d')]) h
  | 0, d, h1, h2, h3, _ => absurd h3 (by omega)
  | m + 1, d, h1, h2, h3, q => by
    by_cases c : d * d ≤ n
    · have : d < 1001 := by
        by_cases z : d < 1001
        · exact z
        · exact absurd c (sq_gt hn (by omega))
      obtain ⟨d', e⟩ := pr_yes hn m (d + 1) (by omega) (by omega) (by omega) fun e he => q e (by omega)
      exact ⟨d', (pr_on m h1 (by omega) c (q d (by omega) c)).trans e⟩
    · exact ⟨d, pr_end m h1 (by omega) c⟩
theorem pr_no {n : Int} {h : Hd} (hn : n ≤ 1000000) : ∀ (m : Nat) (d : Int), 2 ≤ d → d ≤ 1002 → 1003 ≤ m + d → ¬ NoSq n d → loopWhile prC prB m [some (.int n), some (.int d)] h = .ok (.ret (.bl false)) h
  | 0, d, h1, h2, h3, _ => absurd h3 (by omega)
  | m + 1, d, h1, h2, h3, q => by
    by_cases c : d * d ≤ n
    · have : d < 1001 := by
        by_cases z : d < 1001
        · exact z
        · exact absurd c (sq_gt hn (by omega))
      by_cases z : n % d = 0
      · exact pr_hit m h1 (by omega) c z
      · refine (pr_on m h1 (by omega) c z).trans (pr_no hn m (d + 1) (by omega) (by omega) (by omega) fun k => q fun e he ee => ?_)
        by_cases z2 : e = d
        · subst z2; exact z
        · exact k e (by omega) ee
    · refine absurd (fun e he ee => ?_) q
      have : d * d ≤ e * e := Int.le_trans (Int.mul_le_mul_of_nonneg_right he (by omega)) (Int.mul_le_mul_of_nonneg_left he (by omega))
      omega
open Classical in
theorem prime_ex {n : Int} (h : Hd) (hn : n ≤ 1000000) : M_is_prime [.int n] h = .ok (.bl (decide (NoSq n 2))) h := by
  have e : M_is_prime = defM 2 (sSeq (sAsg (sC (.int 2)) (gN 1)) (sSeq (sWhile 1100 prC prB) (sRet (sC (.bl true))))) := rfl
  rw [e]
  by_cases q : NoSq n 2
  · obtain ⟨d', e1⟩ := pr_yes (h := h) hn 1100 2 (by omega) (by omega) (by omega) q
    simp [defM_ev, startD, e1, q]
  · have e1 := pr_no (h := h) hn 1100 2 (by omega) (by omega) (by omega) q
    simp [defM_ev, startD, e1, q]
end Kq
end
set_option maxHeartbeats 8000000
noncomputable section
namespace Kq
open PySem PySem.Spec L2 Kf
theorem whole_ex {h : Hd} {x : D} (v : Val h x) : M_is_whole [x] h = .ok (.bl (isW x)) h := by
  rcases v.cases' with e | ⟨b, e⟩ | ⟨b, e⟩ | ⟨b, e⟩ | ⟨b, e⟩ | ⟨b, e⟩ | ⟨b, e⟩ | ⟨m, ds, e, e2, _⟩ <;> subst e <;> simp [M_is_whole, defM_ev, s_is_whole, startD, isW]
  simp [isi_int_ref e2]
theorem wholeL_ex {h : Hd} {x : D} (v : Val h x) : M_law_is_whole [x] h = .ok (.bl (isW x)) h := whole_ex v
theorem between_ex {h : Hd} {x : D} (v : Val h x) (lo hi : Int) : M_is_between [x, .int lo, .int hi] h = .ok (.bl (isIn lo hi x)) h := by
  have w := whole_ex v
  cases hw : isW x with
  | false =>
    have : isIn lo hi x = false := by cases x <;> first | rfl | simp [isW] at hw
    simp (disch := omega) [M_is_between, defM_ev, s_is_between, startD, w, hw, this, guard_true]
  | true =>
    obtain ⟨i, rfl⟩ : ∃ i, x = .int i := by cases x <;> first | exact ⟨_, rfl⟩ | simp [isW] at hw
    by_cases g : i < lo
    · have : isIn lo hi (.int i) = false := by simp [isIn]; omega
      simp (disch := omega) [M_is_between, defM_ev, s_is_between, startD, w, hw, this, guard_true, g]
    · have : isIn lo hi (.int i) = !decide (hi < i) := by
        have : lo ≤ i := by omega
        simp [isIn, this]
        by_cases z : hi < i
        · simp [z]
        · simp [z]; omega
      simp (disch := omega) [M_is_between, defM_ev, s_is_between, startD, w, hw, this, guard_true, g]
end Kq
end
set_option maxHeartbeats 8000000
noncomputable section
namespace Kq
open PySem PySem.Spec L2 Kf
def initA : SS := (sIf (sOr (sTest (s2 (memF true) (sVar 1) (sTup (sCons (sC (.int 1)) (sCons (sC (.int 3)) (sCons (sC (.int 5)) (sCons (sC (.int 7)) sNil))))))) (sNot (sTest (sFn 1 M_is_whole [] (sCons (sVar 1) sNil)))))
    (sRaise "BadNumber" ["what", "number"] (sCons (sC (.str "servers")) (sCons (sVar 1) sNil)))
    sNext)
def initB : SS := (sIf (sNot (sTest (sFn 3 M_is_between [] (sCons (sVar 2) (sCons (sC (.int 1)) (sCons (sC (.int 8)) sNil))))))
    (sRaise "BadNumber" ["what", "number"] (sCons (sC (.str "shelves")) (sCons (sVar 2) sNil)))
    sNext)
def initC : SS := (sIf (sNot (sTest (sFn 3 M_is_between [] (sCons (sVar 3) (sCons (sC (.int 1)) (sCons (sC (.int 4)) sNil))))))
    (sRaise "BadNumber" ["what", "number"] (sCons (sC (.str "k")) (sCons (sVar 3) sNil)))
    sNext)
def initD : SS := (sIf (sNot (sTest (sFn 3 M_is_between [] (sCons (sVar 4) (sCons (sC (.int 0)) (sCons (sC (.int 2)) sNil))))))
    (sRaise "BadNumber" ["what", "number"] (sCons (sC (.str "e")) (sCons (sVar 4) sNil)))
    sNext)
def initE : SS := (sIf (sOr (sNot (sTest (sFn 3 M_is_between [] (sCons (sVar 5) (sCons (sC (.int 0)) (sCons (sC (.int 3)) sNil)))))) (sTest (s2 gtF (s2 addA (s2 addA (sVar 3) (s2 mulB (sC (.int 2)) (sVar 4))) (sVar 5)) (sVar 2))))
    (sRaise "BadNumber" ["what", "number"] (sCons (sC (.str "f")) (sCons (sVar 5) sNil)))
    sNext)
def initF : SS := (sIf (sOr (sNot (sTest (sFn 3 M_is_between [] (sCons (sVar 6) (sCons (s2 addA (sVar 2) (sC (.int 1))) (sCons (s2 powF (sC (.int 10)) (sC (.int 6))) sNil)))))) (sNot (sTest (sFn 1 M_is_prime [] (sCons (sVar 6) sNil)))))
    (sRaise "BadNumber" ["what", "number"] (sCons (sC (.str "prime")) (sCons (sVar 6) sNil)))
    sNext)
def initG : SS := (sIf (sNot (sTest (sFn 3 M_is_between [] (sCons (sVar 7) (sCons (sC (.int 9)) (sCons (sC (.int 4000)) sNil))))))
    (sRaise "BadNumber" ["what", "number"] (sCons (sC (.str "size")) (sCons (sVar 7) sNil)))
    sNext)
def initH : SS := (sIf (sNot (sTest (sFn 3 M_is_between [] (sCons (sVar 8) (sCons (sC (.int 1)) (sCons (sC (.int 16)) sNil))))))
    (sRaise "BadNumber" ["what", "number"] (sCons (sC (.str "width")) (sCons (sVar 8) sNil)))
    sNext)
def z1 : SS := (sSetF (sVar 0) "servers" ["Settings"] (sVar 1))
def z2 : SS := (sSetF (sVar 0) "shelves" ["Settings"] (sVar 2))
def z3 : SS := (sSetF (sVar 0) "k" ["Settings"] (sVar 3))
def z4 : SS := (sSetF (sVar 0) "e" ["Settings"] (sVar 4))
def z5 : SS := (sSetF (sVar 0) "f" ["Settings"] (sVar 5))
def z6 : SS := (sSetF (sVar 0) "prime" ["Settings"] (sVar 6))
def z7 : SS := (sSetF (sVar 0) "size" ["Settings"] (sVar 7))
def z8 : SS := (sSetF (sVar 0) "width" ["Settings"] (sVar 8))
def z9 : SS := (sSetF (sVar 0) "need" ["Settings"] (s2 addA (s2 addA (sVar 3) (s2 mulB (sC (.int 2)) (sVar 4))) (sVar 5)))
theorem init_eq : M_Settings_init = defM 9 (sSeq initA (sSeq initB (sSeq initC (sSeq initD (sSeq initE (sSeq initF (sSeq initG (sSeq initH (sSeq z1 (sSeq z2 (sSeq z3 (sSeq z4 (sSeq z5 (sSeq z6 (sSeq z7 (sSeq z8 z9)))))))))))))))) := rfl
def wrA : SS := (sAsg (sVar 0) (gTp 8 (gCons' (gN 1) (gCons' (gN 2) (gCons' (gN 3) (gCons' (gN 4) (gCons' (gN 5) (gCons' (gN 6) (gCons' (gN 7) (gCons' (gN 8) gNil'))))))))))
def wrB : SS := (sIf (sOr (sNot (sTest (sFn 1 M_law_is_whole [] (sCons (sVar 1) sNil)))) (sTest (s2 (memF true) (sVar 1) (sNew (sLst (sCons (sC (.int 1)) (sCons (sC (.int 3)) (sCons (sC (.int 5)) (sCons (sC (.int 7)) sNil)))))))))
    (sRet (sC (.str "servers")))
    sNext)
def wrC : SS := (sIf (sOr (sNot (sTest (sFn 1 M_law_is_whole [] (sCons (sVar 2) sNil)))) (sOr (sTest (s2 ltF (sVar 2) (sC (.int 1)))) (sTest (s2 gtF (sVar 2) (sC (.int 8))))))
    (sRet (sC (.str "shelves")))
    sNext)
def wrD : SS := (sIf (sOr (sNot (sTest (sFn 1 M_law_is_whole [] (sCons (sVar 3) sNil)))) (sOr (sTest (s2 ltF (sVar 3) (sC (.int 1)))) (sTest (s2 gtF (sVar 3) (sC (.int 4))))))
    (sRet (sC (.str "k")))
    sNext)
def wrE : SS := (sIf (sOr (sNot (sTest (sFn 1 M_law_is_whole [] (sCons (sVar 4) sNil)))) (sOr (sTest (s2 ltF (sVar 4) (sC (.int 0)))) (sTest (s2 gtF (sVar 4) (sC (.int 2))))))
    (sRet (sC (.str "e")))
    sNext)
def wrF : SS := (sIf (sOr (sNot (sTest (sFn 1 M_law_is_whole [] (sCons (sVar 5) sNil)))) (sOr (sTest (s2 ltF (sVar 5) (sC (.int 0)))) (sOr (sTest (s2 gtF (sVar 5) (sC (.int 3)))) (sTest (s2 gtF (s2 addA (s2 addA (sVar 3) (s2 mulB (sC (.int 2)) (sVar 4))) (sVar 5)) (sVar 2))))))
    (sRet (sC (.str "f")))
    sNext)
def wrG : SS := (sIf (sOr (sNot (sTest (sFn 1 M_law_is_whole [] (sCons (sVar 6) sNil)))) (sOr (sTest (s2 leF (sVar 6) (sVar 2))) (sTest (s2 gtF (sVar 6) (s2 powF (sC (.int 10)) (sC (.int 6)))))))
    (sRet (sC (.str "prime")))
    sNext)
def wrH : SS := (sIf (sTest (s2 neF (sNew (sLc (sRange2 (sC (.int 2)) (sC (.int 1001))) (gN 9) (sAnd (sTest (s2 ltF (sVar 9) (sVar 6))) (sTest (s2 eqF (s2 modF (sCall intF (sCons (sVar 6) sNil)) (sVar 9)) (sC (.int 0))))) (sVar 9) [9])) (sNew (sLst sNil))))
    (sRet (sC (.str "prime")))
    sNext)
def wrI : SS := (sIf (sOr (sNot (sTest (sFn 1 M_law_is_whole [] (sCons (sVar 7) sNil)))) (sOr (sTest (s2 ltF (sVar 7) (sC (.int 9)))) (sTest (s2 gtF (sVar 7) (sC (.int 4000))))))
    (sRet (sC (.str "size")))
    sNext)
def wrJ : SS := (sRet (sIfE (sOr (sNot (sTest (sFn 1 M_law_is_whole [] (sCons (sVar 8) sNil)))) (sOr (sTest (s2 ltF (sVar 8) (sC (.int 1)))) (sTest (s2 gtF (sVar 8) (sC (.int 16)))))) (sC (.str "width")) (sC .non)))
theorem wr_eq : M_law_wrong = defM 10 (sSeq wrA (sSeq wrB (sSeq wrC (sSeq wrD (sSeq wrE (sSeq wrF (sSeq wrG (sSeq wrH (sSeq wrI wrJ))))))))) := rfl
/-! ### the values that are drawn -/
inductive Sv : D → Prop
  | int {i : Int} : -1000000000 ≤ i → i ≤ 1000000000 → Sv (.int i)
  | non : Sv .non
  | tru : Sv (.bl true)
  | str : Sv (.str "3")
  | tup : Sv (.tup [.int 3])
theorem Sv.dk {x : D} (s : Sv x) : Dk 10 x := by
  cases s with
  | int => exact dk_int.up (by omega)
  | non => exact dk_non.up (by omega)
  | tru => exact dk_bl.up (by omega)
  | str => exact dk_str.up (by omega)
  | tup => exact (dk_tup (k := 1) fun y hy => by simp at hy; subst hy; exact dk_int).up (by omega)
theorem Sv.val {h : Hd} {x : D} (s : Sv x) : Val h x := .flat s.dk
def inS : D → Bool | .int i => decide (i = 1) || (decide (i = 3) || (decide (i = 5) || decide (i = 7))) | .bl true => true | _ => false
def b1 (x : D) : Bool := !(isW x && inS x)
theorem eqv_int (i j : Int) : PyData.eqv (.int i) (.int j) = decide (i = j) := by
  show (i == j) = _
  exact beq_dec i j
theorem mem_tup {h : Hd} {x : D} (s : Sv x) : memF true x (.tup [.int 1, .int 3, .int 5, .int 7]) h = .ok (.bl (!inS x)) h := by
  cases s with
  | @int i _ _ =>
    show (Res.ok (D.bl (if true = true then !([PyData.int 1, .int 3, .int 5, .int 7].any fun z => PyData.eqv z (.int i)) else _)) h : Res D) = _
    simp only [if_true, List.any_cons, List.any_nil, eqv_int, inS, Bool.or_false]
    congr 3
    have e : ∀ k : Int, decide (k = i) = decide (i = k) := fun k => by
      by_cases c : i = k
      · subst c; rfl
      · rw [decide_eq_false c, decide_eq_false fun z => c z.symm]
    rw [e, e, e, e]
  | _ => rfl
theorem mem_lst {h : Hd} {m : Nat} {x : D} (s : Sv x) (e : lk h m = some (.lst [.int 1, .int 3, .int 5, .int 7])) : memF true x (.ref m) h = .ok (.bl (!inS x)) h := by
  have e' : h[m]? = some (.lst [.int 1, .int 3, .int 5, .int 7]) := e
  have e1 : memF true x (.ref m) h = inF true x (.ref m) h := by simp only [memF, e']
  have e2 : inF true x (.ref m) h = inF true x (.tup [.int 1, .int 3, .int 5, .int 7]) h := by
    unfold inF
    rw [py_list e]
    rfl
  rw [e1, e2]
  exact mem_tup s
def iv : D → Int | .int i => i | _ => 0
/-- which of the eight is wrong first -/
def b5 (x2 x3 x4 x5 : D) : Bool := !isIn 0 3 x5 || decide (iv x2 < iv x3 + 2 * iv x4 + iv x5)
open Classical in
def b6 (x2 x6 : D) : Bool := !isIn (iv x2 + 1) 1000000 x6 || !decide (NoSq (iv x6) 2)
def svW (x1 x2 x3 x4 x5 x6 x7 x8 : D) : Option Nat :=
  if b1 x1 = true then some 0 else if isIn 1 8 x2 = false then some 1 else if isIn 1 4 x3 = false then some 2 else if isIn 0 2 x4 = false then some 3 else if b5 x2 x3 x4 x5 = true then some 4
  else if b6 x2 x6 = true then some 5 else if isIn 9 4000 x7 = false then some 6 else if isIn 1 16 x8 = false then some 7 else none
def nms : List String := ["servers", "shelves", "k", "e", "f", "prime", "size", "width"]
def setO (x1 x2 x3 x4 x5 x6 x7 x8 : D) : O := .ins "Settings" [("servers", x1), ("shelves", x2), ("k", x3), ("e", x4), ("f", x5), ("prime", x6), ("size", x7), ("width", x8), ("need", .int (iv x3 + 2 * iv x4 + iv x5))]
abbrev inEnv (s : Nat) (x1 x2 x3 x4 x5 x6 x7 x8 : D) : En := [some (.ref s), some x1, some x2, some x3, some x4, some x5, some x6, some x7, some x8]
abbrev badX (w : String) (x : D) (env : En) (h : Hd) : Rs := .ok (.exc "BadNumber" [("number", x), ("what", .str w)] env) h
section
variable {h : Hd} {s : Nat} {x1 x2 x3 x4 x5 x6 x7 x8 : D}
theorem initA_ex (v : Sv x1) : initA (inEnv s x1 x2 x3 x4 x5 x6 x7 x8) h = if b1 x1 = true then badX "servers" x1 (inEnv s x1 x2 x3 x4 x5 x6 x7 x8) h else .ok (.nx (inEnv s x1 x2 x3 x4 x5 x6 x7 x8)) h := by
  have w := whole_ex (h := h) v.val
  have m := mem_tup (h := h) v
  unfold b1
  cases e1 : isW x1 <;> cases e2 : inS x1 <;> simp [initA, w, m, e1, e2, LIM_eq, guard_true]
theorem initB_ex (v : Sv x2) : initB (inEnv s x1 x2 x3 x4 x5 x6 x7 x8) h = if isIn 1 8 x2 = false then badX "shelves" x2 (inEnv s x1 x2 x3 x4 x5 x6 x7 x8) h else .ok (.nx (inEnv s x1 x2 x3 x4 x5 x6 x7 x8)) h := by
  have w := between_ex (h := h) v.val 1 8
  cases e1 : isIn 1 8 x2 <;> simp [initB, w, e1, LIM_eq, guard_true]
theorem initC_ex (v : Sv x3) : initC (inEnv s x1 x2 x3 x4 x5 x6 x7 x8) h = if isIn 1 4 x3 = false then badX "k" x3 (inEnv s x1 x2 x3 x4 x5 x6 x7 x8) h else .ok (.nx (inEnv s x1 x2 x3 x4 x5 x6 x7 x8)) h := by
  have w := between_ex (h := h) v.val 1 4
  cases e1 : isIn 1 4 x3 <;> simp [initC, w, e1, LIM_eq, guard_true]
theorem initD_ex (v : Sv x4) : initD (inEnv s x1 x2 x3 x4 x5 x6 x7 x8) h = if isIn 0 2 x4 = false then badX "e" x4 (inEnv s x1 x2 x3 x4 x5 x6 x7 x8) h else .ok (.nx (inEnv s x1 x2 x3 x4 x5 x6 x7 x8)) h := by
  have w := between_ex (h := h) v.val 0 2
  cases e1 : isIn 0 2 x4 <;> simp [initD, w, e1, LIM_eq, guard_true]
theorem initG_ex (v : Sv x7) : initG (inEnv s x1 x2 x3 x4 x5 x6 x7 x8) h = if isIn 9 4000 x7 = false then badX "size" x7 (inEnv s x1 x2 x3 x4 x5 x6 x7 x8) h else .ok (.nx (inEnv s x1 x2 x3 x4 x5 x6 x7 x8)) h := by
  have w := between_ex (h := h) v.val 9 4000
  cases e1 : isIn 9 4000 x7 <;> simp [initG, w, e1, LIM_eq, guard_true]
theorem initH_ex (v : Sv x8) : initH (inEnv s x1 x2 x3 x4 x5 x6 x7 x8) h = if isIn 1 16 x8 = false then badX "width" x8 (inEnv s x1 x2 x3 x4 x5 x6 x7 x8) h else .ok (.nx (inEnv s x1 x2 x3 x4 x5 x6 x7 x8)) h := by
  have w := between_ex (h := h) v.val 1 16
  cases e1 : isIn 1 16 x8 <;> simp [initH, w, e1, LIM_eq, guard_true]
theorem initE_ex (v : Sv x5) (h2 : isIn 1 8 x2 = true) (h3 : isIn 1 4 x3 = true) (h4 : isIn 0 2 x4 = true) : initE (inEnv s x1 x2 x3 x4 x5 x6 x7 x8) h = if b5 x2 x3 x4 x5 = true then badX "f" x5 (inEnv s x1 x2 x3 x4 x5 x6 x7 x8) h else .ok (.nx (inEnv s x1 x2 x3 x4 x5 x6 x7 x8)) h := by
  have w := between_ex (h := h) v.val 0 3
  obtain ⟨i2, rfl, _, _⟩ := isIn_int h2
  obtain ⟨i3, rfl, _, _⟩ := isIn_int h3
  obtain ⟨i4, rfl, _, _⟩ := isIn_int h4
  unfold b5
  cases e1 : isIn 0 3 x5 with
  | false => simp [initE, w, e1, LIM_eq, guard_true]
  | true =>
    obtain ⟨i5, rfl, _, _⟩ := isIn_int e1
    by_cases c : i2 < i3 + 2 * i4 + i5
    · simp (disch := omega) [initE, w, e1, LIM_eq, guard_true, iv, c]
    · simp (disch := omega) [initE, w, e1, LIM_eq, guard_true, iv, c]
open Classical in
theorem initF_ex (v : Sv x6) (h2 : isIn 1 8 x2 = true) : initF (inEnv s x1 x2 x3 x4 x5 x6 x7 x8) h = if b6 x2 x6 = true then badX "prime" x6 (inEnv s x1 x2 x3 x4 x5 x6 x7 x8) h else .ok (.nx (inEnv s x1 x2 x3 x4 x5 x6 x7 x8)) h := by
  obtain ⟨i2, rfl, _, _⟩ := isIn_int h2
  have w := between_ex (h := h) v.val (i2 + 1) 1000000
  unfold b6
  cases e1 : isIn (i2 + 1) 1000000 x6 with
  | false => simp [initF, w, e1, LIM_eq, guard_true, iv]
  | true =>
    obtain ⟨i6, rfl, _, hi⟩ := isIn_int e1
    have p := prime_ex h hi
    by_cases c : NoSq i6 2
    · simp [initF, w, e1, LIM_eq, guard_true, iv, p, c]
    · simp [initF, w, e1, LIM_eq, guard_true, iv, p, c]
theorem init_ex (e : lk h s = some (.ins "Settings" [])) (v1 : Sv x1) (v2 : Sv x2) (v3 : Sv x3) (v4 : Sv x4) (v5 : Sv x5) (v6 : Sv x6) (v7 : Sv x7) (v8 : Sv x8) :
    M_Settings_init [.ref s, x1, x2, x3, x4, x5, x6, x7, x8] h = match svW x1 x2 x3 x4 x5 x6 x7 x8 with
      | some i => .exc "BadNumber" [("number", [x1, x2, x3, x4, x5, x6, x7, x8].getD i .non), ("what", .str (nms.getD i ""))] h
      | none => .ok .non (h.set s (setO x1 x2 x3 x4 x5 x6 x7 x8)) := by
  have hs := lk_lt e
  rw [init_eq]
  simp only [defM_ev, startD, List.map_cons, List.map_nil, List.length_cons, List.length_nil, Nat.reduceAdd, Nat.sub_self, List.replicate_zero, List.append_nil, ev_seq]
  rw [initA_ex v1]
  unfold svW
  by_cases c1 : b1 x1 = true
  · rw [if_pos c1, if_pos c1]; rfl
  rw [if_neg c1, if_neg c1, andThen_nx, ev_seq, initB_ex v2]
  by_cases c2 : isIn 1 8 x2 = false
  · rw [if_pos c2, if_pos c2]; rfl
  rw [if_neg c2, if_neg c2, andThen_nx, ev_seq, initC_ex v3]
  have d2 : isIn 1 8 x2 = true := by simpa using c2
  by_cases c3 : isIn 1 4 x3 = false
  · rw [if_pos c3, if_pos c3]; rfl
  rw [if_neg c3, if_neg c3, andThen_nx, ev_seq, initD_ex v4]
  have d3 : isIn 1 4 x3 = true := by simpa using c3
  by_cases c4 : isIn 0 2 x4 = false
  · rw [if_pos c4, if_pos c4]; rfl
  rw [if_neg c4, if_neg c4, andThen_nx, ev_seq, initE_ex v5 d2 d3 (by simpa using c4)]
  have d4 : isIn 0 2 x4 = true := by simpa using c4
  by_cases c5 : b5 x2 x3 x4 x5 = true
  · rw [if_pos c5, if_pos c5]; rfl
  rw [if_neg c5, if_neg c5, andThen_nx, ev_seq, initF_ex v6 d2]
  by_cases c6 : b6 x2 x6 = true
  · rw [if_pos c6, if_pos c6]; rfl
  rw [if_neg c6, if_neg c6, andThen_nx, ev_seq, initG_ex v7]
  by_cases c7 : isIn 9 4000 x7 = false
  · rw [if_pos c7, if_pos c7]; rfl
  rw [if_neg c7, if_neg c7, andThen_nx, ev_seq, initH_ex v8]
  by_cases c8 : isIn 1 16 x8 = false
  · rw [if_pos c8, if_pos c8]; rfl
  rw [if_neg c8, if_neg c8, andThen_nx]
  obtain ⟨i3, rfl, _, _⟩ := isIn_int d3
  obtain ⟨i4, rfl, _, _⟩ := isIn_int d4
  have d5 : isIn 0 3 x5 = true := by
    unfold b5 at c5
    simp at c5
    exact c5.1
  obtain ⟨i5, rfl, _, _⟩ := isIn_int d5
  simp (disch := omega) [z1, z2, z3, z4, z5, z6, z7, z8, z9, e, hs, guard_true, putD, setO, iv, List.lookup]
end
end Kq
end
set_option maxHeartbeats 8000000
noncomputable section
namespace Kq
open PySem PySem.Spec L2 Kf
abbrev wrEnv (m : Nat) (x1 x2 x3 x4 x5 x6 x7 x8 : D) : En := [some (.ref m), some x1, some x2, some x3, some x4, some x5, some x6, some x7, some x8, none]
abbrev retS (w : String) (h : Hd) : Rs := .ok (.ret (.str w)) h
theorem isW_int {x : D} (e : isW x = true) : ∃ i, x = .int i := by cases x <;> first | exact ⟨_, rfl⟩ | simp [isW] at e
theorem isIn_no {x : D} {lo hi : Int} (e : isW x = false) : isIn lo hi x = false := by cases x <;> first | rfl | simp [isW] at e
section
variable {h : Hd} {m : Nat} {x1 x2 x3 x4 x5 x6 x7 x8 : D}
theorem wrA_ex (e : lk h m = some (.lst [x1, x2, x3, x4, x5, x6, x7, x8])) : wrA [some (.ref m), none, none, none, none, none, none, none, none, none] h = .ok (.nx (wrEnv m x1 x2 x3 x4 x5 x6 x7 x8)) h := by
  simp [wrA, e, guard_true]
theorem wrB_ex (v : Sv x1) : ∃ h', Fr [] h h' ∧ wrB (wrEnv m x1 x2 x3 x4 x5 x6 x7 x8) h = if b1 x1 = true then retS "servers" h' else .ok (.nx (wrEnv m x1 x2 x3 x4 x5 x6 x7 x8)) h' := by
  have w := wholeL_ex (h := h) v.val
  have mm := mem_lst (h := h ++ [O.lst [.int 1, .int 3, .int 5, .int 7]]) (m := h.length) v (by simp)
  unfold b1
  cases e1 : isW x1 with
  | false => exact ⟨h, .refl, by simp [wrB, w, e1, LIM_eq, guard_true]⟩
  | true => exact ⟨h ++ [O.lst [.int 1, .int 3, .int 5, .int 7]], .app, by cases e2 : inS x1 <;> simp [wrB, w, e1, mm, e2, LIM_eq, guard_true]⟩
theorem wrC_ex (v : Sv x2) : wrC (wrEnv m x1 x2 x3 x4 x5 x6 x7 x8) h = if isIn 1 8 x2 = false then retS "shelves" h else .ok (.nx (wrEnv m x1 x2 x3 x4 x5 x6 x7 x8)) h := by
  have w := wholeL_ex (h := h) v.val
  cases e1 : isW x2 with
  | false => simp [wrC, w, e1, LIM_eq, guard_true, isIn_no e1]
  | true =>
    obtain ⟨i, rfl⟩ := isW_int e1
    by_cases c : i < 1 <;> by_cases c2 : 8 < i <;> simp [wrC, w, e1, LIM_eq, guard_true, isIn, c, c2] <;> omega
theorem wrD_ex (v : Sv x3) : wrD (wrEnv m x1 x2 x3 x4 x5 x6 x7 x8) h = if isIn 1 4 x3 = false then retS "k" h else .ok (.nx (wrEnv m x1 x2 x3 x4 x5 x6 x7 x8)) h := by
  have w := wholeL_ex (h := h) v.val
  cases e1 : isW x3 with
  | false => simp [wrD, w, e1, LIM_eq, guard_true, isIn_no e1]
  | true =>
    obtain ⟨i, rfl⟩ := isW_int e1
    by_cases c : i < 1 <;> by_cases c2 : 4 < i <;> simp [wrD, w, e1, LIM_eq, guard_true, isIn, c, c2] <;> omega
theorem wrE_ex (v : Sv x4) : wrE (wrEnv m x1 x2 x3 x4 x5 x6 x7 x8) h = if isIn 0 2 x4 = false then retS "e" h else .ok (.nx (wrEnv m x1 x2 x3 x4 x5 x6 x7 x8)) h := by
  have w := wholeL_ex (h := h) v.val
  cases e1 : isW x4 with
  | false => simp [wrE, w, e1, LIM_eq, guard_true, isIn_no e1]
  | true =>
    obtain ⟨i, rfl⟩ := isW_int e1
    by_cases c : i < 0 <;> by_cases c2 : 2 < i <;> simp [wrE, w, e1, LIM_eq, guard_true, isIn, c, c2] <;> omega
theorem wrF_ex (v : Sv x5) (h2 : isIn 1 8 x2 = true) (h3 : isIn 1 4 x3 = true) (h4 : isIn 0 2 x4 = true) : wrF (wrEnv m x1 x2 x3 x4 x5 x6 x7 x8) h = if b5 x2 x3 x4 x5 = true then retS "f" h else .ok (.nx (wrEnv m x1 x2 x3 x4 x5 x6 x7 x8)) h := by
  have w := wholeL_ex (h := h) v.val
  obtain ⟨i2, rfl, _, _⟩ := isIn_int h2
  obtain ⟨i3, rfl, _, _⟩ := isIn_int h3
  obtain ⟨i4, rfl, _, _⟩ := isIn_int h4
  unfold b5
  cases e1 : isW x5 with
  | false => simp [wrF, w, e1, LIM_eq, guard_true, isIn_no e1]
  | true =>
    obtain ⟨i, rfl⟩ := isW_int e1
    by_cases c : i < 0 <;> by_cases c2 : 3 < i <;> by_cases c3 : i2 < i3 + 2 * i4 + i <;> simp (disch := omega) [wrF, w, e1, LIM_eq, guard_true, isIn, c, c2, c3, iv] <;> omega
theorem wrG_ex (v : Sv x6) (h2 : isIn 1 8 x2 = true) : wrG (wrEnv m x1 x2 x3 x4 x5 x6 x7 x8) h = if isIn (iv x2 + 1) 1000000 x6 = false then retS "prime" h else .ok (.nx (wrEnv m x1 x2 x3 x4 x5 x6 x7 x8)) h := by
  have w := wholeL_ex (h := h) v.val
  obtain ⟨i2, rfl, _, _⟩ := isIn_int h2
  cases e1 : isW x6 with
  | false => simp [wrG, w, e1, LIM_eq, guard_true, isIn_no e1]
  | true =>
    obtain ⟨i, rfl⟩ := isW_int e1
    by_cases c : i2 < i
    · have c' : i2 + 1 ≤ i := by omega
      by_cases c2 : 1000000 < i <;> simp [wrG, w, e1, LIM_eq, guard_true, isIn, c, c', c2, iv] <;> omega
    · have c' : ¬ i2 + 1 ≤ i := by omega
      by_cases c2 : 1000000 < i <;> simp [wrG, w, e1, LIM_eq, guard_true, isIn, c, c', c2, iv]
open Classical in
theorem wrH_ex (h2 : isIn 1 8 x2 = true) (h6 : isIn (iv x2 + 1) 1000000 x6 = true) : ∃ h', Fr [] h h' ∧ wrH (wrEnv m x1 x2 x3 x4 x5 x6 x7 x8) h = if b6 x2 x6 = true then retS "prime" h' else .ok (.nx (wrEnv m x1 x2 x3 x4 x5 x6 x7 x8)) h' := by
  obtain ⟨i2, rfl, _, _⟩ := isIn_int h2
  obtain ⟨i6, rfl, g1, g2⟩ := isIn_int h6
  have g1 : i2 + 1 ≤ i6 := g1
  have C := comp_itemsP (g := gN 9) (t := sAnd (sTest (s2 ltF (sVar 9) (sVar 6))) (sTest (s2 eqF (s2 modF (sCall intF (sCons (sVar 6) sNil)) (sVar 9)) (sC (.int 0))))) (f := sVar 9) (env := wrEnv m x1 (.int i2) x3 x4 x5 (.int i6) x7 x8) (h := h)
    (β := fun d => match d with | .int d => decide (d < i6) && decide (i6 % d = 0) | _ => false) (φ := id) (rangeL 2 999) (by rw [rangeL_len', LIM_eq]; omega) fun d hd => by
      obtain ⟨k, hk, rfl⟩ := rangeL_at hd
      refine ⟨_, rfl, ?_, fun _ => by simp⟩
      by_cases c : 2 + (k : Int) < i6
      · simp (disch := omega) [c]
      · simp (disch := omega) [c]
  rw [List.map_id] at C
  generalize hes : ((rangeL 2 999).filter fun d => match d with | .int d => decide (d < i6) && decide (i6 % d = 0) | _ => false) = es at C
  have hd2 : ∀ d ∈ es, Dk 10 d := fun d hd => by
    rw [← hes] at hd
    obtain ⟨k, _, rfl⟩ := rangeL_at (List.mem_filter.mp hd).1
    exact dk_int.up (by omega)
  have hne : es.isEmpty = decide (NoSq i6 2) := by
    rw [← hes, Bool.eq_iff_iff, List.isEmpty_iff, List.filter_eq_nil_iff, decide_eq_true_iff, prime_eq (by omega) g2]
    constructor
    · intro q d d2 d1 dp hd
      refine q (.int d) ?_ (by simp [dp, hd])
      unfold rangeL
      simp
      exact ⟨(d - 2).toNat, by omega, by omega⟩
    · intro q d hd
      obtain ⟨k, hk, rfl⟩ := rangeL_at hd
      simp
      intro c
      exact q _ (by omega) (by omega) c
  have q := (eqF_nil (h := h ++ [O.lst es, O.lst []]) (a := h.length) (b := h.length + 1) (ds := es) (by rw [lk_append, if_neg (by omega), Nat.sub_self]; rfl) (by rw [lk_append, if_neg (by omega), Nat.add_sub_cancel_left]; rfl) hd2).2
  refine ⟨h ++ [O.lst es, O.lst []], .apps, ?_⟩
  have tn : (1001 - 2 : Int).toNat = 999 := rfl
  unfold b6
  rw [h6]
  cases e1 : decide (NoSq i6 2) with
  | true =>
    rw [e1] at hne
    have e2 : NoSq i6 2 := of_decide_eq_true e1
    simp (disch := omega) [wrH, C, LIM_eq, guard_true, q, hne, iv, e2]
  | false =>
    rw [e1] at hne
    have e2 : ¬ NoSq i6 2 := of_decide_eq_false e1
    simp (disch := omega) [wrH, C, LIM_eq, guard_true, q, hne, iv, e2]
theorem wrI_ex (v : Sv x7) : wrI (wrEnv m x1 x2 x3 x4 x5 x6 x7 x8) h = if isIn 9 4000 x7 = false then retS "size" h else .ok (.nx (wrEnv m x1 x2 x3 x4 x5 x6 x7 x8)) h := by
  have w := wholeL_ex (h := h) v.val
  cases e1 : isW x7 with
  | false => simp [wrI, w, e1, LIM_eq, guard_true, isIn_no e1]
  | true =>
    obtain ⟨i, rfl⟩ := isW_int e1
    by_cases c : i < 9 <;> by_cases c2 : 4000 < i <;> simp [wrI, w, e1, LIM_eq, guard_true, isIn, c, c2] <;> omega
theorem wrJ_ex (v : Sv x8) : wrJ (wrEnv m x1 x2 x3 x4 x5 x6 x7 x8) h = if isIn 1 16 x8 = false then retS "width" h else .ok (.ret .non) h := by
  have w := wholeL_ex (h := h) v.val
  cases e1 : isW x8 with
  | false => simp [wrJ, w, e1, LIM_eq, guard_true, isIn_no e1]
  | true =>
    obtain ⟨i, rfl⟩ := isW_int e1
    by_cases c : i < 1 <;> by_cases c2 : 16 < i <;> simp [wrJ, w, e1, LIM_eq, guard_true, isIn, c, c2] <;> omega
def dueD (o : Option Nat) : D := match o with | some i => .str (nms.getD i "") | none => .non
theorem wrong_ex (e : lk h m = some (.lst [x1, x2, x3, x4, x5, x6, x7, x8])) (v1 : Sv x1) (v2 : Sv x2) (v3 : Sv x3) (v4 : Sv x4) (v5 : Sv x5) (v6 : Sv x6) (v7 : Sv x7) (v8 : Sv x8) :
    ∃ h', M_law_wrong [.ref m] h = .ok (dueD (svW x1 x2 x3 x4 x5 x6 x7 x8)) h' ∧ Fr [] h h' := by
  rw [wr_eq]
  simp only [defM_ev, startD, List.map_cons, List.map_nil, List.length_cons, List.length_nil, Nat.reduceAdd, Nat.reduceSub, List.replicate, List.cons_append, List.nil_append, ev_seq]
  rw [wrA_ex e, andThen_nx, ev_seq]
  unfold svW
  obtain ⟨h1, F1, e1⟩ := wrB_ex (h := h) (m := m) (x2 := x2) (x3 := x3) (x4 := x4) (x5 := x5) (x6 := x6) (x7 := x7) (x8 := x8) v1
  rw [e1]
  by_cases c1 : b1 x1 = true
  · rw [if_pos c1, if_pos c1]; exact ⟨h1, rfl, F1⟩
  rw [if_neg c1, if_neg c1, andThen_nx, ev_seq, wrC_ex v2]
  by_cases c2 : isIn 1 8 x2 = false
  · rw [if_pos c2, if_pos c2]; exact ⟨h1, rfl, F1⟩
  rw [if_neg c2, if_neg c2, andThen_nx, ev_seq, wrD_ex v3]
  have d2 : isIn 1 8 x2 = true := by simpa using c2
  by_cases c3 : isIn 1 4 x3 = false
  · rw [if_pos c3, if_pos c3]; exact ⟨h1, rfl, F1⟩
  rw [if_neg c3, if_neg c3, andThen_nx, ev_seq, wrE_ex v4]
  have d3 : isIn 1 4 x3 = true := by simpa using c3
  by_cases c4 : isIn 0 2 x4 = false
  · rw [if_pos c4, if_pos c4]; exact ⟨h1, rfl, F1⟩
  rw [if_neg c4, if_neg c4, andThen_nx, ev_seq, wrF_ex v5 d2 d3 (by simpa using c4)]
  by_cases c5 : b5 x2 x3 x4 x5 = true
  · rw [if_pos c5, if_pos c5]; exact ⟨h1, rfl, F1⟩
  rw [if_neg c5, if_neg c5, andThen_nx, ev_seq, wrG_ex v6 d2]
  by_cases c6 : isIn (iv x2 + 1) 1000000 x6 = false
  · have : b6 x2 x6 = true := by unfold b6; rw [c6]; rfl
    rw [if_pos c6, if_pos this]; exact ⟨h1, rfl, F1⟩
  rw [if_neg c6, andThen_nx, ev_seq]
  obtain ⟨h2, F2, e2⟩ := wrH_ex (h := h1) (m := m) (x1 := x1) (x3 := x3) (x4 := x4) (x5 := x5) (x7 := x7) (x8 := x8) d2 (by simpa using c6)
  rw [e2]
  by_cases c6' : b6 x2 x6 = true
  · rw [if_pos c6', if_pos c6']; exact ⟨h2, rfl, F1.trans F2⟩
  rw [if_neg c6', if_neg c6', andThen_nx, ev_seq, wrI_ex v7]
  by_cases c7 : isIn 9 4000 x7 = false
  · rw [if_pos c7, if_pos c7]; exact ⟨h2, rfl, F1.trans F2⟩
  rw [if_neg c7, if_neg c7, andThen_nx, wrJ_ex v8]
  by_cases c8 : isIn 1 16 x8 = false
  · rw [if_pos c8, if_pos c8]; exact ⟨h2, rfl, F1.trans F2⟩
  rw [if_neg c8, if_neg c8]
  exact ⟨h2, rfl, F1.trans F2⟩
end
end Kq
end
set_option maxHeartbeats 8000000
noncomputable section
namespace Kq
open PySem PySem.Spec L2 Kf
/-- a loop whose turns go on, or return -/
theorem loop_or {it : ItD} {g : SG} {b : SS} (I : Nat → En → Hd → Prop) (Rt : D → Hd → Prop) (ds : List D) (hn : ∀ i env h, I i env h → nextD it h i = some ds[i]?)
    (hs : ∀ i env h d, ds[i]? = some d → I i env h → ∃ env1 h1, g d env h = .ok env1 h1 ∧ ((∃ env2 h2, (b env1 h1 = .ok (.nx env2) h2 ∨ b env1 h1 = .ok (.ct env2) h2) ∧ I (i + 1) env2 h2) ∨ ∃ r h2, b env1 h1 = .ok (.ret r) h2 ∧ Rt r h2)) :
    ∀ m i env h, I i env h → ds.length < m + i → i ≤ ds.length → (∃ env' h', loopI it g b m i env h = .ok (.nx env') h' ∧ I ds.length env' h') ∨ ∃ r h', loopI it g b m i env h = .ok (.ret r) h' ∧ Rt r h'
  | 0, i, env, h, _, l, l2 => absurd l (by omega)
  | m + 1, i, env, h, a, l, l2 => by
    rw [loopI_ev, hn i env h a]
    by_cases hi : i < ds.length
    · rw [List.getElem?_eq_getElem hi]
      obtain ⟨env1, h1, e1, q⟩ := hs i env h _ (List.getElem?_eq_getElem hi) a
      rw [stepE_on, e1, ev_nox, Res.lift_ok]
      rcases q with ⟨env2, h2, e2 | e2, a2⟩ | ⟨r, h2, e2, a2⟩
      · rw [e2]; exact loop_or I Rt ds hn hs m (i + 1) env2 h2 a2 (by omega) (by omega)
      · rw [e2]; exact loop_or I Rt ds hn hs m (i + 1) env2 h2 a2 (by omega) (by omega)
      · rw [e2]; exact .inr ⟨r, h2, rfl, a2⟩
    · rw [List.getElem?_eq_none (Nat.le_of_not_lt hi)]
      have : i = ds.length := by omega
      subst this
      exact .inl ⟨env, h, rfl, a⟩
def odA : SS := (sAsg (sFn 2 M_law_draw [] (sCons (sVar 0) (sCons (sC (.int 3)) sNil))) (gN 1))
def odB : SS := (sIf (sTest (s2 eqF (sVar 1) (sC (.int 0))))
    (sRet (s2 addA (sC (.int 1)) (sFn 2 M_law_draw [] (sCons (sVar 0) (sCons (s2 powF (sC (.int 10)) (sC (.int 6))) sNil)))))
    sNext)
def odC : SS := (sIf (sTest (s2 eqF (sVar 1) (sC (.int 1))))
    (sRet (s2 mulB (s2 addA (sC (.int 2)) (sFn 2 M_law_draw [] (sCons (sVar 0) (sCons (sC (.int 998)) sNil)))) (s2 addA (sC (.int 2)) (sFn 2 M_law_draw [] (sCons (sVar 0) (sCons (sC (.int 998)) sNil))))))
    sNext)
def odD : SS := (sAsg (s2 addA (sC (.int 9)) (s2 mulB (sC (.int 2)) (sFn 2 M_law_draw [] (sCons (sVar 0) (sCons (sC (.int 1000)) sNil))))) (gN 2))
def odE : SS := (sFor (sRange1 (sC (.int 1500))) (gN 3) (sSeq (sPar [4, 5, 6] (sCons (sC (.int 1)) (sCons (sC (.int 2)) (sCons (s2 (f2I yes2 fun i j => .int (i - j)) (sVar 2) (sC (.int 1))) sNil))))
    (sSeq (sWhile 64 (sTest (s2 gtF (sVar 6) (sC (.int 0)))) (sSeq (sIf (sTest (s2 eqF (s2 modF (sCall intF (sCons (sVar 6) sNil)) (sC (.int 2))) (sC (.int 1))))
    (sAsg (s2 modF (s2 mulB (sVar 4) (sVar 5)) (sVar 2)) (gN 4))
    sNext)
    (sPar [5, 6] (sCons (s2 modF (s2 mulB (sVar 5) (sVar 5)) (sVar 2)) (sCons (s2 fdivF (sVar 6) (sC (.int 2))) sNil)))))
    (sSeq (sIf (sAnd (sTest (s2 eqF (sVar 4) (sC (.int 1)))) (sTest (s2 neF (sNew (sLc (sRange2 (sC (.int 3)) (sC (.int 72))) (gN 7) (sAnd (sTest (s2 eqF (s2 modF (sCall intF (sCons (sVar 2) sNil)) (sVar 7)) (sC (.int 0)))) (sTest (s2 ltF (sVar 7) (sVar 2)))) (sVar 7) [7])) (sNew (sLst sNil)))))
    (sRet (sVar 2))
    sNext)
    (sAsg (s2 addA (sVar 2) (sC (.int 2))) (gN 2))))))
def odF : SS := (sRet (sVar 2))
theorem od_eq : M_law_odd_one = defM 8 (sSeq odA (sSeq odB (sSeq odC (sSeq odD (sSeq odE odF))))) := rfl
def owC : SB := (sTest (s2 gtF (sVar 6) (sC (.int 0))))
def owB : SS := (sSeq (sIf (sTest (s2 eqF (s2 modF (sCall intF (sCons (sVar 6) sNil)) (sC (.int 2))) (sC (.int 1))))
    (sAsg (s2 modF (s2 mulB (sVar 4) (sVar 5)) (sVar 2)) (gN 4))
    sNext)
    (sPar [5, 6] (sCons (s2 modF (s2 mulB (sVar 5) (sVar 5)) (sVar 2)) (sCons (s2 fdivF (sVar 6) (sC (.int 2))) sNil))))
def otB : SS := (sSeq (sPar [4, 5, 6] (sCons (sC (.int 1)) (sCons (sC (.int 2)) (sCons (s2 (f2I yes2 fun i j => .int (i - j)) (sVar 2) (sC (.int 1))) sNil))))
    (sSeq (sWhile 64 owC owB)
    (sSeq (sIf (sAnd (sTest (s2 eqF (sVar 4) (sC (.int 1)))) (sTest (s2 neF (sNew (sLc (sRange2 (sC (.int 3)) (sC (.int 72))) (gN 7) (sAnd (sTest (s2 eqF (s2 modF (sCall intF (sCons (sVar 2) sNil)) (sVar 7)) (sC (.int 0)))) (sTest (s2 ltF (sVar 7) (sVar 2)))) (sVar 7) [7])) (sNew (sLst sNil)))))
    (sRet (sVar 2))
    sNext)
    (sAsg (s2 addA (sVar 2) (sC (.int 2))) (gN 2)))))
theorem odE_eq : odE = sFor (sRange1 (sC (.int 1500))) (gN 3) otB := rfl
section
variable {h : Hd} {p c n : Nat} {a0 a1 a3 a7 : Option D}
theorem ow_ex {n : Int} (hn : 0 < n) (hn2 : n < 1000000) : ∀ (m : Nat) (l r w : Int), 0 ≤ l → l < (2 : Int) ^ m → 0 ≤ r → r < 1000000 → 0 ≤ w → w < 1000000 → ∃ r' w' l', 0 ≤ r' ∧ r' < 1000000 ∧
    loopWhile owC owB (m + 1) [a0, a1, some (.int n), a3, some (.int r), some (.int w), some (.int l), a7] h = .ok (.nx [a0, a1, some (.int n), a3, some (.int r'), some (.int w'), some (.int l'), a7]) h
  | 0, l, r, w, q1, q2, q3, q4, q5, q6 => by
    have : l = 0 := by have : (2 : Int) ^ 0 = 1 := rfl; omega
    subst this
    refine ⟨r, w, 0, q3, q4, ?_⟩
    rw [loopWhile_ev]
    simp [owC]
  | m + 1, l, r, w, q1, q2, q3, q4, q5, q6 => by
    by_cases c : 0 < l
    · rw [Int.pow_succ] at q2
      have z1 := Int.emod_nonneg (w * w) (show n ≠ 0 by omega)
      have z2 := Int.emod_lt_of_pos (w * w) hn
      have z3 := Int.emod_nonneg (r * w) (show n ≠ 0 by omega)
      have z4 := Int.emod_lt_of_pos (r * w) hn
      by_cases d : l % 2 = 1
      · obtain ⟨r', w', l', e1, e2, e3⟩ := ow_ex hn hn2 m (l / 2) ((r * w) % n) ((w * w) % n) (by omega) (by omega) z3 (by omega) z1 (by omega)
        refine ⟨r', w', l', e1, e2, ?_⟩
        rw [loopWhile_ev]
        simp (disch := omega) [owC, owB, c, d]
        exact e3
      · obtain ⟨r', w', l', e1, e2, e3⟩ := ow_ex hn hn2 m (l / 2) r ((w * w) % n) (by omega) (by omega) q3 q4 z1 (by omega)
        refine ⟨r', w', l', e1, e2, ?_⟩
        rw [loopWhile_ev]
        simp (disch := omega) [owC, owB, c, d]
        exact e3
    · refine ⟨r, w, l, q3, q4, ?_⟩
      rw [loopWhile_ev]
      simp [owC, c]
theorem ot_ex {n : Int} (hn : 9 ≤ n) (hn2 : n < 100000) (a3 a4 a5 a6 : Option D) : ∃ h', Fr [] h h' ∧ (otB [a0, a1, some (.int n), a3, a4, a5, a6, none] h = .ok (.ret (.int n)) h' ∨ ∃ b4 b5 b6, otB [a0, a1, some (.int n), a3, a4, a5, a6, none] h = .ok (.nx [a0, a1, some (.int (n + 2)), a3, b4, b5, b6, none]) h') := by
  have p63 : (2 : Int) ^ 63 = 9223372036854775808 := by decide
  obtain ⟨r', w', l', e1, e2, e3⟩ := ow_ex (h := h) (a0 := a0) (a1 := a1) (a3 := a3) (a7 := none) (n := n) (by omega) (by omega) 63 (n - 1) 1 2 (by omega) (by rw [p63]; omega) (by omega) (by omega) (by omega) (by omega)
  by_cases c : r' = 1
  · subst c
    have C := comp_itemsP (g := gN 7) (t := (sAnd (sTest (s2 eqF (s2 modF (sCall intF (sCons (sVar 2) sNil)) (sVar 7)) (sC (.int 0)))) (sTest (s2 ltF (sVar 7) (sVar 2))))) (f := sVar 7) (env := [a0, a1, some (.int n), a3, some (.int 1), some (.int w'), some (.int l'), none]) (h := h)
      (β := fun d => match d with | .int d => decide (n % d = 0) && decide (d < n) | _ => false) (φ := id) (rangeL 3 69) (by rw [rangeL_len', LIM_eq]; omega) fun d hd => by
        obtain ⟨k, hk, rfl⟩ := rangeL_at hd
        refine ⟨_, rfl, ?_, fun _ => by simp⟩
        by_cases c : n % (3 + (k : Int)) = 0
        · simp (disch := omega) [c]
        · simp (disch := omega) [c]
    rw [List.map_id] at C
    generalize hes : ((rangeL 3 69).filter fun d => match d with | .int d => decide (n % d = 0) && decide (d < n) | _ => false) = es at C
    have hd2 : ∀ d ∈ es, Dk 10 d := fun d hd => by
      rw [← hes] at hd
      obtain ⟨k, _, rfl⟩ := rangeL_at (List.mem_filter.mp hd).1
      exact dk_int.up (by omega)
    have q := (eqF_nil (h := h ++ [O.lst es, O.lst []]) (a := h.length) (b := h.length + 1) (ds := es) (by rw [lk_append, if_neg (by omega), Nat.sub_self]; rfl) (by rw [lk_append, if_neg (by omega), Nat.add_sub_cancel_left]; rfl) hd2).2
    refine ⟨h ++ [O.lst es, O.lst []], .apps, ?_⟩
    cases z : es.isEmpty with
    | true => exact .inr ⟨_, _, _, by simp (disch := omega) [otB, e3, C, LIM_eq, guard_true, q, z]; exact ⟨rfl, rfl, rfl⟩⟩
    | false => exact .inl (by simp (disch := omega) [otB, e3, C, LIM_eq, guard_true, q, z])
  · exact ⟨h, .refl, .inr ⟨_, _, _, by simp (disch := omega) [otB, e3, c]; exact ⟨rfl, rfl, rfl⟩⟩⟩
theorem odd_ex (P : IsPen h p c n) (hn : n < 900000) : ∃ (i : Int) (h' : Hd), M_law_odd_one [.ref p] h = .ok (.int i) h' ∧ 0 ≤ i ∧ i ≤ 1100000 ∧ IsPen h' p c (n + 3) ∧ Fr [p] h h' := by
  obtain ⟨w, h1, e1, w0, w1, P1, F1⟩ := drawF P (by omega) (many := 3) (by omega) (by omega)
  rw [od_eq]
  have eA : odA [some (.ref p), none, none, none, none, none, none, none] h = .ok (.nx [some (.ref p), some (.int w), none, none, none, none, none, none]) h1 := by simp (disch := omega) [odA, guard_true, e1]
  by_cases c0 : w = 0
  · obtain ⟨r, h2, e2, r0, r1, P2, F2⟩ := drawF P1 (by omega) (many := 1000000) (by omega) (by omega)
    exact ⟨1 + r, h2, by simp (disch := omega) [defM_ev, startD, eA, odB, guard_true, c0, e2], by omega, by omega, P2.mono (by omega) rfl rfl, F1.trans F2⟩
  by_cases c1 : w = 1
  · obtain ⟨r, h2, e2, r0, r1, P2, F2⟩ := drawF P1 (by omega) (many := 998) (by omega) (by omega)
    obtain ⟨s, h3, e3, s0, s1, P3, F3⟩ := drawF P2 (by omega) (many := 998) (by omega) (by omega)
    have b0 : 0 ≤ (2 + r) * (2 + s) := Int.mul_nonneg (by omega) (by omega)
    have b1 : (2 + r) * (2 + s) ≤ 1000 * 1000 := Int.le_trans (Int.mul_le_mul_of_nonneg_right (show 2 + r ≤ 1000 by omega) (by omega)) (Int.mul_le_mul_of_nonneg_left (by omega) (by omega))
    exact ⟨(2 + r) * (2 + s), h3, by simp (disch := omega) [defM_ev, startD, eA, odB, odC, guard_true, c0, c1, e2, e3], b0, by omega, P3, (F1.trans F2).trans F3⟩
  obtain ⟨r, h2, e2, r0, r1, P2, F2⟩ := drawF P1 (by omega) (many := 1000) (by omega) (by omega)
  have L := loop_or (it := .snap (rangeL 0 1500)) (g := gN 3) (b := otB) (fun i env h => ∃ (m : Int) (a3 a4 a5 a6 : Option D), env = [some (.ref p), some (.int w), some (.int m), a3, a4, a5, a6, none] ∧ 9 ≤ m ∧ m ≤ 2100 + 2 * i ∧ Fr [] h2 h)
    (fun d h => ∃ m : Int, d = .int m ∧ 0 ≤ m ∧ m ≤ 10000 ∧ Fr [] h2 h) (rangeL 0 1500) (fun i env h _ => rfl)
    (fun i env h d hd ⟨m, a3, a4, a5, a6, e, m0, m1, F⟩ => by
      subst e
      have hi := lt_of_get hd
      rw [rangeL_len] at hi
      obtain ⟨h', F', q⟩ := ot_ex (h := h) (a0 := some (.ref p)) (a1 := some (.int w)) (n := m) m0 (by omega) (some d) a4 a5 a6
      refine ⟨_, _, rfl, ?_⟩
      rcases q with q | ⟨b4, b5, b6, q⟩
      · exact .inr ⟨_, h', q, m, rfl, by omega, by omega, F.trans F'⟩
      · exact .inl ⟨_, h', .inl q, m + 2, _, _, _, _, rfl, by omega, by omega, F.trans F'⟩)
    (turnsD (.snap (rangeL 0 1500)) h2) 0 [some (.ref p), some (.int w), some (.int (9 + 2 * r)), none, none, none, none, none] h2 ⟨9 + 2 * r, none, none, none, none, rfl, by omega, by omega, .refl⟩ (by simp [turnsD]) (Nat.zero_le _)
  rw [loop_snap0] at L
  have tn : (1500 : Int).toNat = 1500 := rfl
  rcases L with ⟨env', h3, e3, m, a3, a4, a5, a6, e4, m0, m1, F3⟩ | ⟨d, h3, e3, m, e4, m0, m1, F3⟩
  · subst e4
    rw [rangeL_len] at m1
    exact ⟨m, h3, by simp (disch := omega) [defM_ev, startD, eA, odB, odC, odD, guard_true, c0, c1, e2, odE_eq, e3, odF], by omega, by omega, (F3.pen P2 (by simp) (by simp)).mono (by omega) rfl rfl, (F1.trans F2).trans (F3.sub (by simp))⟩
  · subst e4
    exact ⟨m, h3, by simp (disch := omega) [defM_ev, startD, eA, odB, odC, odD, guard_true, c0, c1, e2, odE_eq, e3, odF], by omega, by omega, (F3.pen P2 (by simp) (by simp)).mono (by omega) rfl rfl, (F1.trans F2).trans (F3.sub (by simp))⟩
end
end Kq
end
set_option maxHeartbeats 8000000
noncomputable section
namespace Kq
open PySem PySem.Spec L2 Kf
def seA : SS := (sIf (sTest (s2 eqF (sFn 2 M_law_draw [] (sCons (sVar 0) (sCons (sC (.int 10)) sNil))) (sC (.int 0))))
    (sSeq (sPar [1, 2] (sCons (s2 addA (sC (.int 1)) (sFn 2 M_law_draw [] (sCons (sVar 0) (sCons (sC (.int 4)) sNil)))) (sCons (sFn 2 M_law_draw [] (sCons (sVar 0) (sCons (sC (.int 3)) sNil))) sNil)))
    (sSeq (sAsg (sFn 2 M_law_draw [] (sCons (sVar 0) (sCons (s2 addA (sCall min2F (sCons (sC (.int 3)) (sCons (s2 (f2I yes2 fun i j => .int (i - j)) (s2 (f2I yes2 fun i j => .int (i - j)) (sC (.int 8)) (sVar 1)) (s2 mulB (sC (.int 2)) (sVar 2))) sNil))) (sC (.int 1))) sNil))) (gN 3))
    (sRet (sTup (sCons (sFn 2 M_law_pick [] (sCons (sVar 0) (sCons (sNew (sLst (sCons (sC (.int 1)) (sCons (sC (.int 3)) (sCons (sC (.int 7)) sNil))))) sNil))) (sCons (s2 addA (s2 addA (s2 addA (sVar 1) (s2 mulB (sC (.int 2)) (sVar 2))) (sVar 3)) (sFn 2 M_law_draw [] (sCons (sVar 0) (sCons (s2 (f2I yes2 fun i j => .int (i - j)) (s2 (f2I yes2 fun i j => .int (i - j)) (s2 (f2I yes2 fun i j => .int (i - j)) (sC (.int 9)) (sVar 1)) (s2 mulB (sC (.int 2)) (sVar 2))) (sVar 3)) sNil)))) (sCons (sVar 1) (sCons (sVar 2) (sCons (sVar 3) (sCons (sC (.int 101)) (sCons (sC (.int 200)) sNil)))))))))))
    sNext)
def seB : SS := (sAsg (sFn 2 M_law_pick [] (sCons (sVar 0) (sCons (sNew (sLst (sCons (sC (.int 1)) (sCons (sC (.int 2)) (sCons (sC (.int 3)) (sCons (sC (.int 4)) (sCons (sC (.int 5)) (sCons (sC (.int 5)) sNil)))))))) sNil))) (gN 4))
def seC : SS := (sAsg (s2 addA (sC (.int 1)) (sFn 2 M_law_draw [] (sCons (sVar 0) (sCons (sCall min2F (sCons (sC (.int 3)) (sCons (sVar 4) sNil))) sNil)))) (gN 1))
def seD : SS := (sAsg (sFn 2 M_law_draw [] (sCons (sVar 0) (sCons (s2 addA (sCall min2F (sCons (sC (.int 1)) (sCons (s2 fdivF (s2 (f2I yes2 fun i j => .int (i - j)) (sVar 4) (sVar 1)) (sC (.int 2))) sNil))) (sC (.int 1))) sNil))) (gN 2))
def seE : SS := (sAsg (sFn 2 M_law_draw [] (sCons (sVar 0) (sCons (s2 addA (sCall min2F (sCons (sC (.int 2)) (sCons (s2 (f2I yes2 fun i j => .int (i - j)) (s2 (f2I yes2 fun i j => .int (i - j)) (sVar 4) (sVar 1)) (s2 mulB (sC (.int 2)) (sVar 2))) sNil))) (sC (.int 1))) sNil))) (gN 3))
def seF : SS := (sPar [5, 6] (sCons (sFn 2 M_law_pick [] (sCons (sVar 0) (sCons (sNew (sLst (sCons (sC (.int 1)) (sCons (sC (.int 3)) (sCons (sC (.int 3)) (sCons (sC (.int 3)) (sCons (sC (.int 5)) sNil))))))) sNil))) (sCons (sFn 2 M_law_pick [] (sCons (sVar 0) (sCons (sNew (sLst (sCons (sC (.int 11)) (sCons (sC (.int 101)) (sCons (sC (.int 997)) (sCons (sC (.int 999983)) sNil)))))) sNil))) sNil)))
def seG : SS := (sRet (sTup (sCons (sVar 5) (sCons (sVar 4) (sCons (sVar 1) (sCons (sVar 2) (sCons (sVar 3) (sCons (sVar 6) (sCons (s2 addA (sC (.int 60)) (sFn 2 M_law_draw [] (sCons (sVar 0) (sCons (sC (.int 300)) sNil)))) sNil)))))))))
theorem se_eq : M_law_setting = defM 7 (sSeq seA (sSeq seB (sSeq seC (sSeq seD (sSeq seE (sSeq seF seG)))))) := rfl
section
variable {h : Hd} {p c n : Nat}
/-- a pick of numbers -/
theorem pickI (P : IsPen h p c n) (hn : n < 1000000) {ns : List Int} (h0 : 0 < ns.length) (h1 : ns.length < 1000000) : ∃ (i : Int) (h' : Hd), M_law_pick [.ref p, .ref h.length] (h ++ [.lst (ns.map D.int)]) = .ok (.int i) h' ∧ i ∈ ns ∧ IsPen h' p c (n + 1) ∧ Fr [p] h h' := by
  obtain ⟨d, h2, e2, hd, P2, F2⟩ := pickF (h := h ++ [.lst (ns.map D.int)]) (m := h.length) ((Fr.app (T := [])).pen P (by simp) (by simp)) (by omega) (ds := ns.map D.int) (by simp) (by have := P.lt; omega) (by simpa using h0) (by simpa using h1)
  obtain ⟨i, hi, rfl⟩ := List.mem_map.mp hd
  exact ⟨i, h2, e2, hi, P2, Fr.trans .app F2⟩
theorem setting_ex (P : IsPen h p c n) (hn : n < 900000) : ∃ (s sh k e f pr sz : Int) (h' : Hd), M_law_setting [.ref p] h = .ok (.tup [.int s, .int sh, .int k, .int e, .int f, .int pr, .int sz]) h' ∧
    (0 ≤ s ∧ s ≤ 1000000 ∧ 0 ≤ sh ∧ sh ≤ 1000000 ∧ 0 ≤ k ∧ k ≤ 1000000 ∧ 0 ≤ e ∧ e ≤ 1000000 ∧ 0 ≤ f ∧ f ≤ 1000000 ∧ 0 ≤ pr ∧ pr ≤ 1000000 ∧ 0 ≤ sz ∧ sz ≤ 1000000) ∧ IsPen h' p c (n + 12) ∧ Fr [p] h h' := by
  obtain ⟨w, h1, e1, w0, w1, P1, F1⟩ := drawF P (by omega) (many := 10) (by omega) (by omega)
  rw [se_eq]
  by_cases c0 : w = 0
  · obtain ⟨k, h2, e2, k0, k1, P2, F2⟩ := drawF P1 (by omega) (many := 4) (by omega) (by omega)
    obtain ⟨e, h3, e3, q0, q1, P3, F3⟩ := drawF P2 (by omega) (many := 3) (by omega) (by omega)
    obtain ⟨f, h4, e4, f0, f1, P4, F4⟩ := drawF P3 (by omega) (many := min 3 (8 - (1 + k) - 2 * e) + 1) (by omega) (by omega)
    obtain ⟨s, h5, e5, hs, P5, F5⟩ := pickI P4 (by omega) (ns := [1, 3, 7]) (by simp) (by simp)
    obtain ⟨g, h6, e6, g0, g1, P6, F6⟩ := drawF P5 (by omega) (many := 9 - (1 + k) - 2 * e - f) (by omega) (by omega)
    simp at hs e5
    exact ⟨s, 1 + k + 2 * e + f + g, 1 + k, e, f, 101, 200, h6, by simp (disch := omega) [defM_ev, startD, seA, guard_true, e1, c0, e2, e3, e4, LIM_eq, e5, e6], by omega, P6.mono (by omega) rfl rfl, ((((F1.trans F2).trans F3).trans F4).trans F5).trans F6⟩
  · obtain ⟨sh, h2, e2, hsh, P2, F2⟩ := pickI P1 (by omega) (ns := [1, 2, 3, 4, 5, 5]) (by simp) (by simp)
    have hsh' : 1 ≤ sh ∧ sh ≤ 5 := by simp at hsh; omega
    obtain ⟨k, h3, e3, k0, k1, P3, F3⟩ := drawF P2 (by omega) (many := min 3 sh) (by omega) (by omega)
    obtain ⟨e, h4, e4, q0, q1, P4, F4⟩ := drawF P3 (by omega) (many := min 1 ((sh - (1 + k)) / 2) + 1) (by omega) (by omega)
    obtain ⟨f, h5, e5, f0, f1, P5, F5⟩ := drawF P4 (by omega) (many := min 2 (sh - (1 + k) - 2 * e) + 1) (by omega) (by omega)
    obtain ⟨s, h6, e6, hs, P6, F6⟩ := pickI P5 (by omega) (ns := [1, 3, 3, 3, 5]) (by simp) (by simp)
    obtain ⟨pr, h7, e7, hp, P7, F7⟩ := pickI P6 (by omega) (ns := [11, 101, 997, 999983]) (by simp) (by simp)
    obtain ⟨g, h8, e8, g0, g1, P8, F8⟩ := drawF P7 (by omega) (many := 300) (by omega) (by omega)
    simp at hs hp e2 e6 e7
    exact ⟨s, sh, 1 + k, e, f, pr, 60 + g, h8, by simp (disch := omega) [defM_ev, startD, seA, seB, seC, seD, seE, seF, seG, guard_true, e1, c0, e2, e3, e4, e5, LIM_eq, e6, e7, e8], by omega, P8.mono (by omega) rfl rfl, ((((((F1.trans F2).trans F3).trans F4).trans F5).trans F6).trans F7).trans F8⟩
end
end Kq
end
set_option maxHeartbeats 8000000
noncomputable section
namespace Kq
open PySem PySem.Spec L2 Kf
def tA : SS := (sAsg (s2 addA (sNew (sCallL listF (sCons (sFn 1 M_law_setting [] (sCons (sVar 1) sNil)) sNil))) (sNew (sLst (sCons (s2 addA (sC (.int 1)) (sFn 2 M_law_draw [] (sCons (sVar 1) (sCons (sC (.int 16)) sNil)))) sNil)))) (gN 4))
def tB : SS := (sAsg (sNew (sLst (sCons (sNew (sLst (sCons (sC (.int 1)) (sCons (sC (.int 7)) (sCons (sC (.int 2)) (sCons (sC (.int 9)) (sCons (sC (.int 0)) sNil))))))) (sCons (sNew (sLst (sCons (sC (.int 1)) (sCons (sC (.int 8)) (sCons (sC (.int 0)) (sCons (sC (.int 9)) sNil)))))) (sCons (sNew (sLst (sCons (sC (.int 1)) (sCons (sC (.int 4)) (sCons (sC (.int 0)) (sCons (sC (.int 5)) sNil)))))) (sCons (sNew (sLst (sCons (sC (.int 0)) (sCons (sC (.int 2)) (sCons (sC (.int 3)) (sCons (sNeg (sC (.int 1))) sNil)))))) (sCons (sNew (sLst (sCons (sC (.int 0)) (sCons (sC (.int 3)) (sCons (sC (.int 4)) (sCons (sNeg (sC (.int 1))) sNil)))))) sNil))))))) (gN 5))
def tC : SS := (sAsg (s2 addA (sVar 5) (sNew (sLst (sCons (sNew (sLst (sCons (sC (.int 2)) (sCons (sC (.int 7)) (sCons (sC (.int 9)) (sCons (sC (.int 999983)) (sCons (sC (.int 1000003)) (sCons (s2 mulB (sC (.int 997)) (sC (.int 3))) (sCons (sC (.int 1)) sNil))))))))) (sCons (sNew (sLst (sCons (sC (.int 9)) (sCons (sC (.int 8)) (sCons (sC (.int 4000)) (sCons (sC (.int 4001)) sNil)))))) (sCons (sNew (sLst (sCons (sC (.int 1)) (sCons (sC (.int 16)) (sCons (sC (.int 0)) (sCons (sC (.int 17)) sNil)))))) sNil)))))) (gN 5))
def tL : SS := (sFor (sRange1 (sFn 2 M_law_draw [] (sCons (sVar 1) (sCons (sC (.int 4)) sNil)))) (gN 6) (sSeq (sAsg (sFn 2 M_law_draw [] (sCons (sVar 1) (sCons (sC (.int 8)) sNil))) (gN 7))
    (sAsg (sFn 2 M_law_pick [] (sCons (sVar 1) (sCons (s2 addA (s2 getF (sVar 5) (sVar 7)) (sNew (sLst (sCons (sC .non) (sCons (sC (.bl true)) (sCons (sC (.str "3")) (sCons (sTup (sCons (sC (.int 3)) sNil)) sNil))))))) sNil))) (gSub' (sVar 4) (sVar 7) setF))))
def tO : SS := (sIf (sTest (s2 eqF (s2 modF (sVar 3) (sC (.int 3))) (sC (.int 0))))
    (sAsg (sFn 1 M_law_odd_one [] (sCons (sVar 1) sNil)) (gSub' (sVar 4) (sC (.int 5)) setF))
    sNext)
def tD : SS := (sAsg (sFn 1 M_law_wrong [] (sCons (sVar 4) sNil)) (gN 8))
def tT : SS := (sTry (sAsg (sNewI "Settings" 9 M_Settings_init [] (sCons (s2 getF (sVar 4) (sC (.int 0))) (sCons (s2 getF (sVar 4) (sC (.int 1))) (sCons (s2 getF (sVar 4) (sC (.int 2))) (sCons (s2 getF (sVar 4) (sC (.int 3))) (sCons (s2 getF (sVar 4) (sC (.int 4))) (sCons (s2 getF (sVar 4) (sC (.int 5))) (sCons (s2 getF (sVar 4) (sC (.int 6))) (sCons (s2 getF (sVar 4) (sC (.int 7))) sNil))))))))) (gN 9)) [((fun c => List.lookup c [("BadNumber", true)]), (some 10), fun _ a d => (sSeq (sIf (sOr (sTest (s2 isF (sVar 8) (sC .non))) (sTest (s2 neF (sTup (sCons (sXf "BadNumber" a d (sVar 10) "what") (sCons (sCall reprF (sCons (sXf "BadNumber" a d (sVar 10) "number") sNil)) sNil))) (sTup (sCons (sVar 8) (sCons (sCall reprF (sCons (s2 getF (sVar 4) (sIndex (sVar 2) (sVar 8))) sNil)) sNil))))))
    (sRet (sC (.bl false)))
    sNext)
    sCt))])
def tP : SS := (sIf (sOr (sTest (s2 notF (sVar 8) (sC .non))) (sTest (s2 neF (sNew (sLst (sCons (sFld (sVar 9) "servers" ["Settings"]) (sCons (sFld (sVar 9) "shelves" ["Settings"]) (sCons (sFld (sVar 9) "k" ["Settings"]) (sCons (sFld (sVar 9) "e" ["Settings"]) sNil)))))) (sSlA (sVar 4) sNoPart (sPart (sC (.int 4)))))))
    (sRet (sC (.bl false)))
    sNext)
def tQ : SS := (sIf (sTest (s2 neF (sNew (sLst (sCons (sFld (sVar 9) "f" ["Settings"]) (sCons (sFld (sVar 9) "prime" ["Settings"]) (sCons (sFld (sVar 9) "size" ["Settings"]) (sCons (sFld (sVar 9) "width" ["Settings"]) sNil)))))) (sSlA (sVar 4) (sPart (sC (.int 4))) sNoPart)))
    (sRet (sC (.bl false)))
    sNext)
def tR : SS := (sIf (sTest (s2 neF (sFld (sVar 9) "need" ["Settings"]) (s2 addA (s2 addA (s2 getF (sVar 4) (sC (.int 2))) (s2 mulB (sC (.int 2)) (s2 getF (sVar 4) (sC (.int 3))))) (s2 getF (sVar 4) (sC (.int 4))))))
    (sRet (sC (.bl false)))
    sNext)
def tS : SS := (sIf (sTest (s2 neF (sFn 1 M_server_names [] (sCons (sVar 9) sNil)) (sCallN tupN (sLc (sRange1 (s2 getF (sVar 4) (sC (.int 0)))) (gN 11) sYes (s2 addA (sC (.str "b")) (sCall strF (sCons (s2 addA (sVar 11) (sC (.int 1))) sNil))) [11]))))
    (sRet (sC (.bl false)))
    sNext)
def tU : SS := (sIf (sTest (s2 neF (sFn 1 M_shelf_names [] (sCons (sVar 9) sNil)) (sCallN tupN (sLc (sRange1 (s2 getF (sVar 4) (sC (.int 1)))) (gN 11) sYes (s2 addA (sC (.str "s")) (sCall strF (sCons (s2 addA (sVar 11) (sC (.int 1))) sNil))) [11]))))
    (sRet (sC (.bl false)))
    sNext)
def tAll : SS := (sSeq tA (sSeq tB (sSeq tC (sSeq tL (sSeq tO (sSeq tD (sSeq tT (sSeq tP (sSeq tQ (sSeq tR (sSeq tS tU)))))))))))
theorem law_eq : M_law = defM 12 (sSeq (sAsg (sFn 1 M_law_pen [] (sCons (sVar 0) sNil)) (gN 1)) (sSeq (sAsg (sNew (sLst (sCons (sC (.str "servers")) (sCons (sC (.str "shelves")) (sCons (sC (.str "k")) (sCons (sC (.str "e")) (sCons (sC (.str "f")) (sCons (sC (.str "prime")) (sCons (sC (.str "size")) (sCons (sC (.str "width")) sNil)))))))))) (gN 2)) (sSeq (sFor (sRange1 (sC (.int 12))) (gN 3) tAll) (sRet (sC (.bl true)))))) := rfl
def tTb : SS := (sAsg (sNewI "Settings" 9 M_Settings_init [] (sCons (s2 getF (sVar 4) (sC (.int 0))) (sCons (s2 getF (sVar 4) (sC (.int 1))) (sCons (s2 getF (sVar 4) (sC (.int 2))) (sCons (s2 getF (sVar 4) (sC (.int 3))) (sCons (s2 getF (sVar 4) (sC (.int 4))) (sCons (s2 getF (sVar 4) (sC (.int 5))) (sCons (s2 getF (sVar 4) (sC (.int 6))) (sCons (s2 getF (sVar 4) (sC (.int 7))) sNil))))))))) (gN 9))
def suK (a : Nat) (d : Option Nat) : SS := (sSeq (sIf (sOr (sTest (s2 isF (sVar 8) (sC .non))) (sTest (s2 neF (sTup (sCons (sXf "BadNumber" a d (sVar 10) "what") (sCons (sCall reprF (sCons (sXf "BadNumber" a d (sVar 10) "number") sNil)) sNil))) (sTup (sCons (sVar 8) (sCons (sCall reprF (sCons (s2 getF (sVar 4) (sIndex (sVar 2) (sVar 8))) sNil)) sNil))))))
    (sRet (sC (.bl false)))
    sNext)
    sCt)
theorem tT_eq : tT = sTry tTb [((fun c => List.lookup c [("BadNumber", true)]), (some 10), fun _ a d => suK a d)] := rfl
/-! ### what is shown of a drawn value -/
theorem sv_repr {x : D} (v : Sv x) : ∃ s : Str, PyData.strOk s = true ∧ ∀ h, reprF [x] h = .ok (.raw s) h := by
  have fin : ∀ p : PyData, (∀ h, Kf.py h 60 x = some p) → p.showable = true → p.shown.length ≤ LIM → PyData.strOk p.shown = true → ∃ s : Str, PyData.strOk s = true ∧ ∀ h, reprF [x] h = .ok (.raw s) h := fun p e s l k => ⟨p.shown, k, fun h => reprF_ev (e h) s l⟩
  cases v with
  | @int i h0 h1 =>
    have hl : i.natAbs.log2 < 1920 := by
      by_cases z : i.natAbs = 0
      · rw [z]; decide
      · refine (Nat.log2_lt z).mpr (Nat.lt_of_le_of_lt (m := 1000000000) (by omega) (by decide +kernel))
    refine fin (.int i) (fun h => rfl) (by simpa [PyData.showable] using hl) ?_ ?_
    · simp only [PyData.shown]
      exact int_text_fits hl
    · simp only [PyData.shown]
      exact strOk_of _
  | non => exact fin .none (fun h => rfl) rfl (by simp only [PyData.shown]; decide +kernel) (by simp only [PyData.shown]; exact strOk_of _)
  | tru => exact fin (.bool true) (fun h => rfl) rfl (by simp only [PyData.shown]; decide +kernel) (by simp only [PyData.shown]; exact strOk_of _)
  | str => exact fin (.str (Str.ofString "3")) (fun h => rfl) rfl (by simp only [PyData.shown]; decide +kernel) (by simp only [PyData.shown]; decide +kernel)
  | tup => exact fin (.tuple [.int 3]) (fun h => rfl) (by decide +kernel) (by simp only [PyData.shown, PyData.shownAll]; decide +kernel) (by simp only [PyData.shown, PyData.shownAll]; decide +kernel)
abbrev rowE (p N m : Nat) (a0 a3 a5 a6 a7 : Option D) (due : D) (a9 a10 a11 : Option D) : En := [a0, some (.ref p), some (.ref N), a3, some (.ref m), a5, a6, a7, some due, a9, a10, a11]
def nmD : List D := nms.map D.str
section
variable {h : Hd} {p N m : Nat} {x1 x2 x3 x4 x5 x6 x7 x8 : D} {a0 a3 a5 a6 a7 a9 a11 : Option D}
theorem idx_all : ∀ i, i < 8 → idxP (nms.map fun z => .str (Str.ofString z)) (.str (Str.ofString (nms.getD i ""))) = some i := by decide +kernel
theorem py_strs {h : Hd} {m : Nat} {ss : List String} (e : lk h m = some (.lst (ss.map D.str))) : Kf.py h 60 (.ref m) = some (.list (ss.map fun z => .str (Str.ofString z))) := by
  rw [py_list e]
  have : ∀ l : List String, allS ((l.map D.str).map (Kf.py h 59)) = some (l.map fun z => .str (Str.ofString z)) := fun l => by
    induction l with
    | nil => rfl
    | cons z r ih =>
      show (allS ((r.map D.str).map (Kf.py h 59))).map (PyData.str (Str.ofString z) :: ·) = _
      rw [ih]; rfl
  rw [this]; rfl
@[simp] theorem ev_index (f g : SE) (env : En) (h : Hd) : sIndex f g env h = (f env h).bind fun x h1 => asRef x fun m => onLst h1 m fun _ => (g env h1).bind fun d h2 => onSome (Kf.py h2 60 (.ref m)) fun p => onSome (itemsP p) fun ps => onSome (Kf.py h2 60 d) fun q => onSome (idxP ps q) fun j => .ok (.int (j : Nat)) h2 := id rfl
theorem atI_row {i : Nat} (hi : i < 8) : atI [x1, x2, x3, x4, x5, x6, x7, x8] (i : Int) = some ([x1, x2, x3, x4, x5, x6, x7, x8].getD i .non) := by
  have : [x1, x2, x3, x4, x5, x6, x7, x8][i]? = some ([x1, x2, x3, x4, x5, x6, x7, x8].getD i .non) := by
    rw [List.getD_eq_getElem?_getD, List.getElem?_eq_getElem (by simpa using hi)]
    rfl
  exact atI_nat this
theorem rowAll {P : D → Prop} (v1 : P x1) (v2 : P x2) (v3 : P x3) (v4 : P x4) (v5 : P x5) (v6 : P x6) (v7 : P x7) (v8 : P x8) : ∀ i, i < 8 → P ([x1, x2, x3, x4, x5, x6, x7, x8].getD i .non) := fun i hi => by
  match i, hi with
  | 0, _ => exact v1
  | 1, _ => exact v2
  | 2, _ => exact v3
  | 3, _ => exact v4
  | 4, _ => exact v5
  | 5, _ => exact v6
  | 6, _ => exact v7
  | 7, _ => exact v8
theorem svW_lt {i : Nat} (e : svW x1 x2 x3 x4 x5 x6 x7 x8 = some i) : i < 8 := by
  unfold svW at e
  repeat' split at e
  all_goals first | (cases e; omega) | (cases e)
theorem suK_ex {i : Nat} (hi : i < 8) (v : ∀ i, i < 8 → Sv ([x1, x2, x3, x4, x5, x6, x7, x8].getD i .non)) (eN : lk h N = some (.lst nmD)) (em : lk h m = some (.lst [x1, x2, x3, x4, x5, x6, x7, x8])) (a : Nat) (d : Option Nat) :
    suK a d (rowE p N m a0 a3 a5 a6 a7 (.str (nms.getD i "")) a9 (some (.xc "BadNumber" a d [("number", [x1, x2, x3, x4, x5, x6, x7, x8].getD i .non), ("what", .str (nms.getD i ""))])) a11) h =
      .ok (.ct (rowE p N m a0 a3 a5 a6 a7 (.str (nms.getD i "")) a9 (some (.xc "BadNumber" a d [("number", [x1, x2, x3, x4, x5, x6, x7, x8].getD i .non), ("what", .str (nms.getD i ""))])) a11)) h := by
  obtain ⟨s, s1, s2⟩ := sv_repr (v i hi)
  have at_ := atI_row (x1 := x1) (x2 := x2) (x3 := x3) (x4 := x4) (x5 := x5) (x6 := x6) (x7 := x7) (x8 := x8) hi
  have ix := idx_all i hi
  have eN' := py_strs (ss := nms) eN
  generalize ([x1, x2, x3, x4, x5, x6, x7, x8].getD i .non) = x at s2 at_
  generalize nms.getD i "" = w at ix
  have e : ∀ f, sXf "BadNumber" a d (sVar 10) f (rowE p N m a0 a3 a5 a6 a7 (.str w) a9 (some (.xc "BadNumber" a d [("number", x), ("what", .str w)])) a11) h = onSome (List.lookup f [("number", x), ("what", .str w)]) fun v => .ok v h := fun f => xf_ev _ _ _ _ _ _ _ _ (by simp)
  have pw : Kf.py h 60 (.str w) = some (.str (Str.ofString w)) := rfl
  have lk : Like h (.tup [.str w, .raw s]) (.tup [.str w, .raw s]) := ⟨.tuple [.str (Str.ofString w), .str s], by
    have q : Kf.py h 59 (.raw s) = some (.str s) := by show (if PyData.strOk s = true then _ else _) = _; rw [if_pos s1]
    show (allS ([D.str w, .raw s].map (Kf.py h 59))).map PyData.tuple = _
    rw [List.map_cons, List.map_cons, List.map_nil, q]; rfl, by
    have q : Kf.py h 59 (.raw s) = some (.str s) := by show (if PyData.strOk s = true then _ else _) = _; rw [if_pos s1]
    show (allS ([D.str w, .raw s].map (Kf.py h 59))).map PyData.tuple = _
    rw [List.map_cons, List.map_cons, List.map_nil, q]; rfl⟩
  obtain ⟨q, y1, y2⟩ := lk
  have ne := (eqF_same y1 y2).2
  have nn : isNonD (.str w) = false := rfl
  simp (disch := omega) [suK, e, List.lookup, LIM_eq, guard_true, s2, eN, eN', pw, ix, itemsP, em, at_, ne, nn, onSome]
end
end Kq
end
set_option maxHeartbeats 8000000
noncomputable section
namespace Kq
open PySem PySem.Spec L2 Kf
theorem at8 {x1 x2 x3 x4 x5 x6 x7 x8 : D} : atI [x1, x2, x3, x4, x5, x6, x7, x8] 0 = some x1 ∧ atI [x1, x2, x3, x4, x5, x6, x7, x8] 1 = some x2 ∧ atI [x1, x2, x3, x4, x5, x6, x7, x8] 2 = some x3 ∧ atI [x1, x2, x3, x4, x5, x6, x7, x8] 3 = some x4 ∧
    atI [x1, x2, x3, x4, x5, x6, x7, x8] 4 = some x5 ∧ atI [x1, x2, x3, x4, x5, x6, x7, x8] 5 = some x6 ∧ atI [x1, x2, x3, x4, x5, x6, x7, x8] 6 = some x7 ∧ atI [x1, x2, x3, x4, x5, x6, x7, x8] 7 = some x8 := ⟨rfl, rfl, rfl, rfl, rfl, rfl, rfl, rfl⟩
/-- eight good values -/
structure Sv8 (x1 x2 x3 x4 x5 x6 x7 x8 : D) : Prop where
  v1 : Sv x1
  v2 : Sv x2
  v3 : Sv x3
  v4 : Sv x4
  v5 : Sv x5
  v6 : Sv x6
  v7 : Sv x7
  v8 : Sv x8
section
variable {h : Hd} {p N m : Nat} {x1 x2 x3 x4 x5 x6 x7 x8 : D} {a0 a3 a5 a6 a7 a9 a11 : Option D}
theorem tT_bad {i : Nat} (V : Sv8 x1 x2 x3 x4 x5 x6 x7 x8) (e : svW x1 x2 x3 x4 x5 x6 x7 x8 = some i) (eN : lk h N = some (.lst nmD)) (em : lk h m = some (.lst [x1, x2, x3, x4, x5, x6, x7, x8])) :
    tT (rowE p N m a0 a3 a5 a6 a7 (.str (nms.getD i "")) a9 none a11) h = .ok (.ct (rowE p N m a0 a3 a5 a6 a7 (.str (nms.getD i "")) a9 none a11)) (h ++ [.ins "Settings" []]) := by
  have ini := init_ex (h := h ++ [.ins "Settings" []]) (s := h.length) (by simp) V.v1 V.v2 V.v3 V.v4 V.v5 V.v6 V.v7 V.v8
  rw [e] at ini
  have hi := svW_lt e
  obtain ⟨g0, g1, g2, g3, g4, g5, g6, g7⟩ := @at8 x1 x2 x3 x4 x5 x6 x7 x8
  have e1 : tTb (rowE p N m a0 a3 a5 a6 a7 (.str (nms.getD i "")) a9 none a11) h = .ok (.exc "BadNumber" [("number", [x1, x2, x3, x4, x5, x6, x7, x8].getD i .non), ("what", .str (nms.getD i ""))] (rowE p N m a0 a3 a5 a6 a7 (.str (nms.getD i "")) a9 none a11)) (h ++ [.ins "Settings" []]) := by
    simp only at ini
    generalize ([x1, x2, x3, x4, x5, x6, x7, x8].getD i .non) = x at ini ⊢
    generalize nms.getD i "" = w at ini ⊢
    simp [tTb, em, g0, g1, g2, g3, g4, g5, g6, g7, guard_true, ini]
  rw [tT_eq]
  refine (sTry_exc e1).trans (sCls_yes rfl fun a d => ?_)
  show outN (some 10) (suK a d (rowE p N m a0 a3 a5 a6 a7 (.str (nms.getD i "")) a9 (some (.xc "BadNumber" a d [("number", [x1, x2, x3, x4, x5, x6, x7, x8].getD i .non), ("what", .str (nms.getD i ""))])) a11) (h ++ [.ins "Settings" []])) = _
  rw [suK_ex hi (rowAll V.v1 V.v2 V.v3 V.v4 V.v5 V.v6 V.v7 V.v8) (by rw [lk_append, if_pos (lk_lt eN), eN]) (by rw [lk_append, if_pos (lk_lt em), em])]
  rfl
theorem tT_ok (V : Sv8 x1 x2 x3 x4 x5 x6 x7 x8) (e : svW x1 x2 x3 x4 x5 x6 x7 x8 = none) (em : lk h m = some (.lst [x1, x2, x3, x4, x5, x6, x7, x8])) :
    tT (rowE p N m a0 a3 a5 a6 a7 .non a9 none a11) h = .ok (.nx (rowE p N m a0 a3 a5 a6 a7 .non (some (.ref h.length)) none a11)) (h ++ [setO x1 x2 x3 x4 x5 x6 x7 x8]) := by
  have ini := init_ex (h := h ++ [.ins "Settings" []]) (s := h.length) (by simp) V.v1 V.v2 V.v3 V.v4 V.v5 V.v6 V.v7 V.v8
  rw [e] at ini
  have se : (h ++ [O.ins "Settings" []]).set h.length (setO x1 x2 x3 x4 x5 x6 x7 x8) = h ++ [setO x1 x2 x3 x4 x5 x6 x7 x8] := by
    rw [List.set_append_right _ _ (Nat.le_refl _), Nat.sub_self]; rfl
  rw [se] at ini
  obtain ⟨g0, g1, g2, g3, g4, g5, g6, g7⟩ := @at8 x1 x2 x3 x4 x5 x6 x7 x8
  rw [tT_eq]
  refine sTry_nx ?_
  simp only at ini
  simp [tTb, em, g0, g1, g2, g3, g4, g5, g6, g7, guard_true, ini]
theorem svW_none (e : svW x1 x2 x3 x4 x5 x6 x7 x8 = none) : b1 x1 = false ∧ isIn 1 8 x2 = true ∧ isIn 1 4 x3 = true ∧ isIn 0 2 x4 = true ∧ isIn 0 3 x5 = true := by
  unfold svW at e
  by_cases c1 : b1 x1 = true
  · rw [if_pos c1] at e; cases e
  rw [if_neg c1] at e
  by_cases c2 : isIn 1 8 x2 = false
  · rw [if_pos c2] at e; cases e
  rw [if_neg c2] at e
  by_cases c3 : isIn 1 4 x3 = false
  · rw [if_pos c3] at e; cases e
  rw [if_neg c3] at e
  by_cases c4 : isIn 0 2 x4 = false
  · rw [if_pos c4] at e; cases e
  rw [if_neg c4] at e
  by_cases c5 : b5 x2 x3 x4 x5 = true
  · rw [if_pos c5] at e; cases e
  refine ⟨by simpa using c1, by simpa using c2, by simpa using c3, by simpa using c4, ?_⟩
  unfold b5 at c5
  simp at c5
  exact c5.1
/-! ### names -/
theorem strlen : ∀ i : Nat, i < 10 → (toString (i : Int)).length ≤ 2 := by decide +kernel
theorem names_ex (w : String) (hw : w.length = 1) {n : Nat} (hn : n ≤ 8) (i : Nat) (env : En) (h : Hd) (hi : i < env.length) (f : SE) (hf : ∀ (k : Int) h, f (env.set i (some (.int k))) h = (strF [.int (k + 1)] h).bind fun d h => addA (.str w) d h) :
    compItems (gN i) sYes f env (rangeL 0 n) 0 h = .ok ((rangeL 0 n).map fun d => match d with | .int k => .str (w ++ toString (k + 1)) | _ => .non) h := by
  have C := comp_itemsP (g := gN i) (t := sYes) (f := f) (env := env) (h := h) (β := fun _ => true) (φ := fun d => match d with | .int k => .str (w ++ toString (k + 1)) | _ => .non) (rangeL 0 n) (by rw [rangeL_len, LIM_eq]; omega) fun d hd => by
    obtain ⟨k, hk, rfl⟩ := rangeL_mem hd
    refine ⟨_, rfl, by simp, fun _ => ?_⟩
    rw [hf]
    have sl := strlen (k + 1) (by omega)
    have e1 : strF [.int ((k : Int) + 1)] h = .ok (.str (toString ((k : Int) + 1))) h := by
      show (guard' (((k : Int) + 1).natAbs < 10 ^ 100) (Res.ok (.str (toString ((k : Int) + 1))) h) : Res D) = _
      exact guard_true _ _ (Nat.lt_of_le_of_lt (m := 10) (by omega) (by decide +kernel))
    rw [e1, Res.bind_ok, addA_str]
    refine guard_true _ _ ?_
    have : ((k : Int) + 1) = ((k + 1 : Nat) : Int) := by omega
    rw [hw, LIM_eq, this]
    omega
  rw [List.filter_eq_self.mpr (fun _ _ => rfl)] at C
  exact C
end
end Kq
end
set_option maxHeartbeats 8000000
noncomputable section
namespace Kq
open PySem PySem.Spec L2 Kf
def namesD (w : String) (n : Nat) : List D := (rangeL 0 n).map fun d => match d with | .int k => .str (w ++ toString (k + 1)) | _ => .non
theorem namesD_dk {w : String} {n : Nat} : Dk 2 (.tup (namesD w n)) := dk_tup fun y hy => by
  unfold namesD at hy
  obtain ⟨d, hd, rfl⟩ := List.mem_map.mp hy
  obtain ⟨k, _, rfl⟩ := rangeL_mem hd
  exact dk_str
section
variable {h : Hd} {p N m s : Nat} {x1 x2 x3 x4 x5 x6 x7 x8 : D} {a0 a3 a5 a6 a7 a9 a11 : Option D}
abbrev madeE (p N m s : Nat) (a0 a3 a5 a6 a7 : Option D) : En := [a0, some (.ref p), some (.ref N), a3, some (.ref m), a5, a6, a7, some .non, some (.ref s), none, none]
theorem snames_ex (w : String) (hw : w.length = 1) {n : Nat} (hn : n ≤ 8) (e : lk h s = some (setO (.int n) x2 x3 x4 x5 x6 x7 x8)) : M_server_names [.ref s] h = .ok (.tup (namesD "b" n)) h := by
  have C := names_ex "b" rfl hn 1 [some (.ref s), none] h (by simp) (s2 addA (sC (.str "b")) (sCall strF (sCons (s2 addA (sVar 1) (sC (.int 1))) sNil))) fun k h => by simp
  unfold setO at e
  have tn : ((n : Nat) : Int).toNat = n := by omega
  have C' : compItems (gN 1) sYes (s2 addA (sC (.str "b")) (sCall strF (sCons (s2 addA (sVar 1) (sC (.int 1))) sNil))) [some (.ref s), none] (rangeL 0 n) 0 h = .ok (namesD "b" n) h := C
  simp (disch := omega) [M_server_names, defM_ev, s_server_names, startD, e, guard_true, List.lookup, tn, C']
theorem hnames_ex {n : Nat} (hn : n ≤ 8) (e : lk h s = some (setO x1 (.int n) x3 x4 x5 x6 x7 x8)) : M_shelf_names [.ref s] h = .ok (.tup (namesD "s" n)) h := by
  have C := names_ex "s" rfl hn 1 [some (.ref s), none] h (by simp) (s2 addA (sC (.str "s")) (sCall strF (sCons (s2 addA (sVar 1) (sC (.int 1))) sNil))) fun k h => by simp
  unfold setO at e
  have tn : ((n : Nat) : Int).toNat = n := by omega
  have C' : compItems (gN 1) sYes (s2 addA (sC (.str "s")) (sCall strF (sCons (s2 addA (sVar 1) (sC (.int 1))) sNil))) [some (.ref s), none] (rangeL 0 n) 0 h = .ok (namesD "s" n) h := C
  simp (disch := omega) [M_shelf_names, defM_ev, s_shelf_names, startD, e, guard_true, List.lookup, tn, C']
theorem row_dk (V : Sv8 x1 x2 x3 x4 x5 x6 x7 x8) : Dk 10 x1 ∧ Dk 10 x2 ∧ Dk 10 x3 ∧ Dk 10 x4 ∧ Dk 10 x5 ∧ Dk 10 x6 ∧ Dk 10 x7 ∧ Dk 10 x8 := ⟨V.v1.dk, V.v2.dk, V.v3.dk, V.v4.dk, V.v5.dk, V.v6.dk, V.v7.dk, V.v8.dk⟩
theorem tP_ex (V : Sv8 x1 x2 x3 x4 x5 x6 x7 x8) (em : lk h m = some (.lst [x1, x2, x3, x4, x5, x6, x7, x8])) (es : lk h s = some (setO x1 x2 x3 x4 x5 x6 x7 x8)) : tP (madeE p N m s a0 a3 a5 a6 a7) h = .ok (.nx (madeE p N m s a0 a3 a5 a6 a7)) (h ++ [.lst [x1, x2, x3, x4], .lst [x1, x2, x3, x4]]) := by
  have hm := lk_lt em
  have dk := row_dk V
  have ne := (eqF_lists (h := h ++ [O.lst [x1, x2, x3, x4], O.lst [x1, x2, x3, x4]]) (a := h.length) (b := h.length + 1) (ds := [x1, x2, x3, x4]) (by rw [lk_append, if_neg (by omega), Nat.sub_self]; rfl) (by rw [lk_append, if_neg (by omega), Nat.add_sub_cancel_left]; rfl) (fun d hd => by
    simp at hd
    rcases hd with e | e | e | e <;> subst e
    · exact dk.1
    · exact dk.2.1
    · exact dk.2.2.1
    · exact dk.2.2.2.1)).2
  have ec : cutD [x1, x2, x3, x4, x5, x6, x7, x8] none (some 4) = [x1, x2, x3, x4] := rfl
  have esl : sSlA (sVar 4) sNoPart (sPart (sC (.int 4))) (madeE p N m s a0 a3 a5 a6 a7) (h ++ [O.lst [x1, x2, x3, x4]]) = .ok (.ref (h.length + 1)) (h ++ [O.lst [x1, x2, x3, x4], O.lst [x1, x2, x3, x4]]) := by
    unfold sSlA sPart sNoPart
    simp [em, ec, lk_append, hm]
  unfold setO at es
  have nn : isNonD .non = true := rfl
  simp (disch := omega) [tP, nn, es, guard_true, List.lookup, LIM_eq, esl, ne]
theorem tQ_ex (V : Sv8 x1 x2 x3 x4 x5 x6 x7 x8) (em : lk h m = some (.lst [x1, x2, x3, x4, x5, x6, x7, x8])) (es : lk h s = some (setO x1 x2 x3 x4 x5 x6 x7 x8)) : tQ (madeE p N m s a0 a3 a5 a6 a7) h = .ok (.nx (madeE p N m s a0 a3 a5 a6 a7)) (h ++ [.lst [x5, x6, x7, x8], .lst [x5, x6, x7, x8]]) := by
  have hm := lk_lt em
  have dk := row_dk V
  have ne := (eqF_lists (h := h ++ [O.lst [x5, x6, x7, x8], O.lst [x5, x6, x7, x8]]) (a := h.length) (b := h.length + 1) (ds := [x5, x6, x7, x8]) (by rw [lk_append, if_neg (by omega), Nat.sub_self]; rfl) (by rw [lk_append, if_neg (by omega), Nat.add_sub_cancel_left]; rfl) (fun d hd => by
    simp at hd
    rcases hd with e | e | e | e <;> subst e
    · exact dk.2.2.2.2.1
    · exact dk.2.2.2.2.2.1
    · exact dk.2.2.2.2.2.2.1
    · exact dk.2.2.2.2.2.2.2)).2
  have ec : cutD [x1, x2, x3, x4, x5, x6, x7, x8] (some 4) none = [x5, x6, x7, x8] := rfl
  have esl : sSlA (sVar 4) (sPart (sC (.int 4))) sNoPart (madeE p N m s a0 a3 a5 a6 a7) (h ++ [O.lst [x5, x6, x7, x8]]) = .ok (.ref (h.length + 1)) (h ++ [O.lst [x5, x6, x7, x8], O.lst [x5, x6, x7, x8]]) := by
    unfold sSlA sPart sNoPart
    simp [em, ec, lk_append, hm]
  unfold setO at es
  simp (disch := omega) [tQ, es, guard_true, List.lookup, LIM_eq, esl, ne]
theorem tR_ex {i3 i4 i5 : Int} (h3 : 0 ≤ i3 ∧ i3 ≤ 10) (h4 : 0 ≤ i4 ∧ i4 ≤ 10) (em : lk h m = some (.lst [x1, x2, .int i3, .int i4, .int i5, x6, x7, x8])) (es : lk h s = some (setO x1 x2 (.int i3) (.int i4) (.int i5) x6 x7 x8)) : tR (madeE p N m s a0 a3 a5 a6 a7) h = .ok (.nx (madeE p N m s a0 a3 a5 a6 a7)) h := by
  obtain ⟨g0, g1, g2, g3, g4, g5, g6, g7⟩ := @at8 x1 x2 (.int i3) (.int i4) (.int i5) x6 x7 x8
  unfold setO at es
  simp (disch := omega) [tR, es, guard_true, List.lookup, LIM_eq, em, g2, g3, g4, iv]
theorem tS_ex {n : Nat} (hn : n ≤ 8) (em : lk h m = some (.lst [.int n, x2, x3, x4, x5, x6, x7, x8])) (es : lk h s = some (setO (.int n) x2 x3 x4 x5 x6 x7 x8)) : tS (madeE p N m s a0 a3 a5 a6 a7) h = .ok (.nx (madeE p N m s a0 a3 a5 a6 a7)) h := by
  obtain ⟨g0, g1, g2, g3, g4, g5, g6, g7⟩ := @at8 (.int n) x2 x3 x4 x5 x6 x7 x8
  have C := names_ex "b" rfl hn 11 (madeE p N m s a0 a3 a5 a6 a7) h (by simp) (s2 addA (sC (.str "b")) (sCall strF (sCons (s2 addA (sVar 11) (sC (.int 1))) sNil))) fun k h => by simp
  have C' : compItems (gN 11) sYes (s2 addA (sC (.str "b")) (sCall strF (sCons (s2 addA (sVar 11) (sC (.int 1))) sNil))) (madeE p N m s a0 a3 a5 a6 a7) (rangeL 0 n) 0 h = .ok (namesD "b" n) h := C
  have sn := snames_ex "b" rfl hn es
  obtain ⟨q, z⟩ := namesD_dk (w := "b") (n := n)
  have ne := (eqF_same (h := h) (z h 60 (by omega)) (z h 60 (by omega))).2
  have tn : ((n : Nat) : Int).toNat = n := by omega
  simp (disch := omega) [tS, em, g0, guard_true, sn, tn, C', ne]
theorem tU_ex {n : Nat} (hn : n ≤ 8) (em : lk h m = some (.lst [x1, .int n, x3, x4, x5, x6, x7, x8])) (es : lk h s = some (setO x1 (.int n) x3 x4 x5 x6 x7 x8)) : tU (madeE p N m s a0 a3 a5 a6 a7) h = .ok (.nx (madeE p N m s a0 a3 a5 a6 a7)) h := by
  obtain ⟨g0, g1, g2, g3, g4, g5, g6, g7⟩ := @at8 x1 (.int n) x3 x4 x5 x6 x7 x8
  have C := names_ex "s" rfl hn 11 (madeE p N m s a0 a3 a5 a6 a7) h (by simp) (s2 addA (sC (.str "s")) (sCall strF (sCons (s2 addA (sVar 11) (sC (.int 1))) sNil))) fun k h => by simp
  have C' : compItems (gN 11) sYes (s2 addA (sC (.str "s")) (sCall strF (sCons (s2 addA (sVar 11) (sC (.int 1))) sNil))) (madeE p N m s a0 a3 a5 a6 a7) (rangeL 0 n) 0 h = .ok (namesD "s" n) h := C
  have sn := hnames_ex hn es
  obtain ⟨q, z⟩ := namesD_dk (w := "s") (n := n)
  have ne := (eqF_same (h := h) (z h 60 (by omega)) (z h 60 (by omega))).2
  have tn : ((n : Nat) : Int).toNat = n := by omega
  simp (disch := omega) [tU, em, g1, guard_true, sn, tn, C', ne]
end
end Kq
end
set_option maxHeartbeats 8000000
noncomputable section
namespace Kq
open PySem PySem.Spec L2 Kf
theorem IsPen.notL {h : Hd} {p c n m : Nat} (P : IsPen h p c n) {ds : List D} (e : lk h m = some (.lst ds)) : m ≠ p := fun z => by
  subst z
  obtain ⟨_, _, _, _, _, e2, _⟩ := P.ex
  rw [e] at e2; cases e2
theorem IsPen.cells {h : Hd} {p c n : Nat} (P : IsPen h p c n) : ∃ ds, lk h c = some (.lst ds) := by
  obtain ⟨cells, _, _, _, _, _, e2, _⟩ := P.ex
  exact ⟨_, e2⟩
structure BD (h : Hd) (B m : Nat) : Prop where
  ex : ∃ rs : List D, lk h B = some (.lst rs) ∧ B ≠ m ∧ ∀ i : Nat, i < 8 → ∃ (q : Nat) (ns : List Int), atI rs (i : Int) = some (.ref q) ∧ lk h q = some (.lst (ns.map D.int)) ∧ ns.length < 100 ∧ (∀ j ∈ ns, -1000000000 ≤ j ∧ j ≤ 1000000000) ∧ q ≠ m
structure RW (h : Hd) (m : Nat) : Prop where
  ex : ∃ xs : List D, lk h m = some (.lst xs) ∧ xs.length = 8 ∧ ∀ x ∈ xs, Sv x
theorem BD.fr {h h' : Hd} {B m p c n : Nat} (b : BD h B m) (P : IsPen h p c n) (F : Fr [p, m] h h') : BD h' B m := by
  obtain ⟨rs, e, hB, k⟩ := b.ex
  refine ⟨rs, F.get e (by simp; exact ⟨P.notL e, hB⟩), hB, fun i hi => ?_⟩
  obtain ⟨q, ns, e1, e2, e3, e4, e5⟩ := k i hi
  exact ⟨q, ns, e1, F.get e2 (by simp; exact ⟨P.notL e2, e5⟩), e3, e4, e5⟩
theorem RW.fr {h h' : Hd} {m p c n : Nat} (b : RW h m) (P : IsPen h p c n) (F : Fr [p] h h') : RW h' m := by
  obtain ⟨xs, e, l, k⟩ := b.ex
  exact ⟨xs, F.get e (by simp; exact P.notL e), l, k⟩
theorem RW.set {h : Hd} {m i : Nat} {x : D} {xs : List D} (e : lk h m = some (.lst xs)) (l : xs.length = 8) (k : ∀ x ∈ xs, Sv x) (v : Sv x) : RW (h.set m (.lst (xs.set i x))) m :=
  ⟨xs.set i x, by rw [lk_set, if_pos rfl, if_pos (lk_lt e)], by simpa using l, fun y hy => by
    rcases List.mem_or_eq_of_mem_set hy with z | z
    · exact k y z
    · rw [z]; exact v⟩
def tlB : SS := (sSeq (sAsg (sFn 2 M_law_draw [] (sCons (sVar 1) (sCons (sC (.int 8)) sNil))) (gN 7))
    (sAsg (sFn 2 M_law_pick [] (sCons (sVar 1) (sCons (s2 addA (s2 getF (sVar 5) (sVar 7)) (sNew (sLst (sCons (sC .non) (sCons (sC (.bl true)) (sCons (sC (.str "3")) (sCons (sTup (sCons (sC (.int 3)) sNil)) sNil))))))) sNil))) (gSub' (sVar 4) (sVar 7) setF)))
theorem tL_eq : tL = sFor (sRange1 (sFn 2 M_law_draw [] (sCons (sVar 1) (sCons (sC (.int 4)) sNil)))) (gN 6) tlB := rfl
section
variable {h : Hd} {p c n N m B : Nat} {a0 a2 a3 a8 a9 a10 a11 : Option D}
abbrev tlE (p m B : Nat) (a0 a2 a3 a6 a7 a8 a9 a10 a11 : Option D) : En := [a0, some (.ref p), a2, a3, some (.ref m), some (.ref B), a6, a7, a8, a9, a10, a11]
theorem tlB_ex (P : IsPen h p c n) (hn : n < 900000) (W : RW h m) (b : BD h B m) (a6 a7 : Option D) (hc : m ≠ c) : ∃ (k7 : Option D) (h' : Hd), tlB (tlE p m B a0 a2 a3 a6 a7 a8 a9 a10 a11) h = .ok (.nx (tlE p m B a0 a2 a3 a6 k7 a8 a9 a10 a11)) h' ∧ IsPen h' p c (n + 2) ∧ RW h' m ∧ BD h' B m ∧ Fr [p, m] h h' := by
  obtain ⟨r, h1, e1, r0, r1, P1, F1⟩ := drawF P (by omega) (many := 8) (by omega) (by omega)
  have F1' : Fr [p, m] h h1 := F1.sub (by simp)
  have W1 := W.fr P F1
  have b1' := b.fr P F1'
  obtain ⟨k, rfl⟩ : ∃ k : Nat, r = k := ⟨r.toNat, by omega⟩
  obtain ⟨rs, eB, hB, kk⟩ := b1'.ex
  obtain ⟨q, ns, q1, q2, q3, q4, q5⟩ := kk k (by omega)
  have hq := lk_lt q2
  have hBl := lk_lt eB
  obtain ⟨x, h2, e2, hx, P2, F2⟩ := pickF (h := h1 ++ [O.lst [.non, .bl true, .str "3", .tup [.int 3]], O.lst (ns.map D.int ++ [.non, .bl true, .str "3", .tup [.int 3]])]) (m := h1.length + 1) ((Fr.apps (T := [])).pen P1 (by simp) (by simp)) (by omega)
    (ds := ns.map D.int ++ [.non, .bl true, .str "3", .tup [.int 3]]) (by rw [lk_append, if_neg (by omega), Nat.add_sub_cancel_left]; rfl) (by have := P1.lt; omega) (by simp) (by simp; omega)
  have vx : Sv x := by
    rcases List.mem_append.mp hx with z | z
    · obtain ⟨i, hi, rfl⟩ := List.mem_map.mp z
      exact .int (q4 i hi).1 (q4 i hi).2
    · simp at z
      rcases z with e | e | e | e <;> subst e
      · exact .non
      · exact .tru
      · exact .str
      · exact .tup
  have F12 : Fr [p] h1 h2 := Fr.trans .apps F2
  obtain ⟨xs, ex, lx, kx⟩ := (W1.fr P1 F12).ex
  have ix : ixN xs.length (k : Int) = some k := ixN_nat (by omega)
  have sm : Fr [p, m] h2 (h2.set m (.lst (xs.set k x))) := .set (by simp)
  refine ⟨some (.int k), h2.set m (.lst (xs.set k x)), ?_, ?_, .set ex lx kx vx, ((b1'.fr P1 (F12.sub (by simp))).fr P2 sm), F1'.trans ((F12.sub (by simp)).trans sm)⟩
  · simp (disch := omega) [tlB, guard_true, e1, eB, q1, LIM_eq, q2, e2, ex, ix, lk_append, hq, List.getElem?_cons_zero]
  · exact P2.mono (by omega) (by rw [lk_set, if_neg (P2.notL ex)]) (by rw [lk_set, if_neg hc])
theorem tL_ex (P : IsPen h p c n) (hn : n < 800000) (W : RW h m) (b : BD h B m) (a6 a7 : Option D) (hc : m ≠ c) : ∃ (k6 k7 : Option D) (h' : Hd), tL (tlE p m B a0 a2 a3 a6 a7 a8 a9 a10 a11) h = .ok (.nx (tlE p m B a0 a2 a3 k6 k7 a8 a9 a10 a11)) h' ∧ IsPen h' p c (n + 9) ∧ RW h' m ∧ Fr [p, m] h h' := by
  obtain ⟨r, h1, e1, r0, r1, P1, F1⟩ := drawF P (by omega) (many := 4) (by omega) (by omega)
  obtain ⟨env', h2, e2, k6, k7, n', e3, P2, hn', W2, b2, F2⟩ := loop_inv (it := .snap (rangeL 0 r.toNat)) (g := gN 6) (b := tlB) (fun i env h => ∃ k6 k7 n', env = tlE p m B a0 a2 a3 k6 k7 a8 a9 a10 a11 ∧ IsPen h p c n' ∧ n' ≤ n + 1 + 2 * i ∧ RW h m ∧ BD h B m ∧ Fr [p, m] h1 h) (rangeL 0 r.toNat)
    (fun i env h _ => rfl)
    (fun i env h d hd ⟨k6, k7, n', e, P, hn', W, b, F⟩ => by
      subst e
      have hi := lt_of_get hd
      rw [rangeL_len] at hi
      obtain ⟨k7', h', e', P', W', b', F'⟩ := tlB_ex (a0 := a0) (a2 := a2) (a3 := a3) (a8 := a8) (a9 := a9) (a10 := a10) (a11 := a11) P (by omega) W b (some d) k7 hc
      exact ⟨_, _, rfl, _, _, e', _, _, n' + 2, rfl, P', by omega, W', b', F.trans F'⟩)
    (turnsD (.snap (rangeL 0 r.toNat)) h1) 0 (tlE p m B a0 a2 a3 a6 a7 a8 a9 a10 a11) h1 ⟨a6, a7, n + 1, rfl, P1, by omega, W.fr P F1, b.fr P (F1.sub (by simp)), .refl⟩ (by simp [turnsD]) (Nat.zero_le _)
  subst e3
  rw [rangeL_len] at hn'
  rw [loop_snap0] at e2
  refine ⟨k6, k7, h2, ?_, P2.mono (by omega) rfl rfl, W2, (F1.sub (by simp)).trans F2⟩
  rw [tL_eq]
  simp (disch := omega) [guard_true, e1, e2]
theorem tO_ex (P : IsPen h p c n) (hn : n < 800000) (W : RW h m) (t : Nat) (a5 a6 a7 : Option D) (hc : m ≠ c) : ∃ (h' : Hd), tO [a0, some (.ref p), a2, some (.int t), some (.ref m), a5, a6, a7, a8, a9, a10, a11] h = .ok (.nx [a0, some (.ref p), a2, some (.int t), some (.ref m), a5, a6, a7, a8, a9, a10, a11]) h' ∧ IsPen h' p c (n + 3) ∧ RW h' m ∧ Fr [p, m] h h' := by
  by_cases g : (t : Int) % 3 = 0
  · obtain ⟨i, h1, e1, i0, i1, P1, F1⟩ := odd_ex P (by omega)
    obtain ⟨xs, ex, lx, kx⟩ := (W.fr P F1).ex
    have ix : ixN xs.length (5 : Int) = some 5 := ixN_nat (k := 5) (by omega)
    refine ⟨h1.set m (.lst (xs.set 5 (.int i))), ?_, ?_, .set ex lx kx (.int (by omega) (by omega)), (F1.sub (by simp)).trans (.set (by simp))⟩
    · simp (disch := omega) [tO, g, guard_true, e1, ex, ix]
    · exact P1.mono (by omega) (by rw [lk_set, if_neg (P1.notL ex)]) (by rw [lk_set, if_neg hc])
  · exact ⟨h, by simp (disch := omega) [tO, g], P.mono (by omega) rfl rfl, W, .refl⟩
theorem tA_ex (P : IsPen h p c n) (hn : n < 800000) (a4 a5 a6 a7 : Option D) : ∃ (h' : Hd) (m : Nat), tA [a0, some (.ref p), a2, a3, a4, a5, a6, a7, a8, a9, a10, a11] h = .ok (.nx [a0, some (.ref p), a2, a3, some (.ref m), a5, a6, a7, a8, a9, a10, a11]) h' ∧ IsPen h' p c (n + 13) ∧ RW h' m ∧ Fr [p] h h' ∧ h.length ≤ m := by
  obtain ⟨s, sh, k, e, f, pr, sz, h1, e1, bb, P1, F1⟩ := setting_ex P (by omega)
  have PA := (Fr.app (T := []) (o := O.lst [.int s, .int sh, .int k, .int e, .int f, .int pr, .int sz])).pen P1 (by simp) (by simp)
  obtain ⟨g, h2, e2, g0, g1, P2, F2⟩ := drawF PA (by omega) (many := 16) (by omega) (by omega)
  have a1 : lk h2 h1.length = some (.lst [.int s, .int sh, .int k, .int e, .int f, .int pr, .int sz]) := F2.get (by simp) (by have := P1.lt; simp; omega)
  have l1 := lk_lt a1
  have lh := F1.len
  refine ⟨h2 ++ [.lst [.int (1 + g)], .lst [.int s, .int sh, .int k, .int e, .int f, .int pr, .int sz, .int (1 + g)]], h2.length + 1, ?_, (Fr.apps (T := [])).pen P2 (by simp) (by simp), ⟨_, by rw [lk_append, if_neg (by omega), Nat.add_sub_cancel_left]; rfl, rfl, ?_⟩, (F1.trans (Fr.trans .app F2)).trans .apps, by omega⟩
  · simp (disch := omega) [tA, guard_true, e1, e2, LIM_eq, a1, lk_append, l1, List.getElem?_cons_zero]
  · intro x hx
    simp at hx
    rcases hx with e | e | e | e | e | e | e | e <;> subst e <;> exact .int (by omega) (by omega)
theorem tBC_ex (a1 a4 a5 a6 a7 : Option D) (hm : m < h.length) : ∃ (h' : Hd) (B : Nat), (sSeq tB tC) [a0, a1, a2, a3, a4, a5, a6, a7, a8, a9, a10, a11] h = .ok (.nx [a0, a1, a2, a3, a4, some (.ref B), a6, a7, a8, a9, a10, a11]) h' ∧ BD h' B m ∧ Fr [] h h' := by
  generalize hL : ([.lst [.int 1, .int 7, .int 2, .int 9, .int 0], .lst [.int 1, .int 8, .int 0, .int 9], .lst [.int 1, .int 4, .int 0, .int 5], .lst [.int 0, .int 2, .int 3, .int (-1)], .lst [.int 0, .int 3, .int 4, .int (-1)],
    .lst [.ref h.length, .ref (h.length + 1), .ref (h.length + 2), .ref (h.length + 3), .ref (h.length + 4)], .lst [.int 2, .int 7, .int 9, .int 999983, .int 1000003, .int 2991, .int 1], .lst [.int 9, .int 8, .int 4000, .int 4001], .lst [.int 1, .int 16, .int 0, .int 17],
    .lst [.ref (h.length + 6), .ref (h.length + 7), .ref (h.length + 8)], .lst [.ref h.length, .ref (h.length + 1), .ref (h.length + 2), .ref (h.length + 3), .ref (h.length + 4), .ref (h.length + 6), .ref (h.length + 7), .ref (h.length + 8)]] : List O) = L
  have at_ : ∀ (j : Nat) (o : O), L[j]? = some o → lk (h ++ L) (h.length + j) = some o := fun j o e => by rw [lk_append, if_neg (by omega), Nat.add_sub_cancel_left, e]
  refine ⟨h ++ L, h.length + 10, ?_, ⟨_, at_ 10 _ (by rw [← hL]; rfl), by omega, fun i hi => ?_⟩, .apps⟩
  · subst hL
    have n5 : ¬ h.length + 5 < h.length := by omega
    have n9 : ¬ h.length + 6 + 3 < h.length := by omega
    have s9 : h.length + 6 + 3 - h.length = 9 := by omega
    simp (disch := omega) [tB, tC, LIM_eq, guard_true, lk_append, List.getElem?_cons_zero, List.getElem?_cons_succ, n5, n9, s9]
  · have bd : ∀ (ns : List Int) (j : Nat), lk (h ++ L) (h.length + j) = some (.lst (ns.map D.int)) → ns.length < 100 → (ns.all fun i => decide (-1000000000 ≤ i) && decide (i ≤ 1000000000)) = true → ∀ rs : List D, atI rs (i : Int) = some (.ref (h.length + j)) →
        ∃ (q : Nat) (ns : List Int), atI rs (i : Int) = some (.ref q) ∧ lk (h ++ L) q = some (.lst (ns.map D.int)) ∧ ns.length < 100 ∧ (∀ j ∈ ns, -1000000000 ≤ j ∧ j ≤ 1000000000) ∧ q ≠ m := fun ns j e l b rs er =>
      ⟨_, ns, er, e, l, fun x hx => by have := List.all_eq_true.mp b x hx; simpa using this, by omega⟩
    match i, hi with
    | 0, _ => exact bd [1, 7, 2, 9, 0] 0 (at_ 0 _ (by rw [← hL]; rfl)) (by decide) (by decide) _ rfl
    | 1, _ => exact bd [1, 8, 0, 9] 1 (at_ 1 _ (by rw [← hL]; rfl)) (by decide) (by decide) _ rfl
    | 2, _ => exact bd [1, 4, 0, 5] 2 (at_ 2 _ (by rw [← hL]; rfl)) (by decide) (by decide) _ rfl
    | 3, _ => exact bd [0, 2, 3, -1] 3 (at_ 3 _ (by rw [← hL]; rfl)) (by decide) (by decide) _ rfl
    | 4, _ => exact bd [0, 3, 4, -1] 4 (at_ 4 _ (by rw [← hL]; rfl)) (by decide) (by decide) _ rfl
    | 5, _ => exact bd [2, 7, 9, 999983, 1000003, 2991, 1] 6 (at_ 6 _ (by rw [← hL]; rfl)) (by decide) (by decide) _ rfl
    | 6, _ => exact bd [9, 8, 4000, 4001] 7 (at_ 7 _ (by rw [← hL]; rfl)) (by decide) (by decide) _ rfl
    | 7, _ => exact bd [1, 16, 0, 17] 8 (at_ 8 _ (by rw [← hL]; rfl)) (by decide) (by decide) _ rfl
end
end Kq
end
set_option maxHeartbeats 8000000
noncomputable section
namespace Kq
open PySem PySem.Spec L2 Kf
section
variable {h : Hd} {p c n N m B : Nat} {a0 : Option D}
theorem b1_int {x : D} (e : b1 x = false) : ∃ k : Nat, x = .int k ∧ k ≤ 8 := by
  unfold b1 at e
  simp at e
  obtain ⟨i, rfl⟩ := isW_int e.1
  have := e.2
  simp [inS] at this
  exact ⟨i.toNat, by congr; omega, by omega⟩
abbrev tnE (p N : Nat) (a0 a3 a4 a5 a6 a7 a8 a9 : Option D) : En := [a0, some (.ref p), some (.ref N), a3, a4, a5, a6, a7, a8, a9, none, none]
theorem len8 {xs : List D} (l : xs.length = 8) (k : ∀ x ∈ xs, Sv x) : ∃ x1 x2 x3 x4 x5 x6 x7 x8, xs = [x1, x2, x3, x4, x5, x6, x7, x8] ∧ Sv8 x1 x2 x3 x4 x5 x6 x7 x8 := by
  match xs, l with
  | [x1, x2, x3, x4, x5, x6, x7, x8], _ => exact ⟨x1, x2, x3, x4, x5, x6, x7, x8, rfl, k x1 (by simp), k x2 (by simp), k x3 (by simp), k x4 (by simp), k x5 (by simp), k x6 (by simp), k x7 (by simp), k x8 (by simp)⟩
theorem Fr.off {h h1 h2 : Hd} {p m : Nat} (F1 : Fr [p] h h1) (F2 : Fr [p, m] h1 h2) (hm : h.length ≤ m) : Fr [p] h h2 :=
  ⟨Nat.le_trans F1.len F2.len, fun k hk hT => (F2.at_ k (Nat.lt_of_lt_of_le hk F1.len) (by simp at hT ⊢; exact ⟨hT, by omega⟩)).trans (F1.at_ k hk hT)⟩
theorem turn_ex (P : IsPen h p c n) (hn : n < 700000) (eN : lk h N = some (.lst nmD)) (t : Nat) (a4 a5 a6 a7 a8 a9 : Option D) : ∃ (h' : Hd) (b4 b5 b6 b7 b8 b9 : Option D),
    (tAll (tnE p N a0 (some (.int t)) a4 a5 a6 a7 a8 a9) h = .ok (.nx (tnE p N a0 (some (.int t)) b4 b5 b6 b7 b8 b9)) h' ∨ tAll (tnE p N a0 (some (.int t)) a4 a5 a6 a7 a8 a9) h = .ok (.ct (tnE p N a0 (some (.int t)) b4 b5 b6 b7 b8 b9)) h') ∧ IsPen h' p c (n + 30) ∧ Fr [p] h h' := by
  obtain ⟨h1, m, e1, P1, W1, F1, hm⟩ := tA_ex (a0 := a0) (a2 := some (.ref N)) (a3 := some (.int t)) (a8 := a8) (a9 := a9) (a10 := none) (a11 := none) P (by omega) a4 a5 a6 a7
  have hml : m < h1.length := by obtain ⟨xs, e, _⟩ := W1.ex; exact lk_lt e
  have hcm : m ≠ c := by have := P.ltc; omega
  obtain ⟨h2, B, e2, b2, F2⟩ := tBC_ex (m := m) (h := h1) (a0 := a0) (a2 := some (.ref N)) (a3 := some (.int t)) (a8 := a8) (a9 := a9) (a10 := none) (a11 := none) (some (.ref p)) (some (.ref m)) a5 a6 a7 hml
  have P2 := F2.pen P1 (by simp) (by simp)
  have W2 : RW h2 m := W1.fr P1 (F2.sub (by simp))
  obtain ⟨k6, k7, h3, e3, P3, W3, F3⟩ := tL_ex (a0 := a0) (a2 := some (.ref N)) (a3 := some (.int t)) (a8 := a8) (a9 := a9) (a10 := none) (a11 := none) P2 (by omega) W2 b2 a6 a7 hcm
  obtain ⟨h4, e4, P4, W4, F4⟩ := tO_ex (a0 := a0) (a2 := some (.ref N)) (a8 := a8) (a9 := a9) (a10 := none) (a11 := none) P3 (by omega) W3 t (some (.ref B)) k6 k7 hcm
  have FA : Fr [p] h h4 := Fr.off (F1.trans (F2.sub (by simp))) (F3.trans F4) hm
  have hN := lk_lt eN
  have nN : N ≠ p := P.notL eN
  have eN4 := FA.get eN (by simpa using nN)
  obtain ⟨xs, ex, lx, kx⟩ := W4.ex
  obtain ⟨x1, x2, x3, x4, x5, x6, x7, x8, rfl, V⟩ := len8 lx kx
  obtain ⟨h5, e5, F5⟩ := wrong_ex ex V.v1 V.v2 V.v3 V.v4 V.v5 V.v6 V.v7 V.v8
  have ex5 := F5.get ex (by simp)
  have eN5 := F5.get eN4 (by simp)
  have P5 := F5.pen P4 (by simp) (by simp)
  have e2' : ∀ g : SS, sSeq tB (sSeq tC g) = sSeq (sSeq tB tC) g := fun g => by
    funext env h
    simp only [ev_seq]
    cases tB env h with
    | stuck => rfl
    | ok fl h' => cases fl <;> rfl
  have eD : tD [a0, some (.ref p), some (.ref N), some (.int t), some (.ref m), some (.ref B), k6, k7, a8, a9, none, none] h4 = .ok (.nx (rowE p N m a0 (some (.int t)) (some (.ref B)) k6 k7 (dueD (svW x1 x2 x3 x4 x5 x6 x7 x8)) a9 none none)) h5 := by
    simp [tD, guard_true, e5]
  have FB : Fr [p] h h5 := FA.trans (F5.sub (by simp))
  have start : tAll (tnE p N a0 (some (.int t)) a4 a5 a6 a7 a8 a9) h = (sSeq tT (sSeq tP (sSeq tQ (sSeq tR (sSeq tS tU))))) (rowE p N m a0 (some (.int t)) (some (.ref B)) k6 k7 (dueD (svW x1 x2 x3 x4 x5 x6 x7 x8)) a9 none none) h5 := by
    unfold tAll
    rw [e2' ]
    rw [ev_seq, e1, andThen_nx, ev_seq, e2, andThen_nx, ev_seq, e3, andThen_nx, ev_seq, e4, andThen_nx, ev_seq, eD, andThen_nx]
  rw [start]
  cases hs : svW x1 x2 x3 x4 x5 x6 x7 x8 with
  | some i =>
    have e6 := tT_bad (a0 := a0) (a3 := some (.int t)) (a5 := some (.ref B)) (a6 := k6) (a7 := k7) (a9 := a9) (a11 := none) (p := p) V hs eN5 ex5
    refine ⟨h5 ++ [O.ins "Settings" []], some (.ref m), some (.ref B), k6, k7, some (.str (nms.getD i "")), a9, .inr ?_, ((Fr.app (T := [])).pen P5 (by simp) (by simp)).mono (by omega) rfl rfl, FB.trans .app⟩
    rw [ev_seq]
    show andThen (tT (rowE p N m a0 (some (.int t)) (some (.ref B)) k6 k7 (.str (nms.getD i "")) a9 none none) h5) _ = _
    rw [e6]; rfl
  | none =>
    have e6 := tT_ok (a0 := a0) (a3 := some (.int t)) (a5 := some (.ref B)) (a6 := k6) (a7 := k7) (a9 := a9) (a11 := none) (p := p) (N := N) V hs ex5
    obtain ⟨c1, c2, c3, c4, c5⟩ := svW_none hs
    obtain ⟨k1, rfl, hk1⟩ := b1_int c1
    obtain ⟨i2, rfl, q1, q2⟩ := isIn_int c2
    obtain ⟨i3, rfl, q3, q4⟩ := isIn_int c3
    obtain ⟨i4, rfl, q5, q6⟩ := isIn_int c4
    obtain ⟨i5, rfl, q7, q8⟩ := isIn_int c5
    obtain ⟨k2, rfl⟩ : ∃ k2 : Nat, i2 = k2 := ⟨i2.toNat, by omega⟩
    have s6 : lk (h5 ++ [setO (.int k1) (.int k2) (.int i3) (.int i4) (.int i5) x6 x7 x8]) h5.length = some (setO (.int k1) (.int k2) (.int i3) (.int i4) (.int i5) x6 x7 x8) := by simp
    have ex6 : lk (h5 ++ [setO (.int k1) (.int k2) (.int i3) (.int i4) (.int i5) x6 x7 x8]) m = some (.lst [.int k1, .int k2, .int i3, .int i4, .int i5, x6, x7, x8]) := by rw [lk_append, if_pos (lk_lt ex5), ex5]
    have F6 : Fr [p] h5 (h5 ++ [setO (.int k1) (.int k2) (.int i3) (.int i4) (.int i5) x6 x7 x8]) := .app
    generalize hh6 : h5 ++ [setO (.int k1) (.int k2) (.int i3) (.int i4) (.int i5) x6 x7 x8] = h6 at e6 s6 ex6 F6
    have P6 : IsPen h6 p c (n + 13 + 9 + 3) := by rw [← hh6]; exact (Fr.app (T := [])).pen P5 (by simp) (by simp)
    have e7 := tP_ex (a0 := a0) (a3 := some (.int t)) (a5 := some (.ref B)) (a6 := k6) (a7 := k7) (p := p) (N := N) V ex6 s6
    generalize hh7 : h6 ++ [O.lst [.int k1, .int k2, .int i3, .int i4], O.lst [.int k1, .int k2, .int i3, .int i4]] = h7 at e7
    have F7 : Fr [] h6 h7 := by rw [← hh7]; exact .apps
    have e8 := tQ_ex (a0 := a0) (a3 := some (.int t)) (a5 := some (.ref B)) (a6 := k6) (a7 := k7) (p := p) (N := N) V (F7.get ex6 (by simp)) (F7.get s6 (by simp))
    generalize hh8 : h7 ++ [O.lst [.int i5, x6, x7, x8], O.lst [.int i5, x6, x7, x8]] = h8 at e8
    have F8 : Fr [] h7 h8 := by rw [← hh8]; exact .apps
    have F78 := F7.trans F8
    have ex8 := F78.get ex6 (by simp)
    have s8 := F78.get s6 (by simp)
    have e9 := tR_ex (a0 := a0) (a3 := some (.int t)) (a5 := some (.ref B)) (a6 := k6) (a7 := k7) (p := p) (N := N) ⟨by omega, by omega⟩ ⟨by omega, by omega⟩ ex8 s8
    have e10 := tS_ex (a0 := a0) (a3 := some (.int t)) (a5 := some (.ref B)) (a6 := k6) (a7 := k7) (p := p) (N := N) hk1 ex8 s8
    have e11 := tU_ex (a0 := a0) (a3 := some (.int t)) (a5 := some (.ref B)) (a6 := k6) (a7 := k7) (p := p) (N := N) (n := k2) (by omega) ex8 s8
    refine ⟨h8, some (.ref m), some (.ref B), k6, k7, some .non, some (.ref h5.length), .inl ?_, (F78.pen P6 (by simp) (by simp)).mono (by omega) rfl rfl, (FB.trans F6).trans (F78.sub (by simp))⟩
    rw [ev_seq]
    show andThen (tT (rowE p N m a0 (some (.int t)) (some (.ref B)) k6 k7 .non a9 none none) h5) _ = _
    rw [e6, andThen_nx, ev_seq, e7, andThen_nx, ev_seq, e8, andThen_nx, ev_seq, e9, andThen_nx, ev_seq, e10, andThen_nx, e11]
theorem law_sp (ns : List Int) (hl : ns.length ≤ 63) : ∃ h', M_law [.fls (ns.map D.int)] [] = .ok (.bl true) h' := by
  obtain ⟨h1, e1, P1, l1⟩ := pen_ex ns
  have P2 : IsPen (h1 ++ [O.lst nmD]) 1 0 0 := (Fr.app (T := [])).pen P1 (by simp) (by simp)
  have eN : lk (h1 ++ [O.lst nmD]) h1.length = some (.lst nmD) := by simp
  have L := loop_or (it := .snap (rangeL 0 12)) (g := gN 3) (b := tAll) (fun i env h => ∃ (a3 a4 a5 a6 a7 a8 a9 : Option D) (n : Nat), env = tnE 1 h1.length (some (.fls (ns.map D.int))) a3 a4 a5 a6 a7 a8 a9 ∧ IsPen h 1 0 n ∧ n ≤ 30 * i ∧ lk h h1.length = some (.lst nmD)) (fun _ _ => False) (rangeL 0 12) (fun i env h _ => rfl)
    (fun i env h d hd ⟨a3, a4, a5, a6, a7, a8, a9, n, e, P, hn, eN⟩ => by
      subst e
      have hi := lt_of_get hd
      rw [rangeL_len] at hi
      have ed : d = .int i := by
        unfold rangeL at hd
        rw [List.getElem?_map, List.getElem?_range hi] at hd
        cases hd
        simp
      subst ed
      obtain ⟨h', b4, b5, b6, b7, b8, b9, q, P', F'⟩ := turn_ex (a0 := some (.fls (ns.map D.int))) P (by omega) eN i a4 a5 a6 a7 a8 a9
      exact ⟨_, _, rfl, .inl ⟨_, h', q, _, b4, b5, b6, b7, b8, b9, n + 30, rfl, P', by omega, F'.get eN (by simpa using P.notL eN)⟩⟩)
    (turnsD (.snap (rangeL 0 12)) (h1 ++ [O.lst nmD])) 0 (tnE 1 h1.length (some (.fls (ns.map D.int))) none none none none none none none) (h1 ++ [O.lst nmD]) ⟨none, none, none, none, none, none, none, 0, rfl, P2, by omega, eN⟩ (by simp [turnsD]) (Nat.zero_le _)
  rw [loop_snap0] at L
  have tn : (12 : Int).toNat = 12 := rfl
  rcases L with ⟨env', h', e, a3, a4, a5, a6, a7, a8, a9, n, e2, _⟩ | ⟨_, _, _, q⟩
  · subst e2
    refine ⟨h', ?_⟩
    have hnm : ([.str "servers", .str "shelves", .str "k", .str "e", .str "f", .str "prime", .str "size", .str "width"] : List D) = nmD := rfl
    rw [law_eq]
    have lnm : nmD.length ≤ 16777216 := by decide
    simp (disch := omega) [defM_ev, startD, guard_true, e1, LIM_eq, hnm, tn, e, lnm]
  · exact q.elim
end
end Kq
end
section
set_option maxHeartbeats 4000000
/-! Kf: a law's end, where nothing is being shown. -/
namespace Kf
open PySem PySem.Spec L2 PyProof.Rows
section
variable {P : Program} {w : World} {K : PySem.W.Frag} {mg mb : Str → Option Value} {CX : CXT} {k : Nat} {fa a : Addr} {fd : FuncData} {x : Str} {sp : Sp} {s : Shared} {vs : List Value} {ns : List Int}
/-- from a heap in which the script alone may be tracked -/
theorem law_from {H : Hp} {oA : Obj} (one : ∀ b, H b = none ∨ (b = a ∧ H b = some (.frz oA (.lst (ns.map V.int))))) (noK : H a ≠ none → K.lookup a = none) (hok : HOk P w H s.heap)
    (KX : K.In s.heap) (hns : s.heap.Ns mainGlobals mg) (hb : s.heap.Ns builtinsNs mb) (hbb : ∀ x : Str, x ≠ "__name__" → mb x = bootBuiltins x) (hlim : s.heap.NoLimit) (hg : s.gens = #[])
    (ha : s.heap.get? a = some { cls := .type "list", data := .seq vs.toArray }) (hr : RoomG k callerA) (F : ∀ base : Heap, K.In base → base.Ns mainGlobals mg → FnG P w K mg base CX k fa fd [x] sp) (hbind : ∀ (s : Shared) (u : Value), BindsTo s fd ⟨[u], []⟩ [(x, u)])
    (hsp : sp [.ref a] H (fun v _ => v = .bl true) fun _ _ _ => False) (hCX : ∀ H e s', CX [] H s (fun _ _ _ => False) e s' → False) :
    codeAny (model P w) callerA (.call (.ref fa) ⟨[.ref a], []⟩) (fun r s' => r = .ok (.ret (.bool true)) ∧ OldK s.heap s'.heap ∧ s'.os = s.os ∧ AllBare s'.gens) s := by
  have atA : ∀ b, H b ≠ none → b = a := fun b q => (one b).elim (fun z => absurd z q) (·.1)
  have hid : ∀ b o, s.heap.get? b = some o → H b = none → (hidT s.heap H).get? b = some o := fun b o => hidT_get
  have free : ∀ b o es ep, s.heap.get? b = some o → o.data = .dict es ep → H b = none := by
    intro b o es ep e d
    rcases one b with z | ⟨z, _⟩
    · exact z
    · subst z
      rw [ha] at e
      cases e
      exact absurd d (by intro q; cases q)
  have ns_ : ∀ b m, s.heap.Ns b m → (hidT s.heap H).Ns b m := fun b m ⟨o, es, ep, e, d, r⟩ => ⟨o, es, ep, hid b o e (free b o es ep e d), d, r⟩
  have kin : K.In (hidT s.heap H) := by
    intro b o e
    refine hid b o (KX b o e) ?_
    rcases one b with z | ⟨z, zz⟩
    · exact z
    · subst z
      rw [noK (by rw [zz]; simp)] at e
      cases e
  obtain ⟨mc, l1, l2⟩ := hlim
  have md : Mod K mg (hidT s.heap H) := ⟨kin, ns_ _ _ hns, ⟨mb, ns_ _ _ hb, hbb⟩, ⟨mc, ns_ _ _ l1, l2⟩⟩
  have e0 : Env0 P w K mg (hidT s.heap H) callerA [] s H :=
    { frames := rfl, mod := md, bs := fun b o e => of_hidT e, bsz := Nat.le_of_eq (hidT_size _ _), funs := trivial, frf := (by intro b hb; cases hb), hok := hok, bare := .of_eq hg }
  apply codeAny_mono ((F _ kin (ns_ _ _ hns)).go (args := ⟨[.ref a], []⟩) (us := [.ref a]) (vs := [V.ref a]) hr e0 (hbind s (.ref a)) (.cons rfl .nil) hsp)
  intro r s' z
  match r, z with
  | .error e, z => exact (hCX H e s' z).elim
  | .ok .next, z => exact z.elim
  | .ok .brk, z => exact z.elim
  | .ok .cont, z => exact z.elim
  | .ok (.ret u), ⟨v, H', os, bare, un, hok', rv, q⟩ =>
    have q : v = .bl true := q
    subst q
    have rv : u = Value.bool true := rv
    subst rv
    refine ⟨rfl, OldK.of_keep fun b o e => ?_, os, bare⟩
    rcases one b with z | ⟨z1, z2⟩
    · exact un.keep b o e z (fun m => by cases m) (by simp)
    · obtain ⟨o1, _⟩ := hok b _ z2
      obtain ⟨o2, _⟩ := hok' b _ (un.frzs b oA _ z2)
      rw [e] at o1
      cases o1
      exact o2
theorem law_goG (KX : K.In s.heap) (hns : s.heap.Ns mainGlobals mg) (hb : s.heap.Ns builtinsNs mb) (hbb : ∀ x : Str, x ≠ "__name__" → mb x = bootBuiltins x) (hlim : s.heap.NoLimit) (hg : s.gens = #[])
    (ha : s.heap.get? a = some { cls := .type "list", data := .seq vs.toArray }) (hi : IntsAre vs ns) (hl : ns.length ≤ sizeLine) (hr : RoomG k callerA)
    (F : ∀ base : Heap, K.In base → base.Ns mainGlobals mg → FnG P w K mg base CX k fa fd [x] sp) (hbind : ∀ (s : Shared) (u : Value), BindsTo s fd ⟨[u], []⟩ [(x, u)])
    (hsp : ∀ H : Hp, Only H → SqL K H a (ns.map V.int) → sp [.ref a] H (fun v _ => v = .bl true) fun _ _ _ => False) (hCX : ∀ H e s', CX [] H s (fun _ _ _ => False) e s' → False) :
    codeAny (model P w) callerA (.call (.ref fa) ⟨[.ref a], []⟩) (fun r s' => r = .ok (.ret (.bool true)) ∧ OldK s.heap s'.heap ∧ s'.os = s.os ∧ AllBare s'.gens) s := by
  have iv := vals_ints hi
  by_cases hk : ∃ o, K.lookup a = some o
  · obtain ⟨o, hk⟩ := hk
    have e := KX a o hk
    rw [ha] at e
    cases e
    have sq : SqL K (fun _ => none) a (ns.map V.int) := .inr ⟨_, vs.toArray, _, hk, rfl, rfl, rfl, by rw [List.size_toArray, hi.length]; exact hl, by simpa using iv⟩
    exact law_from (oA := { cls := .type "list", data := .seq vs.toArray }) (ns := ns) (H := fun _ => none) (fun b => .inl rfl) (fun z => absurd rfl z) (fun b u z => by have z : (none : Option HO) = some u := z; cases z) KX hns hb hbb hlim hg ha hr F hbind (hsp _ (fun _ => .inl rfl) sq) hCX
  · have hk : K.lookup a = none := by
      cases e : K.lookup a with
      | none => rfl
      | some o => exact absurd ⟨o, e⟩ hk
    obtain ⟨H, h1, h2⟩ : ∃ H : Hp, H a = some (.frz { cls := .type "list", data := .seq vs.toArray } (.lst (ns.map V.int))) ∧ ∀ b, b ≠ a → H b = none :=
      ⟨upd (fun _ => none) a (.frz { cls := .type "list", data := .seq vs.toArray } (.lst (ns.map V.int))), upd_same, fun b q => upd_ne q⟩
    have one : ∀ b, H b = none ∨ (b = a ∧ H b = some (.frz { cls := .type "list", data := .seq vs.toArray } (.lst (ns.map V.int)))) := by
      intro b
      by_cases q : b = a
      · exact .inr ⟨q, by rw [q, h1]⟩
      · exact .inl (h2 b q)
    refine law_from one (fun _ => hk) ?_ KX hns hb hbb hlim hg ha hr F hbind (hsp _ (fun b => ?_) (.inl (.inr ⟨_, h1⟩))) hCX
    · intro b u z
      rcases one b with q | ⟨q1, q2⟩
      · rw [q] at z; cases z
      · rw [q2] at z
        cases z
        subst q1
        exact ⟨ha, by rw [List.length_map]; exact hl, vs, _, iv, ha⟩
    · rcases one b with q | ⟨_, q2⟩
      · exact .inl q
      · exact .inr ⟨_, _, q2⟩
end
theorem walk_G {l : PySem.W.OpenLaw} {n k : Nat} {q : Program} {loose : List Str} {XP : (Str → Option Value) → Heap → Prop} {YP : World → Heap → Prop} {d : DefRec} {K : Params → PySem.W.Frag} {CX : World → CXT} {sp : World → Sp} {x : Str}
    (hn : l.most = some n) (hn2 : n ≤ sizeLine) (hdf : d.params.defaults = []) (hr : RoomG k callerA) (hY : ∀ (w : World) (h : Heap), YP w h → (K w.params).In h)
    (F : ∀ (w : World) (mg : Str → Option Value) (fa : Addr) (h : Heap), (K w.params).In h → h.Ns mainGlobals mg → mg d.name = some (.ref fa) →
      ∃ fd : FuncData, (∀ (s : Shared) (u : Value), BindsTo s fd ⟨[u], []⟩ [(x, u)]) ∧ ∀ base : Heap, (K w.params).In base → base.Ns mainGlobals mg → FnG l.prog w (K w.params) mg base (CX w) k fa fd [x] (sp w))
    (hsp : ∀ (w : World) (H : Hp) (a : Addr) (ns : List Int), ns.length ≤ n → Only H → SqL (K w.params) H a (ns.map V.int) → sp w [.ref a] H (fun v _ => v = .bl true) fun _ _ _ => False)
    (hCX : ∀ (w : World) (H : Hp) (s : Shared) (e : Value) (s' : Shared), CX w [] H s (fun _ _ _ => False) e s' → False) :
    PySem.W.WalkO q loose XP YP l.row.toRowW d [] (fun f vs => PySem.call f vs) := by
  apply Att.attach_call hn hdf
  intro w s₀ s₁ mg mb fa o pm cd doc a vs ns G Y ho hd hcd hmg hobj hints hlen hg
  obtain ⟨fd, hb, hF⟩ := F w mg fa _ (hY w _ Y) G.T.g hmg
  exact law_goG (hY w _ Y) G.T.g G.T.b G.T.builtins G.T.nolimit hg hobj hints (Nat.le_trans hlen hn2) hr hF hb (fun H hO hS => hsp w H a ns hlen hO hS) fun H e s' => hCX w H s₁ e s'
end Kf
end
set_option maxHeartbeats 8000000
noncomputable section
namespace Kq
open PySem PySem.Spec L2 Kf
/-! ### the head, printed by head.py -/
abbrev st_BadNumber_init : Stmt := inClass (topS 2) 0
theorem sc_BadNumber_init : FnScope ["self", "what", "number"] ["self", "what", "number"] (defScope st_BadNumber_init) := ⟨rfl, rfl, rfl, by decide +kernel, rfl, by decide +kernel, by decide +kernel⟩
theorem exm_mk {K : PySem.W.Frag} {C : Addr} {t : Value} {r : Bool} (e1 : PySem.W.subIn K (.ref C) (.type "BaseException") = some true) (e2 : PySem.W.isClsIn K C = true) (e3 : PySem.W.typeIn K (.ref C) = some (.type "type")) (e4 : PySem.W.subIn K t (.ref C) = some r) : PySem.W.exmOne K t (.ref C) = some r := by
  have e2' : (PySem.W.clsIn K C).isSome = true := e2
  have h1 : (PySem.W.subIn K (.ref C) (.type "BaseException") == some true) = true := by rw [e1]; rfl
  have h2 : ((PySem.W.clsIn K C).isSome && PySem.W.typeIn K (.ref C) == some (.type "type")) = true := by rw [e2', e3]; decide
  unfold PySem.W.exmOne
  rw [if_pos h1]
  show (if ((PySem.W.clsIn K C).isSome && PySem.W.typeIn K (.ref C) == some (.type "type")) = true then PySem.W.subIn K t (.ref C) else none) = _
  rw [if_pos h2, e4]
def spL (K : PySem.W.Frag) (M : FA) : Sp := fun vs H Q E => ∀ cA : CA, spOf K cA 1 M vs H Q E
theorem all_mk {l : PySem.W.OpenLaw} {w : World} {K : PySem.W.Frag} {h : Heap} {mg : Str → Option Value} {fa : Addr} (X : K.In h) (NG : h.Ns mainGlobals mg) (hfa : mg "law" = some (.ref fa))
    {C_Settings C_BadNumber : Addr}
    {f_law_pen f_law_is_whole f_law_wrong f_law_draw f_law_pick f_law_odd_one f_is_whole f_is_between f_is_prime f_Settings_init f_server_names f_shelf_names f_law_setting f_law : Addr}
    {nm_BadNumber q_BadNumber : Str} {N_BadNumber : Addr} {bs_BadNumber bm_BadNumber : List Value} {sn_BadNumber : List Str} {sub_BadNumber : List Value} {ab_BadNumber : Bool} {col_BadNumber : Option Bool} {dd_BadNumber : Option Addr} {m0_BadNumber m1_BadNumber m2_BadNumber m3_BadNumber m5_BadNumber : Option Value}
    {f_BadNumber_init : Addr}
    {od_BadNumber_init an_BadNumber_init : Option Addr} {sl_BadNumber_init : Array (Option Value)} {oc_BadNumber_init kV_BadNumber_init dc_BadNumber_init pm_BadNumber_init cd_BadNumber_init ct_BadNumber_init : Value}
    {od_law_pen an_law_pen : Option Addr} {sl_law_pen : Array (Option Value)} {oc_law_pen kV_law_pen dc_law_pen pm_law_pen cd_law_pen ct_law_pen : Value}
    {od_law_is_whole an_law_is_whole : Option Addr} {sl_law_is_whole : Array (Option Value)} {oc_law_is_whole kV_law_is_whole dc_law_is_whole pm_law_is_whole cd_law_is_whole ct_law_is_whole : Value}
    {od_law_wrong an_law_wrong : Option Addr} {sl_law_wrong : Array (Option Value)} {oc_law_wrong kV_law_wrong dc_law_wrong pm_law_wrong cd_law_wrong ct_law_wrong : Value}
    {od_law_draw an_law_draw : Option Addr} {sl_law_draw : Array (Option Value)} {oc_law_draw kV_law_draw dc_law_draw pm_law_draw cd_law_draw ct_law_draw : Value}
    {od_law_pick an_law_pick : Option Addr} {sl_law_pick : Array (Option Value)} {oc_law_pick kV_law_pick dc_law_pick pm_law_pick cd_law_pick ct_law_pick : Value}
    {od_law_odd_one an_law_odd_one : Option Addr} {sl_law_odd_one : Array (Option Value)} {oc_law_odd_one kV_law_odd_one dc_law_odd_one pm_law_odd_one cd_law_odd_one ct_law_odd_one : Value}
    {od_is_whole an_is_whole : Option Addr} {sl_is_whole : Array (Option Value)} {oc_is_whole kV_is_whole dc_is_whole pm_is_whole cd_is_whole ct_is_whole : Value}
    {od_is_between an_is_between : Option Addr} {sl_is_between : Array (Option Value)} {oc_is_between kV_is_between dc_is_between pm_is_between cd_is_between ct_is_between : Value}
    {od_is_prime an_is_prime : Option Addr} {sl_is_prime : Array (Option Value)} {oc_is_prime kV_is_prime dc_is_prime pm_is_prime cd_is_prime ct_is_prime : Value}
    {od_Settings_init an_Settings_init : Option Addr} {sl_Settings_init : Array (Option Value)} {oc_Settings_init kV_Settings_init dc_Settings_init pm_Settings_init cd_Settings_init ct_Settings_init : Value}
    {od_server_names an_server_names : Option Addr} {sl_server_names : Array (Option Value)} {oc_server_names kV_server_names dc_server_names pm_server_names cd_server_names ct_server_names : Value}
    {od_shelf_names an_shelf_names : Option Addr} {sl_shelf_names : Array (Option Value)} {oc_shelf_names kV_shelf_names dc_shelf_names pm_shelf_names cd_shelf_names ct_shelf_names : Value}
    {od_law_setting an_law_setting : Option Addr} {sl_law_setting : Array (Option Value)} {oc_law_setting kV_law_setting dc_law_setting pm_law_setting cd_law_setting ct_law_setting : Value}
    {od_law an_law : Option Addr} {sl_law : Array (Option Value)} {oc_law kV_law dc_law pm_law cd_law ct_law : Value}
    (aC_Settings : PySem.W.nsIn K mainGlobals "Settings" = some (some (.ref C_Settings)))
    (aC_BadNumber : PySem.W.nsIn K mainGlobals "BadNumber" = some (some (.ref C_BadNumber)))
    (pg_Settings : PySem.W.plainGet K C_Settings Str.empty = true)
    (hd_Settings : PySem.W.hasDictIn K C_Settings = true)
    (po_Settings : PySem.W.plainOver K C_Settings = true)
    (sa_Settings : PySem.W.findIn K (.ref C_Settings) "__setattr__" = some (some (.builtin "object.__setattr__")))
    (mk_Settings : PySem.W.makesIn K C_Settings = true)
    (kc_Settings : PySem.W.keepIn K (.ref C_Settings) = true)
    (n_Settings_e : PySem.W.findIn K (.ref C_Settings) "e" = some none)
    (n_Settings_f : PySem.W.findIn K (.ref C_Settings) "f" = some none)
    (n_Settings_k : PySem.W.findIn K (.ref C_Settings) "k" = some none)
    (n_Settings_need : PySem.W.findIn K (.ref C_Settings) "need" = some none)
    (n_Settings_prime : PySem.W.findIn K (.ref C_Settings) "prime" = some none)
    (n_Settings_servers : PySem.W.findIn K (.ref C_Settings) "servers" = some none)
    (n_Settings_shelves : PySem.W.findIn K (.ref C_Settings) "shelves" = some none)
    (n_Settings_size : PySem.W.findIn K (.ref C_Settings) "size" = some none)
    (n_Settings_width : PySem.W.findIn K (.ref C_Settings) "width" = some none)
    (x_BadNumber : K.lookup C_BadNumber = some (excClassObj nm_BadNumber q_BadNumber C_BadNumber N_BadNumber bs_BadNumber bm_BadNumber true sn_BadNumber sub_BadNumber ab_BadNumber col_BadNumber dd_BadNumber m0_BadNumber m1_BadNumber m2_BadNumber m3_BadNumber m5_BadNumber "ValueError.__new__"))
    (r_BadNumber : PySem.HandSPX.refsVE bm_BadNumber = true)
    (sa_BadNumber : PySem.W.findIn K (.ref C_BadNumber) "__setattr__" = some (some (.builtin "object.__setattr__")))
    (kc_BadNumber : PySem.W.keepIn K (.ref C_BadNumber) = true)
    (a_BadNumber_init : PySem.W.findIn K (.ref C_BadNumber) "__init__" = some (some (.ref f_BadNumber_init)))
    (l_BadNumber_init : K.lookup f_BadNumber_init = some ⟨oc_BadNumber_init, od_BadNumber_init, .func (PySem.W.fnOf "__init__" "BadNumber.__init__" (defArgs st_BadNumber_init) (defBody st_BadNumber_init) (defScope st_BadNumber_init) .none kV_BadNumber_init dc_BadNumber_init pm_BadNumber_init an_BadNumber_init cd_BadNumber_init ct_BadNumber_init), sl_BadNumber_init⟩)
    (c_BadNumber_init : PySem.W.codeIn K cd_BadNumber_init "BadNumber.__init__" = true)
    (k_BadNumber_init : PySem.W.keepIn K (.ref f_BadNumber_init) = true)
    (t_BadNumber_init : PySem.W.typeIn K (.ref f_BadNumber_init) = some (.type "function"))
    (n_BadNumber_what : PySem.W.findIn K (.ref C_BadNumber) "what" = some none)
    (n_BadNumber_number : PySem.W.findIn K (.ref C_BadNumber) "number" = some none)
    (e_BadNumber : PySem.W.subIn K (.ref C_BadNumber) (.type "BaseException") = some true)
    (ty_BadNumber : PySem.W.typeIn K (.ref C_BadNumber) = some (.type "type"))
    (ic_BadNumber : PySem.W.isClsIn K C_BadNumber = true)
    (ga_BadNumber : PySem.W.findIn K (.ref C_BadNumber) "__getattribute__" = some (some (.builtin "BaseException.__getattribute__")))
    (gg_BadNumber : PySem.W.findIn K (.ref C_BadNumber) "__getattr__" = some none)
    (hd_BadNumber : PySem.W.hasDictIn K C_BadNumber = true)
    (s_BadNumber_BadNumber : PySem.W.subIn K (.ref C_BadNumber) (.ref C_BadNumber) = some true)
    (a_law_pen : PySem.W.nsIn K mainGlobals "_law_pen" = some (some (.ref f_law_pen)))
    (l_law_pen : K.lookup f_law_pen = some ⟨oc_law_pen, od_law_pen, .func (PySem.W.fnOf "_law_pen" "_law_pen" (defArgs st_law_pen) (defBody st_law_pen) (defScope st_law_pen) .none kV_law_pen dc_law_pen pm_law_pen an_law_pen cd_law_pen ct_law_pen), sl_law_pen⟩)
    (c_law_pen : PySem.W.codeIn K cd_law_pen "_law_pen" = true)
    (k_law_pen : PySem.W.keepIn K (.ref f_law_pen) = true)
    (a_law_is_whole : PySem.W.nsIn K mainGlobals "_law_is_whole" = some (some (.ref f_law_is_whole)))
    (l_law_is_whole : K.lookup f_law_is_whole = some ⟨oc_law_is_whole, od_law_is_whole, .func (PySem.W.fnOf "_law_is_whole" "_law_is_whole" (defArgs st_law_is_whole) (defBody st_law_is_whole) (defScope st_law_is_whole) .none kV_law_is_whole dc_law_is_whole pm_law_is_whole an_law_is_whole cd_law_is_whole ct_law_is_whole), sl_law_is_whole⟩)
    (c_law_is_whole : PySem.W.codeIn K cd_law_is_whole "_law_is_whole" = true)
    (k_law_is_whole : PySem.W.keepIn K (.ref f_law_is_whole) = true)
    (a_law_wrong : PySem.W.nsIn K mainGlobals "_law_wrong" = some (some (.ref f_law_wrong)))
    (l_law_wrong : K.lookup f_law_wrong = some ⟨oc_law_wrong, od_law_wrong, .func (PySem.W.fnOf "_law_wrong" "_law_wrong" (defArgs st_law_wrong) (defBody st_law_wrong) (defScope st_law_wrong) .none kV_law_wrong dc_law_wrong pm_law_wrong an_law_wrong cd_law_wrong ct_law_wrong), sl_law_wrong⟩)
    (c_law_wrong : PySem.W.codeIn K cd_law_wrong "_law_wrong" = true)
    (k_law_wrong : PySem.W.keepIn K (.ref f_law_wrong) = true)
    (a_law_draw : PySem.W.nsIn K mainGlobals "_law_draw" = some (some (.ref f_law_draw)))
    (l_law_draw : K.lookup f_law_draw = some ⟨oc_law_draw, od_law_draw, .func (PySem.W.fnOf "_law_draw" "_law_draw" (defArgs st_law_draw) (defBody st_law_draw) (defScope st_law_draw) .none kV_law_draw dc_law_draw pm_law_draw an_law_draw cd_law_draw ct_law_draw), sl_law_draw⟩)
    (c_law_draw : PySem.W.codeIn K cd_law_draw "_law_draw" = true)
    (k_law_draw : PySem.W.keepIn K (.ref f_law_draw) = true)
    (a_law_pick : PySem.W.nsIn K mainGlobals "_law_pick" = some (some (.ref f_law_pick)))
    (l_law_pick : K.lookup f_law_pick = some ⟨oc_law_pick, od_law_pick, .func (PySem.W.fnOf "_law_pick" "_law_pick" (defArgs st_law_pick) (defBody st_law_pick) (defScope st_law_pick) .none kV_law_pick dc_law_pick pm_law_pick an_law_pick cd_law_pick ct_law_pick), sl_law_pick⟩)
    (c_law_pick : PySem.W.codeIn K cd_law_pick "_law_pick" = true)
    (k_law_pick : PySem.W.keepIn K (.ref f_law_pick) = true)
    (a_law_odd_one : PySem.W.nsIn K mainGlobals "_law_odd_one" = some (some (.ref f_law_odd_one)))
    (l_law_odd_one : K.lookup f_law_odd_one = some ⟨oc_law_odd_one, od_law_odd_one, .func (PySem.W.fnOf "_law_odd_one" "_law_odd_one" (defArgs st_law_odd_one) (defBody st_law_odd_one) (defScope st_law_odd_one) .none kV_law_odd_one dc_law_odd_one pm_law_odd_one an_law_odd_one cd_law_odd_one ct_law_odd_one), sl_law_odd_one⟩)
    (c_law_odd_one : PySem.W.codeIn K cd_law_odd_one "_law_odd_one" = true)
    (k_law_odd_one : PySem.W.keepIn K (.ref f_law_odd_one) = true)
    (a_is_whole : PySem.W.nsIn K mainGlobals "is_whole" = some (some (.ref f_is_whole)))
    (l_is_whole : K.lookup f_is_whole = some ⟨oc_is_whole, od_is_whole, .func (PySem.W.fnOf "is_whole" "is_whole" (defArgs st_is_whole) (defBody st_is_whole) (defScope st_is_whole) .none kV_is_whole dc_is_whole pm_is_whole an_is_whole cd_is_whole ct_is_whole), sl_is_whole⟩)
    (c_is_whole : PySem.W.codeIn K cd_is_whole "is_whole" = true)
    (k_is_whole : PySem.W.keepIn K (.ref f_is_whole) = true)
    (a_is_between : PySem.W.nsIn K mainGlobals "is_between" = some (some (.ref f_is_between)))
    (l_is_between : K.lookup f_is_between = some ⟨oc_is_between, od_is_between, .func (PySem.W.fnOf "is_between" "is_between" (defArgs st_is_between) (defBody st_is_between) (defScope st_is_between) .none kV_is_between dc_is_between pm_is_between an_is_between cd_is_between ct_is_between), sl_is_between⟩)
    (c_is_between : PySem.W.codeIn K cd_is_between "is_between" = true)
    (k_is_between : PySem.W.keepIn K (.ref f_is_between) = true)
    (a_is_prime : PySem.W.nsIn K mainGlobals "is_prime" = some (some (.ref f_is_prime)))
    (l_is_prime : K.lookup f_is_prime = some ⟨oc_is_prime, od_is_prime, .func (PySem.W.fnOf "is_prime" "is_prime" (defArgs st_is_prime) (defBody st_is_prime) (defScope st_is_prime) .none kV_is_prime dc_is_prime pm_is_prime an_is_prime cd_is_prime ct_is_prime), sl_is_prime⟩)
    (c_is_prime : PySem.W.codeIn K cd_is_prime "is_prime" = true)
    (k_is_prime : PySem.W.keepIn K (.ref f_is_prime) = true)
    (a_Settings_init : PySem.W.findIn K (.ref C_Settings) "__init__" = some (some (.ref f_Settings_init)))
    (l_Settings_init : K.lookup f_Settings_init = some ⟨oc_Settings_init, od_Settings_init, .func (PySem.W.fnOf "__init__" "Settings.__init__" (defArgs st_Settings_init) (defBody st_Settings_init) (defScope st_Settings_init) .none kV_Settings_init dc_Settings_init pm_Settings_init an_Settings_init cd_Settings_init ct_Settings_init), sl_Settings_init⟩)
    (c_Settings_init : PySem.W.codeIn K cd_Settings_init "Settings.__init__" = true)
    (k_Settings_init : PySem.W.keepIn K (.ref f_Settings_init) = true)
    (i_Settings_init : PySem.W.isFn K (.ref f_Settings_init) = true)
    (a_server_names : PySem.W.nsIn K mainGlobals "server_names" = some (some (.ref f_server_names)))
    (l_server_names : K.lookup f_server_names = some ⟨oc_server_names, od_server_names, .func (PySem.W.fnOf "server_names" "server_names" (defArgs st_server_names) (defBody st_server_names) (defScope st_server_names) .none kV_server_names dc_server_names pm_server_names an_server_names cd_server_names ct_server_names), sl_server_names⟩)
    (c_server_names : PySem.W.codeIn K cd_server_names "server_names" = true)
    (k_server_names : PySem.W.keepIn K (.ref f_server_names) = true)
    (a_shelf_names : PySem.W.nsIn K mainGlobals "shelf_names" = some (some (.ref f_shelf_names)))
    (l_shelf_names : K.lookup f_shelf_names = some ⟨oc_shelf_names, od_shelf_names, .func (PySem.W.fnOf "shelf_names" "shelf_names" (defArgs st_shelf_names) (defBody st_shelf_names) (defScope st_shelf_names) .none kV_shelf_names dc_shelf_names pm_shelf_names an_shelf_names cd_shelf_names ct_shelf_names), sl_shelf_names⟩)
    (c_shelf_names : PySem.W.codeIn K cd_shelf_names "shelf_names" = true)
    (k_shelf_names : PySem.W.keepIn K (.ref f_shelf_names) = true)
    (a_law_setting : PySem.W.nsIn K mainGlobals "_law_setting" = some (some (.ref f_law_setting)))
    (l_law_setting : K.lookup f_law_setting = some ⟨oc_law_setting, od_law_setting, .func (PySem.W.fnOf "_law_setting" "_law_setting" (defArgs st_law_setting) (defBody st_law_setting) (defScope st_law_setting) .none kV_law_setting dc_law_setting pm_law_setting an_law_setting cd_law_setting ct_law_setting), sl_law_setting⟩)
    (c_law_setting : PySem.W.codeIn K cd_law_setting "_law_setting" = true)
    (k_law_setting : PySem.W.keepIn K (.ref f_law_setting) = true)
    (a_law : PySem.W.nsIn K mainGlobals "law" = some (some (.ref f_law)))
    (l_law : K.lookup f_law = some ⟨oc_law, od_law, .func (PySem.W.fnOf "law" "law" (defArgs st_law) (defBody st_law) (defScope st_law) .none kV_law dc_law pm_law an_law cd_law ct_law), sl_law⟩)
    (c_law : PySem.W.codeIn K cd_law "law" = true)
    (k_law : PySem.W.keepIn K (.ref f_law) = true)
    (z_int : PySem.W.nsIn K mainGlobals "int" = some none)
    (z_list : PySem.W.nsIn K mainGlobals "list" = some none)
    (z_bool : PySem.W.nsIn K mainGlobals "bool" = some none)
    (z_isinstance : PySem.W.nsIn K mainGlobals "isinstance" = some none)
    (z_range : PySem.W.nsIn K mainGlobals "range" = some none)
    (z_len : PySem.W.nsIn K mainGlobals "len" = some none)
    (z_str : PySem.W.nsIn K mainGlobals "str" = some none)
    (z_tuple : PySem.W.nsIn K mainGlobals "tuple" = some none)
    (z_min : PySem.W.nsIn K mainGlobals "min" = some none)
    (z_repr : PySem.W.nsIn K mainGlobals "repr" = some none)
    : ∃ fd : FuncData, (∀ (s : Shared) (v : Value), BindsTo s fd ⟨[v], []⟩ [("_law_script", v)]) ∧ ∀ base : Heap, K.In base → base.Ns mainGlobals mg → FnG l.prog w K mg base (L2.CX l.prog w) 5 fa fd ["_law_script"] (spL K M_law) := by
  have e := hfa.symm.trans (PySem.W.mg_of X NG a_law)
  cases e
  refine ⟨PySem.W.fnOf "law" "law" (defArgs st_law) (defBody st_law) (defScope st_law) .none kV_law dc_law pm_law an_law cd_law ct_law, fun s v => .of_eq rfl, fun base hb hn => ?_⟩
  obtain ⟨cA, q_settingsC, q_badnumberC⟩ : ∃ cA : CA, cA "Settings" = C_Settings ∧ cA "BadNumber" = C_BadNumber := ⟨fun c => if c = "Settings" then C_Settings else if c = "BadNumber" then C_BadNumber else 0, by simp, by simp⟩
  let GG : Gx := ⟨l.prog, w, K, mg, base, cA⟩
  subst q_settingsC
  subst q_badnumberC
  have b_int : GG.mg "int" = none := PySem.W.mg_none_of X NG z_int
  have b_list : GG.mg "list" = none := PySem.W.mg_none_of X NG z_list
  have b_bool : GG.mg "bool" = none := PySem.W.mg_none_of X NG z_bool
  have b_isinstance : GG.mg "isinstance" = none := PySem.W.mg_none_of X NG z_isinstance
  have b_range : GG.mg "range" = none := PySem.W.mg_none_of X NG z_range
  have b_len : GG.mg "len" = none := PySem.W.mg_none_of X NG z_len
  have b_str : GG.mg "str" = none := PySem.W.mg_none_of X NG z_str
  have b_tuple : GG.mg "tuple" = none := PySem.W.mg_none_of X NG z_tuple
  have b_min : GG.mg "min" = none := PySem.W.mg_none_of X NG z_min
  have b_repr : GG.mg "repr" = none := PySem.W.mg_none_of X NG z_repr
  have cl_Settings : Cls GG.K (GG.cA "Settings") := ⟨pg_Settings, hd_Settings, po_Settings, sa_Settings⟩
  have fl_e : FldG GG "e" ["Settings"] := by
    intro c hc
    simp only [List.mem_cons, List.not_mem_nil, or_false] at hc
    subst hc
    exact ⟨cl_Settings, n_Settings_e⟩
  have fl_f : FldG GG "f" ["Settings"] := by
    intro c hc
    simp only [List.mem_cons, List.not_mem_nil, or_false] at hc
    subst hc
    exact ⟨cl_Settings, n_Settings_f⟩
  have fl_k : FldG GG "k" ["Settings"] := by
    intro c hc
    simp only [List.mem_cons, List.not_mem_nil, or_false] at hc
    subst hc
    exact ⟨cl_Settings, n_Settings_k⟩
  have fl_need : FldG GG "need" ["Settings"] := by
    intro c hc
    simp only [List.mem_cons, List.not_mem_nil, or_false] at hc
    subst hc
    exact ⟨cl_Settings, n_Settings_need⟩
  have fl_prime : FldG GG "prime" ["Settings"] := by
    intro c hc
    simp only [List.mem_cons, List.not_mem_nil, or_false] at hc
    subst hc
    exact ⟨cl_Settings, n_Settings_prime⟩
  have fl_servers : FldG GG "servers" ["Settings"] := by
    intro c hc
    simp only [List.mem_cons, List.not_mem_nil, or_false] at hc
    subst hc
    exact ⟨cl_Settings, n_Settings_servers⟩
  have fl_shelves : FldG GG "shelves" ["Settings"] := by
    intro c hc
    simp only [List.mem_cons, List.not_mem_nil, or_false] at hc
    subst hc
    exact ⟨cl_Settings, n_Settings_shelves⟩
  have fl_size : FldG GG "size" ["Settings"] := by
    intro c hc
    simp only [List.mem_cons, List.not_mem_nil, or_false] at hc
    subst hc
    exact ⟨cl_Settings, n_Settings_size⟩
  have fl_width : FldG GG "width" ["Settings"] := by
    intro c hc
    simp only [List.mem_cons, List.not_mem_nil, or_false] at hc
    subst hc
    exact ⟨cl_Settings, n_Settings_width⟩
  have ox_BadNumber : OexC GG.K (GG.cA "BadNumber") := ⟨⟨_, _, _, _, _, _, _, _, _, _, _, _, _, _, _, x_BadNumber, r_BadNumber⟩, sa_BadNumber, e_BadNumber, ty_BadNumber, kc_BadNumber⟩
  have F_BadNumber_init := fun_mk (st := st_BadNumber_init) l_BadNumber_init c_BadNumber_init k_BadNumber_init
  have x_BadNumber : CE GG "BadNumber" "BadNumber" 1 ["what", "number"] := ⟨PySem.W.mg_of X NG aC_BadNumber, ox_BadNumber, f_BadNumber_init, _, _, a_BadNumber_init, t_BadNumber_init, x_init2 (f1 := "what") (f2 := "number") ox_BadNumber F_BadNumber_init sc_BadNumber_init rfl rfl n_BadNumber_what n_BadNumber_number (fun cdv A outer s H E => pss_cons (ps_ost (pv 0) (pv 1)) (pss_one (ps_ost (pv 0) (pv 2)))), F_BadNumber_init.binds fun _ _ _ _ _ _ us hl => match us, hl with | [_, _, _], _ => rfl⟩
  have xf_BadNumber_number : XFG GG "BadNumber" "number" := ⟨⟨ga_BadNumber, gg_BadNumber, e_BadNumber, hd_BadNumber⟩, n_BadNumber_number⟩
  have xf_BadNumber_what : XFG GG "BadNumber" "what" := ⟨⟨ga_BadNumber, gg_BadNumber, e_BadNumber, hd_BadNumber⟩, n_BadNumber_what⟩
  have h_BadNumber : CH GG "BadNumber" (.ref (GG.cA "BadNumber")) [("BadNumber", true)] := ⟨⟨by decide, .inl (PySem.W.mg_of X NG aC_BadNumber)⟩, fun c r e => by
    simp only [List.lookup_cons] at e
    split at e
    · rename_i q; rw [eq_of_beq q]; cases e; exact exm_mk e_BadNumber ic_BadNumber ty_BadNumber s_BadNumber_BadNumber
    · cases e⟩
  have F_law_pen := fun_mk (st := st_law_pen) l_law_pen c_law_pen k_law_pen
  have o_law_pen := ok_law_pen (G := GG) F_law_pen b_int b_list
  have d_c_law_pen_0 : CF GG "_law_pen" 1 1 M_law_pen [] := ⟨f_law_pen, _, _, [], [], PySem.W.mg_of X NG a_law_pen, k_law_pen, o_law_pen, F_law_pen.binds fun _ _ _ _ _ _ us hl => match us, hl with | [_], _ => rfl, .nil, fun _ _ _ => .nil⟩
  have F_law_is_whole := fun_mk (st := st_law_is_whole) l_law_is_whole c_law_is_whole k_law_is_whole
  have o_law_is_whole := ok_law_is_whole (G := GG) F_law_is_whole b_bool b_int b_isinstance
  have d_c_law_is_whole_0 : CF GG "_law_is_whole" 1 1 M_law_is_whole [] := ⟨f_law_is_whole, _, _, [], [], PySem.W.mg_of X NG a_law_is_whole, k_law_is_whole, o_law_is_whole, F_law_is_whole.binds fun _ _ _ _ _ _ us hl => match us, hl with | [_], _ => rfl, .nil, fun _ _ _ => .nil⟩
  have F_law_wrong := fun_mk (st := st_law_wrong) l_law_wrong c_law_wrong k_law_wrong
  have o_law_wrong := ok_law_wrong (G := GG) F_law_wrong b_int b_range d_c_law_is_whole_0
  have d_c_law_wrong_0 : CF GG "_law_wrong" 2 1 M_law_wrong [] := ⟨f_law_wrong, _, _, [], [], PySem.W.mg_of X NG a_law_wrong, k_law_wrong, o_law_wrong, F_law_wrong.binds fun _ _ _ _ _ _ us hl => match us, hl with | [_], _ => rfl, .nil, fun _ _ _ => .nil⟩
  have F_law_draw := fun_mk (st := st_law_draw) l_law_draw c_law_draw k_law_draw
  have o_law_draw := ok_law_draw (G := GG) F_law_draw b_int b_len
  have d_c_law_draw_0 : CF GG "_law_draw" 1 2 M_law_draw [] := ⟨f_law_draw, _, _, [], [], PySem.W.mg_of X NG a_law_draw, k_law_draw, o_law_draw, F_law_draw.binds fun _ _ _ _ _ _ us hl => match us, hl with | [_, _], _ => rfl, .nil, fun _ _ _ => .nil⟩
  have F_law_pick := fun_mk (st := st_law_pick) l_law_pick c_law_pick k_law_pick
  have o_law_pick := ok_law_pick (G := GG) F_law_pick b_len d_c_law_draw_0
  have d_c_law_pick_0 : CF GG "_law_pick" 2 2 M_law_pick [] := ⟨f_law_pick, _, _, [], [], PySem.W.mg_of X NG a_law_pick, k_law_pick, o_law_pick, F_law_pick.binds fun _ _ _ _ _ _ us hl => match us, hl with | [_, _], _ => rfl, .nil, fun _ _ _ => .nil⟩
  have F_law_odd_one := fun_mk (st := st_law_odd_one) l_law_odd_one c_law_odd_one k_law_odd_one
  have o_law_odd_one := ok_law_odd_one (G := GG) F_law_odd_one b_int b_range d_c_law_draw_0
  have d_c_law_odd_one_0 : CF GG "_law_odd_one" 2 1 M_law_odd_one [] := ⟨f_law_odd_one, _, _, [], [], PySem.W.mg_of X NG a_law_odd_one, k_law_odd_one, o_law_odd_one, F_law_odd_one.binds fun _ _ _ _ _ _ us hl => match us, hl with | [_], _ => rfl, .nil, fun _ _ _ => .nil⟩
  have F_is_whole := fun_mk (st := st_is_whole) l_is_whole c_is_whole k_is_whole
  have o_is_whole := ok_is_whole (G := GG) F_is_whole b_bool b_int b_isinstance
  have d_c_is_whole_0 : CF GG "is_whole" 1 1 M_is_whole [] := ⟨f_is_whole, _, _, [], [], PySem.W.mg_of X NG a_is_whole, k_is_whole, o_is_whole, F_is_whole.binds fun _ _ _ _ _ _ us hl => match us, hl with | [_], _ => rfl, .nil, fun _ _ _ => .nil⟩
  have F_is_between := fun_mk (st := st_is_between) l_is_between c_is_between k_is_between
  have o_is_between := ok_is_between (G := GG) F_is_between d_c_is_whole_0
  have d_c_is_between_0 : CF GG "is_between" 2 3 M_is_between [] := ⟨f_is_between, _, _, [], [], PySem.W.mg_of X NG a_is_between, k_is_between, o_is_between, F_is_between.binds fun _ _ _ _ _ _ us hl => match us, hl with | [_, _, _], _ => rfl, .nil, fun _ _ _ => .nil⟩
  have F_is_prime := fun_mk (st := st_is_prime) l_is_prime c_is_prime k_is_prime
  have o_is_prime := ok_is_prime (G := GG) F_is_prime 
  have d_c_is_prime_0 : CF GG "is_prime" 1 1 M_is_prime [] := ⟨f_is_prime, _, _, [], [], PySem.W.mg_of X NG a_is_prime, k_is_prime, o_is_prime, F_is_prime.binds fun _ _ _ _ _ _ us hl => match us, hl with | [_], _ => rfl, .nil, fun _ _ _ => .nil⟩
  have F_Settings_init := fun_mk (st := st_Settings_init) l_Settings_init c_Settings_init k_Settings_init
  have o_Settings_init := ok_Settings_init (G := GG) F_Settings_init fl_e fl_f fl_k fl_need fl_prime fl_servers fl_shelves fl_size fl_width x_BadNumber d_c_is_whole_0 d_c_is_between_0 d_c_is_prime_0
  have d_c_Settings_init_0 : CM GG "Settings" "Settings" 3 9 M_Settings_init [] := ⟨f_Settings_init, _, _, [], [], PySem.W.mg_of X NG aC_Settings, ⟨mk_Settings, a_Settings_init, i_Settings_init, kc_Settings⟩, o_Settings_init, F_Settings_init.binds fun _ _ _ _ _ _ us hl => match us, hl with | [_, _, _, _, _, _, _, _, _], _ => rfl, .nil, fun _ _ _ => .nil⟩
  have F_server_names := fun_mk (st := st_server_names) l_server_names c_server_names k_server_names
  have o_server_names := ok_server_names (G := GG) F_server_names b_range b_str b_tuple fl_servers
  have d_c_server_names_0 : CF GG "server_names" 1 1 M_server_names [] := ⟨f_server_names, _, _, [], [], PySem.W.mg_of X NG a_server_names, k_server_names, o_server_names, F_server_names.binds fun _ _ _ _ _ _ us hl => match us, hl with | [_], _ => rfl, .nil, fun _ _ _ => .nil⟩
  have F_shelf_names := fun_mk (st := st_shelf_names) l_shelf_names c_shelf_names k_shelf_names
  have o_shelf_names := ok_shelf_names (G := GG) F_shelf_names b_range b_str b_tuple fl_shelves
  have d_c_shelf_names_0 : CF GG "shelf_names" 1 1 M_shelf_names [] := ⟨f_shelf_names, _, _, [], [], PySem.W.mg_of X NG a_shelf_names, k_shelf_names, o_shelf_names, F_shelf_names.binds fun _ _ _ _ _ _ us hl => match us, hl with | [_], _ => rfl, .nil, fun _ _ _ => .nil⟩
  have F_law_setting := fun_mk (st := st_law_setting) l_law_setting c_law_setting k_law_setting
  have o_law_setting := ok_law_setting (G := GG) F_law_setting b_min d_c_law_draw_0 d_c_law_pick_0
  have d_c_law_setting_0 : CF GG "_law_setting" 3 1 M_law_setting [] := ⟨f_law_setting, _, _, [], [], PySem.W.mg_of X NG a_law_setting, k_law_setting, o_law_setting, F_law_setting.binds fun _ _ _ _ _ _ us hl => match us, hl with | [_], _ => rfl, .nil, fun _ _ _ => .nil⟩
  have F_law := fun_mk (st := st_law) l_law c_law k_law
  have o_law := ok_law (G := GG) F_law b_list b_range b_repr b_str b_tuple fl_e fl_f fl_k fl_need fl_prime fl_servers fl_shelves fl_size fl_width h_BadNumber xf_BadNumber_number xf_BadNumber_what d_c_law_pen_0 d_c_law_setting_0 d_c_law_draw_0 d_c_law_pick_0 d_c_law_odd_one_0 d_c_law_wrong_0 d_c_Settings_init_0 d_c_server_names_0 d_c_shelf_names_0
  exact o_law.imp fun vs H Q E z => z cA
theorem walk {l : PySem.W.OpenLaw} {q : Program} {loose : List Str} {XP : (Str → Option Value) → Heap → Prop} {YP : World → Heap → Prop} {d : DefRec} {K : Params → PySem.W.Frag} (hn : l.most = some 63) (hdf : d.params.defaults = []) (hY : ∀ (w : World) (h : Heap), YP w h → (K w.params).In h)
    (F : ∀ (w : World) (mg : Str → Option Value) (fa : Addr) (h : Heap), (K w.params).In h → h.Ns mainGlobals mg → mg d.name = some (.ref fa) → ∃ fd : FuncData, (∀ (s : Shared) (v : Value), BindsTo s fd ⟨[v], []⟩ [("_law_script", v)]) ∧ ∀ base : Heap, (K w.params).In base → base.Ns mainGlobals mg → FnG l.prog w (K w.params) mg base (L2.CX l.prog w) 5 fa fd ["_law_script"] (spL (K w.params) M_law)) :
    PySem.W.WalkO q loose XP YP l.row.toRowW d [] (fun f vs => PySem.call f vs) :=
  Kf.walk_G (n := 63) (k := 5) (x := "_law_script") (CX := fun w => L2.CX l.prog w) (sp := fun w => spL (K w.params) M_law) hn (by decide) hdf ⟨⟨rfl, by decide, by decide⟩, rfl⟩ hY F (fun _ H a ns hl hO hS cA => Kf.law_sp law_sp H a ns hl hO hS) fun _ _ _ _ _ z => by
    obtain ⟨_, _, _, _, _, _, _, _, _, _, _, _, z⟩ := z
    exact z
end Kq
end
section
open PySem PySem.W PyProof.Rows in
set_option maxRecDepth 100000 in
set_option maxHeartbeats 0 in
theorem PySem.Challenge.cw_keptfiles_k01_settings_holds : PySem.Challenge.rw_keptfiles_k01_settings.Holds := by
  w_on; o_law; k_head; (case hw => w_witness2)
  k_fill
  refine Kq.walk (l := PySem.Challenge.rw_keptfiles_k01_settings) rfl rfl (fun w h Y => PySem.W.kIn_of Y) ?F
  case F =>
    intro w mg fa h KX NG hmg
    refine' Kq.all_mk KX NG hmg ?aC_Settings ?aC_BadNumber ?pg_Settings ?hd_Settings ?po_Settings ?sa_Settings ?mk_Settings ?kc_Settings ?n_Settings_e ?n_Settings_f ?n_Settings_k ?n_Settings_need ?n_Settings_prime ?n_Settings_servers ?n_Settings_shelves ?n_Settings_size ?n_Settings_width ?x_BadNumber ?r_BadNumber ?sa_BadNumber ?kc_BadNumber ?a_BadNumber_init ?l_BadNumber_init ?c_BadNumber_init ?k_BadNumber_init ?t_BadNumber_init ?n_BadNumber_what ?n_BadNumber_number ?e_BadNumber ?ty_BadNumber ?ic_BadNumber ?ga_BadNumber ?gg_BadNumber ?hd_BadNumber ?s_BadNumber_BadNumber ?a_law_pen ?l_law_pen ?c_law_pen ?k_law_pen ?a_law_is_whole ?l_law_is_whole ?c_law_is_whole ?k_law_is_whole ?a_law_wrong ?l_law_wrong ?c_law_wrong ?k_law_wrong ?a_law_draw ?l_law_draw ?c_law_draw ?k_law_draw ?a_law_pick ?l_law_pick ?c_law_pick ?k_law_pick ?a_law_odd_one ?l_law_odd_one ?c_law_odd_one ?k_law_odd_one ?a_is_whole ?l_is_whole ?c_is_whole ?k_is_whole ?a_is_between ?l_is_between ?c_is_between ?k_is_between ?a_is_prime ?l_is_prime ?c_is_prime ?k_is_prime ?a_Settings_init ?l_Settings_init ?c_Settings_init ?k_Settings_init ?i_Settings_init ?a_server_names ?l_server_names ?c_server_names ?k_server_names ?a_shelf_names ?l_shelf_names ?c_shelf_names ?k_shelf_names ?a_law_setting ?l_law_setting ?c_law_setting ?k_law_setting ?a_law ?l_law ?c_law ?k_law ?z_int ?z_list ?z_bool ?z_isinstance ?z_range ?z_len ?z_str ?z_tuple ?z_min ?z_repr
    (case aC_Settings => k_is)
    (case aC_BadNumber => k_is)
    (case pg_Settings => k_is)
    (case hd_Settings => k_is)
    (case po_Settings => k_is)
    (case sa_Settings => k_is)
    (case mk_Settings => k_is)
    (case kc_Settings => k_is)
    (case n_Settings_e => k_is)
    (case n_Settings_f => k_is)
    (case n_Settings_k => k_is)
    (case n_Settings_need => k_is)
    (case n_Settings_prime => k_is)
    (case n_Settings_servers => k_is)
    (case n_Settings_shelves => k_is)
    (case n_Settings_size => k_is)
    (case n_Settings_width => k_is)
    (case x_BadNumber => k_is)
    (case r_BadNumber => decide +kernel)
    (case sa_BadNumber => k_is)
    (case kc_BadNumber => k_is)
    (case a_BadNumber_init => k_is)
    (case l_BadNumber_init => k_is)
    (case c_BadNumber_init => k_is)
    (case k_BadNumber_init => k_is)
    (case t_BadNumber_init => k_is)
    (case n_BadNumber_what => k_is)
    (case n_BadNumber_number => k_is)
    (case e_BadNumber => k_is)
    (case ty_BadNumber => k_is)
    (case ic_BadNumber => k_is)
    (case ga_BadNumber => k_is)
    (case gg_BadNumber => k_is)
    (case hd_BadNumber => k_is)
    (case s_BadNumber_BadNumber => k_is)
    (case a_law_pen => k_is)
    (case l_law_pen => k_is)
    (case c_law_pen => k_is)
    (case k_law_pen => k_is)
    (case a_law_is_whole => k_is)
    (case l_law_is_whole => k_is)
    (case c_law_is_whole => k_is)
    (case k_law_is_whole => k_is)
    (case a_law_wrong => k_is)
    (case l_law_wrong => k_is)
    (case c_law_wrong => k_is)
    (case k_law_wrong => k_is)
    (case a_law_draw => k_is)
    (case l_law_draw => k_is)
    (case c_law_draw => k_is)
    (case k_law_draw => k_is)
    (case a_law_pick => k_is)
    (case l_law_pick => k_is)
    (case c_law_pick => k_is)
    (case k_law_pick => k_is)
    (case a_law_odd_one => k_is)
    (case l_law_odd_one => k_is)
    (case c_law_odd_one => k_is)
    (case k_law_odd_one => k_is)
    (case a_is_whole => k_is)
    (case l_is_whole => k_is)
    (case c_is_whole => k_is)
    (case k_is_whole => k_is)
    (case a_is_between => k_is)
    (case l_is_between => k_is)
    (case c_is_between => k_is)
    (case k_is_between => k_is)
    (case a_is_prime => k_is)
    (case l_is_prime => k_is)
    (case c_is_prime => k_is)
    (case k_is_prime => k_is)
    (case a_Settings_init => k_is)
    (case l_Settings_init => k_is)
    (case c_Settings_init => k_is)
    (case k_Settings_init => k_is)
    (case i_Settings_init => k_is)
    (case a_server_names => k_is)
    (case l_server_names => k_is)
    (case c_server_names => k_is)
    (case k_server_names => k_is)
    (case a_shelf_names => k_is)
    (case l_shelf_names => k_is)
    (case c_shelf_names => k_is)
    (case k_shelf_names => k_is)
    (case a_law_setting => k_is)
    (case l_law_setting => k_is)
    (case c_law_setting => k_is)
    (case k_law_setting => k_is)
    (case a_law => k_is)
    (case l_law => k_is)
    (case c_law => k_is)
    (case k_law => k_is)
    (case z_int => k_is)
    (case z_list => k_is)
    (case z_bool => k_is)
    (case z_isinstance => k_is)
    (case z_range => k_is)
    (case z_len => k_is)
    (case z_str => k_is)
    (case z_tuple => k_is)
    (case z_min => k_is)
    (case z_repr => k_is)
end
