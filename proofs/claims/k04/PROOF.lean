import PyProof.Rows.All
import Wide.All
import OpenK.AllK
import Wide.FinOn
import HandS.ForMost
import HandS.ForExc
import HandS.ExcInit
import HandS.TryOnly
import KE.DataCmp
import HandS.TupAny
import HandS.Deep
import HandS.CallSlots
import HandS.WordsDict
import HandS.Style
import HandS.IsInst
import HandS.ExcField
import HandS.TryMany
import HandS.Rev
import HandS.Zip
import HandS.TupMul
import HandS.Conv
import PyProof.P3Eq
import PySem.Challenge.RW_keptfiles_k04_whole_disks
set_option Elab.async false
set_option linter.all false
set_option maxRecDepth 100000
set_option autoImplicit false
section
set_option maxHeartbeats 4000000
/-! Kf: a deterministic reading of the program's defs, over the hand layer. Values D, objects O in a heap Hd (a list), results Res;
    tD turns such a reading into a reading of the hand layer (a TE). -/
namespace Kf
open PySem PySem.Spec L2

inductive D where
  | non | bl (b : Bool) | int (i : Int) | str (s : String) | tup (xs : List D) | ref (n : Nat)
  /-- a list that nobody changes -/
  | fls (xs : List D)
  /-- an exception that a suite holds: its class, where it lies, its dict, its fields -/
  | xc (c : String) (a : Nat) (d : Option Nat) (fs : List (String × D))
inductive O where
  | lst (xs : List D)
  | dict (kvs : List (D × D))
  /-- a dict that is walked -/
  | lkd (kvs : List (D × D))
  | ins (c : String) (fs : List (String × D))
abbrev Hd := List O
abbrev En := List (Option D)

inductive Res (α : Type) where
  | ok (a : α) (h : Hd)
  | exc (c : String) (fs : List (String × D)) (h : Hd)
  | stuck
def Res.bind {α β : Type} (r : Res α) (f : α → Hd → Res β) : Res β := match r with
  | .ok a h => f a h
  | .exc c fs h => .exc c fs h
  | .stuck => .stuck
@[simp] theorem Res.bind_ok {α β : Type} (a : α) (h : Hd) (f : α → Hd → Res β) : (Res.ok a h).bind f = f a h := id rfl
@[simp] theorem Res.bind_exc {α β : Type} (c fs) (h : Hd) (f : α → Hd → Res β) : (Res.exc c fs h : Res α).bind f = .exc c fs h := id rfl
@[simp] theorem Res.bind_stuck {α β : Type} (f : α → Hd → Res β) : (Res.stuck : Res α).bind f = .stuck := id rfl

/-- a list that nobody changes: frozen, or of the written part -/
def FzL (K : PySem.W.Frag) (H : Hp) (a : Addr) (xs : List V) : Prop := (∃ o, H a = some (.frz o (.lst xs))) ∨
  ∃ (o : Obj) (its : Array Value) (n : Nat), K.lookup a = some o ∧ o.cls = .type "list" ∧ o.dict = none ∧ o.data = .seq its n ∧ its.size ≤ sizeLine ∧ Vals xs its.toList
theorem FzL.sql {K : PySem.W.Frag} {H : Hp} {a : Addr} {xs : List V} (h : FzL K H a xs) : SqL K H a xs := h.elim (fun ⟨o, e⟩ => .inl (.inr ⟨o, e⟩)) .inr
/-- the classes' addresses -/
abbrev CA := String → Addr
section
variable (K : PySem.W.Frag) (cA : CA) (ι : Nat → Addr) (n : Nat) (H : Hp)
mutual
inductive Rep : V → D → Prop where
  | non : Rep .non .non
  | bl {b} : Rep (.bl b) (.bl b)
  | int {i} : Rep (.int i) (.int i)
  | str {s} : Rep (.str (Str.ofString s)) (.str s)
  | tup {a xs ds} : SqT K H a xs → Reps xs ds → Rep (.ref a) (.tup ds)
  | ref {m} : m < n → Rep (.ref (ι m)) (.ref m)
  | fls {a xs ds} : FzL K H a xs → Reps xs ds → Rep (.ref a) (.fls ds)
  | xc0 {c a} : Rep (.ref a) (.xc c a none [])
  | xc {c a d gs fs} : H d = some (.xd gs) → FRep gs fs → Rep (.ref a) (.xc c a (some d) fs)
inductive Reps : List V → List D → Prop where
  | nil : Reps [] []
  | cons {x d xs ds} : Rep x d → Reps xs ds → Reps (x :: xs) (d :: ds)
inductive FRep : List (Str × V) → List (String × D) → Prop where
  | nil : FRep [] []
  | cons {f x d fs gs} : Rep x d → FRep fs gs → FRep ((Str.ofString f, x) :: fs) ((f, d) :: gs)
end
/-- the pairs of a dict -/
inductive KRep : List (Key × V) → List (D × D) → Prop where
  | nil : KRep [] []
  | cons {k kd x d ks ds} : Rep K ι n H (kV k) kd → Rep K ι n H x d → KRep ks ds → KRep ((k, x) :: ks) ((kd, d) :: ds)
inductive ORep : HO → O → Prop where
  | lst {xs ds} : Reps K ι n H xs ds → ORep (.lst xs) (.lst ds)
  | dict {ks ds} : KRep K ι n H ks ds → ORep (.dK ks) (.dict ds)
  | lkd {o ks ds} : KRep K ι n H ks ds → ORep (.frz o (.dK ks)) (.lkd ds)
  | ins {c dx fs gs} : FRep K ι n H fs gs → ORep (.ins (cA c) dx fs) (.ins c gs)
structure HRep (h : Hd) : Prop where
  obj : ∀ m o, h[m]? = some o → ∃ ho, H (ι m) = some ho ∧ ORep K cA ι h.length H ho o
  inj : ∀ m k, m < h.length → k < h.length → ι m = ι k → m = k
end
/-- from one state to a later one: the old addresses stay, what the heap h does not speak of stays, the new addresses were free -/
structure Step (ι : Nat → Addr) (h : Hd) (H : Hp) (ι' : Nat → Addr) (h' : Hd) (H' : Hp) : Prop where
  eq : ∀ m, m < h.length → ι' m = ι m
  len : h.length ≤ h'.length
  keep : ∀ a o, H a = some o → (∀ m, m < h.length → a ≠ ι m) → H' a = some o
  fresh : ∀ m, h.length ≤ m → m < h'.length → H (ι' m) = none
  there : ∀ a o, H a = some o → ∃ o', H' a = some o'
  frz : ∀ a o u, H a = some (.frz o u) → H' a = some (.frz o u)

section
variable {K : PySem.W.Frag} {cA : CA} {ι ι' ι'' : Nat → Addr} {n n' : Nat} {H H' H'' : Hp} {h h' h'' : Hd}
theorem ORep.xd {ho : HO} {o : O} (r : ORep K cA ι n H ho o) : ∀ gs, ho ≠ .xd gs := by
  cases r <;> refine fun _ z => ?_ <;> cases z
theorem HRep.xdOff' {K : PySem.W.Frag} {cA : CA} {ι : Nat → Addr} {H : Hp} {h : Hd} (R : HRep K cA ι H h) {a : Addr} {gs : List (Str × V)} (e : H a = some (.xd gs)) : ∀ m, m < h.length → a ≠ ι m := fun m hm z => by
  obtain ⟨ho, e2, r⟩ := R.obj m h[m] (by simp [hm])
  rw [z, e2] at e
  exact r.xd gs (Option.some.inj e)
theorem ORep.mut {ho : HO} {o : O} (r : ORep K cA ι n H ho o) : (∀ xs, ho ≠ .tup xs) ∧ (∀ x xs, ho ≠ .frz x (.tup xs)) ∧ (∀ x, ho ≠ .own x) := by
  cases r <;> refine ⟨fun _ z => ?_, fun _ _ z => ?_, fun _ z => ?_⟩ <;> cases z
theorem HRep.lt_obj (R : HRep K cA ι H h) {m : Nat} (hm : m < h.length) : ∃ o ho, h[m]? = some o ∧ H (ι m) = some ho ∧ ORep K cA ι h.length H ho o := by
  obtain ⟨ho, e, r⟩ := R.obj m h[m] (by simp [hm])
  exact ⟨_, ho, by simp [hm], e, r⟩
theorem HRep.tupOff (R : HRep K cA ι H h) {a : Addr} {xs : List V} (e : H a = some (.tup xs)) : ∀ m, m < h.length → a ≠ ι m := fun m hm z => by
  obtain ⟨o, ho, _, e2, r⟩ := R.lt_obj hm
  rw [z, e2] at e
  exact r.mut.1 xs (Option.some.inj e)
theorem HRep.frzOff (R : HRep K cA ι H h) {a : Addr} {o : Obj} {u : List V} (e : H a = some (.frz o (.tup u))) : ∀ m, m < h.length → a ≠ ι m := fun m hm z => by
  obtain ⟨o2, ho, _, e2, r⟩ := R.lt_obj hm
  rw [z, e2] at e
  exact r.mut.2.1 _ _ (Option.some.inj e)
/-- what keeps tuples -/
structure TKeep (K : PySem.W.Frag) (H H' : Hp) : Prop where
  tup : ∀ a xs, SqT K H a xs → SqT K H' a xs
  fzl : ∀ a xs, FzL K H a xs → FzL K H' a xs
  xd : ∀ a gs, H a = some (.xd gs) → H' a = some (.xd gs)
theorem Step.tkeep (S : Step ι h H ι' h' H') (R : HRep K cA ι H h) : TKeep K H H' := ⟨fun a xs q => by
  rcases q with (q | ⟨o, q⟩) | q
  · exact .inl (.inl (S.keep a _ q (R.tupOff q)))
  · exact .inl (.inr ⟨o, S.keep a _ q (R.frzOff q)⟩)
  · exact .inr q, fun a xs q => by
  rcases q with ⟨o, q⟩ | q
  · exact .inl ⟨o, S.frz a _ _ q⟩
  · exact .inr q, fun a gs q => S.keep a _ q (R.xdOff' q)⟩
mutual
theorem Rep.keep (t : TKeep K H H') (hn : n ≤ n') (hi : ∀ m, m < n → ι' m = ι m) : ∀ {v : V} {d : D}, Rep K ι n H v d → Rep K ι' n' H' v d
  | _, _, .non => .non
  | _, _, .bl => .bl
  | _, _, .int => .int
  | _, _, .str => .str
  | _, _, .tup q r => .tup (t.tup _ _ q) (Reps.keep t hn hi r)
  | _, _, .fls q r => .fls (t.fzl _ _ q) (Reps.keep t hn hi r)
  | _, _, .ref (m := m) q => by
    have e := hi m q
    rw [← e]
    exact .ref (Nat.lt_of_lt_of_le q hn)
  | _, _, .xc0 => .xc0
  | _, _, .xc q r => .xc (t.xd _ _ q) (FRep.keep t hn hi r)
theorem Reps.keep (t : TKeep K H H') (hn : n ≤ n') (hi : ∀ m, m < n → ι' m = ι m) : ∀ {v : List V} {d : List D}, Reps K ι n H v d → Reps K ι' n' H' v d
  | _, _, .nil => .nil
  | _, _, .cons r q => .cons (Rep.keep t hn hi r) (Reps.keep t hn hi q)
theorem FRep.keep (t : TKeep K H H') (hn : n ≤ n') (hi : ∀ m, m < n → ι' m = ι m) : ∀ {v : List (Str × V)} {d : List (String × D)}, FRep K ι n H v d → FRep K ι' n' H' v d
  | _, _, .nil => .nil
  | _, _, .cons r q => .cons (Rep.keep t hn hi r) (FRep.keep t hn hi q)
end
theorem KRep.keep (t : TKeep K H H') (hn : n ≤ n') (hi : ∀ m, m < n → ι' m = ι m) {v d} (r : KRep K ι n H v d) : KRep K ι' n' H' v d := by
  induction r with
  | nil => exact .nil
  | cons r q _ ih => exact .cons (r.keep t hn hi) (q.keep t hn hi) ih
theorem ORep.keep (t : TKeep K H H') (hn : n ≤ n') (hi : ∀ m, m < n → ι' m = ι m) {v d} (r : ORep K cA ι n H v d) : ORep K cA ι' n' H' v d := by
  cases r with
  | lst r => exact .lst (r.keep t hn hi)
  | dict r => exact .dict (r.keep t hn hi)
  | lkd r => exact .lkd (r.keep t hn hi)
  | ins r => exact .ins (r.keep t hn hi)
theorem Step.refl : Step ι h H ι h H := ⟨fun _ _ => rfl, Nat.le_refl _, fun _ _ q _ => q, fun m a b => absurd (Nat.lt_of_lt_of_le b a) (Nat.lt_irrefl _), fun _ o q => ⟨o, q⟩, fun _ _ _ q => q⟩
theorem Step.trans (S : Step ι h H ι' h' H') (T : Step ι' h' H' ι'' h'' H'') : Step ι h H ι'' h'' H'' where
  eq := fun m hm => (T.eq m (Nat.lt_of_lt_of_le hm S.len)).trans (S.eq m hm)
  len := Nat.le_trans S.len T.len
  keep := fun a o q hn => T.keep a o (S.keep a o q hn) fun m hm z => by
    by_cases h1 : m < h.length
    · exact hn m h1 (z.trans (S.eq m h1))
    · have := S.fresh m (Nat.le_of_not_lt h1) hm
      rw [← z, q] at this; cases this
  fresh := fun m h1 h2 => by
    by_cases h3 : m < h'.length
    · rw [T.eq m h3]; exact S.fresh m h1 h3
    · have z := T.fresh m (Nat.le_of_not_lt h3) h2
      cases e : H (ι'' m) with
      | none => rfl
      | some o =>
        obtain ⟨o', e'⟩ := S.there _ o e
        rw [z] at e'; cases e'
  there := fun a o q => by
    obtain ⟨o', q'⟩ := S.there a o q
    exact T.there a o' q'
  frz := fun a o u q => T.frz a o u (S.frz a o u q)
end

/-! ### readings of expressions -/
/-- an environment -/
structure VRep (K : PySem.W.Frag) (ι : Nat → Addr) (n : Nat) (H : Hp) (σ : St) (env : En) : Prop where
  len : σ.length = env.length
  var : ∀ (i : Nat) (d : D), env[i]? = some (some d) → ∃ v, (σ : List (Option V))[i]? = some (some v) ∧ Rep K ι n H v d
/-- what an exception is, behind its raise -/
def XRep (K : PySem.W.Frag) (cA : CA) (ι : Nat → Addr) (n : Nat) (H : Hp) (c : String) (fs : List (String × D)) (cls : Value) (od : Option Addr) : Prop :=
  cls = .ref (cA c) ∧ ((fs = [] ∧ od = none) ∨ ∃ d gs, od = some d ∧ H d = some (.xd gs) ∧ FRep K ι n H gs fs)

/-- what is wanted behind a result -/
def RPost {α : Type} (K : PySem.W.Frag) (cA : CA) (W : WX) (σ : St) (ι : Nat → Addr) (h : Hd) (H : Hp) (r : Res α) (P : α → Hd → (Nat → Addr) → Hp → Prop) : Prop := match r with
  | .ok a h' => ∀ ι' H', Step ι h H ι' h' H' → HRep K cA ι' H' h' → P a h' ι' H'
  | .exc c fs h' => ∀ ι' H' cls od, Step ι h H ι' h' H' → HRep K cA ι' H' h' → XRep K cA ι' h'.length H' c fs cls od → W cls od σ H'
  | .stuck => False
section
variable {K : PySem.W.Frag} {cA : CA} {W : WX} {σ : St} {ι ι' ι'' : Nat → Addr} {n n' : Nat} {H H' H'' : Hp} {h h' h'' : Hd} {α β : Type}
theorem RPost.mono {r : Res α} {P P' : α → Hd → (Nat → Addr) → Hp → Prop} (p : RPost K cA W σ ι h H r P) (k : ∀ a h' ι' H', Step ι h H ι' h' H' → HRep K cA ι' H' h' → P a h' ι' H' → P' a h' ι' H') : RPost K cA W σ ι h H r P' := by
  cases r with
  | ok a h' => exact fun ι' H' S R => k a h' ι' H' S R (p ι' H' S R)
  | exc c fs h' => exact p
  | stuck => exact p
theorem RPost.step {r : Res α} {P : α → Hd → (Nat → Addr) → Hp → Prop} (S : Step ι h H ι' h' H') (p : RPost K cA W σ ι h H r P) : RPost K cA W σ ι' h' H' r P := by
  cases r with
  | ok a h2 => exact fun ι2 H2 T R => p ι2 H2 (S.trans T) R
  | exc c fs h2 => exact fun ι2 H2 cls od T R x => p ι2 H2 cls od (S.trans T) R x
  | stuck => exact p
theorem RPost.bind {r : Res α} {f : α → Hd → Res β} {P : β → Hd → (Nat → Addr) → Hp → Prop} (p : RPost K cA W σ ι h H (r.bind f) P) : RPost K cA W σ ι h H r fun a h' ι' H' => RPost K cA W σ ι' h' H' (f a h') P := by
  cases r with
  | ok a h' => exact fun ι' H' S R => RPost.step S p
  | exc c fs h' => exact p
  | stuck => exact p
theorem RPost.ok {a : α} {P : α → Hd → (Nat → Addr) → Hp → Prop} (R : HRep K cA ι H h) (p : RPost K cA W σ ι h H (.ok a h) P) : P a h ι H := p ι H .refl R
theorem VRep.step {env : En} (V : VRep K ι h.length H σ env) (S : Step ι h H ι' h' H') (R : HRep K cA ι H h) : VRep K ι' h'.length H' σ env :=
  ⟨V.len, fun i d e => by
    obtain ⟨v, e1, r⟩ := V.var i d e
    exact ⟨v, e1, r.keep (S.tkeep R) S.len S.eq⟩⟩
theorem Rep.step {v : V} {d : D} (r : Rep K ι h.length H v d) (S : Step ι h H ι' h' H') (R : HRep K cA ι H h) : Rep K ι' h'.length H' v d := r.keep (S.tkeep R) S.len S.eq
theorem Reps.step {v : List V} {d : List D} (r : Reps K ι h.length H v d) (S : Step ι h H ι' h' H') (R : HRep K cA ι H h) : Reps K ι' h'.length H' v d := r.keep (S.tkeep R) S.len S.eq
end

/-- a reading of an expression; of a test; of an argument list; of a statement -/
abbrev SE := En → Hd → Res D
abbrev SB := En → Hd → Res Bool
abbrev SA := En → Hd → Res (List D)
inductive Fl where
  | nx (env : En) | ret (d : D) | brk (env : En) | ct (env : En) | exc (c : String) (fs : List (String × D)) (env : En)
inductive Rs where
  | ok (fl : Fl) (h : Hd)
  | stuck
abbrev SS := En → Hd → Rs
def Res.lift {α : Type} (r : Res α) (env : En) (k : α → Hd → Rs) : Rs := match r with
  | .ok a h => k a h
  | .exc c fs h => .ok (.exc c fs env) h
  | .stuck => .stuck
@[simp] theorem Res.lift_ok {α : Type} (a : α) (h : Hd) (env : En) (k : α → Hd → Rs) : (Res.ok a h).lift env k = k a h := id rfl
@[simp] theorem Res.lift_exc {α : Type} (c fs) (h : Hd) (env : En) (k : α → Hd → Rs) : (Res.exc c fs h : Res α).lift env k = .ok (.exc c fs env) h := id rfl
@[simp] theorem Res.lift_stuck {α : Type} (env : En) (k : α → Hd → Rs) : (Res.stuck : Res α).lift env k = .stuck := id rfl
/-- what a def's body runs in -/
structure Kx where
  X : Cx
  cA : CA
  W : WX
section
variable (Z : Kx)
def tD (f : SE) : TE := fun σ H Q => ∃ ι env h, HRep Z.X.K Z.cA ι H h ∧ VRep Z.X.K ι h.length H σ env ∧
  RPost Z.X.K Z.cA Z.W σ ι h H (f env h) fun d h' ι' H' => ∀ v, Rep Z.X.K ι' h'.length H' v d → Q v H'
def tDB (f : SB) : TT := fun σ H Q => ∃ ι env h, HRep Z.X.K Z.cA ι H h ∧ VRep Z.X.K ι h.length H σ env ∧
  RPost Z.X.K Z.cA Z.W σ ι h H (f env h) fun b h' ι' H' => Q b H'
def tDA (f : SA) : TA := fun σ H Q => ∃ ι env h, HRep Z.X.K Z.cA ι H h ∧ VRep Z.X.K ι h.length H σ env ∧
  RPost Z.X.K Z.cA Z.W σ ι h H (f env h) fun ds h' ι' H' => ∀ vs, Reps Z.X.K ι' h'.length H' vs ds → Q vs H'
def FlP (D : Ends) (fl : Fl) (h' : Hd) (ι' : Nat → Addr) (H' : Hp) : Prop := match fl with
  | .nx env => ∀ σ', VRep Z.X.K ι' h'.length H' σ' env → D.nx σ' H'
  | .brk env => ∀ σ', VRep Z.X.K ι' h'.length H' σ' env → D.bk σ' H'
  | .ct env => ∀ σ', VRep Z.X.K ι' h'.length H' σ' env → D.ct σ' H'
  | .ret d => ∀ v, Rep Z.X.K ι' h'.length H' v d → D.rt v H'
  | .exc c fs env => ∀ σ' cls od, VRep Z.X.K ι' h'.length H' σ' env → XRep Z.X.K Z.cA ι' h'.length H' c fs cls od → Z.W cls od σ' H'
def RsPost (D : Ends) (ι : Nat → Addr) (h : Hd) (H : Hp) (r : Rs) : Prop := match r with
  | .ok fl h' => ∀ ι' H', Step ι h H ι' h' H' → HRep Z.X.K Z.cA ι' H' h' → FlP Z D fl h' ι' H'
  | .stuck => False
def tDS (f : SS) : TS := fun D σ H => ∃ ι env h, HRep Z.X.K Z.cA ι H h ∧ VRep Z.X.K ι h.length H σ env ∧ RsPost Z D ι h H (f env h)
structure KE (e : Expr) (f : SE) : Prop where
  pe : PE Z.X e (tD Z f)
structure KB (e : Expr) (f : SB) : Prop where
  pt : PT Z.X e (tDB Z f)
structure KWB (e : Expr) (f : SB) : Prop where
  pw : PW Z.X e (tDB Z f)
structure KA (es : List Expr) (f : SA) : Prop where
  pa : PA Z.X es (tDA Z f)
structure KS (st : Stmt) (f : SS) : Prop where
  ps : PS Z.X st (tDS Z f)
structure KSs (st : List Stmt) (f : SS) : Prop where
  pss : PSs Z.X st (tDS Z f)
end
theorem _root_.L2.PE.weak {X : Cx} {e : Expr} {t t' : TE} (p : PE X e t) (k : ∀ σ H Q, t' σ H Q → t σ H Q) : PE X e t' := ⟨fun pins s σ H Q I q => p.run pins s σ H Q I (k σ H Q q)⟩
theorem _root_.L2.PT.weak {X : Cx} {e : Expr} {t t' : TT} (p : PT X e t) (k : ∀ σ H Q, t' σ H Q → t σ H Q) : PT X e t' := ⟨fun pins s σ H Q I q => p.run pins s σ H Q I (k σ H Q q)⟩
theorem _root_.L2.PW.weak {X : Cx} {e : Expr} {t t' : TT} (p : PW X e t) (k : ∀ σ H Q, t' σ H Q → t σ H Q) : PW X e t' := ⟨fun wh pins s σ H Q I q => p.run wh pins s σ H Q I (k σ H Q q)⟩
theorem _root_.L2.PA.weak {X : Cx} {e : List Expr} {t t' : TA} (p : PA X e t) (k : ∀ σ H Q, t' σ H Q → t σ H Q) : PA X e t' := ⟨fun pos pins s σ H Q I q => p.run pos pins s σ H Q I (k σ H Q q)⟩
theorem _root_.L2.PS.weak {X : Cx} {e : Stmt} {t t' : TS} (p : PS X e t) (k : ∀ D σ H, t' D σ H → t D σ H) : PS X e t' := ⟨fun pins s σ H D I q => p.run pins s σ H D I (k D σ H q)⟩
theorem _root_.L2.PSs.weak {X : Cx} {e : List Stmt} {t t' : TS} (p : PSs X e t) (k : ∀ D σ H, t' D σ H → t D σ H) : PSs X e t' := ⟨fun pins s σ H D I q => p.run pins s σ H D I (k D σ H q)⟩

section
variable {Z : Kx} {D : Ends} {σ : St} {ι ι' : Nat → Addr} {H H' : Hp} {h h' : Hd}
theorem RsPost.step {r : Rs} (S : Step ι h H ι' h' H') (p : RsPost Z D ι h H r) : RsPost Z D ι' h' H' r := by
  cases r with
  | ok fl h2 => exact fun ι2 H2 T R => p ι2 H2 (S.trans T) R
  | stuck => exact p
theorem RsPost.of {α : Type} {r : Res α} {env : En} {k : α → Hd → Rs} (R : HRep Z.X.K Z.cA ι H h) (V : VRep Z.X.K ι h.length H σ env) (p : RsPost Z D ι h H (r.lift env k)) : RPost Z.X.K Z.cA Z.W σ ι h H r fun a h1 ι1 H1 => RsPost Z D ι1 h1 H1 (k a h1) := by
  cases r with
  | ok a h1 => exact fun ι' H' S R' => p.step S
  | exc c fs h1 => exact fun ι' H' cls od S R' x => p ι' H' S R' σ cls od (V.step S R) x
  | stuck => exact p
theorem RsPost.fin {fl : Fl} (R : HRep Z.X.K Z.cA ι H h) (p : RsPost Z D ι h H (.ok fl h)) : FlP Z D fl h ι H := p ι H .refl R
end
section
variable {Z : Kx}
/-! ### names, constants -/
def sVar (i : Nat) : SE := fun env h => match env[i]? with | some (some d) => .ok d h | _ => .stuck
def sC (d : D) : SE := fun _ h => .ok d h
theorem ke_var {i : Nat} {x : Str} {pos : Pos} (hN : Z.X.N[i]? = some x) (hv : Vis Z.X.env.scope x) (hd : (x == ("__debug__" : Str)) = false := by decide) (hcd : (x == ("__classdict__" : Str)) = false := by decide) : KE Z (.Name x pos) (sVar i) :=
  ⟨(pe_var hN hv hd hcd).weak fun σ H Q ⟨ι, env, h, R, V, p⟩ => by
    unfold sVar at p
    cases e : env[i]? with
    | none => rw [e] at p; exact p.elim
    | some o =>
      cases o with
      | none => rw [e] at p; exact p.elim
      | some d =>
        rw [e] at p
        obtain ⟨v, e1, r⟩ := V.var i d e
        exact ⟨v, e1, RPost.ok R p v r⟩⟩
theorem ke_c {e : Expr} {v : V} {d : D} (p : PE Z.X e (tC v)) (r : ∀ ι n H, Rep Z.X.K ι n H v d) : KE Z e (sC d) :=
  ⟨p.weak fun σ H Q ⟨ι, env, h, R, V, p⟩ => RPost.ok R p v (r ι _ H)⟩
theorem ke_int {i j pos} : KE Z (.Constant (.int i) j pos) (sC (.int i)) := ke_c pe_int fun _ _ _ => .int
theorem ke_bl {b j pos} : KE Z (.Constant (.bool b) j pos) (sC (.bl b)) := ke_c pe_bl fun _ _ _ => .bl
theorem ke_non {j pos} : KE Z (.Constant .none j pos) (sC .non) := ke_c pe_non fun _ _ _ => .non
theorem ke_str {s : String} {j pos} : KE Z (.Constant (.str (Str.ofString s)) j pos) (sC (.str s)) := ke_c pe_str fun _ _ _ => .str

/-! ### argument lists -/
def sNil : SA := fun _ h => .ok [] h
def sCons (f : SE) (g : SA) : SA := fun env h => (f env h).bind fun d h1 => (g env h1).bind fun ds h2 => .ok (d :: ds) h2
theorem ka_nil : KA Z [] sNil := ⟨pa_nil.weak fun σ H Q ⟨ι, env, h, R, V, p⟩ => RPost.ok R p [] .nil⟩
theorem ka_cons {e : Expr} {es : List Expr} {f : SE} {g : SA} (he : KE Z e f) (hs : KA Z es g) (hq : starEach (e :: es) Z.X.env = (false, eval e Z.X.env) :: starEach es Z.X.env := by rfl) : KA Z (e :: es) (sCons f g) :=
  ⟨(pa_cons he.pe hs.pa hq).weak fun σ H Q ⟨ι, env, h, R, V, p⟩ => ⟨ι, env, h, R, V, (RPost.bind p).mono fun d h1 ι1 H1 S1 R1 p1 v r =>
    ⟨ι1, env, h1, R1, V.step S1 R, (RPost.bind p1).mono fun ds h2 ι2 H2 S2 R2 p2 vs rs => RPost.ok R2 p2 (v :: vs) (.cons (r.step S2 R1) rs)⟩⟩⟩

/-! ### operations on values -/
abbrev F2 := D → D → Hd → Res D
/-- a two-place operation of the hand layer does what F says -/
def OpK (Z : Kx) (f : Value → Value → Sem Value) (F : F2) : Prop := ∃ r : R2, OpR Z.X f r ∧ ∀ (σ : St) (ι : Nat → Addr) (h : Hd) (H : Hp) (x y : V) (dx dy : D) (Q : VK), HRep Z.X.K Z.cA ι H h → Rep Z.X.K ι h.length H x dx → Rep Z.X.K ι h.length H y dy →
  RPost Z.X.K Z.cA Z.W σ ι h H (F dx dy h) (fun d h' ι' H' => ∀ v, Rep Z.X.K ι' h'.length H' v d → Q v H') → r x y H Q
def s2 (F : F2) (f g : SE) : SE := fun env h => (f env h).bind fun x h1 => (g env h1).bind fun y h2 => F x y h2
theorem t2_of {F : F2} {f g : SE} {r : R2} (hr : ∀ (σ : St) (ι : Nat → Addr) (h : Hd) (H : Hp) (x y : V) (dx dy : D) (Q : VK), HRep Z.X.K Z.cA ι H h → Rep Z.X.K ι h.length H x dx → Rep Z.X.K ι h.length H y dy →
  RPost Z.X.K Z.cA Z.W σ ι h H (F dx dy h) (fun d h' ι' H' => ∀ v, Rep Z.X.K ι' h'.length H' v d → Q v H') → r x y H Q) (σ : St) (H : Hp) (Q : VK) (q : tD Z (s2 F f g) σ H Q) : tOp r (tD Z f) (tD Z g) σ H Q := by
  obtain ⟨ι, env, h, R, V, p⟩ := q
  exact ⟨ι, env, h, R, V, (RPost.bind p).mono fun d h1 ι1 H1 S1 R1 p1 v r =>
    ⟨ι1, env, h1, R1, V.step S1 R, (RPost.bind p1).mono fun e h2 ι2 H2 S2 R2 p2 w rw => hr σ ι2 h2 H2 v w d e Q R2 (r.step S2 R1) rw p2⟩⟩
theorem ke_op {op : Operator} {F : F2} {a b : Expr} {f g : SE} {pos : Pos} (ho : OpK Z (binaryOp op) F) (ha : KE Z a f) (hb : KE Z b g) : KE Z (.BinOp a op b pos) (s2 F f g) := by
  obtain ⟨r, hr, k⟩ := ho
  exact ⟨(pe_op hr ha.pe hb.pe).weak (t2_of k)⟩
theorem ke_cmp {op : CmpOp} {F : F2} {a b : Expr} {f g : SE} {pos : Pos} (ho : OpK Z (compareOp op) F) (ha : KE Z a f) (hb : KE Z b g) (hm : behindInMarks op b = false := by first | exact nomark _ | rfl) : KE Z (.Compare a [op] [b] pos) (s2 F f g) := by
  obtain ⟨r, hr, k⟩ := ho
  exact ⟨(pe_cmpR hr ha.pe hb.pe hm).weak (t2_of k)⟩
/-- several rules for one operation, by what the values are -/
theorem OpK.alt {f : Value → Value → Sem Value} {F G M : F2} (a : OpK Z f F) (b : OpK Z f G) (hm : ∀ x y h, M x y h = F x y h ∨ M x y h = G x y h) : OpK Z f M := by
  obtain ⟨r, hr, kr⟩ := a
  obtain ⟨q, hq, kq⟩ := b
  refine ⟨fun x y H Q => r x y H Q ∨ q x y H Q, fun pins s σ H x y v u Q I rx ry z => z.elim (hr pins s σ H x y v u Q I rx ry) (hq pins s σ H x y v u Q I rx ry), fun σ ι h H x y dx dy Q R rx ry p => ?_⟩
  rcases hm dx dy h with e | e
  · rw [e] at p; exact .inl (kr σ ι h H x y dx dy Q R rx ry p)
  · rw [e] at p; exact .inr (kq σ ι h H x y dx dy Q R rx ry p)
/-- an operation on two ints -/
def f2I (C : Int → Int → Bool) (g : Int → Int → D) : F2 := fun x y h => match x, y with
  | .int i, .int j => if C i j then .ok (g i j) h else .stuck
  | _, _ => .stuck
theorem OpK.ints {f : Value → Value → Sem Value} {C : Int → Int → Prop} {g : Int → Int → V} {C' : Int → Int → Bool} {g' : Int → Int → D} (o : OpR Z.X f (rI C g)) (hC : ∀ i j, C' i j = true → C i j) (hg : ∀ i j ι n H, Rep Z.X.K ι n H (g i j) (g' i j)) : OpK Z f (f2I C' g') :=
  ⟨_, o, fun σ ι h H x y dx dy Q R rx ry p => by
    cases rx <;> cases ry <;> first | exact p.elim | skip
    rename_i i j
    unfold f2I at p
    by_cases c : C' i j = true
    · simp only [c, if_true] at p
      exact ⟨i, j, rfl, rfl, hC i j c, RPost.ok R p _ (hg i j _ _ _)⟩
    · simp only [c] at p
      exact p.elim⟩
theorem rI_of0 {f : Value → Value → Sem Value} {g : Int → Int → V} (o : OpR Z.X f (rI0 g)) : OpR Z.X f (rI (fun _ _ => True) g) := fun pins s σ H x y v u Q I rx ry ⟨i, j, e1, e2, _, q⟩ => o pins s σ H x y v u Q I rx ry ⟨i, j, e1, e2, q⟩
abbrev yes2 : Int → Int → Bool := fun _ _ => true
theorem ko_add : OpK Z (binaryOp .Add) (f2I yes2 fun i j => .int (i + j)) := .ints (rI_of0 op_add) (fun _ _ _ => trivial) fun _ _ _ _ _ => .int
theorem ko_sub : OpK Z (binaryOp .Sub) (f2I yes2 fun i j => .int (i - j)) := .ints (rI_of0 op_sub) (fun _ _ _ => trivial) fun _ _ _ _ _ => .int
theorem ko_lt : OpK Z (compareOp .Lt) (f2I yes2 fun i j => .bl (decide (i < j))) := .ints (rI_of0 op_lt) (fun _ _ _ => trivial) fun _ _ _ _ _ => .bl
theorem ko_le : OpK Z (compareOp .LtE) (f2I yes2 fun i j => .bl (decide (i ≤ j))) := .ints (rI_of0 op_le) (fun _ _ _ => trivial) fun _ _ _ _ _ => .bl
theorem ko_gt : OpK Z (compareOp .Gt) (f2I yes2 fun i j => .bl (decide (j < i))) := .ints (rI_of0 op_gt) (fun _ _ _ => trivial) fun _ _ _ _ _ => .bl
theorem ko_ge : OpK Z (compareOp .GtE) (f2I yes2 fun i j => .bl (decide (j ≤ i))) := .ints (rI_of0 op_ge) (fun _ _ _ => trivial) fun _ _ _ _ _ => .bl
theorem ko_mod : OpK Z (binaryOp .Mod) (f2I (fun _ j => decide (0 < j)) fun i j => .int (i % j)) := .ints op_mod (fun _ _ c => of_decide_eq_true c) fun _ _ _ _ _ => .int
end
end Kf
end
section
set_option maxHeartbeats 4000000
/-! Kf: statements, tests, displays, loops. -/
namespace Kf
open PySem PySem.Spec L2
section
variable {K : PySem.W.Frag} {cA : CA} {ι : Nat → Addr} {n : Nat} {H : Hp} {h : Hd}
theorem HRep.off (R : HRep K cA ι H h) {p : Addr} (hp : H p = none) {m : Nat} (hm : m < h.length) : ι m ≠ p := fun z => by
  obtain ⟨o, ho, _, e, _⟩ := R.lt_obj hm
  rw [z, hp] at e; cases e
/-- something new that the heap does not speak of -/
theorem Step.aside (R : HRep K cA ι H h) {p : Addr} (hp : H p = none) (o : HO) : Step ι h H ι h (upd H p o) where
  eq := fun _ _ => rfl
  len := Nat.le_refl _
  keep := fun a u e _ => by rw [upd_ne (ne_of_none e hp)]; exact e
  fresh := fun m a b => absurd (Nat.lt_of_lt_of_le b a) (Nat.lt_irrefl _)
  there := fun a u e => ⟨u, by rw [upd_ne (ne_of_none e hp)]; exact e⟩
  frz := fun a u w e => by rw [upd_ne (ne_of_none e hp)]; exact e
/-- a later H under the same heap -/
theorem HRep.same {ι' : Nat → Addr} {H' : Hp} (R : HRep K cA ι H h) (S : Step ι h H ι' h H') (k : ∀ m, m < h.length → H' (ι m) = H (ι m)) : HRep K cA ι' H' h where
  obj := fun m o e => by
    have hm : m < h.length := by
      cases Nat.lt_or_ge m h.length with
      | inl q => exact q
      | inr q => rw [List.getElem?_eq_none q] at e; cases e
    obtain ⟨ho, e2, r⟩ := R.obj m o e
    refine ⟨ho, ?_, r.keep (S.tkeep R) (Nat.le_refl _) S.eq⟩
    rw [S.eq m hm, k m hm]; exact e2
  inj := fun m k' hm hk e => R.inj m k' hm hk (by rw [← S.eq m hm, ← S.eq k' hk]; exact e)
theorem HRep.aside (R : HRep K cA ι H h) {p : Addr} (hp : H p = none) (o : HO) : HRep K cA ι (upd H p o) h := R.same (Step.aside R hp o) fun m hm => upd_ne (R.off hp hm)
/-- ι with one more address -/
def more (ι : Nat → Addr) (n : Nat) (p : Addr) : Nat → Addr := fun m => if m = n then p else ι m
theorem more_lt {ι : Nat → Addr} {n m : Nat} {p : Addr} (hm : m < n) : more ι n p m = ι m := if_neg (Nat.ne_of_lt hm)
theorem more_at {ι : Nat → Addr} {n : Nat} {p : Addr} : more ι n p n = p := if_pos rfl
theorem Step.alloc (R : HRep K cA ι H h) {p : Addr} (hp : H p = none) (ho : HO) (o : O) : Step ι h H (more ι h.length p) (h ++ [o]) (upd H p ho) where
  eq := fun m hm => more_lt hm
  len := by simp
  keep := fun a u e _ => by rw [upd_ne (ne_of_none e hp)]; exact e
  fresh := fun m a b => by
    have : m = h.length := by simp at b; omega
    subst this
    rw [more_at]; exact hp
  there := fun a u e => ⟨u, by rw [upd_ne (ne_of_none e hp)]; exact e⟩
  frz := fun a u w e => by rw [upd_ne (ne_of_none e hp)]; exact e
theorem lt_of_get {α : Type} {l : List α} {m : Nat} {o : α} (e : l[m]? = some o) : m < l.length := by
  cases Nat.lt_or_ge m l.length with
  | inl q => exact q
  | inr q => rw [List.getElem?_eq_none q] at e; cases e
theorem HRep.alloc (R : HRep K cA ι H h) {p : Addr} (hp : H p = none) {ho : HO} {o : O} (r : ORep K cA ι h.length H ho o) : HRep K cA (more ι h.length p) (upd H p ho) (h ++ [o]) := by
  have S := Step.alloc R hp ho o
  refine ⟨fun m o' e => ?_, fun m k hm hk e => ?_⟩
  · have hm := lt_of_get e
    by_cases hlt : m < h.length
    · rw [List.getElem?_append_left hlt] at e
      obtain ⟨ho', e2, r'⟩ := R.obj m o' e
      refine ⟨ho', ?_, r'.keep (S.tkeep R) (by simp) S.eq⟩
      rw [more_lt hlt, upd_ne (R.off hp hlt)]; exact e2
    · have hm' : m = h.length := by simp at hm; omega
      subst hm'
      rw [List.getElem?_append_right (Nat.le_refl _), Nat.sub_self] at e
      cases e
      refine ⟨ho, ?_, r.keep (S.tkeep R) (by simp) S.eq⟩
      rw [more_at, upd_same]
  · have hm1 : m ≤ h.length := by simp at hm; omega
    have hk1 : k ≤ h.length := by simp at hk; omega
    rcases Nat.lt_or_eq_of_le hm1 with a | a <;> rcases Nat.lt_or_eq_of_le hk1 with b | b
    · rw [more_lt a, more_lt b] at e; exact R.inj m k a b e
    · subst b; rw [more_lt a, more_at] at e; exact absurd e (R.off hp a)
    · subst a; rw [more_lt b, more_at] at e; exact absurd e.symm (R.off hp b)
    · rw [a, b]
theorem Step.set (R : HRep K cA ι H h) {m : Nat} (hm : m < h.length) (hf : ∀ x u, H (ι m) ≠ some (.frz x u)) (ho : HO) (o : O) : Step ι h H ι (h.set m o) (upd H (ι m) ho) where
  eq := fun _ _ => rfl
  len := by simp
  keep := fun a u e k => by rw [upd_ne (k m hm)]; exact e
  fresh := fun k a b => by simp at b; exact absurd (Nat.lt_of_lt_of_le b a) (Nat.lt_irrefl _)
  there := fun a u e => by
    by_cases q : a = ι m
    · subst q; exact ⟨ho, upd_same⟩
    · exact ⟨u, by rw [upd_ne q]; exact e⟩
  frz := fun a x u e => by
    by_cases q : a = ι m
    · subst q; exact absurd e (hf x u)
    · rw [upd_ne q]; exact e
theorem HRep.set (R : HRep K cA ι H h) {m : Nat} (hm : m < h.length) (hf : ∀ x u, H (ι m) ≠ some (.frz x u)) {ho : HO} {o : O} (r : ORep K cA ι h.length H ho o) : HRep K cA ι (upd H (ι m) ho) (h.set m o) := by
  have S := Step.set R hm hf ho o
  refine ⟨fun k o' e => ?_, fun a b ha hb e => R.inj a b (by simpa using ha) (by simpa using hb) e⟩
  have hk := lt_of_get e
  by_cases q : k = m
  · subst q
    rw [List.getElem?_set_self hm] at e
    cases e
    exact ⟨ho, upd_same, r.keep (S.tkeep R) (by simp) S.eq⟩
  · rw [List.getElem?_set_ne (Ne.symm q)] at e
    obtain ⟨ho', e2, r'⟩ := R.obj k o' e
    have hk' : k < h.length := by simpa using hk
    exact ⟨ho', by rw [upd_ne fun z => q (R.inj k m hk' hm z)]; exact e2, r'.keep (S.tkeep R) (by simp) S.eq⟩
theorem VRep.set {σ : St} {env : En} {i : Nat} {v : V} {d : D} (V : VRep K ι n H σ env) (r : Rep K ι n H v d) : VRep K ι n H (σ.set i (some v)) (env.set i (some d)) := by
  refine ⟨by simp [V.len], fun j e he => ?_⟩
  by_cases q : j = i
  · subst q
    have hj : j < env.length := by have := lt_of_get he; simpa using this
    rw [List.getElem?_set_self hj] at he
    cases he
    exact ⟨v, by rw [List.getElem?_set_self (by rw [V.len]; exact hj)], r⟩
  · rw [List.getElem?_set_ne (Ne.symm q)] at he ⊢
    exact V.var j e he
theorem Reps.len {vs : List V} {ds : List D} (r : Reps K ι n H vs ds) : vs.length = ds.length := by
  induction ds generalizing vs with
  | nil => cases r; rfl
  | cons d ds ih => cases r with | cons _ q => simp [ih q]
theorem Reps.get : ∀ {vs : List V} {ds : List D} {i : Nat} {d : D}, Reps K ι n H vs ds → ds[i]? = some d → ∃ v, vs[i]? = some v ∧ Rep K ι n H v d
  | _, _, 0, _, .cons r _, e => by simp at e; subst e; exact ⟨_, by simp, r⟩
  | _, _, i + 1, _, .cons _ q, e => by
    obtain ⟨v, e1, r⟩ := Reps.get (i := i) q (by simpa using e)
    exact ⟨v, by simpa using e1, r⟩
  | _, _, 0, _, .nil, e => by simp at e
  | _, _, _ + 1, _, .nil, e => by simp at e
theorem Reps.get' : ∀ {vs : List V} {ds : List D} {i : Nat} {v : V}, Reps K ι n H vs ds → vs[i]? = some v → ∃ d, ds[i]? = some d ∧ Rep K ι n H v d
  | _, _, 0, _, .cons r _, e => by simp at e; subst e; exact ⟨_, by simp, r⟩
  | _, _, i + 1, _, .cons _ q, e => by
    obtain ⟨v, e1, r⟩ := Reps.get' (i := i) q (by simpa using e)
    exact ⟨v, by simpa using e1, r⟩
  | _, _, 0, _, .nil, e => by simp at e
  | _, _, _ + 1, _, .nil, e => by simp at e
theorem Reps.append : ∀ {vs ws : List V} {ds es : List D}, Reps K ι n H vs ds → Reps K ι n H ws es → Reps K ι n H (vs ++ ws) (ds ++ es)
  | _, _, _, _, .nil, q => q
  | _, _, _, _, .cons r p, q => .cons r (Reps.append p q)
end

section
variable {Z : Kx}
/-! ### displays -/
abbrev LIM : Nat := 16777216
theorem lim_le {n : Nat} (h : n ≤ LIM) : n ≤ sizeLine := by rw [sizeLine_eq]; exact h
def sTup (f : SA) : SE := fun env h => (f env h).bind fun ds h1 => if ds.length ≤ LIM then .ok (.tup ds) h1 else .stuck
theorem ke_tup {es : List Expr} {f : SA} {k : Nat} {pos : Pos} (ha : KA Z es f) : KE Z (.Tuple es k pos) (sTup f) :=
  ⟨(pe_tup ha.pa).weak fun σ H Q ⟨ι, env, h, R, V, p⟩ => ⟨ι, env, h, R, V, (RPost.bind p).mono fun ds h1 ι1 H1 S1 R1 p1 vs rs => by
    by_cases c : ds.length ≤ LIM
    · rw [if_pos c] at p1
      refine ⟨lim_le (by rw [rs.len]; exact c), fun a ha => ?_⟩
      have S2 := Step.aside R1 ha (.tup vs)
      exact p1 ι1 _ S2 (R1.aside ha _) _ (.tup (.of upd_same) (rs.step S2 R1))
    · rw [if_neg c] at p1; exact p1.elim⟩⟩
/-- a new list, not yet one of ours -/
structure KL (Z : Kx) (e : Expr) (f : SA) : Prop where
  pe : PE Z.X e fun σ H Q => ∃ ι env h, HRep Z.X.K Z.cA ι H h ∧ VRep Z.X.K ι h.length H σ env ∧
    RPost Z.X.K Z.cA Z.W σ ι h H (f env h) fun ds h' ι' H' => ∀ p vs, H p = none → H' p = some (.lst vs) → (∀ m, m < h'.length → p ≠ ι' m) → Reps Z.X.K ι' h'.length H' vs ds → Q (.ref p) H'
def sLst (f : SA) : SA := fun env h => (f env h).bind fun ds h1 => if ds.length ≤ LIM then .ok ds h1 else .stuck
theorem kl_lst {es : List Expr} {f : SA} {pos : Pos} (ha : KA Z es f) : KL Z (.List es pos) (sLst f) :=
  ⟨(pe_lst ha.pa).weak fun σ H Q ⟨ι, env, h, R, V, p⟩ => ⟨ι, env, h, R, V, (RPost.bind p).mono fun ds h1 ι1 H1 S1 R1 p1 vs rs => by
    by_cases c : ds.length ≤ LIM
    · rw [if_pos c] at p1
      refine ⟨lim_le (by rw [rs.len]; exact c), fun a ha => ?_⟩
      have S2 := Step.aside R1 ha (.lst vs)
      have hH : H a = none := by
        cases e : H a with
        | none => rfl
        | some o => obtain ⟨o', e'⟩ := S1.there a o e; rw [ha] at e'; cases e'
      exact p1 ι1 _ S2 (R1.aside ha _) a vs hH upd_same (fun m hm z => R1.off ha hm z.symm) (rs.step S2 R1)
    · rw [if_neg c] at p1; exact p1.elim⟩⟩
def sNew (f : SA) : SE := fun env h => (f env h).bind fun ds h1 => .ok (.ref h1.length) (h1 ++ [.lst ds])
/-- what was aside is ours from now on -/
theorem Step.take {ι ι' : Nat → Addr} {H H' : Hp} {h h' : Hd} (S : Step ι h H ι' h' H') {p : Addr} (hp : H p = none) (o : O) : Step ι h H (more ι' h'.length p) (h' ++ [o]) H' where
  eq := fun m hm => by rw [more_lt (Nat.lt_of_lt_of_le hm S.len)]; exact S.eq m hm
  len := by have := S.len; simp; omega
  keep := S.keep
  fresh := fun m a b => by
    by_cases q : m < h'.length
    · rw [more_lt q]; exact S.fresh m a q
    · have : m = h'.length := by simp at b; omega
      subst this
      rw [more_at]; exact hp
  there := S.there
  frz := S.frz
theorem HRep.take {K : PySem.W.Frag} {cA : CA} {ι : Nat → Addr} {H : Hp} {h : Hd} (R : HRep K cA ι H h) {p : Addr} {ho : HO} {o : O} (e : H p = some ho) (hn : ∀ m, m < h.length → p ≠ ι m) (r : ORep K cA ι h.length H ho o) : HRep K cA (more ι h.length p) H (h ++ [o]) := by
  have t : TKeep K H H := ⟨fun _ _ q => q, fun _ _ q => q, fun _ _ q => q⟩
  refine ⟨fun m o' e' => ?_, fun m k hm hk e' => ?_⟩
  · have hm := lt_of_get e'
    by_cases hlt : m < h.length
    · rw [List.getElem?_append_left hlt] at e'
      obtain ⟨ho', e2, r'⟩ := R.obj m o' e'
      exact ⟨ho', by rw [more_lt hlt]; exact e2, r'.keep t (by simp) fun m hm => more_lt hm⟩
    · have hm' : m = h.length := by simp at hm; omega
      subst hm'
      rw [List.getElem?_append_right (Nat.le_refl _), Nat.sub_self] at e'
      cases e'
      exact ⟨ho, by rw [more_at]; exact e, r.keep t (by simp) fun m hm => more_lt hm⟩
  · have hm1 : m ≤ h.length := by simp at hm; omega
    have hk1 : k ≤ h.length := by simp at hk; omega
    rcases Nat.lt_or_eq_of_le hm1 with a | a <;> rcases Nat.lt_or_eq_of_le hk1 with b | b
    · rw [more_lt a, more_lt b] at e'; exact R.inj m k a b e'
    · subst b; rw [more_lt a, more_at] at e'; exact absurd e'.symm (hn m a)
    · subst a; rw [more_lt b, more_at] at e'; exact absurd e' (hn k b)
    · rw [a, b]
theorem RPost.bind0 {K : PySem.W.Frag} {cA : CA} {W : WX} {σ : St} {ι : Nat → Addr} {H : Hp} {h : Hd} {α β : Type} {r : Res α} {f : α → Hd → Res β} {P : β → Hd → (Nat → Addr) → Hp → Prop} (p : RPost K cA W σ ι h H (r.bind f) P) :
    RPost K cA W σ ι h H r fun a h' _ _ => RPost K cA W σ ι h H (f a h') P := by
  cases r with
  | ok a h' => exact fun ι' H' S R => p
  | exc c fs h' => exact p
  | stuck => exact p
theorem ke_new {e : Expr} {f : SA} (hl : KL Z e f) : KE Z e (sNew f) :=
  ⟨hl.pe.weak fun σ H Q ⟨ι, env, h, R, V, p⟩ => ⟨ι, env, h, R, V, (RPost.bind0 p).mono fun ds h1 ι1 H1 S1 R1 p1 a vs hH ea hn rs =>
    p1 _ H1 (S1.take hH _) (R1.take ea hn (.lst rs)) _ (by
      have e : Rep Z.X.K (more ι1 h1.length a) (h1 ++ [O.lst ds]).length H1 (.ref (more ι1 h1.length a h1.length)) (.ref h1.length) := .ref (by simp)
      rw [more_at] at e; exact e)⟩⟩

/-! ### tests -/
def sTest (f : SE) : SB := fun env h => (f env h).bind fun d h1 => match d with | .bl b => .ok b h1 | _ => .stuck
theorem kb_val {e : Expr} {f : SE} (p : KE Z e f) (he : ∀ whole, isTrue e Z.X.env whole = (do let v ← whole; standAt e.pos; holding [v] (truthy v)) := by intro _; rfl) : KB Z e (sTest f) :=
  ⟨(pt_val p.pe he).weak fun σ H Q ⟨ι, env, h, R, V, p⟩ => ⟨ι, env, h, R, V, (RPost.bind p).mono fun d h1 ι1 H1 S1 R1 p1 v r => by
    cases r with
    | bl => exact ⟨_, rfl, RPost.ok R1 p1⟩
    | non => exact p1.elim
    | int => exact p1.elim
    | str => exact p1.elim
    | fls _ _ => exact p1.elim
    | tup _ _ => exact p1.elim
    | xc0 => exact p1.elim
    | xc _ _ => exact p1.elim
    | ref _ => exact p1.elim⟩⟩
def sAnd (f g : SB) : SB := fun env h => (f env h).bind fun b h1 => if b = true then g env h1 else .ok false h1
def sOr (f g : SB) : SB := fun env h => (f env h).bind fun b h1 => if b = true then .ok true h1 else g env h1
def sNot (f : SB) : SB := fun env h => (f env h).bind fun b h1 => .ok (!b) h1
section
variable {a b c : Expr} {rest : List Expr} {f g k : SB} {pos : Pos}
theorem kw_and1 (ha : KB Z a f) : KWB Z (.BoolOp .And [a] pos) f := ⟨pw_and1 ha.pt⟩
theorem kw_or1 (ha : KB Z a f) : KWB Z (.BoolOp .Or [a] pos) f := ⟨pw_or1 ha.pt⟩
theorem kw_and (ha : KB Z a f) (hb : KWB Z (.BoolOp .And (b :: rest) pos) g) : KWB Z (.BoolOp .And (a :: b :: rest) pos) (sAnd f g) :=
  ⟨(pw_and ha.pt hb.pw).weak fun σ H Q ⟨ι, env, h, R, V, p⟩ => ⟨ι, env, h, R, V, (RPost.bind p).mono fun d h1 ι1 H1 S1 R1 p1 => by
    cases d with
    | true => rw [if_pos rfl] at p1 ⊢; exact ⟨ι1, env, h1, R1, V.step S1 R, p1⟩
    | false => rw [if_neg Bool.false_ne_true] at p1 ⊢; exact RPost.ok R1 p1⟩⟩
theorem kw_or (ha : KB Z a f) (hb : KWB Z (.BoolOp .Or (b :: rest) pos) g) : KWB Z (.BoolOp .Or (a :: b :: rest) pos) (sOr f g) :=
  ⟨(pw_or ha.pt hb.pw).weak fun σ H Q ⟨ι, env, h, R, V, p⟩ => ⟨ι, env, h, R, V, (RPost.bind p).mono fun d h1 ι1 H1 S1 R1 p1 => by
    cases d with
    | false => rw [if_neg Bool.false_ne_true] at p1 ⊢; exact ⟨ι1, env, h1, R1, V.step S1 R, p1⟩
    | true => rw [if_pos rfl] at p1 ⊢; exact RPost.ok R1 p1⟩⟩
theorem kb_w (h : KWB Z a f) : KB Z a f := ⟨h.pw.pt⟩
theorem kb_not (ha : KB Z a f) : KB Z (.UnaryOp .Not a pos) (sNot f) :=
  ⟨(pt_not ha.pt).weak fun σ H Q ⟨ι, env, h, R, V, p⟩ => ⟨ι, env, h, R, V, (RPost.bind p).mono fun d h1 ι1 H1 S1 R1 p1 => RPost.ok R1 p1⟩⟩
def sIfE (c : SB) (f g : SE) : SE := fun env h => (c env h).bind fun b h1 => if b = true then f env h1 else g env h1
theorem ke_ife {f g : SE} (hc : KB Z c k) (ha : KE Z a f) (hb : KE Z b g) : KE Z (.IfExp c a b pos) (sIfE k f g) :=
  ⟨(pe_ifExp hc.pt ha.pe hb.pe).weak fun σ H Q ⟨ι, env, h, R, V, p⟩ => ⟨ι, env, h, R, V, (RPost.bind p).mono fun d h1 ι1 H1 S1 R1 p1 => by
    cases d with
    | true => rw [if_pos rfl] at p1 ⊢; exact ⟨ι1, env, h1, R1, V.step S1 R, p1⟩
    | false => rw [if_neg Bool.false_ne_true] at p1 ⊢; exact ⟨ι1, env, h1, R1, V.step S1 R, p1⟩⟩⟩
end

/-! ### statements -/
def sNext : SS := fun env h => .ok (.nx env) h
def sSeq (f g : SS) : SS := fun env h => match f env h with
  | .ok (.nx env1) h1 => g env1 h1
  | r => r
def sRet (f : SE) : SS := fun env h => (f env h).lift env fun d h1 => .ok (.ret d) h1
def sRetN : SS := fun _ h => .ok (.ret .non) h
def sBrk : SS := fun env h => .ok (.brk env) h
def sCt : SS := fun env h => .ok (.ct env) h
def sDrop (f : SE) : SS := fun env h => (f env h).lift env fun _ h1 => .ok (.nx env) h1
def sIf (c : SB) (f g : SS) : SS := fun env h => (c env h).lift env fun b h1 => if b = true then f env h1 else g env h1
section
variable {e c : Expr} {st : Stmt} {as bs rest : List Stmt} {f g : SS} {fe : SE} {k : SB} {pos : Pos}
theorem kss_nil : KSs Z [] sNext := ⟨pss_nil.weak fun D σ H ⟨ι, env, h, R, V, p⟩ => RsPost.fin R p σ V⟩
theorem kss_cons (h1 : KS Z st f) (h2 : KSs Z rest g) : KSs Z (st :: rest) (sSeq f g) :=
  ⟨(pss_cons h1.ps h2.pss).weak fun D σ H ⟨ι, env, h, R, V, p⟩ => by
    refine ⟨ι, env, h, R, V, ?_⟩
    unfold sSeq at p
    cases e : f env h with
    | stuck => rw [e] at p; exact p.elim
    | ok fl h' =>
      rw [e] at p
      cases fl with
      | nx env1 => exact fun ι' H' S R' σ' V' => ⟨ι', env1, h', R', V', p.step S⟩
      | ret d => exact p
      | brk env1 => exact p
      | ct env1 => exact p
      | exc c fs env1 => exact p⟩
theorem kss_one (h1 : KS Z st f) : KSs Z [st] f := ⟨pss_one h1.ps⟩
theorem ks_pass : KS Z (.Pass pos) sNext := ⟨ps_pass.weak fun D σ H ⟨ι, env, h, R, V, p⟩ => RsPost.fin R p σ V⟩
theorem ks_brk : KS Z (.Break pos) sBrk := ⟨ps_break.weak fun D σ H ⟨ι, env, h, R, V, p⟩ => RsPost.fin R p σ V⟩
theorem ks_ct : KS Z (.Continue pos) sCt := ⟨ps_continue.weak fun D σ H ⟨ι, env, h, R, V, p⟩ => RsPost.fin R p σ V⟩
theorem ks_expr (he : KE Z e fe) (hs : swapsWith e none pos.line Z.X.env = pure false := by rfl) : KS Z (.Expr e pos) (sDrop fe) :=
  ⟨(ps_expr he.pe hs).weak fun D σ H ⟨ι, env, h, R, V, p⟩ => ⟨ι, env, h, R, V, (RsPost.of R V p).mono fun d h1 ι1 H1 S1 R1 p1 v r => RsPost.fin R1 p1 σ (V.step S1 R)⟩⟩
theorem ks_ret (he : KE Z e fe) : KS Z (.Return (some e) pos) (sRet fe) :=
  ⟨(ps_ret he.pe).weak fun D σ H ⟨ι, env, h, R, V, p⟩ => ⟨ι, env, h, R, V, (RsPost.of R V p).mono fun d h1 ι1 H1 S1 R1 p1 v r => RsPost.fin R1 p1 v r⟩⟩
theorem ks_retN : KS Z (.Return none pos) sRetN := ⟨ps_retN.weak fun D σ H ⟨ι, env, h, R, V, p⟩ => RsPost.fin R p .non .non⟩
theorem ks_if (hc : KB Z c k) (ha : KSs Z as f) (hb : KSs Z bs g) : KS Z (.If c as bs pos) (sIf k f g) :=
  ⟨(ps_if hc.pt ha.pss hb.pss).weak fun D σ H ⟨ι, env, h, R, V, p⟩ => ⟨ι, env, h, R, V, (RsPost.of R V p).mono fun b h1 ι1 H1 S1 R1 p1 => by
    cases b with
    | true => rw [if_pos rfl] at p1 ⊢; exact ⟨ι1, env, h1, R1, V.step S1 R, p1⟩
    | false => rw [if_neg Bool.false_ne_true] at p1 ⊢; exact ⟨ι1, env, h1, R1, V.step S1 R, p1⟩⟩⟩
end

/-! ### targets -/
abbrev SG := D → En → Hd → Res En
abbrev SGs := List D → En → Hd → Res En
/-- an exception in a target's parts is not spoken of -/
structure KG (Z : Kx) (t : Expr) (g : SG) : Prop where
  pg : PG Z.X t fun v σ H Q => ∃ ι env h d, HRep Z.X.K Z.cA ι H h ∧ VRep Z.X.K ι h.length H σ env ∧ Rep Z.X.K ι h.length H v d ∧
    RPost Z.X.K Z.cA Z.W σ ι h H (g d env h) fun env' h' ι' H' => ∀ σ', VRep Z.X.K ι' h'.length H' σ' env' → Q σ' H'
structure KGs (Z : Kx) (ts : List Expr) (g : SGs) : Prop where
  pgs : PGs Z.X ts fun vs σ H Q => ∃ ι env h ds, HRep Z.X.K Z.cA ι H h ∧ VRep Z.X.K ι h.length H σ env ∧ Reps Z.X.K ι h.length H vs ds ∧
    RPost Z.X.K Z.cA Z.W σ ι h H (g ds env h) fun env' h' ι' H' => ∀ σ', VRep Z.X.K ι' h'.length H' σ' env' → Q σ' H'
theorem _root_.L2.PG.weak {X : Cx} {e : Expr} {t t' : TG} (p : PG X e t) (k : ∀ v σ H Q, t' v σ H Q → t v σ H Q) : PG X e t' := ⟨fun pins s σ H v u Q I r q => p.run pins s σ H v u Q I r (k v σ H Q q)⟩
theorem _root_.L2.PGs.weak {X : Cx} {e : List Expr} {t t' : TGs} (p : PGs X e t) (k : ∀ v σ H Q, t' v σ H Q → t v σ H Q) : PGs X e t' := ⟨fun pins s σ H v u Q I r q => p.run pins s σ H v u Q I r (k v σ H Q q)⟩
def gN (i : Nat) : SG := fun d env h => .ok (env.set i (some d)) h
theorem kg_name {i : Nat} {x : Str} {pos : Pos} (hN : Z.X.N.Nodup) (hi : Z.X.N[i]? = some x) (hx : Loc Z.X.env.scope x) (hf : Z.X.fn x = true ∨ Z.X.env.scope.names.lookup x = some .local := by first | exact .inl rfl | exact .inr rfl | assumption) : KG Z (.Name x pos) (gN i) :=
  ⟨(pg_name hN hi hx hf).weak fun v σ H Q ⟨ι, env, h, d, R, V, r, p⟩ => RPost.ok R p _ (V.set r)⟩
def gNil' : SGs := fun ds env h => match ds with | [] => .ok env h | _ => .stuck
/-- σ of the parts is that of the whole: exceptions of the parts carry their own slots; a target with no exception only -/
def noX {α : Type} (r : Res α) : Res α := match r with | .exc _ _ _ => .stuck | r => r
def gCons' (g : SG) (k : SGs) : SGs := fun ds env h => match ds with
  | [] => .stuck
  | d :: ds => (noX (g d env h)).bind fun env1 h1 => noX (k ds env1 h1)
theorem RPost.noX {α : Type} {K : PySem.W.Frag} {cA : CA} {W : WX} {σ σ' : St} {ι : Nat → Addr} {H : Hp} {h : Hd} {r : Res α} {P : α → Hd → (Nat → Addr) → Hp → Prop} (p : RPost K cA W σ ι h H (noX r) P) : RPost K cA W σ' ι h H r P := by
  cases r with
  | ok a h' => exact p
  | exc c fs h' => exact p.elim
  | stuck => exact p
theorem RPost.noX' {α : Type} {K : PySem.W.Frag} {cA : CA} {W : WX} {σ σ' : St} {ι : Nat → Addr} {H : Hp} {h : Hd} {r : Res α} {P : α → Hd → (Nat → Addr) → Hp → Prop} (p : RPost K cA W σ ι h H (Kf.noX r) P) : RPost K cA W σ' ι h H (Kf.noX r) P := by
  cases r with
  | ok a h' => exact p
  | exc c fs h' => exact p.elim
  | stuck => exact p
theorem kgs_nil : KGs Z [] gNil' := ⟨pgs_nil.weak fun vs σ H Q ⟨ι, env, h, ds, R, V, r, p⟩ => by
  cases r with
  | nil => exact ⟨rfl, RPost.ok R p σ V⟩
  | cons _ _ => exact p.elim⟩
theorem kgs_cons {e : Expr} {es : List Expr} {g : SG} {k : SGs} (h1 : KG Z e g) (h2 : KGs Z es k)
    (hs : (assignEach (e :: es) Z.X.env).map (·.2) = assign e Z.X.env :: (assignEach es Z.X.env).map (·.2) := by rfl) : KGs Z (e :: es) (gCons' g k) := ⟨(pgs_cons h1.pg h2.pgs hs).weak fun vs σ H Q ⟨ι, env, h, ds, R, V, r, p⟩ => by
  cases r with
  | nil => exact p.elim
  | cons r rs =>
    exact ⟨_, _, rfl, ι, env, h, _, R, V, r, RPost.noX ((RPost.bind p).mono fun env1 h1 ι1 H1 S1 R1 p1 σ1 V1 => ⟨ι1, env1, h1, _, R1, V1, rs.step S1 R, RPost.noX p1⟩)⟩⟩
def gTp (n : Nat) (k : SGs) : SG := fun d env h => match d with
  | .tup ds => if ds.length = n then k ds env h else .stuck
  | _ => .stuck
theorem kg_tup {es : List Expr} {j : Nat} {k : SGs} {n : Nat} {pos : Pos} (hc : Z.X.calm = true) (hk : KGs Z es k)
    (hn : (assignEach es Z.X.env).length = n := by rfl) (hst : (assignEach es Z.X.env).findIdx? (·.1) = none := by rfl) : KG Z (.Tuple es j pos) (gTp n k) := ⟨(pg_tup hc hk.pgs hn hst).weak fun v σ H Q ⟨ι, env, h, d, R, V, r, p⟩ => by
  cases r with
  | @tup a xs ds q rs =>
    have p : RPost Z.X.K Z.cA Z.W σ ι h H (if ds.length = n then k ds env h else .stuck) _ := p
    by_cases c : ds.length = n
    · rw [if_pos c] at p
      exact ⟨_, _, rfl, q, by rw [rs.len]; exact c, ι, env, h, ds, R, V, rs, p⟩
    · rw [if_neg c] at p
      exact p.elim
  | non => exact p.elim
  | bl => exact p.elim
  | int => exact p.elim
  | str => exact p.elim
  | fls _ _ => exact p.elim
  | xc0 => exact p.elim
  | xc _ _ => exact p.elim
  | ref _ => exact p.elim⟩
def sAsg (f : SE) (g : SG) : SS := fun env h => (f env h).lift env fun d h1 => (noX (g d env h1)).lift env fun env' h2 => .ok (.nx env') h2
theorem ks_asg {tg e : Expr} {f : SE} {g : SG} {pos : Pos} (he : KE Z e f) (hg : KG Z tg g) (hs : swapsWithSole [tg] e pos.line Z.X.env = pure false := by rfl) (hw : swappedStores [tg] e Z.X.env = pure none := by rfl)
    (h1 : (assignEach [tg] Z.X.env).map (·.2) = [assign tg Z.X.env] := by rfl) : KS Z (.Assign [tg] e pos) (sAsg f g) :=
  ⟨(ps_asg he.pe hg.pg hs hw h1).weak fun D σ H ⟨ι, env, h, R, V, p⟩ => ⟨ι, env, h, R, V, (RsPost.of R V p).mono fun d h1 ι1 H1 S1 R1 p1 v r =>
    ⟨ι1, env, h1, d, R1, V.step S1 R, r, RPost.noX ((RsPost.of R1 (V.step S1 R) p1).mono fun env' h2 ι2 H2 S2 R2 p2 σ' V' => RsPost.fin R2 p2 σ' V')⟩⟩⟩
end
end Kf
end
section
set_option maxHeartbeats 4000000
/-! Kf: loops. -/
namespace Kf
open PySem PySem.Spec L2
section
variable {Z : Kx}
/-- the items of a tuple or of a list of ours -/
def itemsD (h : Hd) : D → Option (List D)
  | .tup ds => some ds
  | .fls ds => some ds
  | .ref m => match h[m]? with | some (.lst ds) => some ds | _ => none
  | _ => none
inductive ItD where
  | snap (ds : List D) | live (m : Nat) | zp (x y : D)
abbrev SI := En → Hd → Res ItD
/-- the item at place i; none: the end -/
def nextD (it : ItD) (h : Hd) (i : Nat) : Option (Option D) := match it with
  | .snap ds => some ds[i]?
  | .live m => match h[m]? with
    | some (.lst ds) => some ds[i]?
    | _ => none
  | .zp x y => match itemsD h x, itemsD h y with
    | some xs, some ys => some (match xs[i]?, ys[i]? with | some u, some v => some (.tup [u, v]) | _, _ => none)
    | _, _ => none
/-- the iterator J hands out it, whatever is done meanwhile -/
def ItOk (Z : Kx) (J : It) (it : ItD) (ι : Nat → Addr) (h : Hd) (H : Hp) : Prop := ∀ ι2 h2 H2, Step ι h H ι2 h2 H2 → HRep Z.X.K Z.cA ι2 H2 h2 → ∀ i,
  (∀ d, nextD it h2 i = some (some d) → J.go i H2 ∧ ∀ x H3, J.yld i H2 x H3 → Step ι2 h2 H2 ι2 h2 H3 ∧ HRep Z.X.K Z.cA ι2 H3 h2 ∧ Rep Z.X.K ι2 h2.length H3 x d) ∧ (nextD it h2 i = some none → J.stop i H2)
structure KI (Z : Kx) (tg e : Expr) (f : SI) : Prop where
  pi : PI Z.X tg e fun σ H R => ∃ ι env h, HRep Z.X.K Z.cA ι H h ∧ VRep Z.X.K ι h.length H σ env ∧
    RPost Z.X.K Z.cA Z.W σ ι h H (f env h) fun it h' ι' H' => ∀ J, ItOk Z J it ι' h' H' → R J H'
theorem _root_.L2.PI.weak {X : Cx} {tg e : Expr} {t t' : TI} (p : PI X tg e t) (k : ∀ σ H R, t' σ H R → t σ H R) : PI X tg e t' := ⟨fun pins s σ H R I q => p.run pins s σ H R I (k σ H R q)⟩
def sSnap (f : SA) : SI := fun env h => (f env h).bind fun ds h1 => .ok (.snap ds) h1
theorem it_list {ds : List D} {vs : List V} {ι2 : Nat → Addr} {h2 : Hd} {H2 : Hp} {a : Addr} {i : Nat} (R2 : HRep Z.X.K Z.cA ι2 H2 h2) (e2 : SqL Z.X.K H2 a vs) (rs2 : Reps Z.X.K ι2 h2.length H2 vs ds) :
    (∀ d, ds[i]? = some d → (Itl Z.X.K a).go i H2 ∧ ∀ x H3, (Itl Z.X.K a).yld i H2 x H3 → Step ι2 h2 H2 ι2 h2 H3 ∧ HRep Z.X.K Z.cA ι2 H3 h2 ∧ Rep Z.X.K ι2 h2.length H3 x d) ∧ (ds[i]? = none → (Itl Z.X.K a).stop i H2) := by
  refine ⟨fun d hd => ?_, fun hd => ⟨vs, e2, by rw [rs2.len]; exact List.getElem?_eq_none_iff.mp hd⟩⟩
  obtain ⟨v, hv, r⟩ := rs2.get hd
  refine ⟨⟨vs, v, e2, hv⟩, fun x H3 ⟨q1, q2⟩ => ?_⟩
  subst q1
  have hx := q2 vs e2
  rw [hv] at hx; cases hx
  exact ⟨.refl, R2, r⟩
/-- over a new list -/
theorem ki_new {tg e : Expr} {f : SA} (hl : KL Z e f) : KI Z tg e (sSnap f) :=
  ⟨(pi_list hl.pe).weak fun σ H Q ⟨ι, env, h, R, V, p⟩ => ⟨ι, env, h, R, V, (RPost.bind p).mono fun ds h1 ι1 H1 S1 R1 p1 a vs hH ea hn rs =>
    ⟨a, rfl, ⟨vs, .of ea⟩, RPost.ok R1 p1 _ fun ι2 h2 H2 S2 R2 i => by
      have e2 : H2 a = some (.lst vs) := S2.keep a _ ea hn
      have q := it_list (i := i) R2 (.of e2) (rs.step S2 R1)
      exact ⟨fun d hd => q.1 d (Option.some.inj hd), fun hd => q.2 (Option.some.inj hd)⟩⟩⟩⟩
/-- over a tuple, a list -/
def itOf (d : D) (h : Hd) : Option ItD := match d with
  | .tup ds => some (.snap ds)
  | .fls ds => some (.snap ds)
  | .ref m => match h[m]? with
    | some (.lst _) => some (.live m)
    | _ => none
  | _ => none
def sVal (f : SE) : SI := fun env h => (f env h).bind fun d h1 => match itOf d h1 with | some it => .ok it h1 | none => .stuck
theorem _root_.L2.PI.or {X : Cx} {tg e : Expr} {t t' : TI} (p : PI X tg e t) (q : PI X tg e t') : PI X tg e fun σ H R => t σ H R ∨ t' σ H R := ⟨fun pins s σ H R I z => z.elim (p.run pins s σ H R I) (q.run pins s σ H R I)⟩
/-- either way, by values -/
def iAny (K : PySem.W.Frag) (tl : TE) : TI := fun σ H R => tl σ H fun x H1 => ∃ a, x = .ref a ∧ (((∃ xs, SqL K H1 a xs) ∧ R (Itl K a) H1) ∨ ((∃ xs, SqT K H1 a xs) ∧ R (Itt K a) H1))
theorem pi_any {tg l : Expr} {tl : TE} (hl : PE Z.X l tl) : PI Z.X tg l (iAny Z.X.K tl) := by
  refine ⟨fun pins s σ H R I h => thn (hl.run pins s σ H _ I h) fun v s1 ⟨x, H1, I1, r1, a, ex, q⟩ => ?_⟩
  subst ex
  obtain rfl : v = Value.ref a := r1
  have J : ∀ ob : Obj, L2.Inv Z.X pins σ H1 { s1 with heap := s1.heap.push ob } := fun ob => I1.kept (t' := s1.toks) fun b o e => Heap.get?_push_of_some _ e
  have fp : ∀ b ∈ [s1.heap.objs.size], FpOk Z.X pins H1 b := fun b hb => by
    obtain rfl : b = s1.heap.objs.size := by simpa using hb
    exact I1.fpOk (Nat.le_refl _) (I1.hok.fresh (Nat.le_refl _))
  rcases q with ⟨⟨xs, hq⟩, q⟩ | ⟨⟨xs, hq⟩, q⟩
  · obtain ⟨_, _, hp, _⟩ := I1.list hq
    exact wpAny_pyIter_list hp.isList ⟨_, [_], _, _, H1, rfl, J _, turn_list a _, ⟨_, Heap.get?_push_size _ rfl, rfl, rfl⟩, fp, q⟩
  · obtain ⟨its, _, hp, _⟩ := I1.tuple hq
    exact wpAny_pyIter_tuple (show s1.heap.IsTuple a its.toArray from hp) ⟨_, [_], _, _, H1, rfl, J _, turn_tuple a _, ⟨_, Heap.get?_push_size _ rfl, rfl, rfl⟩, fp, q⟩
theorem ki_val {tg e : Expr} {f : SE} (he : KE Z e f) : KI Z tg e (sVal f) :=
  ⟨(pi_any he.pe).weak fun σ H Q ⟨ι, env, h, R, V, p⟩ => ⟨ι, env, h, R, V, (RPost.bind p).mono fun d h1 ι1 H1 S1 R1 p1 v r => by
    have p1 : RPost Z.X.K Z.cA Z.W σ ι1 h1 H1 (match itOf d h1 with | some it => .ok it h1 | none => .stuck) fun it h' ι' H' => ∀ J, ItOk Z J it ι' h' H' → Q J H' := p1
    cases e : itOf d h1 with
    | none => rw [e] at p1; exact p1.elim
    | some it =>
      rw [e] at p1
      have p1 : RPost Z.X.K Z.cA Z.W σ ι1 h1 H1 (.ok it h1) fun it h' ι' H' => ∀ J, ItOk Z J it ι' h' H' → Q J H' := p1
      cases r with
      | @tup a xs ds q rs =>
        cases e
        refine ⟨a, rfl, .inr ⟨⟨xs, q⟩, RPost.ok R1 p1 _ fun ι2 h2 H2 S2 R2 i => ?_⟩⟩
        have q2 := (S2.tkeep R1).tup _ _ q
        have rs2 := rs.step S2 R1
        refine ⟨fun d hd => ?_, fun hd => ⟨xs, q2, by rw [rs2.len]; exact List.getElem?_eq_none_iff.mp (Option.some.inj hd)⟩⟩
        obtain ⟨v, hv, r⟩ := rs2.get (Option.some.inj hd)
        refine ⟨⟨xs, v, q2, hv⟩, fun x H3 ⟨z1, z2⟩ => ?_⟩
        subst z1
        have hx := z2 xs q2
        rw [hv] at hx; cases hx
        exact ⟨.refl, R2, r⟩
      | @fls a xs ds q rs =>
        cases e
        refine ⟨a, rfl, .inl ⟨⟨xs, q.sql⟩, RPost.ok R1 p1 _ fun ι2 h2 H2 S2 R2 i => ?_⟩⟩
        have z := it_list (i := i) R2 ((S2.tkeep R1).fzl _ _ q).sql (rs.step S2 R1)
        exact ⟨fun d hd => z.1 d (Option.some.inj hd), fun hd => z.2 (Option.some.inj hd)⟩
      | @ref m hlt =>
        have e : (match h1[m]? with | some (O.lst _) => some (ItD.live m) | _ => none) = some it := e
        cases hm : h1[m]? with
        | none => rw [hm] at e; cases e
        | some o =>
          rw [hm] at e
          cases o with
          | lst ds =>
            cases e
            obtain ⟨ho, e3, ro⟩ := R1.obj m _ hm
            cases ro with
            | @lst xs _ rs =>
              refine ⟨_, rfl, .inl ⟨⟨xs, .of e3⟩, RPost.ok R1 p1 _ fun ι2 h2 H2 S2 R2 i => ?_⟩⟩
              have nx : ∀ {o : Option D}, nextD (.live m) h2 i = some o → ∃ es ys, h2[m]? = some (.lst es) ∧ es[i]? = o ∧ H2 (ι1 m) = some (.lst ys) ∧ Reps Z.X.K ι2 h2.length H2 ys es := fun {o} en => by
                have en : (match h2[m]? with | some (O.lst ds) => some ds[i]? | _ => none) = some o := en
                cases hm2 : h2[m]? with
                | none => rw [hm2] at en; cases en
                | some u =>
                  rw [hm2] at en
                  cases u with
                  | lst es =>
                    obtain ⟨ho2, e4, ro2⟩ := R2.obj m _ hm2
                    rw [S2.eq m hlt] at e4
                    cases ro2 with
                    | lst rs2 => exact ⟨es, _, rfl, Option.some.inj en, e4, rs2⟩
                  | dict _ => cases en
                  | lkd _ => cases en
                  | ins _ _ => cases en
              refine ⟨fun d hd => ?_, fun hd => ?_⟩
              · obtain ⟨es, ys, _, e5, e6, r6⟩ := nx hd
                exact (it_list (i := i) R2 (.of e6) r6).1 d e5
              · obtain ⟨es, ys, _, e5, e6, r6⟩ := nx hd
                exact (it_list (i := i) R2 (.of e6) r6).2 e5
          | dict _ => cases e
          | lkd _ => cases e
          | ins _ _ => cases e
      | xc0 => cases e
      | xc _ _ => cases e
      | non => cases e
      | bl => cases e
      | int => cases e
      | str => cases e⟩⟩
def rangeL (lo : Int) (n : Nat) : List D := (List.range n).map fun (i : Nat) => D.int (lo + (i : Int))
def BIG : Int := 4611686018427387904
theorem big_eq : BIG = 2 ^ 62 := by decide
def sRange1 (f : SE) : SI := fun env h => (f env h).bind fun d h1 => match d with | .int j => if -BIG ≤ j ∧ j < BIG then .ok (.snap (rangeL 0 j.toNat)) h1 else .stuck | _ => .stuck
def sRange2 (f g : SE) : SI := fun env h => (f env h).bind fun d h1 => (g env h1).bind fun e h2 => match d, e with | .int i, .int j => if (-BIG ≤ i ∧ i < BIG) ∧ -BIG ≤ j ∧ j < BIG then .ok (.snap (rangeL i (j - i).toNat)) h2 else .stuck | _, _ => .stuck
theorem snap_range {lo : Int} {n : Nat} {ι : Nat → Addr} {h : Hd} {H : Hp} : ItOk Z (Itr lo n) (.snap (rangeL lo n)) ι h H := fun ι2 h2 H2 S2 R2 i => by
  refine ⟨fun d hd => ?_, fun hd => ?_⟩
  · have hd := Option.some.inj hd
    have hi : i < n := by have := lt_of_get hd; simpa [rangeL] using this
    refine ⟨hi, fun x H3 ⟨z1, z2⟩ => ?_⟩
    subst z1; subst z2
    simp [rangeL, hi] at hd
    subst hd
    exact ⟨.refl, R2, .int⟩
  · have hd := Option.some.inj hd
    have := List.getElem?_eq_none_iff.mp hd
    show n ≤ i
    simpa [rangeL] using this
theorem ki_range1 {tg a : Expr} {f : SE} {p pos : Pos} (hg : Gl Z.X "range") (hm : Z.X.mg "range" = none) (ha : KE Z a f) (hs : starEach [a] Z.X.env = [(false, eval a Z.X.env)] := by rfl) : KI Z tg (.Call (.Name "range" p) [a] [] pos) (sRange1 f) :=
  ⟨(pi_range1 hg hm (ka_cons ha ka_nil hs).pa hs).weak fun σ H Q ⟨ι, env, h, R, V, p⟩ => ⟨ι, env, h, R, V, by
    have p' := RPost.bind p
    refine RPost.mono (r := sCons f sNil env h) (P := fun ds h1 ι1 H1 => ∃ d, ds = [d] ∧ RPost Z.X.K Z.cA Z.W σ ι1 h1 H1 (match d with | .int j => if -BIG ≤ j ∧ j < BIG then .ok (.snap (rangeL 0 j.toNat)) h1 else .stuck | _ => .stuck) fun it h' ι' H' => ∀ J, ItOk Z J it ι' h' H' → Q J H') ?_ ?_
    · show RPost _ _ _ _ _ _ _ ((f env h).bind fun d h1 => .ok [d] h1) _
      cases e : f env h with
      | ok d h1 => rw [e] at p'; exact fun ι' H' S R' => ⟨d, rfl, p' ι' H' S R'⟩
      | exc c fs h1 => rw [e] at p'; exact p'
      | stuck => rw [e] at p'; exact p'.elim
    · rintro ds h1 ι1 H1 S1 R1 ⟨d, rfl, p1⟩ vs rs
      cases rs with
      | cons r rr =>
        cases rr
        cases r with
        | @int j =>
          by_cases c : -BIG ≤ j ∧ j < BIG
          · have p1 : RPost _ _ _ _ _ _ _ (if -BIG ≤ j ∧ j < BIG then _ else _) _ := p1
            rw [if_pos c] at p1
            rw [big_eq] at c
            exact ⟨j, rfl, c.1, c.2, RPost.ok R1 p1 _ snap_range⟩
          · have p1 : RPost _ _ _ _ _ _ _ (if -BIG ≤ j ∧ j < BIG then _ else _) _ := p1
            rw [if_neg c] at p1; exact p1.elim
        | non => exact p1.elim
        | bl => exact p1.elim
        | str => exact p1.elim
        | xc0 => exact p1.elim
        | xc _ _ => exact p1.elim
        | fls _ _ => exact p1.elim
        | tup _ _ => exact p1.elim
        | ref _ => exact p1.elim⟩⟩
theorem ki_range2 {tg a b : Expr} {f g : SE} {p pos : Pos} (hg : Gl Z.X "range") (hm : Z.X.mg "range" = none) (ha : KE Z a f) (hb : KE Z b g) (hs : starEach [a, b] Z.X.env = [(false, eval a Z.X.env), (false, eval b Z.X.env)] := by rfl) (hs2 : starEach [b] Z.X.env = [(false, eval b Z.X.env)] := by rfl) :
    KI Z tg (.Call (.Name "range" p) [a, b] [] pos) (sRange2 f g) :=
  ⟨(pi_range2 hg hm (ka_cons ha (ka_cons hb ka_nil hs2) (by rw [hs, hs2])).pa hs hs2).weak fun σ H Q ⟨ι, env, h, R, V, p⟩ => ⟨ι, env, h, R, V, by
    refine RPost.mono (r := sCons f (sCons g sNil) env h) (P := fun ds h1 ι1 H1 => ∃ d e, ds = [d, e] ∧ RPost Z.X.K Z.cA Z.W σ ι1 h1 H1 (match d, e with | .int i, .int j => if (-BIG ≤ i ∧ i < BIG) ∧ -BIG ≤ j ∧ j < BIG then .ok (.snap (rangeL i (j - i).toNat)) h1 else .stuck | _, _ => .stuck) fun it h' ι' H' => ∀ J, ItOk Z J it ι' h' H' → Q J H') ?_ ?_
    · have p : RPost _ _ _ _ _ _ _ ((f env h).bind _) _ := p
      show RPost _ _ _ _ _ _ _ ((f env h).bind _) _
      cases e : f env h with
      | ok d h1 =>
        rw [e] at p
        have p : RPost _ _ _ _ _ _ _ ((g env h1).bind _) _ := p
        show RPost _ _ _ _ _ _ _ (((g env h1).bind _).bind _) _
        cases e2 : g env h1 with
        | ok d2 h2 => rw [e2] at p; exact fun ι' H' S R' => ⟨d, d2, rfl, RPost.step S p⟩
        | exc c fs h1 => rw [e2] at p; exact p
        | stuck => rw [e2] at p; exact p.elim
      | exc c fs h1 => rw [e] at p; exact p
      | stuck => rw [e] at p; exact p.elim
    · rintro ds h1 ι1 H1 S1 R1 ⟨d, e, rfl, p1⟩ vs rs
      cases rs with
      | cons r rr =>
        cases rr with
        | cons r' rr =>
          cases rr
          cases r <;> first | exact p1.elim | skip
          cases r' <;> first | exact p1.elim | skip
          rename_i i j
          have p1 : RPost _ _ _ _ _ _ _ (if (-BIG ≤ i ∧ i < BIG) ∧ -BIG ≤ j ∧ j < BIG then _ else _) _ := p1
          by_cases c : (-BIG ≤ i ∧ i < BIG) ∧ -BIG ≤ j ∧ j < BIG
          · rw [if_pos c] at p1
            rw [big_eq] at c
            exact ⟨i, j, rfl, ⟨c.1.1, c.1.2, c.2.1, c.2.2⟩, RPost.ok R1 p1 _ snap_range⟩
          · rw [if_neg c] at p1; exact p1.elim⟩⟩

/-! ### for -/
def loopI (it : ItD) (g : SG) (body : SS) : Nat → Nat → En → Hd → Rs
  | 0, _, _, _ => .stuck
  | n + 1, i, env, h => match nextD it h i with
    | none => .stuck
    | some none => .ok (.nx env) h
    | some (some d) => (noX (g d env h)).lift env fun env1 h1 => match body env1 h1 with
      | .ok (.nx env2) h2 => loopI it g body n (i + 1) env2 h2
      | .ok (.ct env2) h2 => loopI it g body n (i + 1) env2 h2
      | .ok (.brk env2) h2 => .ok (.nx env2) h2
      | r => r
/-- how many turns at most -/
def turnsD (it : ItD) (h : Hd) : Nat := match it with
  | .snap ds => ds.length + 1
  | .live m => match h[m]? with
    | some (.lst ds) => ds.length + 1
    | _ => 0
  | .zp x _ => match itemsD h x with
    | some ds => ds.length + 1
    | none => 0
def sFor (it : SI) (g : SG) (body : SS) : SS := fun env h => (it env h).lift env fun j h1 => loopI j g body (turnsD j h1) 0 env h1
/-- over written-out items -/
def loopItems (g : SG) (body : SS) : List D → En → Hd → Rs
  | [], env, h => .ok (.nx env) h
  | d :: ds, env, h => (noX (g d env h)).lift env fun env1 h1 => match body env1 h1 with
    | .ok (.nx env2) h2 => loopItems g body ds env2 h2
    | .ok (.ct env2) h2 => loopItems g body ds env2 h2
    | .ok (.brk env2) h2 => .ok (.nx env2) h2
    | r => r
theorem loop_snap (g : SG) (body : SS) (ds : List D) : ∀ (n i : Nat) (env : En) (h : Hd), n + i = ds.length → loopI (.snap ds) g body (n + 1) i env h = loopItems g body (ds.drop i) env h
  | n, i, env, h, e => by
    unfold loopI
    show (match (some ds[i]? : Option (Option D)) with | none => _ | some none => _ | some (some d) => _) = _
    by_cases hi : i < ds.length
    · rw [List.drop_eq_getElem_cons hi, List.getElem?_eq_getElem hi]
      unfold loopItems
      dsimp only
      congr 1
      funext env1 h1
      cases body env1 h1 with
      | stuck => rfl
      | ok fl h2 => cases fl <;> first | rfl | (obtain ⟨k, rfl⟩ : ∃ k, n = k + 1 := ⟨n - 1, by omega⟩; exact loop_snap g body ds k (i + 1) _ _ (by omega))
    · rw [List.drop_eq_nil_of_le (Nat.le_of_not_lt hi), List.getElem?_eq_none (Nat.le_of_not_lt hi)]
      rfl
theorem ks_for {tg iter : Expr} {body : List Stmt} {it : SI} {g : SG} {b : SS} {pos : Pos} (hp : PassesOwn (model Z.X.prog Z.X.w) Z.X.A Z.X.env Z.X.xe) (hc : Z.X.calm = true) (hi : KI Z tg iter it) (hg : KG Z tg g) (hb : KSs Z body b)
    (hs : ∀ x, foldedSetIterable iter Z.X.env x = pure x := by intro _; rfl) : KS Z (.For tg iter body [] pos) (sFor it g b) :=
  ⟨(ps_for hp hc hi.pi hg.pg hb.pss hs).weak fun Dd σ H ⟨ι, env, h, R, V, p⟩ => ⟨ι, env, h, R, V, (RsPost.of R V p).mono fun j h1 ι1 H1 S1 R1 p1 J ok => by
    refine ⟨fun i m σ' H' => ∃ ι' env' h', Step ι1 h1 H1 ι' h' H' ∧ HRep Z.X.K Z.cA ι' H' h' ∧ VRep Z.X.K ι' h'.length H' σ' env' ∧ RsPost Z Dd ι' h' H' (loopI j g b m i env' h'),
      ⟨_, ι1, env, h1, .refl, R1, V.step S1 R, p1⟩, ?_⟩
    rintro i m σ' H' ⟨ι', env', h', S', R', V', p'⟩
    cases m with
    | zero => exact p'.elim
    | succ m =>
      obtain ⟨k1, k2⟩ := ok ι' h' H' S' R' i
      unfold loopI at p'
      cases en : nextD j h' i with
      | none => rw [en] at p'; exact p'.elim
      | some o =>
        rw [en] at p'
        cases o with
        | none => exact .inl ⟨k2 en, RsPost.fin R' p' σ' V'⟩
        | some d =>
          obtain ⟨go, yl⟩ := k1 d en
          refine .inr ⟨go, fun σ2 H2 => ∃ ι' env' h', Step ι1 h1 H1 ι' h' H2 ∧ HRep Z.X.K Z.cA ι' H2 h' ∧ VRep Z.X.K ι' h'.length H2 σ2 env' ∧ RsPost Z Dd ι' h' H2 (loopI j g b m (i + 1) env' h'),
            fun σ2 H2 q => ⟨m, Nat.lt_succ_self _, q⟩, fun x H3 y => ?_⟩
          obtain ⟨S3, R3, r3⟩ := yl x H3 y
          have p3 : RsPost Z Dd ι' h' H3 ((noX (g d env' h')).lift env' _) := p'.step S3
          refine ⟨ι', env', h', d, R3, V'.step S3 R', r3, ?_⟩
          refine RPost.noX ((RsPost.of R3 (V'.step S3 R') p3).mono fun env4 h4 ι4 H4 S4 R4 p4 σ4 V4 => ⟨ι4, env4, h4, R4, V4, ?_⟩)
          cases eb : b env4 h4 with
          | stuck => rw [eb] at p4; exact p4.elim
          | ok fl h5 =>
            rw [eb] at p4
            have again : ∀ env5, RsPost Z Dd ι4 h4 H4 (loopI j g b m (i + 1) env5 h5) → ∀ ι5 H5, Step ι4 h4 H4 ι5 h5 H5 → HRep Z.X.K Z.cA ι5 H5 h5 → ∀ σ5, VRep Z.X.K ι5 h5.length H5 σ5 env5 →
                ∃ ι' env' h', Step ι1 h1 H1 ι' h' H5 ∧ HRep Z.X.K Z.cA ι' H5 h' ∧ VRep Z.X.K ι' h'.length H5 σ5 env' ∧ RsPost Z Dd ι' h' H5 (loopI j g b m (i + 1) env' h') := fun env5 q ι5 H5 S5 R5 σ5 V5 =>
              ⟨ι5, env5, h5, ((S'.trans S3).trans S4).trans S5, R5, V5, q.step S5⟩
            cases fl with
            | nx env5 => exact fun ι5 H5 S5 R5 => again env5 p4 ι5 H5 S5 R5
            | ct env5 => exact fun ι5 H5 S5 R5 => again env5 p4 ι5 H5 S5 R5
            | brk env5 => exact p4
            | ret d => exact p4
            | exc c fs env5 => exact p4⟩⟩

/-! ### while -/
def loopWhile (c : SB) (body : SS) : Nat → En → Hd → Rs
  | 0, _, _ => .stuck
  | n + 1, env, h => (c env h).lift env fun b h1 => if b = true then (match body env h1 with
    | .ok (.nx env2) h2 => loopWhile c body n env2 h2
    | .ok (.ct env2) h2 => loopWhile c body n env2 h2
    | .ok (.brk env2) h2 => .ok (.nx env2) h2
    | r => r) else .ok (.nx env) h1
def sWhile (n : Nat) (c : SB) (body : SS) : SS := loopWhile c body n
theorem ks_while {c : Expr} {body : List Stmt} {f : SB} {b : SS} {pos : Pos} (n : Nat) (hp : PassesOwn (model Z.X.prog Z.X.w) Z.X.A Z.X.env Z.X.xe) (hc : KB Z c f) (hb : KSs Z body b) : KS Z (.While c body [] pos) (sWhile n f b) :=
  ⟨(ps_while hp hc.pt hb.pss).weak fun Dd σ H ⟨ι, env, h, R, V, p⟩ => by
    refine ⟨fun m σ' H' => ∃ ι' env' h', HRep Z.X.K Z.cA ι' H' h' ∧ VRep Z.X.K ι' h'.length H' σ' env' ∧ RsPost Z Dd ι' h' H' (loopWhile f b m env' h'), ⟨n, ι, env, h, R, V, p⟩, ?_⟩
    rintro m σ' H' ⟨ι', env', h', R', V', p'⟩
    cases m with
    | zero => exact p'.elim
    | succ m =>
      refine ⟨ι', env', h', R', V', (RsPost.of R' V' p').mono fun t h1 ι1 H1 S1 R1 p1 => ?_⟩
      cases t with
      | false => rw [if_neg Bool.false_ne_true] at p1 ⊢; exact RsPost.fin R1 p1 σ' (V'.step S1 R')
      | true =>
        rw [if_pos rfl] at p1 ⊢
        refine ⟨fun σ2 H2 => ∃ ι' env' h', HRep Z.X.K Z.cA ι' H2 h' ∧ VRep Z.X.K ι' h'.length H2 σ2 env' ∧ RsPost Z Dd ι' h' H2 (loopWhile f b m env' h'), fun σ2 H2 q => ⟨m, Nat.lt_succ_self _, q⟩, ι1, env', h1, R1, V'.step S1 R', ?_⟩
        cases eb : b env' h1 with
        | stuck => rw [eb] at p1; exact p1.elim
        | ok fl h5 =>
          rw [eb] at p1
          cases fl with
          | nx env5 => exact fun ι5 H5 S5 R5 σ5 V5 => ⟨ι5, env5, h5, R5, V5, RsPost.step S5 p1⟩
          | ct env5 => exact fun ι5 H5 S5 R5 σ5 V5 => ⟨ι5, env5, h5, R5, V5, RsPost.step S5 p1⟩
          | brk env5 => exact p1
          | ret d => exact p1
          | exc c fs env5 => exact p1⟩
end
end Kf
end
section
set_option maxHeartbeats 4000000
/-! Kf: list comprehensions; what is made of new lists. -/
namespace Kf
open PySem PySem.Spec L2
section
variable {K : PySem.W.Frag} {cA : CA} {W W' : WX} {σ σ' : St} {ι ι1 ι' : Nat → Addr} {n : Nat} {H H1 H' : Hp} {h h1 h' : Hd} {α β : Type}
theorem RPost.bind1 {r : Res α} {f : α → Hd → Res β} {P : β → Hd → (Nat → Addr) → Hp → Prop} (S : Step ι h H ι' h' H') (p : RPost K cA W σ ι h H (r.bind f) P) : RPost K cA W σ ι' h' H' r fun a h2 _ _ => RPost K cA W σ ι h H (f a h2) P := by
  cases r with
  | ok a h2 => exact fun ι2 H2 S R => p
  | exc c fs h2 => exact fun ι2 H2 cls od T R x => p ι2 H2 cls od (S.trans T) R x
  | stuck => exact p
theorem RPost.noW {r : Res α} {P : α → Hd → (Nat → Addr) → Hp → Prop} (p : RPost K cA W σ ι h H (Kf.noX r) P) : RPost K cA W' σ' ι h H r P := by
  cases r with
  | ok a h' => exact p
  | exc c fs h' => exact p.elim
  | stuck => exact p
theorem none_of_there' {ι ι' : Nat → Addr} {H H' : Hp} {h h' : Hd} (S : Step ι h H ι' h' H') {a : Addr} (ha : H' a = none) : H a = none := by
  cases e : H a with
  | none => rfl
  | some o => obtain ⟨o', e'⟩ := S.there a o e; rw [ha] at e'; cases e'
/-- an address that the heap does not speak of is written -/
theorem Step.write (S : Step ι h H ι' h' H') {p : Addr} (hp : H p = none) (hn : ∀ m, m < h'.length → p ≠ ι' m) (o : HO) : Step ι h H ι' h' (upd H' p o) where
  eq := S.eq
  len := S.len
  keep := fun a u e k => by rw [upd_ne (ne_of_none e hp)]; exact S.keep a u e k
  fresh := S.fresh
  there := fun a u e => by rw [upd_ne (ne_of_none e hp)]; exact S.there a u e
  frz := fun a o u e => by rw [upd_ne (ne_of_none e hp)]; exact S.frz a o u e
theorem tkeep_upd {p : Addr} {v : HO} (e : H p = some v) (h1 : ∀ xs, v ≠ .tup xs) (h2 : ∀ x u, v ≠ .frz x u) (o : HO) (h3 : ∀ gs, v ≠ .xd gs := by first | exact fun _ z => by cases z) : TKeep K H (upd H p o) := by
  have hne : ∀ {a : Addr} {u : HO}, H a = some u → u ≠ v → a ≠ p := fun {a u} e1 ne z => by rw [z, e] at e1; exact ne (Option.some.inj e1).symm
  refine ⟨fun a ys q => ?_, fun a ys q => ?_, fun a gs q => by rw [upd_ne (hne q fun z => h3 _ z.symm)]; exact q⟩
  · rcases q with (q | ⟨o2, q⟩) | q
    · exact .inl (.inl (by rw [upd_ne (hne q fun z => h1 _ z.symm)]; exact q))
    · exact .inl (.inr ⟨o2, by rw [upd_ne (hne q fun z => h2 _ _ z.symm)]; exact q⟩)
    · exact .inr q
  · rcases q with ⟨o2, q⟩ | q
    · exact .inl ⟨o2, by rw [upd_ne (hne q fun z => h2 _ _ z.symm)]; exact q⟩
    · exact .inr q
theorem tkeep_write {p : Addr} {xs : List V} (e : H p = some (.lst xs)) (o : HO) : TKeep K H (upd H p o) := tkeep_upd e (fun _ z => by cases z) (fun _ _ z => by cases z) o
theorem HRep.write (R : HRep K cA ι H h) {p : Addr} {xs : List V} (e : H p = some (.lst xs)) (hn : ∀ m, m < h.length → p ≠ ι m) (o : HO) : HRep K cA ι (upd H p o) h where
  obj := fun m o2 e2 => by
    obtain ⟨ho, e3, r⟩ := R.obj m o2 e2
    exact ⟨ho, by rw [upd_ne (Ne.symm (hn m (lt_of_get e2)))]; exact e3, r.keep (tkeep_write e o) (Nat.le_refl _) fun _ _ => rfl⟩
  inj := R.inj
def wipeD (env : En) : List Nat → En
  | [] => env
  | v :: vs => (wipeD env vs).set v none
theorem VRep.wipe {env : En} (R : VRep K ι n H σ env) : ∀ vs : List Nat, VRep K ι n H (wipe σ vs) (wipeD env vs)
  | [] => R
  | v :: vs => by
    have q := R.wipe vs
    refine ⟨by simp [Kf.wipeD, L2.wipe, q.len], fun i d e => ?_⟩
    unfold wipeD at e
    unfold L2.wipe
    by_cases c : v = i
    · subst c
      have hi : v < (Kf.wipeD env vs).length := by have := lt_of_get e; simpa using this
      rw [List.getElem?_set_self hi] at e; cases e
    · rw [List.getElem?_set_ne c] at e ⊢
      exact q.var i d e
theorem wipe_set {i : Nat} {x : Option V} : ∀ {vs : List Nat}, i ∈ vs → wipe (σ.set i x) vs = wipe σ vs
  | v :: vs, hi => by
    unfold L2.wipe
    by_cases c : i ∈ vs
    · rw [wipe_set c]
    · have e : i = v := by rcases List.mem_cons.mp hi with q | q; exact q; exact absurd q c
      subst e
      have : ∀ (vs : List Nat) (σ : St), i ∉ vs → (L2.wipe (σ.set i x) vs).set i none = (L2.wipe σ vs).set i none := by
        intro vs
        induction vs with
        | nil => intro σ _; simp [L2.wipe]
        | cons v vs ih =>
          intro σ hn
          simp only [List.mem_cons, not_or] at hn
          unfold L2.wipe
          rw [List.set_comm _ _ (Ne.symm hn.1), ih σ hn.2, List.set_comm _ _ hn.1]
      exact this vs σ c
theorem wipe_set_none {j : Nat} : ∀ {vs : List Nat} {σ : St}, wipe (σ.set j none) vs = (wipe σ vs).set j none
  | [], _ => rfl
  | v :: vs, σ => by
    unfold L2.wipe
    rw [wipe_set_none (vs := vs)]
    by_cases c : j = v
    · subst c; rfl
    · rw [List.set_comm _ _ c]
theorem wipe_wipe : ∀ {vs : List Nat} {σ : St}, wipe (wipe σ vs) vs = wipe σ vs
  | [], _ => rfl
  | v :: vs, σ => by
    show (wipe ((wipe σ vs).set v none) vs).set v none = (wipe σ vs).set v none
    rw [wipe_set_none, wipe_wipe]
    simp
end
section
variable {Z : Kx}
/-- targets of a comprehension: names of its own -/
structure KGw (Z : Kx) (t : Expr) (g : SG) (vs : List Nat) : Prop where
  pg : PG Z.X t fun v σ H Q => ∃ ι env h d, HRep Z.X.K Z.cA ι H h ∧ VRep Z.X.K ι h.length H σ env ∧ Rep Z.X.K ι h.length H v d ∧
    RPost Z.X.K Z.cA Z.W σ ι h H (g d env h) fun env' h' ι' H' => ∀ σ', wipe σ' vs = wipe σ vs → VRep Z.X.K ι' h'.length H' σ' env' → Q σ' H'
structure KGws (Z : Kx) (ts : List Expr) (g : SGs) (vs : List Nat) : Prop where
  pgs : PGs Z.X ts fun xs σ H Q => ∃ ι env h ds, HRep Z.X.K Z.cA ι H h ∧ VRep Z.X.K ι h.length H σ env ∧ Reps Z.X.K ι h.length H xs ds ∧
    RPost Z.X.K Z.cA Z.W σ ι h H (g ds env h) fun env' h' ι' H' => ∀ σ', wipe σ' vs = wipe σ vs → VRep Z.X.K ι' h'.length H' σ' env' → Q σ' H'
theorem kgw_name {i : Nat} {x : Str} {pos : Pos} {vs : List Nat} (hv : i ∈ vs) (hN : Z.X.N.Nodup) (hi : Z.X.N[i]? = some x) (hx : Loc Z.X.env.scope x) (hf : Z.X.fn x = true ∨ Z.X.env.scope.names.lookup x = some .local := by first | exact .inl rfl | exact .inr rfl | assumption) : KGw Z (.Name x pos) (gN i) vs :=
  ⟨(pg_name hN hi hx hf).weak fun v σ H Q ⟨ι, env, h, d, R, V, r, p⟩ => RPost.ok R p _ (wipe_set hv) (V.set r)⟩
theorem kgws_nil {vs : List Nat} : KGws Z [] gNil' vs := ⟨pgs_nil.weak fun xs σ H Q ⟨ι, env, h, ds, R, V, r, p⟩ => by
  cases r with
  | nil => exact ⟨rfl, RPost.ok R p σ rfl V⟩
  | cons _ _ => exact p.elim⟩
theorem kgws_cons {e : Expr} {es : List Expr} {g : SG} {k : SGs} {vs : List Nat} (h1 : KGw Z e g vs) (h2 : KGws Z es k vs)
    (hs : (assignEach (e :: es) Z.X.env).map (·.2) = assign e Z.X.env :: (assignEach es Z.X.env).map (·.2) := by rfl) : KGws Z (e :: es) (gCons' g k) vs := ⟨(pgs_cons h1.pg h2.pgs hs).weak fun xs σ H Q ⟨ι, env, h, ds, R, V, r, p⟩ => by
  cases r with
  | nil => exact p.elim
  | cons r rs =>
    exact ⟨_, _, rfl, ι, env, h, _, R, V, r, RPost.noX ((RPost.bind p).mono fun env1 h1 ι1 H1 S1 R1 p1 σ1 w1 V1 => ⟨ι1, env1, h1, _, R1, V1, rs.step S1 R, (RPost.noX p1).mono fun env2 h2 ι2 H2 S2 R2 p2 σ2 w2 V2 => p2 σ2 (w2.trans w1) V2⟩)⟩⟩
theorem kgw_tup {es : List Expr} {j : Nat} {k : SGs} {n : Nat} {pos : Pos} {vs : List Nat} (hc : Z.X.calm = true) (hk : KGws Z es k vs)
    (hn : (assignEach es Z.X.env).length = n := by rfl) (hst : (assignEach es Z.X.env).findIdx? (·.1) = none := by rfl) : KGw Z (.Tuple es j pos) (gTp n k) vs := ⟨(pg_tup hc hk.pgs hn hst).weak fun v σ H Q ⟨ι, env, h, d, R, V, r, p⟩ => by
  cases r with
  | @tup a xs ds q rs =>
    have p : RPost Z.X.K Z.cA Z.W σ ι h H (if ds.length = n then k ds env h else .stuck) _ := p
    by_cases c : ds.length = n
    · rw [if_pos c] at p
      exact ⟨_, _, rfl, q, by rw [rs.len]; exact c, ι, env, h, ds, R, V, rs, p⟩
    · rw [if_neg c] at p
      exact p.elim
  | non => exact p.elim
  | bl => exact p.elim
  | int => exact p.elim
  | str => exact p.elim
  | xc0 => exact p.elim
  | xc _ _ => exact p.elim
  | fls _ _ => exact p.elim
  | ref _ => exact p.elim⟩

/-- a comprehension's block -/
abbrev Kx.blk (Z : Kx) (s : Shared) (H : Hp) (scope : Scope) (C : Addr) (cl : List (Str × Addr)) (fp : List Addr) : Kx := { X := Z.X.blk s H scope (compEnvC scope cl C Z.X.env) fp, cA := Z.cA, W := fun _ _ _ _ => False }
structure KT (Z : Kx) (ifs : List Expr) (f : SB) : Prop where
  pts : PTs Z.X ifs (tDB Z f)
def sYes : SB := fun _ h => .ok true h
theorem kt_nil : KT Z [] sYes := ⟨⟨fun pins s σ H Q I ⟨ι, env, h, R, V, p⟩ => pts_nil.run pins s σ H Q I (RPost.ok R p)⟩⟩
theorem kt_one {c : Expr} {f : SB} (h : KB Z c f) : KT Z [c] f := ⟨pts_one h.pt⟩
def compI (it : ItD) (g : SG) (t : SB) (f : SE) (env : En) : Nat → Nat → Nat → Hd → Res (List D)
  | 0, _, _, _ => .stuck
  | m + 1, i, n, h => match nextD it h i with
    | none => .stuck
    | some none => .ok [] h
    | some (some d) => (noX (g d env h)).bind fun env1 h1 => (noX (t env1 h1)).bind fun b h2 =>
      if b = true then (noX (f env1 h2)).bind fun y h3 => if n < LIM then (compI it g t f env m (i + 1) (n + 1) h3).bind fun r h4 => .ok (y :: r) h4 else .stuck
      else compI it g t f env m (i + 1) n h2
def sLc (it : SI) (g : SG) (t : SB) (f : SE) (vs : List Nat) : SA := fun env h => (it env h).bind fun j h1 => compI j g t f (wipeD env vs) (turnsD j h1) 0 0 h1
/-- over written-out items -/
def compItems (g : SG) (t : SB) (f : SE) (env : En) : List D → Nat → Hd → Res (List D)
  | [], _, h => .ok [] h
  | d :: ds, n, h => (noX (g d env h)).bind fun env1 h1 => (noX (t env1 h1)).bind fun b h2 =>
    if b = true then (noX (f env1 h2)).bind fun y h3 => if n < LIM then (compItems g t f env ds (n + 1) h3).bind fun r h4 => .ok (y :: r) h4 else .stuck
    else compItems g t f env ds n h2
theorem comp_snap (g : SG) (t : SB) (f : SE) (env : En) (ds : List D) : ∀ (m i n : Nat) (h : Hd), m + i = ds.length → compI (.snap ds) g t f env (m + 1) i n h = compItems g t f env (ds.drop i) n h
  | m, i, n, h, e => by
    unfold compI
    show (match (some ds[i]? : Option (Option D)) with | none => _ | some none => _ | some (some d) => _) = _
    by_cases hi : i < ds.length
    · obtain ⟨k, rfl⟩ : ∃ k, m = k + 1 := ⟨m - 1, by omega⟩
      rw [List.drop_eq_getElem_cons hi, List.getElem?_eq_getElem hi]
      unfold compItems
      dsimp only
      congr 1
      funext env1 h1
      congr 1
      funext b h2
      cases b with
      | false => exact comp_snap g t f env ds k (i + 1) n h2 (by omega)
      | true =>
        show Res.bind _ _ = Res.bind _ _
        congr 1
        funext y h3
        rw [comp_snap g t f env ds k (i + 1) (n + 1) h3 (by omega)]
    · rw [List.drop_eq_nil_of_le (Nat.le_of_not_lt hi), List.getElem?_eq_none (Nat.le_of_not_lt hi)]
      rfl
theorem lim_lt {n : Nat} (h : n < LIM) : n < sizeLine := by rw [sizeLine_eq]; exact h
theorem lc_of {it : SI} {g : SG} {t : SB} {f : SE} {vs : List Nat} {wg : TG} {wt : TT} {we : TE} {σ : St} {H : Hp} {Q : VK}
    (hg : ∀ v σ H Q, (∃ ι env h d, HRep Z.X.K Z.cA ι H h ∧ VRep Z.X.K ι h.length H σ env ∧ Rep Z.X.K ι h.length H v d ∧ RPost Z.X.K Z.cA (fun _ _ _ _ => False) σ ι h H (g d env h) fun env' h' ι' H' => ∀ σ', wipe σ' vs = wipe σ vs → VRep Z.X.K ι' h'.length H' σ' env' → Q σ' H') → wg v σ H Q)
    (ht : ∀ σ H Q, (∃ ι env h, HRep Z.X.K Z.cA ι H h ∧ VRep Z.X.K ι h.length H σ env ∧ RPost Z.X.K Z.cA (fun _ _ _ _ => False) σ ι h H (t env h) fun b h' ι' H' => Q b H') → wt σ H Q)
    (he : ∀ σ H Q, (∃ ι env h, HRep Z.X.K Z.cA ι H h ∧ VRep Z.X.K ι h.length H σ env ∧ RPost Z.X.K Z.cA (fun _ _ _ _ => False) σ ι h H (f env h) fun d h' ι' H' => ∀ v, Rep Z.X.K ι' h'.length H' v d → Q v H') → we σ H Q)
    (q : ∃ ι env h, HRep Z.X.K Z.cA ι H h ∧ VRep Z.X.K ι h.length H σ env ∧
      RPost Z.X.K Z.cA Z.W σ ι h H (sLc it g t f vs env h) fun ds h' ι' H' => ∀ p xs, H p = none → H' p = some (.lst xs) → (∀ m, m < h'.length → p ≠ ι' m) → Reps Z.X.K ι' h'.length H' xs ds → Q (.ref p) H') :
    tLc (fun σ H R => ∃ ι env h, HRep Z.X.K Z.cA ι H h ∧ VRep Z.X.K ι h.length H σ env ∧ RPost Z.X.K Z.cA Z.W σ ι h H (it env h) fun it h' ι' H' => ∀ J, ItOk Z J it ι' h' H' → R J H') wg wt we vs σ H Q := by
  obtain ⟨ι, env, h, R, V, p⟩ := q
  refine ⟨ι, env, h, R, V, (RPost.bind0 p).mono fun j h1 ι1 H1 S1 R1 p1 J ok D hD => ?_⟩
  have hHD : H D = none := none_of_there' S1 hD
  have SD : Step ι1 h1 H1 ι1 h1 (upd H1 D (.lst [])) := Step.aside R1 hD _
  refine ⟨fun i m Hc => ∃ ι' h' acc xacc, Step ι1 h1 H1 ι' h' Hc ∧ HRep Z.X.K Z.cA ι' Hc h' ∧ Hc D = some (.lst xacc) ∧ (∀ m, m < h'.length → D ≠ ι' m) ∧ Reps Z.X.K ι' h'.length Hc xacc acc ∧
      VRep Z.X.K ι' h'.length Hc σ env ∧ RPost Z.X.K Z.cA Z.W σ ι h H (compI j g t f (wipeD env vs) m i acc.length h') fun rest h2 ι2 H2 => ∀ p xs, H p = none → H2 p = some (.lst xs) → (∀ m, m < h2.length → p ≠ ι2 m) → Reps Z.X.K ι2 h2.length H2 xs (acc ++ rest) → Q (.ref p) H2, ?_, ?_⟩
  · refine ⟨turnsD j h1, ι1, h1, [], [], SD, R1.aside hD _, upd_same, fun m hm z => R1.off hD hm z.symm, .nil, (V.step S1 R).step SD R1, ?_⟩
    simpa using p1
  · rintro i m Hc ⟨ι', h', acc, xacc, Sn, R', eD, nD, rs, V', p'⟩
    have So : Step ι h H ι' h' Hc := S1.trans Sn
    obtain ⟨k1, k2⟩ := ok ι' h' Hc Sn R' i
    cases m with
    | zero => exact p'.elim
    | succ m =>
      unfold compI at p'
      cases en : nextD j h' i with
      | none => rw [en] at p'; exact p'.elim
      | some o =>
        rw [en] at p'
        cases o with
        | none =>
          have p' : RPost Z.X.K Z.cA Z.W σ ι h H (.ok [] h') _ := p'
          exact .inl ⟨k2 en, p' ι' Hc So R' D xacc hHD eD nD (by simpa using rs)⟩
        | some d =>
          obtain ⟨go, yl⟩ := k1 d en
          refine .inr ⟨go, fun H2 => ∃ ι' h' acc xacc, Step ι1 h1 H1 ι' h' H2 ∧ HRep Z.X.K Z.cA ι' H2 h' ∧ H2 D = some (.lst xacc) ∧ (∀ m, m < h'.length → D ≠ ι' m) ∧ Reps Z.X.K ι' h'.length H2 xacc acc ∧
            VRep Z.X.K ι' h'.length H2 σ env ∧ RPost Z.X.K Z.cA Z.W σ ι h H (compI j g t f (wipeD env vs) m (i + 1) acc.length h') fun rest h2 ι2 H2 => ∀ p xs, H p = none → H2 p = some (.lst xs) → (∀ m, m < h2.length → p ≠ ι2 m) → Reps Z.X.K ι2 h2.length H2 xs (acc ++ rest) → Q (.ref p) H2,
            fun H2 q => ⟨m, Nat.lt_succ_self _, q⟩, fun x H3 y => ?_⟩
          obtain ⟨S3, R3, r3⟩ := yl x H3 y
          have keepD : ∀ {ι4 : Nat → Addr} {h4 : Hd} {H4 : Hp}, Step ι' h' Hc ι4 h4 H4 → H4 D = some (.lst xacc) ∧ (∀ m, m < h4.length → D ≠ ι4 m) := fun {ι4 h4 H4} S => ⟨S.keep D _ eD nD, fun m hm z => by
            by_cases c : m < h'.length
            · exact nD m c (z.trans (S.eq m c))
            · have := S.fresh m (Nat.le_of_not_lt c) hm
              rw [← z, eD] at this; cases this⟩
          have p3 := RPost.bind1 (So.trans S3) p'
          refine hg x (wipe σ vs) H3 _ ⟨ι', wipeD env vs, h', d, R3, (V'.step S3 R').wipe vs, r3, (RPost.noW p3).mono fun env4 h4 ι4 H4 S4 R4 p4 σ4 w4 V4 => ⟨w4.trans wipe_wipe, ?_⟩⟩
          have S34 := S3.trans S4
          refine ht σ4 H4 _ ⟨ι4, env4, h4, R4, V4, (RPost.noW (RPost.bind1 (So.trans S34) p4)).mono fun b h5 ι5 H5 S5 R5 p5 => ?_⟩
          have S35 := S34.trans S5
          cases b with
          | true =>
            rw [if_pos rfl] at p5 ⊢
            refine he σ4 H5 _ ⟨ι5, env4, h5, R5, V4.step S5 R4, (RPost.noW (RPost.bind1 (So.trans S35) p5)).mono fun y h6 ι6 H6 S6 R6 p6 v r => ?_⟩
            have S36 := S35.trans S6
            obtain ⟨eD6, nD6⟩ := keepD S36
            by_cases c : acc.length < LIM
            · rw [if_pos c] at p6
              have rs6 := rs.step S36 R'
              have t6 := tkeep_write (K := Z.X.K) eD6 (.lst (xacc ++ [v]))
              refine ⟨xacc, eD6, lim_lt (by rw [rs.len]; exact c), ι6, h6, acc ++ [y], xacc ++ [v], (Sn.trans S36).write hD nD6 _, R6.write eD6 nD6 _, upd_same, nD6, (rs6.append (.cons r .nil)).keep t6 (Nat.le_refl _) fun _ _ => rfl, ?_, ?_⟩
              · have q := V'.step S36 R'
                exact ⟨q.len, fun j d e => by
                  obtain ⟨v, e1, r⟩ := q.var j d e
                  exact ⟨v, e1, r.keep t6 (Nat.le_refl _) fun _ _ => rfl⟩⟩
              · have p7 := RPost.bind0 p6
                rw [List.length_append]
                refine p7.mono fun rest h7 ι7 H7 S7 R7 p8 p xs e1 e2 e3 e4 => ?_
                have e4' : Reps Z.X.K ι7 h7.length H7 xs (acc ++ y :: rest) := by
                  have z : acc ++ y :: rest = acc ++ [y] ++ rest := by simp
                  rw [z]; exact e4
                exact (show RPost Z.X.K Z.cA Z.W σ ι h H (.ok (y :: rest) h7) _ from p8) ι7 H7 S7 R7 p xs e1 e2 e3 e4'
            · rw [if_neg c] at p6; exact p6.elim
          | false =>
            rw [if_neg Bool.false_ne_true] at p5 ⊢
            obtain ⟨eD5, nD5⟩ := keepD S35
            exact ⟨ι5, h5, acc, xacc, Sn.trans S35, R5, eD5, nD5, rs.step S35 R', V'.step S35 R', p5⟩

theorem RsPost.of0 {Dd : Ends} {σ : St} {ι : Nat → Addr} {H : Hp} {h : Hd} {α : Type} {r : Res α} {env : En} {k : α → Hd → Rs} (R : HRep Z.X.K Z.cA ι H h) (V : VRep Z.X.K ι h.length H σ env) (p : RsPost Z Dd ι h H (r.lift env k)) :
    RPost Z.X.K Z.cA Z.W σ ι h H r fun a h1 _ _ => RsPost Z Dd ι h H (k a h1) := by
  cases r with
  | ok a h1 => exact fun ι' H' S R' => p
  | exc c fs h1 => exact fun ι' H' cls od S R' x => p ι' H' S R' σ cls od (V.step S R) x
  | stuck => exact p
theorem kl_lc {elt tg iter : Expr} {ifs : List Expr} {scope : Scope} {own : List (Str × Nat)} {pos : Pos} {it : SI} {g : SG} {t : SB} {f : SE} (hc : Z.X.calm = true) (hN : Z.X.N.Nodup) (hi : KI Z tg iter it) (ok : BlkOk Z.X.N Z.X.env.scope scope own)
    (hg : ∀ s H C cl fp, KGw (Z.blk s H scope C cl fp) tg g (own.map (·.2))) (ht : ∀ s H C cl fp, KT (Z.blk s H scope C cl fp) ifs t) (he : ∀ s H C cl fp, KE (Z.blk s H scope C cl fp) elt f)
    (hs : ∀ x, foldedSetIterable iter Z.X.env x = pure x := by intro _; rfl) : KL Z (.ListComp elt [⟨tg, iter, ifs, 0⟩] scope pos) (sLc it g t f (own.map (·.2))) :=
  ⟨(pe_lc hc hN hi.pi ok (fun s H C cl fp => (hg s H C cl fp).pg) (fun s H C cl fp => (ht s H C cl fp).pts) (fun s H C cl fp => (he s H C cl fp).pe) hs).weak fun σ H Q q =>
    lc_of (fun _ _ _ _ q => q) (fun _ _ _ q => q) (fun _ _ _ q => q) q⟩
theorem ks_setLc {i : Nat} {y : Str} {py : Pos} {elt tg iter : Expr} {ifs : List Expr} {scope : Scope} {own : List (Str × Nat)} {pos spos : Pos} {it : SI} {g : SG} {t : SB} {f : SE} (hc : Z.X.calm = true) (hN : Z.X.N.Nodup) (hy : Z.X.N[i]? = some y) (hyl : Z.X.env.scope.names.lookup y = some .local)
    (hsw : swapsWith (.ListComp elt [⟨tg, iter, ifs, 0⟩] scope pos) (some (.Name y py)) spos.line Z.X.env = pure true) (hi : KI Z tg iter it) (ok : BlkOk Z.X.N Z.X.env.scope scope own)
    (hg : ∀ s H C cl fp, KGw (Z.blk s H scope C cl fp) tg g (own.map (·.2))) (ht : ∀ s H C cl fp, KT (Z.blk s H scope C cl fp) ifs t) (he : ∀ s H C cl fp, KE (Z.blk s H scope C cl fp) elt f)
    (hs : ∀ x, foldedSetIterable iter Z.X.env x = pure x := by intro _; rfl) : KS Z (.Assign [.Name y py] (.ListComp elt [⟨tg, iter, ifs, 0⟩] scope pos) spos) (sAsg (sNew (sLc it g t f (own.map (·.2)))) (gN i)) :=
  ⟨(ps_setLc hc hN hy hyl hsw hi.pi ok (fun s H C cl fp => (hg s H C cl fp).pg) (fun s H C cl fp => (ht s H C cl fp).pts) (fun s H C cl fp => (he s H C cl fp).pe) hs).weak fun Dd σ H ⟨ι, env, h, R, V, p⟩ => by
    refine lc_of (fun _ _ _ _ q => q) (fun _ _ _ q => q) (fun _ _ _ q => q) ⟨ι, env, h, R, V, (RPost.bind0 (RsPost.of0 R V p)).mono fun ds h1 ι1 H1 S1 R1 p1 a vs hH ea hn rs => ?_⟩
    have V2 := V.step (S1.take hH (.lst ds)) R
    have r : Rep Z.X.K (more ι1 h1.length a) (h1 ++ [O.lst ds]).length H1 (.ref (more ι1 h1.length a h1.length)) (.ref h1.length) := .ref (by simp)
    rw [more_at] at r
    exact (show RPost Z.X.K Z.cA Z.W σ ι h H (.ok (D.ref h1.length) (h1 ++ [.lst ds])) (fun d h2 _ _ => RsPost Z Dd ι h H ((noX (gN i d env h2)).lift env fun env' h2 => Rs.ok (Fl.nx env') h2)) from p1) _ H1 (S1.take hH _) (R1.take ea hn (.lst rs)) _ H1 (S1.take hH _) (R1.take ea hn (.lst rs)) _ (V2.set r)⟩
end
end Kf
end
section
set_option maxHeartbeats 4000000
/-! Kf: operators. -/
namespace Kf
open PySem PySem.Spec L2
/-! ### what data a value is -/
def allS {α : Type} : List (Option α) → Option (List α)
  | [] => some []
  | some x :: xs => (allS xs).map (x :: ·)
  | none :: _ => none
def py (h : Hd) : Nat → D → Option PyData
  | 0, _ => none
  | _ + 1, .non => some .none
  | _ + 1, .bl b => some (.bool b)
  | _ + 1, .int i => some (.int i)
  | _ + 1, .str s => some (.str (Str.ofString s))
  | n + 1, .tup ds => (allS (ds.map (py h n))).map .tuple
  | n + 1, .fls ds => (allS (ds.map (py h n))).map .list
  | n + 1, .ref m => match h[m]? with
    | some (.lst ds) => (allS (ds.map (py h n))).map .list
    | _ => none
  | _ + 1, .xc _ _ _ _ => none
theorem allS_some {α β : Type} {f : α → Option β} : ∀ {xs : List α} {ys : List β}, allS (xs.map f) = some ys → Paired (fun x y => f x = some y) xs ys
  | [], ys, e => by simp [allS] at e; subst e; exact .nil
  | x :: xs, ys, e => by
    simp only [List.map_cons] at e
    cases q : f x with
    | none => rw [q] at e; simp [allS] at e
    | some y =>
      rw [q] at e
      simp only [allS, Option.map_eq_some_iff] at e
      obtain ⟨zs, e1, e2⟩ := e
      subst e2
      exact .cons q (allS_some e1)
section
variable {K : PySem.W.Frag} {cA : CA} {ι : Nat → Addr} {H : Hp} {h : Hd}
theorem strOk_of (s : String) : PyData.strOk (Str.ofString s) = true := by
  rw [Str.ofString_eq_toList]
  unfold PyData.strOk
  simp only [List.all_toArray, List.all_map, List.all_eq_true]
  intro c _
  have := c.valid
  have h2 : c.toNat < 0x110000 := by
    have : c.val.toNat < 0x110000 := by
      rcases c.valid with h | h
      · exact Nat.lt_trans h (by decide)
      · exact h.2
    exact this
  simpa using h2
theorem py_ok : ∀ {n : Nat} {d : D} {p : PyData}, py h n d = some p → p.canLay0 = true ∧ p.depth ≤ n
  | 0, d, p, e => by simp [py] at e
  | n + 1, .non, p, e => by simp [py] at e; subst e; exact ⟨rfl, Nat.zero_le _⟩
  | n + 1, .bl _, p, e => by simp [py] at e; subst e; exact ⟨rfl, Nat.zero_le _⟩
  | n + 1, .int _, p, e => by simp [py] at e; subst e; exact ⟨rfl, Nat.zero_le _⟩
  | n + 1, .str s, p, e => by simp [py] at e; subst e; exact ⟨strOk_of s, Nat.zero_le _⟩
  | n + 1, .tup ds, p, e => by
    simp only [py, Option.map_eq_some_iff] at e
    obtain ⟨ys, e1, e2⟩ := e
    subst e2
    have q := allS_some e1
    have r : PyData.canLayAll0 ys = true ∧ PyData.depthAll ys ≤ n := by
      clear e1
      induction q with
      | nil => exact ⟨rfl, Nat.zero_le _⟩
      | cons z _ ih =>
        have ⟨z1, z2⟩ := py_ok z
        exact ⟨by simp [PyData.canLayAll0, z1, ih.1], by simp only [PyData.depthAll]; omega⟩
    exact ⟨by simpa [PyData.canLay0] using r.1, by have := r.2; simp only [PyData.depth]; omega⟩
  | n + 1, .fls ds, p, e => by
    simp only [py, Option.map_eq_some_iff] at e
    obtain ⟨ys, e1, e2⟩ := e
    subst e2
    have q := allS_some e1
    have r : PyData.canLayAll0 ys = true ∧ PyData.depthAll ys ≤ n := by
      clear e1
      induction q with
      | nil => exact ⟨rfl, Nat.zero_le _⟩
      | cons z _ ih =>
        have ⟨z1, z2⟩ := py_ok z
        exact ⟨by simp [PyData.canLayAll0, z1, ih.1], by simp only [PyData.depthAll]; omega⟩
    exact ⟨by simpa [PyData.canLay0] using r.1, by have := r.2; simp only [PyData.depth]; omega⟩
  | n + 1, .xc _ _ _ _, p, e => by simp [py] at e
  | n + 1, .ref m, p, e => by
    unfold py at e
    cases hm : h[m]? with
    | none => rw [hm] at e; simp at e
    | some o =>
      rw [hm] at e
      cases o with
      | lst ds =>
        simp only [Option.map_eq_some_iff] at e
        obtain ⟨ys, e1, e2⟩ := e
        subst e2
        have q := allS_some e1
        have r : PyData.canLayAll0 ys = true ∧ PyData.depthAll ys ≤ n := by
          clear e1 hm
          induction q with
          | nil => exact ⟨rfl, Nat.zero_le _⟩
          | cons z _ ih =>
            have ⟨z1, z2⟩ := py_ok z
            exact ⟨by simp [PyData.canLayAll0, z1, ih.1], by simp only [PyData.depthAll]; omega⟩
        exact ⟨by simpa [PyData.canLay0] using r.1, by have := r.2; simp only [PyData.depth]; omega⟩
      | dict _ => simp at e
      | lkd _ => simp at e
      | ins _ _ => simp at e
theorem py_shaped {n : Nat} {d : D} {p : PyData} (hn : n ≤ 64) (e : py h n d = some p) : SeqAt.shaped p = true := by
  obtain ⟨a, b⟩ := py_ok e
  unfold SeqAt.shaped
  rw [a, decide_eq_true (by omega)]
  rfl
theorem py_dp (R : HRep K cA ι H h) : ∀ {n : Nat} {d : D} {p : PyData} {v : V}, py h n d = some p → Rep K ι h.length H v d → Dp K H v p
  | 0, d, p, v, e, _ => by simp [py] at e
  | n + 1, .non, p, v, e, r => by simp [py] at e; subst e; cases r; exact .non
  | n + 1, .bl _, p, v, e, r => by simp [py] at e; subst e; cases r; exact .bl _
  | n + 1, .int _, p, v, e, r => by simp [py] at e; subst e; cases r; exact .int _
  | n + 1, .str s, p, v, e, r => by simp [py] at e; subst e; cases r; exact .str _
  | n + 1, .tup ds, p, v, e, r => by
    simp only [py, Option.map_eq_some_iff] at e
    obtain ⟨ys, e1, e2⟩ := e
    subst e2
    cases r with
    | tup q rs =>
      refine .tup q ?_
      have w := allS_some e1
      clear e1 q
      rename_i a xs
      induction w generalizing xs with
      | nil => cases rs; exact .nil
      | cons z _ ih => cases rs with | cons r1 r2 => exact .cons (py_dp R z r1) (ih r2)
  | n + 1, .fls ds, p, v, e, r => by
    simp only [py, Option.map_eq_some_iff] at e
    obtain ⟨ys, e1, e2⟩ := e
    subst e2
    cases r with
    | fls q rs =>
      refine .lst q.sql ?_
      have w := allS_some e1
      clear e1 q
      rename_i a xs
      induction w generalizing xs with
      | nil => cases rs; exact .nil
      | cons z _ ih => cases rs with | cons r1 r2 => exact .cons (py_dp R z r1) (ih r2)
  | n + 1, .xc _ _ _ _, p, v, e, r => by simp [py] at e
  | n + 1, .ref m, p, v, e, r => by
    unfold py at e
    cases hm : h[m]? with
    | none => rw [hm] at e; simp at e
    | some o =>
      rw [hm] at e
      cases o with
      | lst ds =>
        simp only [Option.map_eq_some_iff] at e
        obtain ⟨ys, e1, e2⟩ := e
        subst e2
        cases r with
        | ref hlt =>
          obtain ⟨ho, e3, ro⟩ := R.obj m _ hm
          cases ro with
          | lst rs =>
            refine .lst (.of e3) ?_
            have w := allS_some e1
            clear e1 e3 hm hlt
            rename_i xs
            induction w generalizing xs with
            | nil => cases rs; exact .nil
            | cons z _ ih => cases rs with | cons r1 r2 => exact .cons (py_dp R z r1) (ih r2)
      | dict _ => simp at e
      | lkd _ => simp at e
      | ins _ _ => simp at e
end

section
variable {Z : Kx}
open PySem.SeqAt PySem.W
/-! ### comparisons of data -/
def f2P (g : PyData → PyData → Option Bool) : F2 := fun x y h => match py h 60 x, py h 60 y with
  | some p, some q => match g p q with
    | some b => .ok (.bl b) h
    | none => .stuck
  | _, _ => .stuck
abbrev eqF : F2 := f2P fun p q => some (PyData.eqv p q)
abbrev neF : F2 := f2P fun p q => some (!PyData.eqv p q)
def isNonP : PyData → Bool
  | .none => true
  | _ => false
def cmpG (r : PyData → PyData → Bool) : PyData → PyData → Option Bool := fun p q => if alike p q = true ∧ isNonP p = false then some (r p q) else none
abbrev ltF : F2 := f2P (cmpG fun p q => dataLt p q)
abbrev gtF : F2 := f2P (cmpG fun p q => dataLt q p)
abbrev leF : F2 := f2P (cmpG fun p q => !dataLt q p)
abbrev geF : F2 := f2P (cmpG fun p q => !dataLt p q)
theorem f2P_post {g : PyData → PyData → Option Bool} {σ : St} {ι : Nat → Addr} {h : Hd} {H : Hp} {dx dy : D} {P : D → Hd → (Nat → Addr) → Hp → Prop} (R : HRep Z.X.K Z.cA ι H h) (p : RPost Z.X.K Z.cA Z.W σ ι h H (f2P g dx dy h) P) :
    ∃ a b c, py h 60 dx = some a ∧ py h 60 dy = some b ∧ g a b = some c ∧ P (.bl c) h ι H := by
  unfold f2P at p
  cases e1 : py h 60 dx with
  | none => rw [e1] at p; exact p.elim
  | some a =>
    cases e2 : py h 60 dy with
    | none => rw [e1, e2] at p; exact p.elim
    | some b =>
      rw [e1, e2] at p
      have p : RPost Z.X.K Z.cA Z.W σ ι h H (match g a b with | some b => .ok (.bl b) h | none => .stuck) P := p
      cases e3 : g a b with
      | none => rw [e3] at p; exact p.elim
      | some c => rw [e3] at p; exact ⟨a, b, c, rfl, rfl, e3, RPost.ok R p⟩
theorem ko_eq (hu : Z.X.A.units + 64 < cLine) : OpK Z (compareOp .Eq) eqF := ⟨_, op_eqD hu, fun σ ι h H x y dx dy Q R rx ry p => by
  obtain ⟨a, b, c, e1, e2, e3, q⟩ := f2P_post R p
  cases e3
  exact ⟨a, b, py_dp R e1 rx, py_dp R e2 ry, py_shaped (by decide) e1, py_shaped (by decide) e2, q _ .bl⟩⟩
theorem ko_ne (hu : Z.X.A.units + 64 < cLine) : OpK Z (compareOp .NotEq) neF := ⟨_, op_neD hu, fun σ ι h H x y dx dy Q R rx ry p => by
  obtain ⟨a, b, c, e1, e2, e3, q⟩ := f2P_post R p
  cases e3
  exact ⟨a, b, py_dp R e1 rx, py_dp R e2 ry, py_shaped (by decide) e1, py_shaped (by decide) e2, q _ .bl⟩⟩
def rCmp (K : PySem.W.Frag) (r : PyData → PyData → Bool) : R2 := fun x y H Q => ∃ a b, Dp K H x a ∧ Dp K H y b ∧ alike a b = true ∧ a ≠ .none ∧ a.depth ≤ 64 ∧ Q (.bl (r a b)) H
theorem isNonP_ne {p : PyData} (h : isNonP p = false) : p ≠ .none := by intro e; subst e; cases h
theorem ko_cmp {op : CmpOp} {r : PyData → PyData → Bool} (o : OpR Z.X (compareOp op) (rCmp Z.X.K r)) : OpK Z (compareOp op) (f2P (cmpG r)) := ⟨_, o, fun σ ι h H x y dx dy Q R rx ry p => by
  obtain ⟨a, b, c, e1, e2, e3, q⟩ := f2P_post R p
  unfold cmpG at e3
  split at e3
  · rename_i hc
    cases e3
    exact ⟨a, b, py_dp R e1 rx, py_dp R e2 ry, hc.1, isNonP_ne hc.2, by have := (py_ok e1).2; omega, q _ .bl⟩
  · cases e3⟩
theorem room_min {u a b : Nat} (h : u + 64 < cLine) (ha : a ≤ 64) : u + min a b < cLine := by
  have := Nat.min_le_left a b
  omega
theorem ko_ltD (hu : Z.X.A.units + 64 < cLine) : OpK Z (compareOp .Lt) ltF := ko_cmp fun pins s σ H x y v u Q I rx ry ⟨a, b, ha, hb, hl, hn, hd, q⟩ => by
  obtain ⟨as, r1⟩ := Dp.reads I a x v ha rx
  obtain ⟨bs, r2⟩ := Dp.reads I b y u hb ry
  exact lt_data r1 r2 hl hn (room_min hu hd) ⟨.bl _, H, I, rfl, q⟩
theorem ko_gtD (hu : Z.X.A.units + 64 < cLine) : OpK Z (compareOp .Gt) gtF := ko_cmp fun pins s σ H x y v u Q I rx ry ⟨a, b, ha, hb, hl, hn, hd, q⟩ => by
  obtain ⟨as, r1⟩ := Dp.reads I a x v ha rx
  obtain ⟨bs, r2⟩ := Dp.reads I b y u hb ry
  exact gt_data r1 r2 hl hn (room_min hu hd) ⟨.bl _, H, I, rfl, q⟩
theorem ko_leD (hu : Z.X.A.units + 64 < cLine) : OpK Z (compareOp .LtE) leF := ko_cmp fun pins s σ H x y v u Q I rx ry ⟨a, b, ha, hb, hl, hn, hd, q⟩ => by
  obtain ⟨as, r1⟩ := Dp.reads I a x v ha rx
  obtain ⟨bs, r2⟩ := Dp.reads I b y u hb ry
  exact le_data r1 r2 hl hn (room_min hu hd) ⟨.bl _, H, I, rfl, q⟩
theorem ko_geD (hu : Z.X.A.units + 64 < cLine) : OpK Z (compareOp .GtE) geF := ko_cmp fun pins s σ H x y v u Q I rx ry ⟨a, b, ha, hb, hl, hn, hd, q⟩ => by
  obtain ⟨as, r1⟩ := Dp.reads I a x v ha rx
  obtain ⟨bs, r2⟩ := Dp.reads I b y u hb ry
  exact ge_data r1 r2 hl hn (room_min hu hd) ⟨.bl _, H, I, rfl, q⟩
def isNonD : D → Bool
  | .non => true
  | _ => false
theorem isNon_rep {K : PySem.W.Frag} {ι : Nat → Addr} {n : Nat} {H : Hp} {x : V} {d : D} (r : Rep K ι n H x d) : decide (x = .non) = isNonD d := by cases r <;> simp [isNonD]
def isF : F2 := fun x y h => match y with | .non => .ok (.bl (isNonD x)) h | _ => .stuck
def notF : F2 := fun x y h => match y with | .non => .ok (.bl (!isNonD x)) h | _ => .stuck
theorem ko_is : OpK Z (compareOp .Is) isF := ⟨_, op_isN, fun σ ι h H x y dx dy Q R rx ry p => by
  cases ry with
  | non => exact ⟨rfl, by rw [isNon_rep rx]; exact RPost.ok R p _ .bl⟩
  | bl => exact p.elim
  | int => exact p.elim
  | str => exact p.elim
  | xc0 => exact p.elim
  | xc _ _ => exact p.elim
  | fls _ _ => exact p.elim
  | tup _ _ => exact p.elim
  | ref _ => exact p.elim⟩
theorem ko_isnot : OpK Z (compareOp .IsNot) notF := ⟨_, op_notN, fun σ ι h H x y dx dy Q R rx ry p => by
  cases ry with
  | non => exact ⟨rfl, by rw [isNon_rep rx]; exact RPost.ok R p _ .bl⟩
  | bl => exact p.elim
  | int => exact p.elim
  | str => exact p.elim
  | xc0 => exact p.elim
  | xc _ _ => exact p.elim
  | fls _ _ => exact p.elim
  | tup _ _ => exact p.elim
  | ref _ => exact p.elim⟩
/-! ### arithmetic -/
theorem ko_mul : OpK Z (binaryOp .Mult) (f2I (fun i j => (decide (-(18446744073709551616) < i) && decide (i < 18446744073709551616)) || (decide (-(18446744073709551616) < j) && decide (j < 18446744073709551616))) fun i j => .int (i * j)) :=
  .ints op_mul (fun i j c => by
    simp only [Bool.or_eq_true, Bool.and_eq_true, decide_eq_true_eq] at c
    have e : (2 : Int) ^ 64 = 18446744073709551616 := by decide
    unfold CMul
    rw [e]; exact c) fun _ _ _ _ _ => .int
theorem ko_fdiv : OpK Z (binaryOp .FloorDiv) (f2I (fun _ j => decide (0 < j) && decide (j < 1073741824)) fun i j => .int (i / j)) :=
  .ints op_fdiv (fun i j c => by simpa [CDiv] using c) fun _ _ _ _ _ => .int
theorem ko_pow : OpK Z (binaryOp .Pow) (f2I (fun i j => decide (0 ≤ j) && decide (j ≤ 1000000) && decide (i.natAbs < 18446744073709551616)) fun i j => .int (i ^ j.toNat)) :=
  .ints op_pow (fun i j c => by
    simp only [Bool.and_eq_true, decide_eq_true_eq] at c
    have e : (2 : Nat) ^ 64 = 18446744073709551616 := by decide
    unfold CPow
    rw [e]; exact ⟨c.1.1, c.1.2, c.2⟩) fun _ _ _ _ _ => .int
/-! ### + of texts and tuples -/
theorem ofString_append (s t : String) : Str.ofString (s ++ t) = Str.ofString s ++ Str.ofString t := by
  rw [Str.ofString_eq_toList, Str.ofString_eq_toList, Str.ofString_eq_toList]
  show _ = Str.append _ _
  unfold Str.append
  simp
theorem ofString_length (s : String) : (Str.ofString s).length = s.length := by
  rw [Str.ofString_eq_toList]
  simp [Str.length, String.length_toList]
def addS : F2 := fun x y h => match x, y with | .str s, .str t => if s.length + t.length ≤ LIM then .ok (.str (s ++ t)) h else .stuck | _, _ => .stuck
def addT : F2 := fun x y h => match x, y with | .tup s, .tup t => if s.length + t.length ≤ LIM then .ok (.tup (s ++ t)) h else .stuck | _, _ => .stuck
theorem ko_addS : OpK Z (binaryOp .Add) addS := ⟨_, op_add_str, fun σ ι h H x y dx dy Q R rx ry p => by
  cases rx <;> cases ry <;> first | exact p.elim | skip
  rename_i s t
  have p : RPost Z.X.K Z.cA Z.W σ ι h H (if s.length + t.length ≤ LIM then .ok (D.str (s ++ t)) h else .stuck) _ := p
  by_cases c : s.length + t.length ≤ LIM
  · rw [if_pos c] at p
    exact ⟨_, _, rfl, rfl, by rw [ofString_length, ofString_length]; exact lim_le c, by
      rw [← ofString_append]; exact RPost.ok R p _ .str⟩
  · rw [if_neg c] at p; exact p.elim⟩
theorem ko_addT : OpK Z (binaryOp .Add) addT := ⟨_, op_catA, fun σ ι h H x y dx dy Q R rx ry p => by
  cases rx <;> cases ry <;> first | exact p.elim | skip
  rename_i a xs s q1 rs b ys t q2 rt
  have p : RPost Z.X.K Z.cA Z.W σ ι h H (if s.length + t.length ≤ LIM then .ok (D.tup (s ++ t)) h else .stuck) _ := p
  by_cases c : s.length + t.length ≤ LIM
  · rw [if_pos c] at p
    refine ⟨a, b, xs, ys, rfl, rfl, q1, q2, by rw [rs.len, rt.len]; exact lim_le c, fun e => ?_, fun _ e => ?_, fun _ _ a ha => ?_⟩
    · subst e
      cases rs
      exact RPost.ok R p _ (.tup q2 rt)
    · subst e
      cases rt
      rw [List.append_nil] at p
      exact RPost.ok R p _ (.tup q1 rs)
    · have S2 := Step.aside R ha (.tup (xs ++ ys))
      exact p ι _ S2 (R.aside ha _) _ (.tup (.of upd_same) ((rs.append rt).step S2 R))
  · rw [if_neg c] at p; exact p.elim⟩
/-- + of ints, texts, tuples -/
def addF : F2 := fun x y h => match x with
  | .int _ => f2I yes2 (fun i j => .int (i + j)) x y h
  | .str _ => addS x y h
  | .tup _ => addT x y h
  | _ => .stuck
theorem ko_plus : OpK Z (binaryOp .Add) addF := .alt ko_add (.alt ko_addS ko_addT (M := fun x y h => match x with | .str _ => addS x y h | _ => addT x y h) fun x y h => by cases x <;> simp) fun x y h => by
  cases x <;> simp [addF, f2I, addS, addT]
end

/-! ### results by cases -/
def onSome {α β : Type} (o : Option α) (k : α → Res β) : Res β := match o with | some a => k a | none => .stuck
@[simp] theorem onSome_some {α β : Type} (a : α) (k : α → Res β) : onSome (some a) k = k a := id rfl
def asInt {β : Type} (d : D) (k : Int → Res β) : Res β := match d with | .int i => k i | _ => .stuck
@[simp] theorem asInt_int {β : Type} (i : Int) (k : Int → Res β) : asInt (.int i) k = k i := id rfl
def asTup {β : Type} (d : D) (k : List D → Res β) : Res β := match d with | .tup i => k i | _ => .stuck
@[simp] theorem asTup_tup {β : Type} (i : List D) (k : List D → Res β) : asTup (.tup i) k = k i := id rfl
def asStr {β : Type} (d : D) (k : String → Res β) : Res β := match d with | .str i => k i | _ => .stuck
@[simp] theorem asStr_str {β : Type} (i : String) (k : String → Res β) : asStr (.str i) k = k i := id rfl
def asRef {β : Type} (d : D) (k : Nat → Res β) : Res β := match d with | .ref i => k i | _ => .stuck
@[simp] theorem asRef_ref {β : Type} (i : Nat) (k : Nat → Res β) : asRef (.ref i) k = k i := id rfl
def asBl {β : Type} (d : D) (k : Bool → Res β) : Res β := match d with | .bl i => k i | _ => .stuck
@[simp] theorem asBl_bl {β : Type} (i : Bool) (k : Bool → Res β) : asBl (.bl i) k = k i := id rfl
def onLst {β : Type} (h : Hd) (m : Nat) (k : List D → Res β) : Res β := match h[m]? with | some (.lst ds) => k ds | _ => .stuck
theorem onLst_of {β : Type} {h : Hd} {m : Nat} {ds : List D} (e : h[m]? = some (.lst ds)) (k : List D → Res β) : onLst h m k = k ds := by unfold onLst; rw [e]
def onDict {β : Type} (h : Hd) (m : Nat) (k : List (D × D) → Res β) : Res β := match h[m]? with | some (.dict ds) => k ds | _ => .stuck
theorem onDict_of {β : Type} {h : Hd} {m : Nat} {ds : List (D × D)} (e : h[m]? = some (.dict ds)) (k : List (D × D) → Res β) : onDict h m k = k ds := by unfold onDict; rw [e]
def onIns {β : Type} (h : Hd) (m : Nat) (k : String → List (String × D) → Res β) : Res β := match h[m]? with | some (.ins c fs) => k c fs | _ => .stuck
theorem onIns_of {β : Type} {h : Hd} {m : Nat} {c : String} {fs : List (String × D)} (e : h[m]? = some (.ins c fs)) (k : String → List (String × D) → Res β) : onIns h m k = k c fs := by unfold onIns; rw [e]
def guard' {β : Type} (c : Prop) [Decidable c] (r : Res β) : Res β := if c then r else .stuck
theorem guard_of {β : Type} {c : Prop} [Decidable c] (hc : c) (r : Res β) : guard' c r = r := if_pos hc
def fa1 {β : Type} (g : D → Hd → Res β) : List D → Hd → Res β := fun ds h => match ds with | [d] => g d h | _ => .stuck
@[simp] theorem fa1_one {β : Type} (g : D → Hd → Res β) (d : D) (h : Hd) : fa1 g [d] h = g d h := id rfl
def fa2 {β : Type} (g : D → D → Hd → Res β) : List D → Hd → Res β := fun ds h => match ds with | [d, e] => g d e h | _ => .stuck
@[simp] theorem fa2_two {β : Type} (g : D → D → Hd → Res β) (d e : D) (h : Hd) : fa2 g [d, e] h = g d e h := id rfl
section
variable {K : PySem.W.Frag} {cA : CA} {W : WX} {σ : St} {ι : Nat → Addr} {H : Hp} {h : Hd} {α β : Type} {P : β → Hd → (Nat → Addr) → Hp → Prop}
theorem RPost.onSome {o : Option α} {k : α → Res β} (p : RPost K cA W σ ι h H (onSome o k) P) : ∃ a, o = some a ∧ RPost K cA W σ ι h H (k a) P := by
  cases o with
  | none => exact p.elim
  | some a => exact ⟨a, rfl, p⟩
theorem RPost.asInt {d : D} {k : Int → Res β} (p : RPost K cA W σ ι h H (asInt d k) P) : ∃ i, d = .int i ∧ RPost K cA W σ ι h H (k i) P := by
  cases d <;> first | exact ⟨_, rfl, p⟩ | exact p.elim
theorem RPost.asTup {d : D} {k : List D → Res β} (p : RPost K cA W σ ι h H (asTup d k) P) : ∃ i, d = .tup i ∧ RPost K cA W σ ι h H (k i) P := by
  cases d <;> first | exact ⟨_, rfl, p⟩ | exact p.elim
theorem RPost.asStr {d : D} {k : String → Res β} (p : RPost K cA W σ ι h H (asStr d k) P) : ∃ i, d = .str i ∧ RPost K cA W σ ι h H (k i) P := by
  cases d <;> first | exact ⟨_, rfl, p⟩ | exact p.elim
theorem RPost.asRef {d : D} {k : Nat → Res β} (p : RPost K cA W σ ι h H (asRef d k) P) : ∃ i, d = .ref i ∧ RPost K cA W σ ι h H (k i) P := by
  cases d <;> first | exact ⟨_, rfl, p⟩ | exact p.elim
theorem RPost.asBl {d : D} {k : Bool → Res β} (p : RPost K cA W σ ι h H (asBl d k) P) : ∃ i, d = .bl i ∧ RPost K cA W σ ι h H (k i) P := by
  cases d <;> first | exact ⟨_, rfl, p⟩ | exact p.elim
theorem RPost.onLst {h2 : Hd} {m : Nat} {k : List D → Res β} (p : RPost K cA W σ ι h H (onLst h2 m k) P) : ∃ ds, h2[m]? = some (.lst ds) ∧ RPost K cA W σ ι h H (k ds) P := by
  unfold Kf.onLst at p
  cases e : h2[m]? with
  | none => rw [e] at p; exact p.elim
  | some o => rw [e] at p; cases o <;> first | exact ⟨_, rfl, p⟩ | exact p.elim
theorem RPost.onDict {h2 : Hd} {m : Nat} {k : List (D × D) → Res β} (p : RPost K cA W σ ι h H (onDict h2 m k) P) : ∃ ds, h2[m]? = some (.dict ds) ∧ RPost K cA W σ ι h H (k ds) P := by
  unfold Kf.onDict at p
  cases e : h2[m]? with
  | none => rw [e] at p; exact p.elim
  | some o => rw [e] at p; cases o <;> first | exact ⟨_, rfl, p⟩ | exact p.elim
theorem RPost.onIns {h2 : Hd} {m : Nat} {k : String → List (String × D) → Res β} (p : RPost K cA W σ ι h H (onIns h2 m k) P) : ∃ c fs, h2[m]? = some (.ins c fs) ∧ RPost K cA W σ ι h H (k c fs) P := by
  unfold Kf.onIns at p
  cases e : h2[m]? with
  | none => rw [e] at p; exact p.elim
  | some o => rw [e] at p; cases o <;> first | exact ⟨_, _, rfl, p⟩ | exact p.elim
theorem RPost.guard {c : Prop} [Decidable c] {r : Res β} (p : RPost K cA W σ ι h H (guard' c r) P) : c ∧ RPost K cA W σ ι h H r P := by
  unfold guard' at p
  by_cases q : c
  · rw [if_pos q] at p; exact ⟨q, p⟩
  · rw [if_neg q] at p; exact p.elim
theorem RPost.fa1 {g : D → Hd → Res β} {ds : List D} {h2 : Hd} (p : RPost K cA W σ ι h H (fa1 g ds h2) P) : ∃ d, ds = [d] ∧ RPost K cA W σ ι h H (g d h2) P := by
  match ds, p with
  | [], p => exact p.elim
  | [d], p => exact ⟨d, rfl, p⟩
  | _ :: _ :: _, p => exact p.elim
theorem RPost.fa2 {g : D → D → Hd → Res β} {ds : List D} {h2 : Hd} (p : RPost K cA W σ ι h H (fa2 g ds h2) P) : ∃ d e, ds = [d, e] ∧ RPost K cA W σ ι h H (g d e h2) P := by
  match ds, p with
  | [], p => exact p.elim
  | [d], p => exact p.elim
  | [d, e], p => exact ⟨d, e, rfl, p⟩
  | _ :: _ :: _ :: _, p => exact p.elim
end
end Kf
end
section
set_option maxHeartbeats 4000000
/-! Kf: subscripts, slices, calls of built-ins. -/
namespace Kf
open PySem PySem.Spec L2
section
variable {K : PySem.W.Frag} {cA : CA} {ι : Nat → Addr} {n : Nat} {H : Hp} {h : Hd}
theorem items_rep (R : HRep K cA ι H h) {v : V} {d : D} {ds : List D} (r : Rep K ι h.length H v d) (e : itemsD h d = some ds) : ∃ a xs, v = .ref a ∧ (SqL K H a xs ∨ SqT K H a xs) ∧ Reps K ι h.length H xs ds := by
  cases r with
  | tup q rs => cases e; exact ⟨_, _, rfl, .inr q, rs⟩
  | fls q rs => cases e; exact ⟨_, _, rfl, .inl q.sql, rs⟩
  | ref hlt =>
    rename_i m
    have e : (match h[m]? with | some (O.lst ds) => some ds | _ => none) = some ds := e
    cases hm : h[m]? with
    | none => rw [hm] at e; cases e
    | some o =>
      rw [hm] at e
      cases o with
      | lst es =>
        cases e
        obtain ⟨ho, e3, ro⟩ := R.obj m _ hm
        cases ro with
        | lst rs => exact ⟨_, _, rfl, .inl (.of e3), rs⟩
      | dict _ => cases e
      | lkd _ => cases e
      | ins _ _ => cases e
  | xc0 => cases e
  | xc _ _ => cases e
  | non => cases e
  | bl => cases e
  | int => cases e
  | str => cases e
theorem atI_rep {xs : List V} {ds : List D} {i : Int} {d : D} (rs : Reps K ι n H xs ds) (e : atI ds i = some d) : ∃ v, atI xs i = some v ∧ Rep K ι n H v d := by
  unfold atI at e ⊢
  rw [rs.len]
  cases q : ixN ds.length i with
  | none => rw [q] at e; cases e
  | some j => rw [q] at e; exact rs.get e
theorem Reps.take : ∀ {vs : List V} {ds : List D} (k : Nat), Reps K ι n H vs ds → Reps K ι n H (vs.take k) (ds.take k)
  | _, _, 0, _ => .nil
  | _, _, _ + 1, .nil => .nil
  | _, _, k + 1, .cons r q => .cons r (Reps.take k q)
theorem Reps.drop : ∀ {vs : List V} {ds : List D} (k : Nat), Reps K ι n H vs ds → Reps K ι n H (vs.drop k) (ds.drop k)
  | _, _, 0, q => q
  | _, _, _ + 1, .nil => .nil
  | _, _, k + 1, .cons _ q => Reps.drop k q
def cutD (ds : List D) (lo hi : Option Int) : List D := (ds.drop (HT.sIx ds.length 0 lo)).take (HT.sIx ds.length ds.length hi - HT.sIx ds.length 0 lo)
theorem Reps.cut {vs : List V} {ds : List D} (r : Reps K ι n H vs ds) (lo hi : Option Int) : Reps K ι n H (cutV vs lo hi) (cutD ds lo hi) := by
  unfold cutV cutD
  rw [r.len]
  exact (r.drop _).take _
end
section
variable {Z : Kx}
/-! ### subscripts -/
def IxK (Z : Kx) (F : F2) : Prop := ∃ r : R2, IxR Z.X r ∧ ∀ (σ : St) (ι : Nat → Addr) (h : Hd) (H : Hp) (x y : V) (dx dy : D) (Q : VK), HRep Z.X.K Z.cA ι H h → Rep Z.X.K ι h.length H x dx → Rep Z.X.K ι h.length H y dy →
  RPost Z.X.K Z.cA Z.W σ ι h H (F dx dy h) (fun d h' ι' H' => ∀ v, Rep Z.X.K ι' h'.length H' v d → Q v H') → r x y H Q
theorem ke_ix {F : F2} {a b : Expr} {f g : SE} {pos : Pos} (ho : IxK Z F) (ha : KE Z a f) (hb : KE Z b g) (hs : PlainIx b := by exact fun _ _ => rfl) : KE Z (.Subscript a b pos) (s2 F f g) := by
  obtain ⟨r, hr, k⟩ := ho
  exact ⟨(pe_ix hr ha.pe hb.pe hs).weak (t2_of k)⟩
def ixF : F2 := fun x y h => asInt y fun i => onSome (itemsD h x) fun ds => onSome (atI ds i) fun d => .ok d h
theorem ik_seq : IxK Z ixF := ⟨_, ix_list.or ix_tup, fun σ ι h H x y dx dy Q R rx ry p => by
  obtain ⟨i, rfl, p⟩ := p.asInt
  obtain ⟨ds, e, p⟩ := p.onSome
  obtain ⟨d, e2, p⟩ := p.onSome
  cases ry
  obtain ⟨a, xs, rfl, q, rs⟩ := items_rep R rx e
  obtain ⟨v, ev, r⟩ := atI_rep rs e2
  rcases q with q | q
  · exact .inl ⟨a, xs, i, v, rfl, rfl, q, ev, RPost.ok R p v r⟩
  · exact .inr ⟨a, xs, i, v, rfl, rfl, q, ev, RPost.ok R p v r⟩⟩
/-- a slice's part -/
abbrev SO := En → Hd → Res (Option Int)
structure KO (Z : Kx) (e : Option Expr) (f : SO) : Prop where
  po : PO Z.X e fun σ H Q => ∃ ι env h, HRep Z.X.K Z.cA ι H h ∧ VRep Z.X.K ι h.length H σ env ∧ RPost Z.X.K Z.cA Z.W σ ι h H (f env h) fun o h' ι' H' => Q o H'
theorem _root_.L2.PO.weak {X : Cx} {e : Option Expr} {t t' : TO} (p : PO X e t) (k : ∀ σ H Q, t' σ H Q → t σ H Q) : PO X e t' := ⟨fun pins s σ H Q I q => p.run pins s σ H Q I (k σ H Q q)⟩
def sNoPart : SO := fun _ h => .ok none h
def sPart (f : SE) : SO := fun env h => (f env h).bind fun d h1 => match d with | .int i => .ok (some i) h1 | _ => .stuck
theorem ko_none : KO Z none sNoPart := ⟨po_none.weak fun σ H Q ⟨ι, env, h, R, V, p⟩ => RPost.ok R p⟩
theorem ko_some {e : Expr} {f : SE} (he : KE Z e f) : KO Z (some e) (sPart f) := ⟨(po_some he.pe).weak fun σ H Q ⟨ι, env, h, R, V, p⟩ => ⟨ι, env, h, R, V, (RPost.bind p).mono fun d h1 ι1 H1 S1 R1 p1 v r => by
  cases r with
  | int => exact ⟨_, rfl, RPost.ok R1 p1⟩
  | non => exact p1.elim
  | bl => exact p1.elim
  | str => exact p1.elim
  | xc0 => exact p1.elim
  | xc _ _ => exact p1.elim
  | fls _ _ => exact p1.elim
  | tup _ _ => exact p1.elim
  | ref _ => exact p1.elim⟩⟩
def sSlT (f : SE) (l u : SO) : SE := fun env h => (f env h).bind fun d h1 => (l env h1).bind fun lo h2 => (u env h2).bind fun hi h3 => asTup d fun ds => .ok (.tup (cutD ds lo hi)) h3
/-- t[lo:hi] of a tuple -/
theorem ke_slT {e : Expr} {lo hi : Option Expr} {f : SE} {l u : SO} {pos p2 : Pos} (he : KE Z e f) (hl : KO Z lo l) (hu : KO Z hi u) : KE Z (.Subscript e (.Slice lo hi none p2) pos) (sSlT f l u) :=
  ⟨(pe_slice sl_tupA he.pe hl.po hu.po).weak fun σ H Q ⟨ι, env, h, R, V, p⟩ => ⟨ι, env, h, R, V, (RPost.bind p).mono fun d h1 ι1 H1 S1 R1 p1 v r =>
    ⟨ι1, env, h1, R1, V.step S1 R, (RPost.bind p1).mono fun o1 h2 ι2 H2 S2 R2 p2 => ⟨ι2, env, h2, R2, (V.step S1 R).step S2 R1, (RPost.bind p2).mono fun o2 h3 ι3 H3 S3 R3 p3 => by
      have r3 := r.step (S2.trans S3) R1
      obtain ⟨ds, e0, p4⟩ := p3.asTup
      subst e0
      cases r3 with
      | @tup a xs ds q rs =>
        refine ⟨a, xs, rfl, q, fun hw => ?_, fun _ b hb => ?_⟩
        · have e : cutD ds o1 o2 = ds := by
            unfold cutD
            rw [rs.len] at hw
            rw [hw.1, hw.2]
            simp
          rw [e] at p4
          exact RPost.ok R3 p4 _ (.tup q rs)
        · have S4 := Step.aside R3 hb (.tup (cutV xs o1 o2))
          exact p4 ι3 _ S4 (R3.aside hb _) _ (.tup (.of upd_same) ((rs.cut o1 o2).step S4 R3))⟩⟩⟩⟩
def sSlL (f : SE) (l u : SO) : SA := fun env h => (f env h).bind fun d h1 => (l env h1).bind fun lo h2 => (u env h2).bind fun hi h3 => asRef d fun m => onLst h3 m fun ds => .ok (cutD ds lo hi) h3
theorem none_of_there {ι ι' : Nat → Addr} {H H' : Hp} {h h' : Hd} (S : Step ι h H ι' h' H') {a : Addr} (ha : H' a = none) : H a = none := by
  cases e : H a with
  | none => rfl
  | some o => obtain ⟨o', e'⟩ := S.there a o e; rw [ha] at e'; cases e'
/-- xs[lo:hi] of a list of ours: a new list -/
theorem kl_sl {e : Expr} {lo hi : Option Expr} {f : SE} {l u : SO} {pos p2 : Pos} (he : KE Z e f) (hl : KO Z lo l) (hu : KO Z hi u) : KL Z (.Subscript e (.Slice lo hi none p2) pos) (sSlL f l u) :=
  ⟨(pe_slice sl_list he.pe hl.po hu.po).weak fun σ H Q ⟨ι, env, h, R, V, p⟩ => ⟨ι, env, h, R, V, (RPost.bind p).mono fun d h1 ι1 H1 S1 R1 p1 v r =>
    ⟨ι1, env, h1, R1, V.step S1 R, (RPost.bind p1).mono fun o1 h2 ι2 H2 S2 R2 p2 => ⟨ι2, env, h2, R2, (V.step S1 R).step S2 R1, (RPost.bind p2).mono fun o2 h3 ι3 H3 S3 R3 p3 => by
      have r3 := r.step (S2.trans S3) R1
      obtain ⟨m, rfl, p3⟩ := p3.asRef
      obtain ⟨ds, hm, p3⟩ := p3.onLst
      cases r3
      obtain ⟨ho, e3, ro⟩ := R3.obj m _ hm
      cases ro with
      | @lst xs _ rs =>
        refine ⟨_, xs, rfl, .of e3, fun b hb => ?_⟩
        have S4 := Step.aside R3 hb (.lst (cutV xs o1 o2))
        exact p3 ι3 _ S4 (R3.aside hb _) b _ (none_of_there (S1.trans (S2.trans S3)) hb) upd_same (fun m hm z => R3.off hb hm z.symm) ((rs.cut o1 o2).step S4 R3)⟩⟩⟩⟩

/-! ### built-ins by their names -/
abbrev FA := List D → Hd → Res D
def CallK (Z : Kx) (f : Value) (F : FA) : Prop := ∃ r, CallR Z.X f r ∧ ∀ (σ : St) (ι : Nat → Addr) (h : Hd) (H : Hp) (xs : List V) (ds : List D) (Q : VK), HRep Z.X.K Z.cA ι H h → Reps Z.X.K ι h.length H xs ds →
  RPost Z.X.K Z.cA Z.W σ ι h H (F ds h) (fun d h' ι' H' => ∀ v, Rep Z.X.K ι' h'.length H' v d → Q v H') → r xs H Q
/-- .. that hand out a new list -/
def CallKL (Z : Kx) (f : Value) (F : List D → Hd → Res (List D)) : Prop := ∃ r, CallR Z.X f r ∧ ∀ (σ : St) (ι : Nat → Addr) (h : Hd) (H : Hp) (xs : List V) (ds : List D) (Q : VK), HRep Z.X.K Z.cA ι H h → Reps Z.X.K ι h.length H xs ds →
  RPost Z.X.K Z.cA Z.W σ ι h H (F ds h) (fun ds h' ι' H' => ∀ p vs, H p = none → H' p = some (.lst vs) → (∀ m, m < h'.length → p ≠ ι' m) → Reps Z.X.K ι' h'.length H' vs ds → Q (.ref p) H') → r xs H Q
def sCall (F : FA) (a : SA) : SE := fun env h => (a env h).bind fun ds h1 => F ds h1
def sCallL (F : List D → Hd → Res (List D)) (a : SA) : SA := fun env h => (a env h).bind fun ds h1 => F ds h1
section
variable {x : Str} {p pos : Pos} {e : Expr} {es : List Expr} {a : SA} {F : FA} {id T : String}
theorem ke_callB (hc : CallK Z (.builtin id) F) (hg : Gl Z.X x) (hm : Z.X.mg x = none) (hv : bootBuiltins x = some (.builtin id)) (ha : KA Z (e :: es) a) (hn : x ≠ "__name__" := by decide) (hdb : (x == ("__debug__" : Str)) = false := by decide)
    (he : starEach (e :: es) Z.X.env = (false, eval e Z.X.env) :: starEach es Z.X.env := by rfl) (hpl : (backTo pos (starEach es Z.X.env)).any (·.1) = false := by rfl) : KE Z (.Call (.Name x p) (e :: es) [] pos) (sCall F a) := by
  obtain ⟨r, hr, k⟩ := hc
  exact ⟨(pe_callB hr hg hm hv ha.pa hn hdb he hpl).weak fun σ H Q ⟨ι, env, h, R, V, p⟩ => ⟨ι, env, h, R, V, (RPost.bind p).mono fun ds h1 ι1 H1 S1 R1 p1 vs rs => k σ ι1 h1 H1 vs ds Q R1 rs p1⟩⟩
theorem ke_callTy (hc : CallK Z (.type T) F) (hg : Gl Z.X x) (hm : Z.X.mg x = none) (hv : bootBuiltins x = some (.type T)) (ha : KA Z (e :: es) a) (hn : x ≠ "__name__" := by decide) (hdb : (x == ("__debug__" : Str)) = false := by decide)
    (he : starEach (e :: es) Z.X.env = (false, eval e Z.X.env) :: starEach es Z.X.env := by rfl) (hpl : (backTo pos (starEach es Z.X.env)).any (·.1) = false := by rfl) : KE Z (.Call (.Name x p) (e :: es) [] pos) (sCall F a) := by
  obtain ⟨r, hr, k⟩ := hc
  exact ⟨(pe_callTy hr hg hm hv ha.pa hn hdb he hpl).weak fun σ H Q ⟨ι, env, h, R, V, p⟩ => ⟨ι, env, h, R, V, (RPost.bind p).mono fun ds h1 ι1 H1 S1 R1 p1 vs rs => k σ ι1 h1 H1 vs ds Q R1 rs p1⟩⟩
end

/-! ### len, tuple, list, int, str -/
theorem wit {K : PySem.W.Frag} {ι : Nat → Addr} {n : Nat} {H : Hp} {xs : List V} {d : D} (r : Reps K ι n H xs [d]) : ∃ x, xs = [x] ∧ Rep K ι n H x d := by
  cases r with
  | cons r q => cases q; exact ⟨_, rfl, r⟩
theorem wit2 {K : PySem.W.Frag} {ι : Nat → Addr} {n : Nat} {H : Hp} {xs : List V} {d e : D} (r : Reps K ι n H xs [d, e]) : ∃ x y, xs = [x, y] ∧ Rep K ι n H x d ∧ Rep K ι n H y e := by
  cases r with
  | cons r q =>
    obtain ⟨y, rfl, r2⟩ := wit q
    exact ⟨_, _, rfl, r, r2⟩
def lenF : FA := fa1 fun d h => match d with
  | .str s => guard' (s.length ≤ LIM) (.ok (.int s.length) h)
  | d => onSome (itemsD h d) fun es => .ok (.int es.length) h
theorem ck_len : CallK Z (.builtin "len") lenF := ⟨_, call_len, fun σ ι h H xs ds Q R rs p => by
  obtain ⟨d, rfl, p⟩ := p.fa1
  obtain ⟨x, rfl, r⟩ := wit rs
  refine ⟨x, ?_⟩
  by_cases hs : ∃ s, d = .str s
  · obtain ⟨s, rfl⟩ := hs
    cases r
    have p : RPost Z.X.K Z.cA Z.W σ ι h H (guard' (s.length ≤ LIM) (.ok (D.int s.length) h)) _ := p
    obtain ⟨c, p⟩ := p.guard
    exact ⟨_, rfl, ⟨by rw [ofString_length]; exact lim_le c, rfl⟩, by rw [ofString_length]; exact RPost.ok R p _ .int⟩
  · have p : RPost Z.X.K Z.cA Z.W σ ι h H (onSome (itemsD h d) fun es => .ok (D.int es.length) h) (fun d h' ι' H' => ∀ v, Rep Z.X.K ι' h'.length H' v d → Q v H') := by
      cases d <;> first | exact p | exact absurd ⟨_, rfl⟩ hs
    obtain ⟨es, e, p⟩ := p.onSome
    obtain ⟨a, ys, rfl, q, rs⟩ := items_rep R r e
    refine ⟨ys.length, rfl, ?_, by rw [rs.len]; exact RPost.ok R p _ .int⟩
    rcases q with q | q
    · exact .inl ⟨ys, q, rfl⟩
    · exact .inr ⟨ys, q, rfl⟩⟩
def tupF : FA := fa1 fun d h => onSome (itemsD h d) fun es => .ok (.tup es) h
theorem ck_tuple : CallK Z (.type "tuple") tupF := ⟨_, call_tuple_of, fun σ ι h H xs ds Q R rs p => by
  obtain ⟨d, rfl, p⟩ := p.fa1
  obtain ⟨x, rfl, r⟩ := wit rs
  obtain ⟨es, e, p⟩ := p.onSome
  obtain ⟨a, ys, rfl, q, rs⟩ := items_rep R r e
  refine ⟨a, ys, rfl, ?_⟩
  rcases q with q | q
  · refine .inl ⟨q, fun l hl => ?_⟩
    have S2 := Step.aside R hl (.tup ys)
    exact p ι _ S2 (R.aside hl _) _ (.tup (.of upd_same) (rs.step S2 R))
  · exact .inr ⟨q, RPost.ok R p _ (.tup q rs)⟩⟩
def listF : List D → Hd → Res (List D) := fa1 fun d h => onSome (itemsD h d) fun es => .ok es h
theorem ck_list : CallKL Z (.type "list") listF := ⟨_, call_list_of, fun σ ι h H xs ds Q R rs p => by
  obtain ⟨d, rfl, p⟩ := p.fa1
  obtain ⟨x, rfl, r⟩ := wit rs
  obtain ⟨es, e, p⟩ := p.onSome
  obtain ⟨a, ys, rfl, q, rs⟩ := items_rep R r e
  refine ⟨a, ys, rfl, q, fun l hl => ?_⟩
  have S2 := Step.aside R hl (.lst ys)
  exact p ι _ S2 (R.aside hl _) l ys hl upd_same (fun m hm z => R.off hl hm z.symm) (rs.step S2 R)⟩
theorem kl_callTy {x : Str} {p pos : Pos} {e : Expr} {es : List Expr} {a : SA} {F : List D → Hd → Res (List D)} {T : String} (hc : CallKL Z (.type T) F) (hg : Gl Z.X x) (hm : Z.X.mg x = none) (hv : bootBuiltins x = some (.type T)) (ha : KA Z (e :: es) a) (hn : x ≠ "__name__" := by decide) (hdb : (x == ("__debug__" : Str)) = false := by decide)
    (he : starEach (e :: es) Z.X.env = (false, eval e Z.X.env) :: starEach es Z.X.env := by rfl) (hpl : (backTo pos (starEach es Z.X.env)).any (·.1) = false := by rfl) : KL Z (.Call (.Name x p) (e :: es) [] pos) (sCallL F a) := by
  obtain ⟨r, hr, k⟩ := hc
  exact ⟨(pe_callTy hr hg hm hv ha.pa hn hdb he hpl).weak fun σ H Q ⟨ι, env, h, R, V, p⟩ => ⟨ι, env, h, R, V, (RPost.bind p).mono fun ds h1 ι1 H1 S1 R1 p1 vs rs => k σ ι1 h1 H1 vs ds Q R1 rs (p1.mono fun ds2 h2 ι2 H2 S2 R2 p2 q ws e1 e2 e3 e4 => p2 q ws (none_of_there S1 e1) e2 e3 e4)⟩⟩
def intF : FA := fa1 fun d h => match d with
  | .int i => .ok (.int i) h
  | .bl b => .ok (.int (if b then 1 else 0)) h
  | _ => .stuck
theorem ck_int : CallK Z (.type "int") intF := ⟨_, call_int1, fun σ ι h H xs ds Q R rs p => by
  obtain ⟨d, rfl, p⟩ := p.fa1
  obtain ⟨x, rfl, r⟩ := wit rs
  cases r with
  | int => exact .inl ⟨_, rfl, RPost.ok R p _ .int⟩
  | bl => exact .inr ⟨_, rfl, RPost.ok R p _ .int⟩
  | non => exact p.elim
  | str => exact p.elim
  | xc0 => exact p.elim
  | xc _ _ => exact p.elim
  | fls _ _ => exact p.elim
  | tup _ _ => exact p.elim
  | ref _ => exact p.elim⟩
def strF : FA := fa1 fun d h => asInt d fun i => guard' (i.natAbs < 10 ^ 100) (.ok (.str (toString i)) h)
theorem ck_str : CallK Z (.type "str") strF := ⟨_, call_str_int, fun σ ι h H xs ds Q R rs p => by
  obtain ⟨d, rfl, p⟩ := p.fa1
  obtain ⟨x, rfl, r⟩ := wit rs
  obtain ⟨i, rfl, p⟩ := p.asInt
  obtain ⟨c, p⟩ := p.guard
  cases r
  refine ⟨i, rfl, ?_, RPost.ok R p _ .str⟩
  by_cases h0 : i.natAbs = 0
  · rw [h0]; decide
  · exact (Nat.log2_lt h0).mpr (Nat.lt_trans c (by decide +kernel))⟩
/-! ### in -/
def itemsP : PyData → Option (List PyData)
  | .list ps => some ps
  | .tuple ps => some ps
  | _ => none
def inF (neg : Bool) : F2 := fun x y h => onSome (py h 60 x) fun p => onSome (py h 60 y) fun q => onSome (itemsP q) fun ps => .ok (.bl (if neg then !ps.any (fun z => PyData.eqv z p) else ps.any (fun z => PyData.eqv z p))) h
def rInA (K : PySem.W.Frag) (neg : Bool) : R2 := fun x y H Q => ∃ d e ds, Dp K H x d ∧ Dp K H y e ∧ itemsP e = some ds ∧ SeqAt.shaped d = true ∧ SeqAt.shaped e = true ∧ Q (.bl (if neg then !ds.any (fun z => PyData.eqv z d) else ds.any fun z => PyData.eqv z d)) H
theorem roomA {u : Nat} {d : PyData} {n : Nat} (sd : SeqAt.shaped d = true) (hu : u + 65 < cLine) : u + 1 + min n d.depth < cLine := by
  have h1 := SeqAt.depth_of_shaped sd
  have h2 := Nat.min_le_right n d.depth
  omega
theorem op_inA (hu : Z.X.A.units + 65 < cLine) : OpR Z.X (compareOp .In) (rInA Z.X.K false) := by
  intro pins s σ H x y v u Q I rx ry ⟨d, e, ds, hd, he, hi, sd, se, q⟩
  obtain ⟨as, r1⟩ := Dp.reads I d x v hd rx
  obtain ⟨bs, r2⟩ := Dp.reads I e y u he ry
  cases e with
  | list ps => cases hi; exact SeqAt.in_list_reads r2 r1 (SeqAt.canLay_of_shaped se) (SeqAt.canLay_of_shaped sd) (roomA sd hu) ⟨.bl _, H, I, rfl, q⟩
  | tuple ps => cases hi; exact SeqAt.in_tuple_reads r2 r1 (SeqAt.canLay_of_shaped se) (SeqAt.canLay_of_shaped sd) (roomA sd hu) ⟨.bl _, H, I, rfl, q⟩
  | none => cases hi
  | bool _ => cases hi
  | int _ => cases hi
  | str _ => cases hi
  | dict _ => cases hi
theorem op_notInA (hu : Z.X.A.units + 65 < cLine) : OpR Z.X (compareOp .NotIn) (rInA Z.X.K true) := by
  intro pins s σ H x y v u Q I rx ry ⟨d, e, ds, hd, he, hi, sd, se, q⟩
  obtain ⟨as, r1⟩ := Dp.reads I d x v hd rx
  obtain ⟨bs, r2⟩ := Dp.reads I e y u he ry
  cases e with
  | list ps => cases hi; exact SeqAt.notIn_list_reads r2 r1 (SeqAt.canLay_of_shaped se) (SeqAt.canLay_of_shaped sd) (roomA sd hu) ⟨.bl _, H, I, rfl, q⟩
  | tuple ps => cases hi; exact SeqAt.notIn_tuple_reads r2 r1 (SeqAt.canLay_of_shaped se) (SeqAt.canLay_of_shaped sd) (roomA sd hu) ⟨.bl _, H, I, rfl, q⟩
  | none => cases hi
  | bool _ => cases hi
  | int _ => cases hi
  | str _ => cases hi
  | dict _ => cases hi
theorem ko_in (hu : Z.X.A.units + 65 < cLine) : OpK Z (compareOp .In) (inF false) := ⟨_, op_inA hu, fun σ ι h H x y dx dy Q R rx ry p => by
  obtain ⟨a, e1, p⟩ := p.onSome
  obtain ⟨b, e2, p⟩ := p.onSome
  obtain ⟨ps, e3, p⟩ := p.onSome
  exact ⟨a, b, ps, py_dp R e1 rx, py_dp R e2 ry, e3, py_shaped (by decide) e1, py_shaped (by decide) e2, RPost.ok R p _ .bl⟩⟩
theorem ko_notin (hu : Z.X.A.units + 65 < cLine) : OpK Z (compareOp .NotIn) (inF true) := ⟨_, op_notInA hu, fun σ ι h H x y dx dy Q R rx ry p => by
  obtain ⟨a, e1, p⟩ := p.onSome
  obtain ⟨b, e2, p⟩ := p.onSome
  obtain ⟨ps, e3, p⟩ := p.onSome
  exact ⟨a, b, ps, py_dp R e1 rx, py_dp R e2 ry, e3, py_shaped (by decide) e1, py_shaped (by decide) e2, RPost.ok R p _ .bl⟩⟩
end
end Kf
end
section
set_option maxHeartbeats 4000000
/-! Kf: defs and their calls, instances. -/
namespace Kf
open PySem PySem.Spec L2
theorem ofString_inj {s t : String} (h : Str.ofString s = Str.ofString t) : s = t := by
  rw [Str.ofString_eq_toList, Str.ofString_eq_toList] at h
  have h := Str.mk.inj h
  have h2 : s.toList.map Char.toNat = t.toList.map Char.toNat := by simpa using h
  have inj : ∀ (a b : List Char), a.map Char.toNat = b.map Char.toNat → a = b := by
    intro a
    induction a with
    | nil => intro b e; cases b with | nil => rfl | cons _ _ => simp at e
    | cons x xs ih =>
      intro b e
      cases b with
      | nil => simp at e
      | cons y ys =>
        simp only [List.map_cons, List.cons.injEq] at e
        rw [ih ys e.2, Char.toNat_inj.mp e.1]
  exact String.ext (inj _ _ h2)
theorem ofString_beq (s t : String) : (Str.ofString s == Str.ofString t) = (s == t) := by
  by_cases h : s = t
  · subst h
    rw [beq_iff_eq.mpr rfl, beq_iff_eq.mpr rfl]
  · have h2 : ¬ Str.ofString s = Str.ofString t := fun e => h (ofString_inj e)
    rw [beq_eq_false_iff_ne.mpr h, beq_eq_false_iff_ne.mpr h2]
/-- the promise of a def whose reading is M -/
def spOf (K : PySem.W.Frag) (cA : CA) (n : Nat) (M : FA) : Sp := fun vs H Q E => vs.length = n ∧ ∃ ι h ds, HRep K cA ι H h ∧ Reps K ι h.length H vs ds ∧
  RPost K cA (fun cls od _ H => E cls od H) [] ι h H (M ds h) fun d h' ι' H' => ∀ v, Rep K ι' h'.length H' v d → Q v H'
theorem RPost.toW {K : PySem.W.Frag} {cA : CA} {W W' : WX} {σ σ' : St} {ι : Nat → Addr} {h : Hd} {H : Hp} {α : Type} {r : Res α} {P : α → Hd → (Nat → Addr) → Hp → Prop} (k : ∀ cls od H, W cls od σ H → W' cls od σ' H) (p : RPost K cA W σ ι h H r P) : RPost K cA W' σ' ι h H r P := by
  cases r with
  | ok a h' => exact p
  | exc c fs h' => exact fun ι' H' cls od S R x => k _ _ _ (p ι' H' cls od S R x)
  | stuck => exact p
theorem len2 {K : PySem.W.Frag} {ι : Nat → Addr} {n : Nat} {H : Hp} {vs : List V} {ds : List D} (r : Reps K ι n H vs ds) {k : Nat} (h : ds.length = k) : vs.length = k := r.len.trans h
section
variable {Z : Kx}
def sFn (n : Nat) (M : FA) (dds : List D) (a : SA) : SE := fun env h => (a env h).bind fun ds h1 => guard' (ds.length + dds.length = n) (M (ds ++ dds) h1)
section
variable {k : Nat} {f C : Addr} {fd : FuncData} {ps : List Str} {x m : Str} {n : Nat} {M : FA} {dvs : List V} {dds : List D} {ds : List Value} {p pos apos : Pos} {e o : Expr} {es : List Expr} {a : SA} {fo : SE}
theorem ke_call (F : FnOk Z.X.prog Z.X.w Z.X.K Z.X.mg Z.X.base (L2.CX Z.X.prog Z.X.w) k f fd ps (spOf Z.X.K Z.cA n M)) (hr : Room k Z.X.A) (hg : Gl Z.X x) (hm : Z.X.mg x = some (.ref f)) (hk : PySem.W.keepIn Z.X.K (.ref f) = true)
    (hb : Binds Z.X.K fd ps ds) (hd : Vals dvs ds) (hq : ∀ ι n H, Reps Z.X.K ι n H dvs dds) (tk : Takes Z.X Z.W) (ha : KA Z (e :: es) a) (hdb : (x == ("__debug__" : Str)) = false := by decide)
    (he : starEach (e :: es) Z.X.env = (false, eval e Z.X.env) :: starEach es Z.X.env := by rfl) (hpl : (backTo pos (starEach es Z.X.env)).any (·.1) = false := by rfl) : KE Z (.Call (.Name x p) (e :: es) [] pos) (sFn n M dds a) :=
  ⟨(pe_callSD (E := WE Z.W) F hr hg hm hk hb hd (fun σ => passAt tk σ) ha.pa hdb he hpl).weak fun σ H Q ⟨ι, env, h, R, V, p⟩ => ⟨ι, env, h, R, V, (RPost.bind p).mono fun ds h1 ι1 H1 S1 R1 p1 vs rs => by
    obtain ⟨hl, p1⟩ := p1.guard
    have rr := rs.append (hq ι1 h1.length H1)
    exact ⟨len2 rr (by simpa using hl), ι1, h1, _, R1, rr, p1.toW fun _ _ _ w => w⟩⟩⟩
theorem run_call {pins : List (Addr × Obj)} {σ : St} {H : Hp} {s : Shared} {Q : VK} {us : List Value} {vs : List V} {ι : Nat → Addr} {h : Hd} {xs : List D} (F : FnOk Z.X.prog Z.X.w Z.X.K Z.X.mg Z.X.base (L2.CX Z.X.prog Z.X.w) k f fd ps (spOf Z.X.K Z.cA n M)) (hr : Room k Z.X.A)
    (hb : Binds Z.X.K fd ps ds) (hd : Vals dvs ds) (hq : ∀ ι n H, Reps Z.X.K ι n H dvs dds) (tk : Takes Z.X Z.W) (I : Inv Z.X pins σ H s) (r : Vals vs us) (R : HRep Z.X.K Z.cA ι H h) (rs : Reps Z.X.K ι h.length H vs xs) (hl : xs.length + dds.length = n)
    (q : RPost Z.X.K Z.cA Z.W σ ι h H (M (xs ++ dds) h) fun d h' ι' H' => ∀ v, Rep Z.X.K ι' h'.length H' v d → Q v H') : wpAny (model Z.X.prog Z.X.w) Z.X.A (call (.ref f) us) (EP Z.X pins σ Q) Z.X.xe s := by
  have rr := rs.append (hq ι h.length H)
  exact run_fnSD (E := WE Z.W) F hr hb hd (passAt tk σ) I r ⟨len2 rr (by simpa using hl), ι, h, _, R, rr, q.toW fun _ _ _ w => w⟩
theorem ke_call0 (F : FnOk Z.X.prog Z.X.w Z.X.K Z.X.mg Z.X.base (L2.CX Z.X.prog Z.X.w) k f fd ps (spOf Z.X.K Z.cA n M)) (hr : Room k Z.X.A) (hg : Gl Z.X x) (hm : Z.X.mg x = some (.ref f)) (hk : PySem.W.keepIn Z.X.K (.ref f) = true)
    (hb : Binds Z.X.K fd ps ds) (hd : Vals dvs ds) (hq : ∀ ι n H, Reps Z.X.K ι n H dvs dds) (tk : Takes Z.X Z.W) (hdb : (x == ("__debug__" : Str)) = false := by decide) : KE Z (.Call (.Name x p) [] [] pos) (sFn n M dds sNil) := by
  refine ⟨⟨fun pins s σ H Q I ⟨ι, env, h, R, V, q⟩ => ?_⟩⟩
  refine wpAny_Call_Name_kw (ld_glob I hg hm ?_ hdb)
  obtain ⟨hl, q⟩ := (RPost.ok R (RPost.bind q)).guard
  exact PySem.W.callWith_K0 I.kIn hk (run_call F hr hb hd hq tk I .nil R .nil hl q)
/-- the methods of the classes cs: the table of their readings -/
structure MethK (Z : Kx) (m : Str) (c : String) (n : Nat) (M : FA) (dds : List D) : Prop where
  ex : ∃ (k : Nat) (f : Addr) (fd : FuncData) (ps : List Str) (dvs : List V) (ds : List Value), Cls Z.X.K (Z.cA c) ∧ Meth Z.X.K (Z.cA c) m f ∧ FnOk Z.X.prog Z.X.w Z.X.K Z.X.mg Z.X.base (L2.CX Z.X.prog Z.X.w) k f fd ps (spOf Z.X.K Z.cA n M) ∧ Room k Z.X.A ∧
    Binds Z.X.K fd ps ds ∧ Vals dvs ds ∧ ∀ ι n H, Reps Z.X.K ι n H dvs dds
/-- which reading a method of a class has -/
abbrev MT := String → Option (Nat × FA × List D)
def MethT (Z : Kx) (m : Str) (T : MT) : Prop := ∀ c n M dds, T c = some (n, M, dds) → MethK Z m c n M dds
def sMeth (mm : String) (T : MT) (o : SE) (a : SA) : SE := fun env h => (o env h).bind fun d h1 => asRef d fun r => onIns h1 r fun c fs => onSome (T c) fun t => guard' (fs.lookup mm = none) ((a env h1).bind fun ds h2 => guard' (ds.length + 1 + t.2.2.length = t.1) (t.2.1 (d :: ds ++ t.2.2) h2))
end
/-! ### attributes -/
section
variable {K : PySem.W.Frag} {ι : Nat → Addr} {n : Nat} {H : Hp}
theorem FRep.lookup : ∀ {fs : List (Str × V)} {gs : List (String × D)} (r : FRep K ι n H fs gs) (f : String), match gs.lookup f with
    | some d => ∃ v, fs.lookup (Str.ofString f) = some v ∧ Rep K ι n H v d
    | none => fs.lookup (Str.ofString f) = none
  | _, _, .nil, f => rfl
  | _, _, .cons (f := g) (x := x) (d := d) r q, f => by
    simp only [List.lookup_cons, ofString_beq]
    cases e : f == g with
    | true => exact ⟨x, rfl, r⟩
    | false => exact FRep.lookup q f
theorem FRep.some {fs : List (Str × V)} {gs : List (String × D)} (r : FRep K ι n H fs gs) {f : String} {d : D} (e : gs.lookup f = some d) : ∃ v, fs.lookup (Str.ofString f) = some v ∧ Rep K ι n H v d := by
  have q := r.lookup f
  rw [e] at q; exact q
theorem FRep.none {fs : List (Str × V)} {gs : List (String × D)} (r : FRep K ι n H fs gs) {f : String} (e : gs.lookup f = none) : fs.lookup (Str.ofString f) = none := by
  have q := r.lookup f
  rw [e] at q; exact q
theorem FRep.len : ∀ {fs : List (Str × V)} {gs : List (String × D)} (r : FRep K ι n H fs gs), fs.length = gs.length
  | _, _, .nil => rfl
  | _, _, .cons _ q => by simp [FRep.len q]
def putD (f : String) (d : D) : List (String × D) → List (String × D)
  | [] => [(f, d)]
  | (g, x) :: r => if g = f then (g, d) :: r else (g, x) :: putD f d r
theorem FRep.put : ∀ {fs : List (Str × V)} {gs : List (String × D)} (r : FRep K ι n H fs gs) {f : String} {v : V} {d : D} (rv : Rep K ι n H v d), FRep K ι n H (putF (Str.ofString f) v fs) (putD f d gs)
  | _, _, .nil, f, v, d, rv => .cons rv .nil
  | _, _, .cons (f := g) (x := x) (d := d') r q, f, v, d, rv => by
    unfold putF putD
    by_cases e : g = f
    · rw [if_pos e, if_pos (by rw [e])]; exact .cons rv q
    · rw [if_neg e, if_neg fun z => e (ofString_inj z)]; exact .cons r (FRep.put q rv)
end
/-- the attribute f of the classes cs -/
def FldK (Z : Kx) (f : String) (cs : List String) : Prop := ∀ c, c ∈ cs → Cls Z.X.K (Z.cA c) ∧ NoAttr Z.X.K (Z.cA c) (Str.ofString f)
def sFld (o : SE) (f : String) (cs : List String) : SE := fun env h => (o env h).bind fun d h1 => asRef d fun r => onIns h1 r fun c fs => guard' (c ∈ cs) (onSome (fs.lookup f) fun v => .ok v h1)
theorem ke_fld {e : Expr} {g : SE} {f : String} {cs : List String} {pos : Pos} (he : KE Z e g) (hc : FldK Z f cs) (hb : attributeBase e (Str.ofString f) Z.X.env (eval e Z.X.env) = eval e Z.X.env := by rfl) : KE Z (.Attribute e (Str.ofString f) pos) (sFld g f cs) :=
  ⟨(pe_fld he.pe hb).weak fun σ H Q ⟨ι, env, h, R, V, p⟩ => ⟨ι, env, h, R, V, (RPost.bind p).mono fun d h1 ι1 H1 S1 R1 p1 v r => by
    obtain ⟨m, rfl, p1⟩ := p1.asRef
    obtain ⟨c, fs, hm, p1⟩ := p1.onIns
    obtain ⟨hcs, p1⟩ := p1.guard
    obtain ⟨d, hd, p1⟩ := p1.onSome
    cases r
    obtain ⟨ho, e3, ro⟩ := R1.obj m _ hm
    cases ro with
    | ins rf =>
      obtain ⟨v, ev, r⟩ := rf.some hd
      exact ⟨_, _, _, _, v, rfl, e3, (hc c hcs).1, (hc c hcs).2, ev, RPost.ok R1 p1 v r⟩⟩⟩
def sSetF (o : SE) (f : String) (cs : List String) (e : SE) : SS := fun env h => (e env h).lift env fun d h1 => (o env h1).lift env fun od h2 =>
  Res.lift (asRef od fun r => onIns h2 r fun c fs => guard' (c ∈ cs ∧ fs.length < 1000) (.ok () (h2.set r (.ins c (putD f d fs))))) env fun _ h3 => .ok (.nx env) h3
theorem ks_fld {o e : Expr} {g ge : SE} {f : String} {cs : List String} {pos pos' : Pos} (ho : KE Z o g) (he : KE Z e ge) (hc : FldK Z f cs) (hs : swapsWith e (some (.Attribute o (Str.ofString f) pos')) pos.line Z.X.env = pure false := by rfl) :
    KS Z (.Assign [.Attribute o (Str.ofString f) pos'] e pos) (sSetF g f cs ge) :=
  ⟨(ps_fld ho.pe he.pe hs).weak fun Dd σ H ⟨ι, env, h, R, V, p⟩ => ⟨ι, env, h, R, V, (RsPost.of R V p).mono fun d h1 ι1 H1 S1 R1 p1 v r =>
    ⟨ι1, env, h1, R1, V.step S1 R, (RsPost.of R1 (V.step S1 R) p1).mono fun od h2 ι2 H2 S2 R2 p2 ov ro => by
      have V2 := (V.step S1 R).step S2 R1
      have q := RsPost.of R2 V2 p2
      obtain ⟨m, rfl, q⟩ := q.asRef
      obtain ⟨c, fs, hm, q⟩ := q.onIns
      obtain ⟨hcs, q⟩ := q.guard
      cases ro with
      | ref hlt =>
        obtain ⟨ho, e3, ro⟩ := R2.obj m _ hm
        cases ro with
        | @ins _ dx fv _ rf =>
          have rv := r.step S2 R1
          refine ⟨_, _, _, fv, rfl, e3, (hc c hcs.1).1, (hc c hcs.1).2, by rw [rf.len]; exact hcs.2, ?_⟩
          have hf : ∀ x u, H2 (ι2 m) ≠ some (.frz x u) := fun x u z => by rw [e3] at z; cases z
          have S3 := Step.set R2 hlt hf (.ins (Z.cA c) dx (putF (Str.ofString f) v fv)) (.ins c (putD f d fs))
          have R3 : HRep Z.X.K Z.cA ι2 (upd H2 (ι2 m) (.ins (Z.cA c) dx (putF (Str.ofString f) v fv))) (h2.set m (.ins c (putD f d fs))) := R2.set hlt hf (.ins (rf.put rv))
          have q2 := q ι2 _ S3 R3
          exact RsPost.fin R3 q2 σ (V2.step S3 R2)⟩⟩⟩
/-! ### instances made -/
def sNewI (c : String) (n : Nat) (M : FA) (dds : List D) (a : SA) : SE := fun env h => (a env h).bind fun ds h1 => guard' (ds.length + 1 + dds.length = n) ((M (.ref h1.length :: (ds ++ dds)) (h1 ++ [.ins c []])).bind fun v h2 => match v with | .non => .ok (.ref h1.length) h2 | _ => .stuck)
theorem ins_new {ι : Nat → Addr} {h : Hd} {H : Hp} (c : String) (R : HRep Z.X.K Z.cA ι H h) {x dx : Addr} (hx : H x = none) (hdx : H dx = none) (hne : dx ≠ x) :
    Step ι h H (more ι h.length x) (h ++ [.ins c []]) (upd (upd H dx (.own x)) x (.ins (Z.cA c) dx [])) ∧ HRep Z.X.K Z.cA (more ι h.length x) (upd (upd H dx (.own x)) x (.ins (Z.cA c) dx [])) (h ++ [.ins c []]) := by
  have S1 := Step.aside R hdx (.own x)
  have R1 := R.aside hdx (.own x)
  have hx1 : upd H dx (.own x) x = none := by rw [upd_ne (Ne.symm hne)]; exact hx
  exact ⟨S1.trans (Step.alloc R1 hx1 _ _), R1.alloc hx1 (.ins .nil)⟩
theorem new_post {σ : St} {ι : Nat → Addr} {h : Hd} {H : Hp} {c : String} {n : Nat} {M : FA} {dds : List D} {vs dvs : List V} {ds : List D} {Q : VK} (R : HRep Z.X.K Z.cA ι H h) (rs : Reps Z.X.K ι h.length H (vs ++ dvs) (ds ++ dds)) (hl : ds.length + 1 + dds.length = n)
    (q : RPost Z.X.K Z.cA Z.W σ ι h H ((M (.ref h.length :: (ds ++ dds)) (h ++ [.ins c []])).bind fun v h2 => match v with | .non => .ok (.ref h.length) h2 | _ => .stuck) fun d h' ι' H' => ∀ v, Rep Z.X.K ι' h'.length H' v d → Q v H')
    {x dx : Addr} (hx : H x = none) (hdx : H dx = none) (hne : dx ≠ x) : spOf Z.X.K Z.cA n M (.ref x :: (vs ++ dvs)) (upd (upd H dx (.own x)) x (.ins (Z.cA c) dx [])) (fun v H2 => v = .non ∧ Q (.ref x) H2) (WE Z.W σ) := by
  obtain ⟨S, R1⟩ := ins_new (Z := Z) c R hx hdx hne
  have rx : Rep Z.X.K (more ι h.length x) (h ++ [O.ins c []]).length (upd (upd H dx (.own x)) x (.ins (Z.cA c) dx [])) (.ref x) (.ref h.length) := by
    have e : Rep Z.X.K (more ι h.length x) (h ++ [O.ins c []]).length (upd (upd H dx (.own x)) x (.ins (Z.cA c) dx [])) (.ref (more ι h.length x h.length)) (.ref h.length) := .ref (by simp)
    rw [more_at] at e; exact e
  have rr := Reps.cons rx (rs.step S R)
  refine ⟨len2 rr (by simpa [Nat.add_comm, Nat.add_left_comm, Nat.add_assoc] using hl), _, _, _, R1, rr, ?_⟩
  refine ((RPost.bind (RPost.step S q)).toW fun _ _ _ w => w).mono fun v h2 ι2 H2 S2 R2 p2 w rw => ?_
  cases rw with
  | non => exact ⟨rfl, RPost.ok R2 p2 _ (rx.step S2 R1)⟩
  | bl => exact p2.elim
  | int => exact p2.elim
  | str => exact p2.elim
  | xc0 => exact p2.elim
  | xc _ _ => exact p2.elim
  | fls _ _ => exact p2.elim
  | tup _ _ => exact p2.elim
  | ref _ => exact p2.elim
section
variable {k : Nat} {f : Addr} {fd : FuncData} {ps : List Str} {x m : Str} {c : String} {n : Nat} {M : FA} {dvs : List V} {dds : List D} {ds : List Value} {p pos apos : Pos} {e o : Expr} {es : List Expr} {a : SA} {fo : SE}
/-- an instance is made: what the hand layer says of it, the exceptions at the slots -/
theorem makes {pins : List (Addr × Obj)} {σ : L2.St} {H : Hp} {s : Shared} {Q : VK} {us : List Value} {vs : List V} {sp : Sp} {C : Addr} (hM : Mk Z.X.K C f)
    (F : FnOk Z.X.prog Z.X.w Z.X.K Z.X.mg Z.X.base (L2.CX Z.X.prog Z.X.w) k f fd ps sp) (hr : Room (k + 1) Z.X.A) (hb : Binds Z.X.K fd ps ds) (hd : Vals dvs ds) (tk : Takes Z.X Z.W) (I : Inv Z.X pins σ H s) (r : Vals vs us)
    (q : ∀ y dy, H y = none → H dy = none → dy ≠ y → sp (.ref y :: (vs ++ dvs)) (upd (upd H dy (.own y)) y (.ins C dy [])) (fun v H2 => v = .non ∧ Q (.ref y) H2) (WE Z.W σ)) : wpAny (model Z.X.prog Z.X.w) Z.X.A (call (.ref C) us) (EP Z.X pins σ Q) Z.X.xe s := by
  have q0 := q (s.heap.objs.size + 1) s.heap.objs.size (I.hok.fresh (Nat.le_succ _)) (I.hok.fresh (Nat.le_refl _)) (Nat.ne_of_lt (Nat.lt_succ_self _))
  have J := Inv.made (C := C) I
  have rr : Vals (V.ref (s.heap.objs.size + 1) :: (vs ++ dvs)) (Value.ref (s.heap.objs.size + 1) :: (us ++ ds)) := Paired.cons rfl (r.append hd)
  have ll : (Value.ref (s.heap.objs.size + 1) :: us ++ ds).length = ps.length := (rr.length.symm.trans (F.len _ _ _ _ q0))
  have run := F.run _ Z.X.stack _ _ ⟨Value.ref (s.heap.objs.size + 1) :: us, []⟩ (Value.ref (s.heap.objs.size + 1) :: (us ++ ds)) _ _ (WE Z.W σ) (hr.make C us []) (J.env0.make C us []) (hb _ (Value.ref (s.heap.objs.size + 1) :: us) J.kIn ll) rr q0
  refine wpAny_call (make_map (f := f) I.kIn hM.makes hM.init (beq_iff_eq.mp hM.fn) (codeAny_mono run fun z s' hz => ?_))
  rcases z with e | fl
  · exact passAt tk σ pins _ _ e s' J hz
  · rcases fl with _ | _ | _ | u
    · exact hz.elim
    · exact hz.elim
    · exact hz.elim
    · obtain ⟨v, H', I3, rv, ev, q3⟩ := J.after hz
      subst ev
      exact ⟨rv, ⟨V.ref (s.heap.objs.size + 1), H', I3, rfl, q3⟩⟩
/-- the arguments have come; what is left to do -/
def After (Z : Kx) (σ : L2.St) (g : List D → Hd → Res D) (Q : VK) (vs : List V) (H : Hp) : Prop := ∃ ι h ds, HRep Z.X.K Z.cA ι H h ∧ Reps Z.X.K ι h.length H vs ds ∧ RPost Z.X.K Z.cA Z.W σ ι h H (g ds h) fun d h' ι' H' => ∀ v, Rep Z.X.K ι' h'.length H' v d → Q v H'
theorem after_of {σ : L2.St} {H : Hp} {Q : VK} {g : List D → Hd → Res D} {ι : Nat → Addr} {env : En} {h : Hd} (R : HRep Z.X.K Z.cA ι H h) (V : VRep Z.X.K ι h.length H σ env)
    (q : RPost Z.X.K Z.cA Z.W σ ι h H ((a env h).bind g) fun d h' ι' H' => ∀ v, Rep Z.X.K ι' h'.length H' v d → Q v H') : tDA Z a σ H (After Z σ g Q) :=
  ⟨ι, env, h, R, V, (RPost.bind q).mono fun ds h1 ι1 H1 S1 R1 p1 vs rs => ⟨ι1, h1, ds, R1, rs, p1⟩⟩
theorem ke_make (hM : Mk Z.X.K (Z.cA c) f) (F : FnOk Z.X.prog Z.X.w Z.X.K Z.X.mg Z.X.base (L2.CX Z.X.prog Z.X.w) k f fd ps (spOf Z.X.K Z.cA n M)) (hr : Room (k + 1) Z.X.A) (hg : Gl Z.X x) (hm : Z.X.mg x = some (.ref (Z.cA c)))
    (hb : Binds Z.X.K fd ps ds) (hd : Vals dvs ds) (hq : ∀ ι n H, Reps Z.X.K ι n H dvs dds) (tk : Takes Z.X Z.W) (ha : KA Z (e :: es) a) (hdb : (x == ("__debug__" : Str)) = false := by decide)
    (he : starEach (e :: es) Z.X.env = (false, eval e Z.X.env) :: starEach es Z.X.env := by rfl) (hpl : (backTo pos (starEach es Z.X.env)).any (·.1) = false := by rfl) : KE Z (.Call (.Name x p) (e :: es) [] pos) (sNewI c n M dds a) := by
  refine ⟨⟨fun pins s σ H Q I ⟨ι, env, h, R, V, q⟩ => ?_⟩⟩
  refine wpAny_Call_Name_kw (ld_glob I hg hm ?_ hdb)
  refine PySem.W.callWith_K (h₀ := Z.X.base) I.ok.mod.kin hM.kp (thn (ha.pa.run pos pins s σ H _ I (after_of R V q)) fun us s1 ⟨vs, H1, I1, rv, ι1, h1, ds1, R1, rs, q1⟩ => ⟨I1.kIn, ?_⟩) he hpl
  obtain ⟨hl, q1⟩ := q1.guard
  exact makes hM F hr hb hd tk I1 rv fun y dy hy hdy hne => new_post R1 (rs.append (hq ι1 h1.length H1)) hl q1 hy hdy hne
theorem ke_make0 (hM : Mk Z.X.K (Z.cA c) f) (F : FnOk Z.X.prog Z.X.w Z.X.K Z.X.mg Z.X.base (L2.CX Z.X.prog Z.X.w) k f fd ps (spOf Z.X.K Z.cA n M)) (hr : Room (k + 1) Z.X.A) (hg : Gl Z.X x) (hm : Z.X.mg x = some (.ref (Z.cA c)))
    (hb : Binds Z.X.K fd ps ds) (hd : Vals dvs ds) (hq : ∀ ι n H, Reps Z.X.K ι n H dvs dds) (tk : Takes Z.X Z.W) (hdb : (x == ("__debug__" : Str)) = false := by decide) : KE Z (.Call (.Name x p) [] [] pos) (sNewI c n M dds sNil) := by
  refine ⟨⟨fun pins s σ H Q I ⟨ι, env, h, R, V, q⟩ => ?_⟩⟩
  refine wpAny_Call_Name_kw (ld_glob I hg hm ?_ hdb)
  obtain ⟨hl, q1⟩ := (RPost.ok R (RPost.bind q)).guard
  exact PySem.W.callWith_K0 I.kIn hM.kp (makes (us := []) (vs := []) hM F hr hb hd tk I .nil fun y dy hy hdy hne => new_post R (Reps.nil.append (hq ι h.length H)) hl q1 hy hdy hne)
/-! ### methods -/
theorem ke_meth {mm : String} {T : MT} {pl : Sem Bool} (ho : KE Z o fo) (hT : MethT Z (Str.ofString mm) T) (tk : Takes Z.X Z.W) (ha : KA Z (e :: es) a)
    (hst : starEach (e :: es) Z.X.env = (false, eval e Z.X.env) :: starEach es Z.X.env := by rfl) (hpl : (backTo pos (starEach es Z.X.env)).any (·.1) = false := by rfl)
    (ht : eval (.Call (.Attribute o (Str.ofString mm) apos) (e :: es) [] pos) Z.X.env = (do
      let ov ← eval o Z.X.env; standAt apos.atName
      let (g, first) ← holding [ov] (getMethod ov (Str.ofString mm) pl); callWith pos g first (backTo pos (starEach (e :: es) Z.X.env)) (backToKw pos (keywordEach [] Z.X.env))) := by rfl) :
    KE Z (.Call (.Attribute o (Str.ofString mm) apos) (e :: es) [] pos) (sMeth mm T fo a) := by
  refine ⟨⟨fun pins s σ H Q I ⟨ι, env, h, R, V, q⟩ => ?_⟩⟩
  refine PySem.W.methodCall_KW (pl := pl) (thn (ho.pe.run pins s σ H (fun v H1 => ∃ ι1 h1 d, HRep Z.X.K Z.cA ι1 H1 h1 ∧ VRep Z.X.K ι1 h1.length H1 σ env ∧ Rep Z.X.K ι1 h1.length H1 v d ∧
      RPost Z.X.K Z.cA Z.W σ ι1 h1 H1 (asRef d fun r => onIns h1 r fun c fs => onSome (T c) fun t => guard' (fs.lookup mm = none) ((a env h1).bind fun ds h2 => guard' (ds.length + 1 + t.2.2.length = t.1) (t.2.1 (d :: ds ++ t.2.2) h2)))
        fun d h' ι' H' => ∀ v, Rep Z.X.K ι' h'.length H' v d → Q v H') I
      ⟨ι, env, h, R, V, (RPost.bind q).mono fun d h1 ι1 H1 S1 R1 p1 v r => ⟨ι1, h1, d, R1, V.step S1 R, r, p1⟩⟩) fun u s1 ⟨v, H1, I1, rv, ι1, h1, d, R1, V1, rd, p1⟩ => ?_) ht
  obtain ⟨r, rfl, p1⟩ := p1.asRef
  obtain ⟨c, fs, hm, p1⟩ := p1.onIns
  obtain ⟨⟨n, M, dds⟩, hT1, p1⟩ := p1.onSome
  obtain ⟨hfs, p1⟩ := p1.guard
  obtain ⟨k, f, fd, ps, dvs, dsv, hC, hMe, F, hr, hb, hd, hq⟩ := (hT c n M dds hT1).ex
  cases rd with
  | ref hlt =>
    obtain ⟨ho, e3, ro⟩ := R1.obj r _ hm
    cases ro with
    | @ins _ dx fv _ rf =>
      obtain rfl : u = Value.ref (ι1 r) := rv
      refine getmeth_ok I1 e3 hC hMe (rf.none hfs) ?_
      refine PySem.W.callWith_K (first := [Value.ref (ι1 r)]) (h₀ := Z.X.base) I.ok.mod.kin hMe.kp (thn (ha.pa.run pos pins s1 σ H1 (fun vs H2 => ∃ ι2 h2 ds, HRep Z.X.K Z.cA ι2 H2 h2 ∧ Reps Z.X.K ι2 h2.length H2 (.ref (ι1 r) :: vs) (.ref r :: ds) ∧
          RPost Z.X.K Z.cA Z.W σ ι2 h2 H2 (guard' (ds.length + 1 + dds.length = n) (M (.ref r :: ds ++ dds) h2)) fun d h' ι' H' => ∀ v, Rep Z.X.K ι' h'.length H' v d → Q v H') I1
        ⟨ι1, env, h1, R1, V1, (RPost.bind p1).mono fun ds h2 ι2 H2 S2 R2 p2 vs rs => ⟨ι2, h2, ds, R2, .cons ((Rep.ref hlt).step S2 R1) rs, p2⟩⟩) fun us s2 ⟨vs, H2, I2, rvs, ι2, h2, ds, R2, rs, p2⟩ => ⟨I2.kIn, ?_⟩) hst hpl
      obtain ⟨hl, p2⟩ := p2.guard
      exact run_call F hr hb hd hq tk I2 (Paired.cons (show RelV (.ref (ι1 r)) (Value.ref (ι1 r)) from rfl) rvs) R2 rs (by simpa using hl) p2
theorem ke_meth0 {mm : String} {T : MT} {pl : Sem Bool} (ho : KE Z o fo) (hT : MethT Z (Str.ofString mm) T) (tk : Takes Z.X Z.W)
    (ht : eval (.Call (.Attribute o (Str.ofString mm) apos) [] [] pos) Z.X.env = (do
      let ov ← eval o Z.X.env; standAt apos.atName
      let (g, first) ← holding [ov] (getMethod ov (Str.ofString mm) pl); callWith pos g first (backTo pos (starEach [] Z.X.env)) (backToKw pos (keywordEach [] Z.X.env))) := by rfl) :
    KE Z (.Call (.Attribute o (Str.ofString mm) apos) [] [] pos) (sMeth mm T fo sNil) := by
  refine ⟨⟨fun pins s σ H Q I ⟨ι, env, h, R, V, q⟩ => ?_⟩⟩
  refine PySem.W.methodCall_KW (pl := pl) (thn (ho.pe.run pins s σ H (fun v H1 => ∃ ι1 h1 d, HRep Z.X.K Z.cA ι1 H1 h1 ∧ VRep Z.X.K ι1 h1.length H1 σ env ∧ Rep Z.X.K ι1 h1.length H1 v d ∧
      RPost Z.X.K Z.cA Z.W σ ι1 h1 H1 (asRef d fun r => onIns h1 r fun c fs => onSome (T c) fun t => guard' (fs.lookup mm = none) ((sNil env h1).bind fun ds h2 => guard' (ds.length + 1 + t.2.2.length = t.1) (t.2.1 (d :: ds ++ t.2.2) h2)))
        fun d h' ι' H' => ∀ v, Rep Z.X.K ι' h'.length H' v d → Q v H') I
      ⟨ι, env, h, R, V, (RPost.bind q).mono fun d h1 ι1 H1 S1 R1 p1 v r => ⟨ι1, h1, d, R1, V.step S1 R, r, p1⟩⟩) fun u s1 ⟨v, H1, I1, rv, ι1, h1, d, R1, V1, rd, p1⟩ => ?_) ht
  obtain ⟨r, rfl, p1⟩ := p1.asRef
  obtain ⟨c, fs, hm, p1⟩ := p1.onIns
  obtain ⟨⟨n, M, dds⟩, hT1, p1⟩ := p1.onSome
  obtain ⟨hfs, p1⟩ := p1.guard
  obtain ⟨k, f, fd, ps, dvs, dsv, hC, hMe, F, hr, hb, hd, hq⟩ := (hT c n M dds hT1).ex
  cases rd with
  | ref hlt =>
    obtain ⟨ho, e3, ro⟩ := R1.obj r _ hm
    cases ro with
    | @ins _ dx fv _ rf =>
      obtain rfl : u = Value.ref (ι1 r) := rv
      refine getmeth_ok I1 e3 hC hMe (rf.none hfs) ?_
      obtain ⟨hl, p2⟩ := (RPost.ok R1 (RPost.bind p1)).guard
      exact PySem.W.callWith_K0 (first := [Value.ref (ι1 r)]) I1.kIn hMe.kp (run_call (us := [Value.ref (ι1 r)]) (vs := [.ref (ι1 r)]) F hr hb hd hq tk I1 (Paired.cons (show RelV (.ref (ι1 r)) (Value.ref (ι1 r)) from rfl) .nil) R1 (.cons (.ref hlt) .nil) (by simpa using hl) p2)
end
/-! ### a def by its body -/
def startD (n : Nat) (ds : List D) : En := ds.map some ++ List.replicate (n - ds.length) none
/-- the reading of a def by that of its body; n: how many names it has -/
def defM (n : Nat) (f : SS) : FA := fun ds h => match f (startD n ds) h with
  | .ok (.nx _) h' => .ok .non h'
  | .ok (.ret d) h' => .ok d h'
  | .ok (.exc c fs _) h' => .exc c fs h'
  | _ => .stuck
theorem vrep_start {K : PySem.W.Frag} {ι : Nat → Addr} {n : Nat} {H : Hp} {N : List Str} {vs : List V} {ds : List D} (r : Reps K ι n H vs ds) : VRep K ι n H (L2.start N vs) (startD N.length ds) := by
  unfold L2.start startD
  rw [r.len]
  refine ⟨by simp [r.len], fun i d e => ?_⟩
  by_cases hi : i < ds.length
  · rw [List.getElem?_append_left (by simpa using hi)] at e
    rw [List.getElem?_append_left (by simpa [r.len] using hi)]
    simp only [List.getElem?_map, Option.map_eq_some_iff] at e
    obtain ⟨d', e1, e2⟩ := e
    cases e2
    obtain ⟨v, e3, rv⟩ := r.get e1
    exact ⟨v, by rw [List.getElem?_map, e3]; rfl, rv⟩
  · rw [List.getElem?_append_right (by simpa using Nat.le_of_not_lt hi)] at e
    have := List.mem_of_getElem? e
    simp at this
theorem okM {P : Program} {w : World} {K : PySem.W.Frag} {mg : Str → Option Value} {base : Heap} {cA : CA} {x qual : Str} {st : Stmt} {f : Addr} {fd : FuncData} {N ps : List Str} {k : Nat} {g : SS} (F : Fun K x qual st f fd) (S : FnScope N ps (defScope st))
    (hbody : ∀ (cdv : Value) (A : Around) (outer : List Env) (s : Shared) (H : Hp) (E : XK), Room k (A.deeper (PyProof.Rows.envOfC qual (defScope st) s.heap.objs.size f cdv)) →
      KSs ⟨cxOf (L2.CX P w) P w K mg base N qual (defScope st) f cdv A outer s H E, cA, fun cls d _ H => E cls d H⟩ (defBody st) g) :
    FnOk P w K mg base (L2.CX P w) (k + 1) f fd ps (spOf K cA ps.length (defM N.length g)) :=
  F.okX S (fun vs H Q E h => h.1) fun cdv A outer s H vs Q E hr ⟨hl, ι, h, ds, R, rs, q⟩ => by
    refine ⟨_, (hbody cdv A outer s H E hr).pss, ι, _, h, R, vrep_start (N := N) rs, ?_⟩
    unfold defM at q
    cases e : g (startD N.length ds) h with
    | stuck => rw [e] at q; exact q.elim
    | ok fl h' =>
      rw [e] at q
      cases fl with
      | nx env => exact fun ι' H' S' R' σ' V' => q ι' H' S' R' _ .non
      | ret d => exact q
      | brk env => exact q.elim
      | ct env => exact q.elim
      | exc c fs env => exact fun ι' H' S' R' σ' cls od V' x => q ι' H' cls od S' R' x
end
end Kf
end
section
set_option maxHeartbeats 4000000
/-! Kf: dicts with keys that are ints and texts. -/
namespace Kf
open PySem PySem.Spec L2
def keyD : D → Option Key
  | .int i => some (.inl i)
  | .str s => some (.inr (Str.ofString s))
  | _ => none
def keyEq : D → D → Bool
  | .int i, .int j => i == j
  | .str s, .str t => s == t
  | _, _ => false
def dget : List (D × D) → D → Option D
  | [], _ => none
  | (k', v) :: r, k => if keyEq k' k then some v else dget r k
def dhas (kvs : List (D × D)) (k : D) : Bool := (dget kvs k).isSome
def dput (kvs : List (D × D)) (k v : D) : List (D × D) := if dhas kvs k then kvs.map (fun p => if keyEq p.1 k then (p.1, v) else p) else kvs ++ [(k, v)]
def ddrop (kvs : List (D × D)) (k : D) : List (D × D) := kvs.filter fun p => !keyEq p.1 k
section
variable {K : PySem.W.Frag} {ι : Nat → Addr} {n : Nat} {H : Hp}
theorem keyD_rep {x : V} {d : D} {k : Key} (r : Rep K ι n H x d) (e : keyD d = some k) : x = kV k := by
  cases r <;> simp [keyD] at e <;> subst e <;> rfl
theorem kV_key {k : Key} {d : D} (r : Rep K ι n H (kV k) d) : keyD d = some k := by
  cases k with
  | inl i => cases r; rfl
  | inr s =>
    generalize hx : kV (Sum.inr s) = x at r
    cases r <;> simp [kV] at hx
    subst hx; rfl
theorem keyEq_iff {k k' : Key} {d d' : D} (e : keyD d = some k) (e' : keyD d' = some k') : keyEq d' d = decide (k' = k) := by
  cases d <;> simp [keyD] at e <;> cases d' <;> simp [keyD] at e' <;> subst e <;> subst e'
  · rename_i i j
    by_cases h : j = i
    · simp [keyEq, h]
    · have : ¬ (Sum.inl j : Key) = Sum.inl i := fun z => h (Sum.inl.inj z)
      simp [keyEq, h]
  · simp [keyEq]
  · simp [keyEq]
  · rename_i s t
    by_cases h : t = s
    · simp [keyEq, h]
    · have h2 : ¬ Str.ofString t = Str.ofString s := fun z => h (ofString_inj z)
      simp [keyEq, h, h2]
theorem KRep.get {ks : List (Key × V)} {ds : List (D × D)} (r : KRep K ι n H ks ds) {k : Key} {kd : D} (e : keyD kd = some k) : match dget ds kd with
    | some d => ∃ v, valV ks k = some v ∧ Rep K ι n H v d
    | none => valV ks k = none := by
  induction r with
  | nil => rfl
  | @cons k' kd' x d ks ds rk rx _ ih =>
    have q := keyEq_iff e (kV_key rk)
    unfold dget
    by_cases c : k' = k
    · rw [q, decide_eq_true c, if_pos rfl]
      exact ⟨x, valV_pos c, rx⟩
    · rw [q, decide_eq_false c, if_neg (by simp), valV_neg c]
      exact ih
theorem KRep.has {ks : List (Key × V)} {ds : List (D × D)} (r : KRep K ι n H ks ds) {k : Key} {kd : D} (e : keyD kd = some k) : dhas ds kd = (valV ks k).isSome := by
  have q := r.get e
  unfold dhas
  cases h : dget ds kd with
  | none => rw [h] at q; rw [q]; rfl
  | some d => rw [h] at q; obtain ⟨v, e2, _⟩ := q; rw [e2]; rfl
theorem KRep.append {ks ks' : List (Key × V)} {ds ds' : List (D × D)} (r : KRep K ι n H ks ds) (r' : KRep K ι n H ks' ds') : KRep K ι n H (ks ++ ks') (ds ++ ds') := by
  induction r with
  | nil => exact r'
  | cons a b _ ih => exact .cons a b ih
theorem KRep.len {ks : List (Key × V)} {ds : List (D × D)} (r : KRep K ι n H ks ds) : ks.length = ds.length := by
  induction r with
  | nil => rfl
  | cons _ _ _ ih => simp [ih]
theorem KRep.put {ks : List (Key × V)} {ds : List (D × D)} (r : KRep K ι n H ks ds) {k : Key} {kd : D} {v : V} {d : D} (rk : Rep K ι n H (kV k) kd) (rv : Rep K ι n H v d) : KRep K ι n H (putK ks k v) (dput ds kd d) := by
  have e := kV_key rk
  unfold putK dput
  rw [valV_any, r.has e]
  by_cases c : (valV ks k).isSome = true
  · rw [if_pos c, if_pos c]
    clear c
    induction r with
    | nil => exact .nil
    | @cons k' kd' x d' ks ds rk' rx _ ih =>
      have q := keyEq_iff e (kV_key rk')
      simp only [List.map_cons]
      refine ?_
      by_cases c : k' = k
      · rw [if_pos c, q, decide_eq_true c, if_pos rfl]; exact .cons rk' rv ih
      · rw [if_neg c, q, decide_eq_false c, if_neg (by simp)]; exact .cons rk' rx ih
  · rw [if_neg c, if_neg c]
    exact r.append (.cons rk rv .nil)
theorem KRep.drop {ks : List (Key × V)} {ds : List (D × D)} (r : KRep K ι n H ks ds) {k : Key} {kd : D} (e : keyD kd = some k) : KRep K ι n H (dropK ks k) (ddrop ds kd) := by
  unfold dropK ddrop
  induction r with
  | nil => exact .nil
  | @cons k' kd' x d' ks ds rk' rx _ ih =>
    have q := keyEq_iff e (kV_key rk')
    rw [List.filter_cons, List.filter_cons, q]
    by_cases c : k' = k
    · simp [c]; simpa using ih
    · simp [c]; exact .cons rk' rx (by simpa using ih)
end

section
variable {Z : Kx}
theorem dict_at {ι : Nat → Addr} {H : Hp} {h : Hd} {m : Nat} {kvs : List (D × D)} (R : HRep Z.X.K Z.cA ι H h) (e : h[m]? = some (.dict kvs)) : ∃ ks, H (ι m) = some (.dK ks) ∧ KRep Z.X.K ι h.length H ks kvs := by
  obtain ⟨ho, e3, ro⟩ := R.obj m _ e
  cases ro with
  | dict r => exact ⟨_, e3, r⟩
/-! ### d[k] -/
/-- the pairs of a dict, walked or not -/
def dictD (h : Hd) (m : Nat) : Option (List (D × D)) := match h[m]? with
  | some (.dict kvs) => some kvs
  | some (.lkd kvs) => some kvs
  | _ => none
theorem dictD_of {h : Hd} {m : Nat} {kvs : List (D × D)} (e : h[m]? = some (.dict kvs)) : dictD h m = some kvs := by unfold dictD; rw [e]
theorem dictD_lkd {h : Hd} {m : Nat} {kvs : List (D × D)} (e : h[m]? = some (.lkd kvs)) : dictD h m = some kvs := by unfold dictD; rw [e]
theorem dictD_rep {ι : Nat → Addr} {H : Hp} {h : Hd} {m : Nat} {kvs : List (D × D)} (R : HRep Z.X.K Z.cA ι H h) (e : dictD h m = some kvs) : ∃ ks, Rd H (ι m) (.dK ks) ∧ KRep Z.X.K ι h.length H ks kvs := by
  unfold dictD at e
  cases hm : h[m]? with
  | none => rw [hm] at e; cases e
  | some o =>
    rw [hm] at e
    cases o with
    | dict k =>
      cases e
      obtain ⟨ks, e1, r⟩ := dict_at R hm
      exact ⟨ks, .inl e1, r⟩
    | lkd k =>
      cases e
      obtain ⟨ho, e3, ro⟩ := R.obj m _ hm
      cases ro with
      | lkd r => exact ⟨_, .inr ⟨_, e3⟩, r⟩
    | lst _ => cases e
    | ins _ _ => cases e
def rDGet : R2 := fun x y H Q => ∃ a v, x = .ref a ∧ DGet H a y (some v) ∧ Q v H
theorem ix_dict (hu : Z.X.A.units + 1 < cLine) : IxR Z.X rDGet := by
  intro value slice pins s σ H x y v u Q I rx ry ⟨a, w, ex, g, q⟩ hs
  subst ex
  obtain rfl : v = Value.ref a := rx
  exact PyProof.Rows.tail_any (dict_typeIs I g) PySem.F.slot_dict_getitem.lookup (d_getItem hu I g ry fun w' s3 I3 rw' => ⟨w, H, I3, rw', q⟩) hs
def dixF : F2 := fun x y h => asRef x fun m => onSome (dictD h m) fun kvs => onSome (keyD y) fun _ => onSome (dget kvs y) fun d => .ok d h
theorem ik_dict (hu : Z.X.A.units + 1 < cLine) : IxK Z dixF := ⟨_, ix_dict hu, fun σ ι h H x y dx dy Q R rx ry p => by
  obtain ⟨m, rfl, p⟩ := p.asRef
  obtain ⟨kvs, e, p⟩ := p.onSome
  obtain ⟨k, ek, p⟩ := p.onSome
  obtain ⟨d, ed, p⟩ := p.onSome
  cases rx
  obtain ⟨ks, e1, r⟩ := dictD_rep R e
  have q := r.get ek
  rw [ed] at q
  obtain ⟨v, ev, rv⟩ := q
  refine ⟨_, v, rfl, ?_, RPost.ok R p v rv⟩
  rw [keyD_rep ry ek]
  exact .inl ⟨ks, k, e1, rfl, ev.symm⟩⟩
/-- a[b], whatever a is: a tuple, a list, a dict -/
def getF : F2 := fun x y h => match x with
  | .ref m => match h[m]? with
    | some (.lst _) => ixF x y h
    | _ => dixF x y h
  | _ => ixF x y h
theorem IxK.alt {F G M : F2} (a : IxK Z F) (b : IxK Z G) (hm : ∀ x y h, M x y h = F x y h ∨ M x y h = G x y h) : IxK Z M := by
  obtain ⟨r, hr, kr⟩ := a
  obtain ⟨q, hq, kq⟩ := b
  refine ⟨_, hr.or hq, fun σ ι h H x y dx dy Q R rx ry p => ?_⟩
  rcases hm dx dy h with e | e
  · rw [e] at p; exact .inl (kr σ ι h H x y dx dy Q R rx ry p)
  · rw [e] at p; exact .inr (kq σ ι h H x y dx dy Q R rx ry p)
theorem ik_get (hu : Z.X.A.units + 1 < cLine) : IxK Z getF := .alt ik_seq (ik_dict hu) fun x y h => by
  unfold getF
  cases x with
  | ref m =>
    dsimp only
    cases h[m]? with
    | none => exact .inr rfl
    | some o => cases o <;> first | exact .inl rfl | exact .inr rfl
  | non => exact .inl rfl
  | bl _ => exact .inl rfl
  | int _ => exact .inl rfl
  | str _ => exact .inl rfl
  | xc _ _ _ _ => exact .inl rfl
  | fls _ => exact .inl rfl
  | tup _ => exact .inl rfl
/-! ### stores -/
abbrev F3 := D → D → D → Hd → Res Unit
def StK (Z : Kx) (F : F3) : Prop := ∃ r : TSet, PSet Z.X r ∧ ∀ (σ : L2.St) (ι : Nat → Addr) (h : Hd) (H : Hp) (o i v : V) (dO di dv : D) (Q : Hp → Prop), HRep Z.X.K Z.cA ι H h → Rep Z.X.K ι h.length H o dO → Rep Z.X.K ι h.length H i di → Rep Z.X.K ι h.length H v dv →
  RPost Z.X.K Z.cA Z.W σ ι h H (F dO di dv h) (fun _ h' ι' H' => Q H') → r o i v H Q
def gSub' (fo fi : SE) (F : F3) : SG := fun d env h => (fo env h).bind fun o h1 => (fi env h1).bind fun i h2 => (F o i d h2).bind fun _ h3 => .ok env h3
theorem kg_sub {F : F3} {o i : Expr} {fo fi : SE} {pos : Pos} (hF : StK Z F) (ho : KE Z o fo) (hi : KE Z i fi)
    (ha : ∀ v, assign (.Subscript o i pos) Z.X.env v = (do
      let ov ← holding [v] (eval o Z.X.env); let iv ← holding [v, ov] (eval i Z.X.env); standAt pos
      holding [v, ov, iv] (setItem ov iv v); release [v, ov, iv] []) := by intro _; rfl) : KG Z (.Subscript o i pos) (gSub' fo fi F) := by
  obtain ⟨r, hr, k⟩ := hF
  exact ⟨(pg_sub ho.pe hi.pe hr ha).weak fun v σ H Q ⟨ι, env, h, d, R, V, rv, p⟩ => ⟨ι, env, h, R, V, (RPost.bind p).mono fun od h1 ι1 H1 S1 R1 p1 ov ro =>
    ⟨ι1, env, h1, R1, V.step S1 R, (RPost.bind p1).mono fun di h2 ι2 H2 S2 R2 p2 iv ri =>
      k σ ι2 h2 H2 ov iv v od di d _ R2 (ro.step S2 R1) ri (rv.step (S1.trans S2) R) ((RPost.bind p2).mono fun _ h3 ι3 H3 S3 R3 p3 => RPost.ok R3 p3 σ (V.step (S1.trans (S2.trans S3)) R))⟩⟩⟩
theorem StK.alt {F G M : F3} (a : StK Z F) (b : StK Z G) (hm : ∀ x y z h, M x y z h = F x y z h ∨ M x y z h = G x y z h) : StK Z M := by
  obtain ⟨r, hr, kr⟩ := a
  obtain ⟨q, hq, kq⟩ := b
  refine ⟨fun o i v H Q => r o i v H Q ∨ q o i v H Q, fun pins s σ H o i v ov iv u Q I ro ri rv z => z.elim (hr pins s σ H o i v ov iv u Q I ro ri rv) (hq pins s σ H o i v ov iv u Q I ro ri rv), fun σ ι h H o i v dO di dv Q R ro ri rv p => ?_⟩
  rcases hm dO di dv h with e | e
  · rw [e] at p; exact .inl (kr σ ι h H o i v dO di dv Q R ro ri rv p)
  · rw [e] at p; exact .inr (kq σ ι h H o i v dO di dv Q R ro ri rv p)
def setL : F3 := fun o i v h => asRef o fun m => asInt i fun k => onLst h m fun ds => onSome (ixN ds.length k) fun j => .ok () (h.set m (.lst (ds.set j v)))
theorem Reps.set {K : PySem.W.Frag} {ι : Nat → Addr} {n : Nat} {H : Hp} : ∀ {vs : List V} {ds : List D} (j : Nat) {v : V} {d : D}, Reps K ι n H vs ds → Rep K ι n H v d → Reps K ι n H (vs.set j v) (ds.set j d)
  | _, _, _, _, _, .nil, _ => .nil
  | _, _, 0, _, _, .cons _ q, r => .cons r q
  | _, _, j + 1, _, _, .cons p q, r => .cons p (Reps.set j q r)
theorem lst_at {ι : Nat → Addr} {H : Hp} {h : Hd} {m : Nat} {ds : List D} (R : HRep Z.X.K Z.cA ι H h) (e : h[m]? = some (.lst ds)) : ∃ xs, H (ι m) = some (.lst xs) ∧ Reps Z.X.K ι h.length H xs ds ∧ ∀ x u, H (ι m) ≠ some (.frz x u) := by
  obtain ⟨ho, e3, ro⟩ := R.obj m _ e
  cases ro with
  | lst r => exact ⟨_, e3, r, fun x u z => by rw [e3] at z; cases z⟩
theorem st_list : StK Z setL := ⟨_, set_list, fun σ ι h H o i v dO di dv Q R ro ri rv p => by
  obtain ⟨m, rfl, p⟩ := p.asRef
  obtain ⟨k, rfl, p⟩ := p.asInt
  obtain ⟨ds, e, p⟩ := p.onLst
  obtain ⟨j, ej, p⟩ := p.onSome
  cases ri
  cases ro with
  | ref hlt =>
    obtain ⟨xs, e3, rs, hf⟩ := lst_at R e
    refine ⟨_, xs, k, j, rfl, rfl, e3, by rw [rs.len]; exact ej, ?_⟩
    exact p ι _ (Step.set R hlt hf (.lst (xs.set j v)) (.lst (ds.set j dv))) (R.set hlt hf (.lst (rs.set j rv)))⟩
def rDPut : TSet := fun o i v H Q => ∃ a H', o = .ref a ∧ DPut H a i v H' ∧ Q H'
theorem set_dict (hu : Z.X.A.units + 1 < cLine) : PSet Z.X rDPut := by
  intro pins s σ H o i v ov iv u Q I ro ri rv ⟨a, H', eo, g, q⟩
  subst eo
  obtain rfl : ov = Value.ref a := ro
  exact d_setItem hu I g ri rv fun s4 I4 => ⟨H', I4, q⟩
def setD : F3 := fun o i v h => asRef o fun m => onDict h m fun kvs => onSome (keyD i) fun _ => guard' (kvs.length < LIM) (.ok () (h.set m (.dict (dput kvs i v))))
theorem st_dict (hu : Z.X.A.units + 1 < cLine) : StK Z setD := ⟨_, set_dict hu, fun σ ι h H o i v dO di dv Q R ro ri rv p => by
  obtain ⟨m, rfl, p⟩ := p.asRef
  obtain ⟨kvs, e, p⟩ := p.onDict
  obtain ⟨k, ek, p⟩ := p.onSome
  obtain ⟨hl, p⟩ := p.guard
  cases ro with
  | ref hlt =>
    obtain ⟨ks, e3, rs⟩ := dict_at R e
    have hf : ∀ x u, H (ι m) ≠ some (.frz x u) := fun x u z => by rw [e3] at z; cases z
    have ei := keyD_rep ri ek
    subst ei
    refine ⟨_, _, rfl, DPut.k e3 (by rw [rs.len]; exact lim_lt hl), ?_⟩
    exact p ι _ (Step.set R hlt hf (.dK (putK ks k v)) (.dict (dput kvs di dv))) (R.set hlt hf (.dict (rs.put ri rv)))⟩
def setF : F3 := fun o i v h => match o with
  | .ref m => match h[m]? with
    | some (.lst _) => setL o i v h
    | _ => setD o i v h
  | _ => .stuck
theorem st_set (hu : Z.X.A.units + 1 < cLine) : StK Z setF := .alt st_list (st_dict hu) fun x y z h => by
  unfold setF
  cases x with
  | ref m =>
    dsimp only
    cases h[m]? with
    | none => exact .inr rfl
    | some o => cases o <;> first | exact .inl rfl | exact .inr rfl
  | non => exact .inl rfl
  | bl _ => exact .inl rfl
  | int _ => exact .inl rfl
  | str _ => exact .inl rfl
  | xc _ _ _ _ => exact .inl rfl
  | fls _ => exact .inl rfl
  | tup _ => exact .inl rfl
end
end Kf
end
section
set_option maxHeartbeats 4000000
/-! Kf: dicts: displays, in, get, len, del, walks. -/
namespace Kf
open PySem PySem.Spec L2
def dmerge (acc more : List (D × D)) : List (D × D) := more.foldl (fun a p => dput a p.1 p.2) acc
section
variable {K : PySem.W.Frag} {ι : Nat → Addr} {n : Nat} {H : Hp}
theorem KRep.merge {ks : List (Key × V)} {ds : List (D × D)} (r : KRep K ι n H ks ds) : ∀ {ks' : List (Key × V)} {ds' : List (D × D)}, KRep K ι n H ks' ds' → KRep K ι n H (mergeK ks' ks) (dmerge ds' ds) := by
  induction r with
  | nil => exact fun q => q
  | cons rk rv _ ih => exact fun q => ih (q.put rk rv)
end
section
variable {Z : Kx}
/-! ### displays -/
def sPairs : List (SE × SE) → En → Hd → Res (List (D × D))
  | [], _, h => .ok [] h
  | (f, g) :: r, env, h => (f env h).bind fun k h1 => (g env h1).bind fun v h2 => (sPairs r env h2).bind fun ps h3 => .ok ((k, v) :: ps) h3
inductive PRep (K : PySem.W.Frag) (ι : Nat → Addr) (n : Nat) (H : Hp) : List (V × V) → List (D × D) → Prop where
  | nil : PRep K ι n H [] []
  | cons {x y : V} {d e : D} {ps : List (V × V)} {ds : List (D × D)} : Rep K ι n H x d → Rep K ι n H y e → PRep K ι n H ps ds → PRep K ι n H ((x, y) :: ps) ((d, e) :: ds)
theorem tPairs_of {σ : L2.St} {env : En} : ∀ (r : List (SE × SE)) {ι : Nat → Addr} {h : Hd} {H : Hp} {Q : List (V × V) → Hp → Prop}, HRep Z.X.K Z.cA ι H h → VRep Z.X.K ι h.length H σ env →
    RPost Z.X.K Z.cA Z.W σ ι h H (sPairs r env h) (fun ds h' ι' H' => ∀ ps, PRep Z.X.K ι' h'.length H' ps ds → Q ps H') → tPairs (r.map fun p => (tD Z p.1, tD Z p.2)) σ H Q
  | [], ι, h, H, Q, R, V, p => RPost.ok R p [] .nil
  | (f, g) :: r, ι, h, H, Q, R, V, p => ⟨ι, env, h, R, V, (RPost.bind p).mono fun k h1 ι1 H1 S1 R1 p1 x rx => ⟨ι1, env, h1, R1, V.step S1 R, (RPost.bind p1).mono fun v h2 ι2 H2 S2 R2 p2 y ry =>
      tPairs_of r R2 (V.step (S1.trans S2) R) ((RPost.bind p2).mono fun ds h3 ι3 H3 S3 R3 p3 ps rp => RPost.ok R3 p3 _ (.cons (rx.step (S2.trans S3) R1) (ry.step S3 R2) rp))⟩⟩
structure KPs (Z : Kx) (pos : Pos) (ks : List (Option Expr)) (vs : List Expr) (r : List (SE × SE)) : Prop where
  pps : PPs Z.X pos ks vs (r.map fun p => (tD Z p.1, tD Z p.2))
theorem kps_nil {pos : Pos} : KPs Z pos [] [] [] := ⟨pps_nil⟩
theorem kps_cons {pos : Pos} {k v : Expr} {ks : List (Option Expr)} {vs : List Expr} {f g : SE} {r : List (SE × SE)} (hk : KE Z k f) (hv : KE Z v g) (hr : KPs Z pos ks vs r) : KPs Z pos (some k :: ks) (v :: vs) ((f, g) :: r) := ⟨pps_cons hk.pe hv.pe hr.pps⟩
def sDict (r : List (SE × SE)) : SE := fun env h => (sPairs r env h).bind fun ds h1 => guard' (ds.length ≤ 15 ∧ (ds.all fun p => (keyD p.1).isSome) = true) (.ok (.ref h1.length) (h1 ++ [.dict (dmerge [] ds)]))
theorem keys_of {K : PySem.W.Frag} {ι : Nat → Addr} {n : Nat} {H : Hp} {ps : List (V × V)} {ds : List (D × D)} (r : PRep K ι n H ps ds) (e : (ds.all fun p => (keyD p.1).isSome) = true) : ∃ kvs : List (Key × V), ps = kvs.map (fun kv => (kV kv.1, kv.2)) ∧ KRep K ι n H kvs ds := by
  induction r with
  | nil => exact ⟨[], rfl, .nil⟩
  | @cons x y d e' ps ds rx ry _ ih =>
    simp only [List.all_cons, Bool.and_eq_true] at e
    obtain ⟨k, ek⟩ := Option.isSome_iff_exists.mp e.1
    obtain ⟨kvs, e1, r1⟩ := ih e.2
    have ex := keyD_rep rx ek
    subst ex
    exact ⟨(k, y) :: kvs, by rw [e1]; rfl, .cons rx ry r1⟩
theorem ke_dict {pos : Pos} {ks : List (Option Expr)} {vs : List Expr} {r : List (SE × SE)} (hp : KPs Z pos ks vs r) (hall : ks.all (·.isSome) = true := by rfl) (hl : ks.length = vs.length := by rfl) (h0 : ks ≠ [] := by exact fun z => nomatch z)
    (h15 : ks.length ≤ 15 := by decide) : KE Z (.Dict ks vs pos) (sDict r) :=
  ⟨(pe_disp hp.pps hall hl h0 h15).weak fun σ H Q ⟨ι, env, h, R, V, p⟩ => fun a ha => by
    have S0 := Step.aside R ha (.dK [])
    have R0 := R.aside ha (.dK [])
    refine tPairs_of r R0 (V.step S0 R) (RPost.mono (RPost.bind1 S0 p) fun ds h1 ι1 H1 S1 R1 p1 ps rp => ?_)
    obtain ⟨⟨hl, hk⟩, p1⟩ := p1.guard
    have na : ∀ m, m < h1.length → a ≠ ι1 m := fun m hm z => by
      by_cases c : m < h.length
      · have := S1.eq m c
        rw [this] at z
        exact R.off ha c z.symm
      · have := S1.fresh m (Nat.le_of_not_lt c) hm
        rw [← z, upd_same] at this; cases this
    have ea : H1 a = some (.dK []) := S1.keep a _ upd_same fun m hm z => R.off ha hm z.symm
    obtain ⟨kvs, ek, rk⟩ := keys_of rp hk
    refine ⟨ea, kvs, ek, ?_, ?_⟩
    · have := rk.len; omega
    · have hne : ∀ x xs, HO.dK [] ≠ HO.frz x xs := fun x xs z => by cases z
      have t1 : TKeep Z.X.K H1 (upd H1 a (.dK (mergeK [] kvs))) := tkeep_upd ea (fun _ z => by cases z) (fun _ _ z => by cases z) _
      have R2 : HRep Z.X.K Z.cA ι1 (upd H1 a (.dK (mergeK [] kvs))) h1 := ⟨fun m o e => by
        obtain ⟨ho, e3, ro⟩ := R1.obj m o e
        exact ⟨ho, by rw [upd_ne (Ne.symm (na m (lt_of_get e)))]; exact e3, ro.keep t1 (Nat.le_refl _) fun _ _ => rfl⟩, R1.inj⟩
      have S2 : Step ι h H ι1 h1 (upd H1 a (.dK (mergeK [] kvs))) := (S0.trans S1).write ha na _
      have rd : KRep Z.X.K ι1 h1.length (upd H1 a (.dK (mergeK [] kvs))) (mergeK [] kvs) (dmerge [] ds) := (rk.merge .nil).keep t1 (Nat.le_refl _) fun _ _ => rfl
      have e4 : Rep Z.X.K (more ι1 h1.length a) (h1 ++ [O.dict (dmerge [] ds)]).length (upd H1 a (.dK (mergeK [] kvs))) (.ref (more ι1 h1.length a h1.length)) (.ref h1.length) := .ref (by simp)
      rw [more_at] at e4
      exact p1 _ _ (S2.take ha _) (R2.take upd_same na (.dict rd)) _ e4⟩
def sDict0 : SE := fun _ h => .ok (.ref h.length) (h ++ [.dict []])
theorem ke_dict0 {pos : Pos} : KE Z (.Dict [] [] pos) sDict0 := ⟨pe_dnewK.weak fun σ H Q ⟨ι, env, h, R, V, p⟩ => fun a ha => by
  have e4 : Rep Z.X.K (more ι h.length a) (h ++ [O.dict []]).length (upd H a (.dK [])) (.ref (more ι h.length a h.length)) (.ref h.length) := .ref (by simp)
  rw [more_at] at e4
  exact p _ _ (Step.alloc R ha _ _) (R.alloc ha (.dict .nil)) _ e4⟩
/-! ### in, len -/
def dinF (neg : Bool) : F2 := fun x y h => asRef y fun m => onSome (dictD h m) fun kvs => onSome (keyD x) fun _ => .ok (.bl (if neg then !dhas kvs x else dhas kvs x)) h
def rDIn (neg : Bool) : R2 := fun y x H Q => ∃ a o, x = .ref a ∧ DGet H a y o ∧ Q (.bl (if neg then !o.isSome else o.isSome)) H
theorem op_din (hu : Z.X.A.units + 1 < cLine) : OpR Z.X (compareOp .In) (rDIn false) := by
  intro pins s σ H y x iv u Q I ry rx ⟨a, o, ex, g, q⟩
  subst ex
  obtain rfl : u = Value.ref a := rx
  exact d_in hu I g ry fun s3 I3 => ⟨.bl o.isSome, H, I3, rfl, q⟩
theorem op_dnotin (hu : Z.X.A.units + 1 < cLine) : OpR Z.X (compareOp .NotIn) (rDIn true) := by
  intro pins s σ H y x iv u Q I ry rx ⟨a, o, ex, g, q⟩
  subst ex
  obtain rfl : u = Value.ref a := rx
  exact d_notIn hu I g ry fun s3 I3 => ⟨.bl (!o.isSome), H, I3, rfl, q⟩
theorem din_post {neg : Bool} {σ : L2.St} {ι : Nat → Addr} {h : Hd} {H : Hp} {x y : V} {dx dy : D} {Q : VK} (R : HRep Z.X.K Z.cA ι H h) (rx : Rep Z.X.K ι h.length H x dx) (ry : Rep Z.X.K ι h.length H y dy)
    (p : RPost Z.X.K Z.cA Z.W σ ι h H (dinF neg dx dy h) fun d h' ι' H' => ∀ v, Rep Z.X.K ι' h'.length H' v d → Q v H') : rDIn neg x y H Q := by
  obtain ⟨m, rfl, p⟩ := p.asRef
  obtain ⟨kvs, e, p⟩ := p.onSome
  obtain ⟨k, ek, p⟩ := p.onSome
  cases ry
  obtain ⟨ks, e1, r⟩ := dictD_rep R e
  refine ⟨_, valV ks k, rfl, by rw [keyD_rep rx ek]; exact .inl ⟨ks, k, e1, rfl, rfl⟩, ?_⟩
  rw [← r.has ek]
  exact RPost.ok R p _ .bl
theorem ko_din (hu : Z.X.A.units + 1 < cLine) : OpK Z (compareOp .In) (dinF false) := ⟨_, op_din hu, fun σ ι h H x y dx dy Q R rx ry p => din_post R rx ry p⟩
theorem ko_dnotin (hu : Z.X.A.units + 1 < cLine) : OpK Z (compareOp .NotIn) (dinF true) := ⟨_, op_dnotin hu, fun σ ι h H x y dx dy Q R rx ry p => din_post R rx ry p⟩
/-- x in y, whatever y is -/
def memF (neg : Bool) : F2 := fun x y h => match y with
  | .ref m => match h[m]? with
    | some (.lst _) => inF neg x y h
    | _ => dinF neg x y h
  | _ => inF neg x y h
theorem memF_or (neg : Bool) (x y : D) (h : Hd) : memF neg x y h = inF neg x y h ∨ memF neg x y h = dinF neg x y h := by
  unfold memF
  cases y with
  | ref m =>
    dsimp only
    cases h[m]? with
    | none => exact .inr rfl
    | some o => cases o <;> first | exact .inl rfl | exact .inr rfl
  | non => exact .inl rfl
  | bl _ => exact .inl rfl
  | int _ => exact .inl rfl
  | str _ => exact .inl rfl
  | xc _ _ _ _ => exact .inl rfl
  | fls _ => exact .inl rfl
  | tup _ => exact .inl rfl
theorem ko_mem (hu : Z.X.A.units + 65 < cLine) : OpK Z (compareOp .In) (memF false) := .alt (ko_in hu) (ko_din (by omega)) fun x y h => memF_or _ x y h
theorem ko_notmem (hu : Z.X.A.units + 65 < cLine) : OpK Z (compareOp .NotIn) (memF true) := .alt (ko_notin hu) (ko_dnotin (by omega)) fun x y h => memF_or _ x y h
theorem CallK.alt {f : Value} {F G M : FA} (a : CallK Z f F) (b : CallK Z f G) (hm : ∀ x h, M x h = F x h ∨ M x h = G x h) : CallK Z f M := by
  obtain ⟨r, hr, kr⟩ := a
  obtain ⟨q, hq, kq⟩ := b
  refine ⟨fun xs H Q => r xs H Q ∨ q xs H Q, fun pins s σ H xs us Q I rs z => z.elim (hr pins s σ H xs us Q I rs) (hq pins s σ H xs us Q I rs), fun σ ι h H xs ds Q R rs p => ?_⟩
  rcases hm ds h with e | e
  · rw [e] at p; exact .inl (kr σ ι h H xs ds Q R rs p)
  · rw [e] at p; exact .inr (kq σ ι h H xs ds Q R rs p)
def dlenF : FA := fa1 fun d h => asRef d fun m => onDict h m fun kvs => .ok (.int kvs.length) h
theorem ck_dlen : CallK Z (.builtin "len") dlenF := ⟨_, call_lenD, fun σ ι h H xs ds Q R rs p => by
  obtain ⟨d, rfl, p⟩ := p.fa1
  obtain ⟨x, rfl, r⟩ := wit rs
  obtain ⟨m, rfl, p⟩ := p.asRef
  obtain ⟨kvs, e, p⟩ := p.onDict
  cases r
  obtain ⟨ks, e3, rk⟩ := dict_at R e
  exact ⟨_, ks, rfl, e3, by rw [rk.len]; exact RPost.ok R p _ .int⟩⟩
def lenA : FA := fun ds h => match ds with
  | [.ref m] => match h[m]? with
    | some (.dict _) => dlenF ds h
    | _ => lenF ds h
  | _ => lenF ds h
theorem ck_lenA : CallK Z (.builtin "len") lenA := .alt ck_len ck_dlen fun x h => by
  unfold lenA
  split
  · split
    · exact .inr rfl
    · exact .inl rfl
  · exact .inl rfl
end
end Kf
end
section
set_option maxHeartbeats 4000000
/-! Kf: the top's facts in bundles, short words, a law's end. -/
namespace Kf
open PySem PySem.Spec L2
/-- what stays the same through a whole law -/
structure Gx where
  P : Program
  w : World
  K : PySem.W.Frag
  mg : Str → Option Value
  base : Heap
  cA : CA
/-- a body's surroundings stand in those of the law -/
structure Kx.In (Z : Kx) (G : Gx) (k : Nat) : Prop where
  P : Z.X.prog = G.P
  w : Z.X.w = G.w
  K : Z.X.K = G.K
  mg : Z.X.mg = G.mg
  base : Z.X.base = G.base
  cA : Z.cA = G.cA
  room : Room k Z.X.A
  tk : Takes Z.X Z.W
  ow : PassesOwn (model Z.X.prog Z.X.w) Z.X.A Z.X.env Z.X.xe
  cm : Z.X.calm = true
theorem Kx.In.hu {Z : Kx} {G : Gx} {k : Nat} (i : Z.In G k) : Z.X.A.units + 65 < cLine := by have := i.room.un; omega
theorem Kx.In.hu64 {Z : Kx} {G : Gx} {k : Nat} (i : Z.In G k) : Z.X.A.units + 64 < cLine := by have := i.room.un; omega
theorem Kx.In.hu1 {Z : Kx} {G : Gx} {k : Nat} (i : Z.In G k) : Z.X.A.units + 1 < cLine := by have := i.room.un; omega
theorem Kx.In.blk {Z : Kx} {G : Gx} {k : Nat} (i : Z.In G k) (s : Shared) (H : Hp) (scope : Scope) (C : Addr) (cl : List (Str × Addr)) (fp : List Addr) : (Z.blk s H scope C cl fp).In G k := ⟨i.P, i.w, i.K, i.mg, i.base, i.cA, i.room, takes0, PassesOwn.never, i.cm⟩
/-- a def of the module, ready to be called: its level, how many parameters, its reading, the defaults that fill up -/
structure CF (G : Gx) (x : Str) (k n : Nat) (M : FA) (dds : List D) : Prop where
  ex : ∃ (f : Addr) (fd : FuncData) (ps : List Str) (ds : List Value) (dvs : List V), G.mg x = some (.ref f) ∧ PySem.W.keepIn G.K (.ref f) = true ∧ FnOk G.P G.w G.K G.mg G.base (L2.CX G.P G.w) k f fd ps (spOf G.K G.cA n M) ∧
    Binds G.K fd ps ds ∧ Vals dvs ds ∧ ∀ ι n H, Reps G.K ι n H dvs dds
/-- a class of the module, ready to be made -/
structure CM (G : Gx) (x : Str) (c : String) (k n : Nat) (M : FA) (dds : List D) : Prop where
  ex : ∃ (f : Addr) (fd : FuncData) (ps : List Str) (ds : List Value) (dvs : List V), G.mg x = some (.ref (G.cA c)) ∧ Mk G.K (G.cA c) f ∧ FnOk G.P G.w G.K G.mg G.base (L2.CX G.P G.w) k f fd ps (spOf G.K G.cA n M) ∧
    Binds G.K fd ps ds ∧ Vals dvs ds ∧ ∀ ι n H, Reps G.K ι n H dvs dds
/-- a method of a class -/
structure CMeth (G : Gx) (m : Str) (c : String) (k n : Nat) (M : FA) (dds : List D) : Prop where
  ex : ∃ (f : Addr) (fd : FuncData) (ps : List Str) (ds : List Value) (dvs : List V), Cls G.K (G.cA c) ∧ Meth G.K (G.cA c) m f ∧ FnOk G.P G.w G.K G.mg G.base (L2.CX G.P G.w) k f fd ps (spOf G.K G.cA n M) ∧
    Binds G.K fd ps ds ∧ Vals dvs ds ∧ ∀ ι n H, Reps G.K ι n H dvs dds
section
variable {Z : Kx} {G : Gx} {j k n : Nat} {x : Str} {c : String} {M : FA} {dds : List D} {p pos apos : Pos} {e o : Expr} {es : List Expr} {a : SA} {fo : SE}
theorem kc {i : Z.In G j} (F : CF G x k n M dds) (hj : k ≤ j) (hg : Gl Z.X x) (ha : KA Z (e :: es) a) (hdb : (x == ("__debug__" : Str)) = false := by decide)
    (he : starEach (e :: es) Z.X.env = (false, eval e Z.X.env) :: starEach es Z.X.env := by rfl) (hpl : (backTo pos (starEach es Z.X.env)).any (·.1) = false := by rfl) : KE Z (.Call (.Name x p) (e :: es) [] pos) (sFn n M dds a) := by
  obtain ⟨X, cA, W⟩ := Z
  obtain ⟨P, w, K, mg, base, cA'⟩ := G
  obtain ⟨h1, h2, h3, h4, h5, h6, room, tk, ow, cm⟩ := i
  obtain ⟨f, fd, ps, ds, dvs, g1, g2, g3, g4, g5, g6⟩ := F.ex
  dsimp only at *
  subst h1 h2 h3 h4 h5 h6
  exact ke_call g3 (room.mono hj) hg g1 g2 g4 g5 g6 tk ha hdb he hpl
theorem kc0 {i : Z.In G j} (F : CF G x k n M dds) (hj : k ≤ j) (hg : Gl Z.X x) (hdb : (x == ("__debug__" : Str)) = false := by decide) : KE Z (.Call (.Name x p) [] [] pos) (sFn n M dds sNil) := by
  obtain ⟨X, cA, W⟩ := Z
  obtain ⟨P, w, K, mg, base, cA'⟩ := G
  obtain ⟨h1, h2, h3, h4, h5, h6, room, tk, ow, cm⟩ := i
  obtain ⟨f, fd, ps, ds, dvs, g1, g2, g3, g4, g5, g6⟩ := F.ex
  dsimp only at *
  subst h1 h2 h3 h4 h5 h6
  exact ke_call0 g3 (room.mono hj) hg g1 g2 g4 g5 g6 tk hdb
theorem km {i : Z.In G j} (F : CM G x c k n M dds) (hj : k + 1 ≤ j) (hg : Gl Z.X x) (ha : KA Z (e :: es) a) (hdb : (x == ("__debug__" : Str)) = false := by decide)
    (he : starEach (e :: es) Z.X.env = (false, eval e Z.X.env) :: starEach es Z.X.env := by rfl) (hpl : (backTo pos (starEach es Z.X.env)).any (·.1) = false := by rfl) : KE Z (.Call (.Name x p) (e :: es) [] pos) (sNewI c n M dds a) := by
  obtain ⟨X, cA, W⟩ := Z
  obtain ⟨P, w, K, mg, base, cA'⟩ := G
  obtain ⟨h1, h2, h3, h4, h5, h6, room, tk, ow, cm⟩ := i
  obtain ⟨f, fd, ps, ds, dvs, g1, g2, g3, g4, g5, g6⟩ := F.ex
  dsimp only at *
  subst h1 h2 h3 h4 h5 h6
  exact ke_make g2 g3 (room.mono hj) hg g1 g4 g5 g6 tk ha hdb he hpl
theorem km0 {i : Z.In G j} (F : CM G x c k n M dds) (hj : k + 1 ≤ j) (hg : Gl Z.X x) (hdb : (x == ("__debug__" : Str)) = false := by decide) : KE Z (.Call (.Name x p) [] [] pos) (sNewI c n M dds sNil) := by
  obtain ⟨X, cA, W⟩ := Z
  obtain ⟨P, w, K, mg, base, cA'⟩ := G
  obtain ⟨h1, h2, h3, h4, h5, h6, room, tk, ow, cm⟩ := i
  obtain ⟨f, fd, ps, ds, dvs, g1, g2, g3, g4, g5, g6⟩ := F.ex
  dsimp only at *
  subst h1 h2 h3 h4 h5 h6
  exact ke_make0 g2 g3 (room.mono hj) hg g1 g4 g5 g6 tk hdb
/-- methods by the classes that have them -/
def tabM (l : List (String × (Nat × FA × List D))) : MT := fun c => l.lookup c
inductive CMeths (G : Gx) (j : Nat) (m : Str) : List (String × (Nat × FA × List D)) → Prop where
  | nil : CMeths G j m []
  | cons {c : String} {k n : Nat} {M : FA} {dds : List D} {l : List (String × (Nat × FA × List D))} : CMeth G m c k n M dds → k ≤ j → CMeths G j m l → CMeths G j m ((c, n, M, dds) :: l)
theorem CMeths.at {m : Str} {l : List (String × (Nat × FA × List D))} (h : CMeths G j m l) {c : String} {n : Nat} {M : FA} {dds : List D} (e : l.lookup c = some (n, M, dds)) : ∃ k, k ≤ j ∧ CMeth G m c k n M dds := by
  induction h with
  | nil => cases e
  | @cons c' k n' M' dds' l h hj _ ih =>
    rw [List.lookup_cons] at e
    cases q : c == c' with
    | true =>
      rw [q] at e
      cases e
      have := eq_of_beq q
      subst this
      exact ⟨k, hj, h⟩
    | false => rw [q] at e; exact ih e
theorem mt_of {i : Z.In G j} {m : Str} {l : List (String × (Nat × FA × List D))} (h : CMeths G j m l) : MethT Z m (tabM l) := fun c n M dds e => by
  obtain ⟨k, hk, hm⟩ := h.at e
  obtain ⟨X, cA, W⟩ := Z
  obtain ⟨P, w, K, mg, base, cA'⟩ := G
  obtain ⟨h1, h2, h3, h4, h5, h6, room, tk, ow, cm⟩ := i
  obtain ⟨f, fd, ps, ds, dvs, g1, g2, g3, g4, g5, g6⟩ := hm.ex
  dsimp only at *
  subst h1 h2 h3 h4 h5 h6
  exact ⟨k, f, fd, ps, dvs, ds, g1, g2, g3, room.mono hk, g4, g5, g6⟩
theorem ks_meth {i : Z.In G j} {mm : String} {l : List (String × (Nat × FA × List D))} {pl : Sem Bool} (ho : KE Z o fo) (h : CMeths G j (Str.ofString mm) l) (ha : KA Z (e :: es) a)
    (hst : starEach (e :: es) Z.X.env = (false, eval e Z.X.env) :: starEach es Z.X.env := by rfl) (hpl : (backTo pos (starEach es Z.X.env)).any (·.1) = false := by rfl)
    (ht : eval (.Call (.Attribute o (Str.ofString mm) apos) (e :: es) [] pos) Z.X.env = (do
      let ov ← eval o Z.X.env; standAt apos.atName
      let (g, first) ← holding [ov] (getMethod ov (Str.ofString mm) pl); callWith pos g first (backTo pos (starEach (e :: es) Z.X.env)) (backToKw pos (keywordEach [] Z.X.env))) := by rfl) :
    KE Z (.Call (.Attribute o (Str.ofString mm) apos) (e :: es) [] pos) (sMeth mm (tabM l) fo a) := ke_meth ho (mt_of (i := i) h) i.tk ha hst hpl ht
theorem ks_meth0 {i : Z.In G j} {mm : String} {l : List (String × (Nat × FA × List D))} {pl : Sem Bool} (ho : KE Z o fo) (h : CMeths G j (Str.ofString mm) l)
    (ht : eval (.Call (.Attribute o (Str.ofString mm) apos) [] [] pos) Z.X.env = (do
      let ov ← eval o Z.X.env; standAt apos.atName
      let (g, first) ← holding [ov] (getMethod ov (Str.ofString mm) pl); callWith pos g first (backTo pos (starEach [] Z.X.env)) (backToKw pos (keywordEach [] Z.X.env))) := by rfl) :
    KE Z (.Call (.Attribute o (Str.ofString mm) apos) [] [] pos) (sMeth mm (tabM l) fo sNil) := ke_meth0 ho (mt_of (i := i) h) i.tk ht
end
/-! ### a def of the text -/
/-- a def (or method) as the top leaves it, with its defaults -/
structure GF (G : Gx) (x qual : Str) (st : Stmt) (f : Addr) (fd : FuncData) (ps : List Str) (ds : List Value) : Prop where
  F : Fun G.K x qual st f fd
  b : Binds G.K fd ps ds
abbrev Gx.kx (G : Gx) (N : List Str) (qual : Str) (sc : Scope) (f : Addr) (cdv : Value) (A : Around) (outer : List Env) (s : Shared) (H : Hp) (E : XK) : Kx :=
  ⟨cxOf (L2.CX G.P G.w) G.P G.w G.K G.mg G.base N qual sc f cdv A outer s H E, G.cA, fun cls d _ H => E cls d H⟩
theorem kx_in {G : Gx} {N : List Str} {qual : Str} {sc : Scope} {f : Addr} {cdv : Value} {A : Around} {outer : List Env} {s : Shared} {H : Hp} {E : XK} {k : Nat} (hr : Room k (A.deeper (PyProof.Rows.envOfC qual sc s.heap.objs.size f cdv))) :
    (G.kx N qual sc f cdv A outer s H E).In G k := ⟨rfl, rfl, rfl, rfl, rfl, rfl, hr, takes_of rfl rfl rfl rfl, passes_of rfl, rfl⟩
theorem fn_of' {G : Gx} {x qual : Str} {st : Stmt} {f : Addr} {fd : FuncData} {N ps : List Str} {k : Nat} {g : SS} (F : Fun G.K x qual st f fd) (S : FnScope N ps (defScope st))
    (hbody : ∀ (cdv : Value) (A : Around) (outer : List Env) (s : Shared) (H : Hp) (E : XK), (G.kx N qual (defScope st) f cdv A outer s H E).In G k → KSs (G.kx N qual (defScope st) f cdv A outer s H E) (defBody st) g) :
    FnOk G.P G.w G.K G.mg G.base (L2.CX G.P G.w) (k + 1) f fd ps (spOf G.K G.cA ps.length (defM N.length g)) := okM F S fun cdv A outer s H E hr => hbody cdv A outer s H E (kx_in hr)
/-- the end of a law -/
theorem law_sp {K : PySem.W.Frag} {cA : CA} {M : FA} {n : Nat} (h : ∀ ns : List Int, ns.length ≤ n → ∃ h', M [.fls (ns.map D.int)] [] = .ok (.bl true) h') (H : Hp) (a : Addr) (ns : List Int) (hl : ns.length ≤ n) (hO : Only H) (hS : SqL K H a (ns.map V.int)) :
    spOf K cA 1 M [.ref a] H (fun v _ => v = .bl true) fun _ _ _ => False := by
  refine ⟨rfl, fun _ => 0, [], [.fls (ns.map D.int)], ⟨fun m o e => by simp at e, fun m k hm _ _ => absurd hm (Nat.not_lt_zero _)⟩, .cons (.fls (xs := ns.map V.int) ?_ ?_) .nil, ?_⟩
  · rcases hS with (e | ⟨o, e⟩) | q
    · rcases hO a with z | ⟨o, xs, z⟩ <;> rw [z] at e <;> cases e
    · exact .inl ⟨o, e⟩
    · exact .inr q
  · clear hl hS
    induction ns with
    | nil => exact .nil
    | cons _ _ ih => exact .cons .int ih
  · obtain ⟨h', e⟩ := h ns hl
    rw [e]
    exact fun ι' H' _ _ v r => by cases r; rfl
end Kf
end
section
set_option maxHeartbeats 4000000
/-! Kf: more rules: chains, values of and, or, not; pairs stored at once; lists joined; built-ins over new lists. -/
namespace Kf
open PySem PySem.Spec L2
section
variable {Z : Kx}
theorem kv (i : Nat) {x : Str} {pos : Pos} (hN : Z.X.N[i]? = some x := by rfl) (hv : Vis Z.X.env.scope x := by first | exact Or.inl rfl | exact Or.inr (Or.inl rfl) | exact Or.inr (Or.inr rfl)) (hd : (x == ("__debug__" : Str)) = false := by decide)
    (hcd : (x == ("__classdict__" : Str)) = false := by decide) : KE Z (.Name x pos) (sVar i) := ke_var hN hv hd hcd
theorem gn (i : Nat) {x : Str} {pos : Pos} (hN : Z.X.N.Nodup) (hi : Z.X.N[i]? = some x := by rfl) (hx : Loc Z.X.env.scope x := by first | exact Or.inl rfl | exact Or.inr rfl)
    (hf : Z.X.fn x = true ∨ Z.X.env.scope.names.lookup x = some .local := by first | exact .inl rfl | exact .inr rfl) : KG Z (.Name x pos) (gN i) := kg_name hN hi hx hf
theorem gw (i : Nat) {x : Str} {pos : Pos} {vs : List Nat} (hN : Z.X.N.Nodup) (hv : i ∈ vs := by decide) (hi : Z.X.N[i]? = some x := by rfl) (hx : Loc Z.X.env.scope x := by first | exact Or.inl rfl | exact Or.inr rfl)
    (hf : Z.X.fn x = true ∨ Z.X.env.scope.names.lookup x = some .local := by first | exact .inl rfl | exact .inr rfl) : KGw Z (.Name x pos) (gN i) vs := kgw_name hv hN hi hx hf
/-! ### values of tests -/
section
variable {a b c : Expr} {rest : List Expr} {f g k : SE} {pos : Pos}
def sAndV (f g : SE) : SE := fun env h => (f env h).bind fun d h1 => asBl d fun b => if b = true then g env h1 else .ok (.bl false) h1
def sOrV (f g : SE) : SE := fun env h => (f env h).bind fun d h1 => asBl d fun b => if b = true then .ok (.bl true) h1 else g env h1
def sNotV (f : SE) : SE := fun env h => (f env h).bind fun d h1 => asBl d fun b => .ok (.bl (!b)) h1
theorem ke_one {op : BoolOp} (h : KE Z a f) : KE Z (.BoolOp op [a] pos) f := ⟨pe_one h.pe⟩
theorem ke_and (ha : KE Z a f) (hb : KE Z (.BoolOp .And (b :: rest) pos) g) : KE Z (.BoolOp .And (a :: b :: rest) pos) (sAndV f g) :=
  ⟨(pe_and ha.pe hb.pe).weak fun σ H Q ⟨ι, env, h, R, V, p⟩ => ⟨ι, env, h, R, V, (RPost.bind p).mono fun d h1 ι1 H1 S1 R1 p1 v r => by
    obtain ⟨t, e0, p2⟩ := p1.asBl
    subst e0
    cases r
    refine ⟨t, rfl, ?_⟩
    cases t with
    | true => rw [if_pos rfl] at p2 ⊢; exact ⟨ι1, env, h1, R1, V.step S1 R, p2⟩
    | false => rw [if_neg Bool.false_ne_true] at p2 ⊢; exact RPost.ok R1 p2 _ .bl⟩⟩
theorem ke_or (ha : KE Z a f) (hb : KE Z (.BoolOp .Or (b :: rest) pos) g) : KE Z (.BoolOp .Or (a :: b :: rest) pos) (sOrV f g) :=
  ⟨(pe_or ha.pe hb.pe).weak fun σ H Q ⟨ι, env, h, R, V, p⟩ => ⟨ι, env, h, R, V, (RPost.bind p).mono fun d h1 ι1 H1 S1 R1 p1 v r => by
    obtain ⟨t, e0, p2⟩ := p1.asBl
    subst e0
    cases r
    refine ⟨t, rfl, ?_⟩
    cases t with
    | false => rw [if_neg Bool.false_ne_true] at p2 ⊢; exact ⟨ι1, env, h1, R1, V.step S1 R, p2⟩
    | true => rw [if_pos rfl] at p2 ⊢; exact RPost.ok R1 p2 _ .bl⟩⟩
theorem ke_not (ha : KE Z a f) : KE Z (.UnaryOp .Not a pos) (sNotV f) :=
  ⟨(pe_not ha.pe).weak fun σ H Q ⟨ι, env, h, R, V, p⟩ => ⟨ι, env, h, R, V, (RPost.bind p).mono fun d h1 ι1 H1 S1 R1 p1 v r => by
    obtain ⟨t, rfl, p1⟩ := p1.asBl
    cases r
    exact ⟨t, rfl, RPost.ok R1 p1 _ .bl⟩⟩⟩
def sNeg (f : SE) : SE := fun env h => (f env h).bind fun d h1 => asInt d fun i => .ok (.int (-i)) h1
theorem ke_neg (ha : KE Z a f) : KE Z (.UnaryOp .USub a pos) (sNeg f) :=
  ⟨(pe_un un_neg ha.pe).weak fun σ H Q ⟨ι, env, h, R, V, p⟩ => ⟨ι, env, h, R, V, (RPost.bind p).mono fun d h1 ι1 H1 S1 R1 p1 v r => by
    obtain ⟨t, rfl, p1⟩ := p1.asInt
    cases r
    exact ⟨t, rfl, RPost.ok R1 p1 _ .int⟩⟩⟩
def sChain (F F' : F2) (f g k : SE) : SE := fun env h => (f env h).bind fun x h1 => (g env h1).bind fun y h2 => (F x y h2).bind fun t h3 => asBl t fun b => if b = true then (k env h3).bind fun z h4 => F' y z h4 else .ok (.bl false) h3
theorem ke_chain {op op' : CmpOp} {F F' : F2} (ho : OpK Z (compareOp op) F) (ho' : OpK Z (compareOp op') F') (ha : KE Z a f) (hb : KE Z b g) (hc : KE Z c k)
    (hm : lastMarks [op, op'] [b, c] = false := by with_unfolding_all rfl) : KE Z (.Compare a [op, op'] [b, c] pos) (sChain F F' f g k) := by
  obtain ⟨r, hr, kr⟩ := ho
  obtain ⟨q, hq, kq⟩ := ho'
  exact ⟨(pe_chain hr hq ha.pe hb.pe hc.pe hm).weak fun σ H Q ⟨ι, env, h, R, V, p⟩ => ⟨ι, env, h, R, V, (RPost.bind p).mono fun d h1 ι1 H1 S1 R1 p1 v rx =>
    ⟨ι1, env, h1, R1, V.step S1 R, (RPost.bind p1).mono fun e h2 ι2 H2 S2 R2 p2 u ry => kr σ ι2 h2 H2 v u d e _ R2 (rx.step S2 R1) ry ((RPost.bind p2).mono fun t h3 ι3 H3 S3 R3 p3 z rz => by
      obtain ⟨b, e0, p5⟩ := p3.asBl
      subst e0
      cases rz
      refine ⟨b, rfl, ?_⟩
      cases b with
      | true =>
        rw [if_pos rfl] at p5 ⊢
        exact ⟨ι3, env, h3, R3, V.step (S1.trans (S2.trans S3)) R, (RPost.bind p5).mono fun d4 h4 ι4 H4 S4 R4 p4 w rw => kq σ ι4 h4 H4 u w e d4 Q R4 (ry.step (S3.trans S4) R2) rw p4⟩
      | false => rw [if_neg Bool.false_ne_true] at p5 ⊢; exact RPost.ok R3 p5 _ .bl)⟩⟩⟩
end
theorem test_of {f : SE} {t : TE} {σ : L2.St} {H : Hp} {Q : Bool → Hp → Prop} (k : ∀ σ H Q, tD Z f σ H Q → t σ H Q) (q : tDB Z (sTest f) σ H Q) : tTest t σ H Q := by
  obtain ⟨ι, env, h, R, V, p⟩ := q
  exact k σ H _ ⟨ι, env, h, R, V, (RPost.bind p).mono fun d h1 ι1 H1 S1 R1 p1 v r => by
    cases r with
    | bl => exact ⟨_, rfl, RPost.ok R1 p1⟩
    | non => exact p1.elim
    | int => exact p1.elim
    | str => exact p1.elim
    | tup _ _ => exact p1.elim
    | ref _ => exact p1.elim
    | xc0 => exact p1.elim
    | xc _ _ => exact p1.elim
    | fls _ _ => exact p1.elim⟩
theorem kb_cmp {op : CmpOp} {F : F2} {a b : Expr} {f g : SE} {pos : Pos} (ho : OpK Z (compareOp op) F) (ha : KE Z a f) (hb : KE Z b g) (hm : behindInMarks op b = false := by first | exact nomark _ | rfl) : KB Z (.Compare a [op] [b] pos) (sTest (s2 F f g)) := by
  obtain ⟨r, hr, k⟩ := ho
  exact ⟨(pt_cmpR hr ha.pe hb.pe hm).weak fun σ H Q q => test_of (t2_of k) q⟩
theorem chain_of {op op' : CmpOp} {F F' : F2} {a b c : Expr} {f g k : SE} {pos : Pos} {r r' : R2}
    (kr : ∀ (σ : L2.St) (ι : Nat → Addr) (h : Hd) (H : Hp) (x y : V) (dx dy : D) (Q : VK), HRep Z.X.K Z.cA ι H h → Rep Z.X.K ι h.length H x dx → Rep Z.X.K ι h.length H y dy → RPost Z.X.K Z.cA Z.W σ ι h H (F dx dy h) (fun d h' ι' H' => ∀ v, Rep Z.X.K ι' h'.length H' v d → Q v H') → r x y H Q)
    (kq : ∀ (σ : L2.St) (ι : Nat → Addr) (h : Hd) (H : Hp) (x y : V) (dx dy : D) (Q : VK), HRep Z.X.K Z.cA ι H h → Rep Z.X.K ι h.length H x dx → Rep Z.X.K ι h.length H y dy → RPost Z.X.K Z.cA Z.W σ ι h H (F' dx dy h) (fun d h' ι' H' => ∀ v, Rep Z.X.K ι' h'.length H' v d → Q v H') → r' x y H Q)
    (σ : L2.St) (H : Hp) (Q : VK) (z : tD Z (sChain F F' f g k) σ H Q) : tChain r r' (tD Z f) (tD Z g) (tD Z k) σ H Q := by
  obtain ⟨ι, env, h, R, V, p⟩ := z
  exact ⟨ι, env, h, R, V, (RPost.bind p).mono fun d h1 ι1 H1 S1 R1 p1 v rx =>
    ⟨ι1, env, h1, R1, V.step S1 R, (RPost.bind p1).mono fun e h2 ι2 H2 S2 R2 p2 u ry => kr σ ι2 h2 H2 v u d e _ R2 (rx.step S2 R1) ry ((RPost.bind p2).mono fun t h3 ι3 H3 S3 R3 p3 z rz => by
      obtain ⟨b, e0, p5⟩ := p3.asBl
      subst e0
      cases rz
      refine ⟨b, rfl, ?_⟩
      cases b with
      | true =>
        rw [if_pos rfl] at p5 ⊢
        exact ⟨ι3, env, h3, R3, V.step (S1.trans (S2.trans S3)) R, (RPost.bind p5).mono fun d4 h4 ι4 H4 S4 R4 p4 w rw => kq σ ι4 h4 H4 u w e d4 Q R4 (ry.step (S3.trans S4) R2) rw p4⟩
      | false => rw [if_neg Bool.false_ne_true] at p5 ⊢; exact RPost.ok R3 p5 _ .bl)⟩⟩
theorem kb_chain {op op' : CmpOp} {F F' : F2} {a b c : Expr} {f g k : SE} {pos : Pos} (ho : OpK Z (compareOp op) F) (ho' : OpK Z (compareOp op') F') (ha : KE Z a f) (hb : KE Z b g) (hc : KE Z c k)
    (hm : lastMarks [op, op'] [b, c] = false := by with_unfolding_all rfl) : KB Z (.Compare a [op, op'] [b, c] pos) (sTest (sChain F F' f g k)) := by
  obtain ⟨r, hr, kr⟩ := ho
  obtain ⟨q, hq, kq⟩ := ho'
  exact ⟨(pt_chain hr hq ha.pe hb.pe hc.pe hm).weak fun σ H Q z => test_of (chain_of (op := op) (op' := op') (a := a) (b := b) (c := c) (pos := pos) kr kq) z⟩
/-! ### a, b = x, y -/
def sPar (is : List Nat) (a : SA) : SS := fun env h => (a env h).lift env fun ds h1 => if ds.length = is.length then .ok (.nx ((is.zip ds).foldl (fun e p => e.set p.1 (some p.2)) env)) h1 else .stuck
theorem ks_par2 {i j : Nat} {x y : Str} {a b : Expr} {f : SA} {px py pt pos : Pos} {kt k2 : Nat} {pt2 : Pos} (hc : Z.X.calm = true) (hN : Z.X.N.Nodup) (ha : KA Z [a, b] f) (hij : i ≠ j := by decide) (hi : Z.X.N[i]? = some x := by rfl) (hj : Z.X.N[j]? = some y := by rfl)
    (hx : Z.X.env.scope.names.lookup x = some .local := by rfl) (hy : Z.X.env.scope.names.lookup y = some .local := by rfl)
    (hw : swappedStores [.Tuple [.Name x px, .Name y py] kt pt] (.Tuple [a, b] k2 pt2) Z.X.env = pure (some [x, y]) := by rfl)
    (hs : swapsWithSole [.Tuple [.Name x px, .Name y py] kt pt] (.Tuple [a, b] k2 pt2) pos.line Z.X.env = pure false := by rfl) :
    KS Z (.Assign [.Tuple [.Name x px, .Name y py] kt pt] (.Tuple [a, b] k2 pt2) pos) (sPar [i, j] f) :=
  ⟨(ps_par hc hN hi hj hij hx hy ha.pa hw hs).weak fun Dd σ H ⟨ι, env, h, R, V, p⟩ => ⟨ι, env, h, R, V, (RsPost.of R V p).mono fun ds h1 ι1 H1 S1 R1 p1 vs rs => by
    match ds, rs, p1 with
    | [], _, p1 => exact p1.elim
    | [_], _, p1 => exact p1.elim
    | _ :: _ :: _ :: _, _, p1 => simp at p1; exact p1.elim
    | [d, e], rs, p1 =>
      obtain ⟨v, w, rfl, r1, r2⟩ := wit2 rs
      exact ⟨v, w, rfl, RsPost.fin (fl := .nx ((env.set i (some d)).set j (some e))) R1 p1 _ (((V.step S1 R).set r1).set r2)⟩⟩⟩
theorem ks_par3 {i j l : Nat} {x y z : Str} {a b c : Expr} {f : SA} {px py pz pt pos : Pos} {kt k2 : Nat} {pt2 : Pos} (hc : Z.X.calm = true) (hN : Z.X.N.Nodup) (ha : KA Z [a, b, c] f) (hij : i ≠ j := by decide) (hil : i ≠ l := by decide) (hjl : j ≠ l := by decide)
    (hi : Z.X.N[i]? = some x := by rfl) (hj : Z.X.N[j]? = some y := by rfl) (hl : Z.X.N[l]? = some z := by rfl)
    (hx : Z.X.env.scope.names.lookup x = some .local := by rfl) (hy : Z.X.env.scope.names.lookup y = some .local := by rfl) (hz : Z.X.env.scope.names.lookup z = some .local := by rfl)
    (hw : swappedStores [.Tuple [.Name x px, .Name y py, .Name z pz] kt pt] (.Tuple [a, b, c] k2 pt2) Z.X.env = pure (some [x, y, z]) := by rfl)
    (hs : swapsWithSole [.Tuple [.Name x px, .Name y py, .Name z pz] kt pt] (.Tuple [a, b, c] k2 pt2) pos.line Z.X.env = pure false := by rfl) :
    KS Z (.Assign [.Tuple [.Name x px, .Name y py, .Name z pz] kt pt] (.Tuple [a, b, c] k2 pt2) pos) (sPar [i, j, l] f) :=
  ⟨(ps_par3 hc hN hi hj hl hij hil hjl hx hy hz ha.pa hw hs).weak fun Dd σ H ⟨ι, env, h, R, V, p⟩ => ⟨ι, env, h, R, V, (RsPost.of R V p).mono fun ds h1 ι1 H1 S1 R1 p1 vs rs => by
    match ds, rs, p1 with
    | [], _, p1 => exact p1.elim
    | [_], _, p1 => exact p1.elim
    | [_, _], _, p1 => exact p1.elim
    | _ :: _ :: _ :: _ :: _, _, p1 => simp at p1; exact p1.elim
    | [d, e, u], rs, p1 =>
      cases rs with
      | cons r1 rs =>
        obtain ⟨v, w, rfl, r2, r3⟩ := wit2 rs
        exact ⟨_, v, w, rfl, RsPost.fin (fl := .nx (((env.set i (some d)).set j (some e)).set l (some u))) R1 p1 _ ((((V.step S1 R).set r1).set r2).set r3)⟩⟩⟩
/-! ### name += e -/
def sAug (i : Nat) (F : F2) (f : SE) : SS := fun env h => Res.lift (sVar i env h) env fun x h0 => (f env h0).lift env fun y h1 => (F x y h1).lift env fun z h2 => .ok (.nx (env.set i (some z))) h2
theorem ks_augI {i : Nat} {x : Str} {e : Expr} {f : SE} {pos pos' : Pos} (hN : Z.X.N.Nodup) (he : KE Z e f) (hi : Z.X.N[i]? = some x := by rfl) (hx : Loc Z.X.env.scope x := by first | exact Or.inl rfl | exact Or.inr rfl)
    (hf : Z.X.fn x = true ∨ Z.X.env.scope.names.lookup x = some .local := by first | exact .inl rfl | exact .inr rfl) : KS Z (.AugAssign (.Name x pos') .Add e pos) (sAug i (f2I yes2 fun i j => .int (i + j)) f) :=
  ⟨(ps_aug hN hi hx he.pe ip_add hf).weak fun Dd σ H ⟨ι, env, h, R, V, p⟩ => by
    unfold sAug sVar at p
    cases e : env[i]? with
    | none => rw [e] at p; exact p.elim
    | some o =>
      cases o with
      | none => rw [e] at p; exact p.elim
      | some d =>
        rw [e] at p
        have p : RsPost Z Dd ι h H ((f env h).lift env fun y h1 => (f2I yes2 (fun i j => D.int (i + j)) d y h1).lift env fun z h2 => .ok (.nx (env.set i (some z))) h2) := p
        obtain ⟨v, e1, r⟩ := V.var i d e
        refine ⟨v, e1, ι, env, h, R, V, (RsPost.of R V p).mono fun dy h1 ι1 H1 S1 R1 p1 y ry => ?_⟩
        cases r <;> cases ry <;> first | exact p1.elim | skip
        exact ⟨_, _, rfl, rfl, RsPost.fin R1 p1 _ ((V.step S1 R).set .int)⟩⟩
/-! ### lists joined, many times over -/
theorem alloc_post {σ : L2.St} {ι : Nat → Addr} {h : Hd} {H : Hp} {o : O} {ho : HO} {a : Addr} {Q : VK} (R : HRep Z.X.K Z.cA ι H h) (ha : H a = none) (r : ORep Z.X.K Z.cA ι h.length H ho o)
    (p : RPost Z.X.K Z.cA Z.W σ ι h H (.ok (.ref h.length) (h ++ [o])) fun d h' ι' H' => ∀ v, Rep Z.X.K ι' h'.length H' v d → Q v H') : Q (.ref a) (upd H a ho) := by
  have e4 : Rep Z.X.K (more ι h.length a) (h ++ [o]).length (upd H a ho) (.ref (more ι h.length a h.length)) (.ref h.length) := .ref (by simp)
  rw [more_at] at e4
  exact p _ _ (Step.alloc R ha _ _) (R.alloc ha r) _ e4
def addL : F2 := fun x y h => asRef x fun m => asRef y fun k => onLst h m fun xs => onLst h k fun ys => guard' (xs.length + ys.length ≤ LIM) (.ok (.ref h.length) (h ++ [.lst (xs ++ ys)]))
theorem ko_addL : OpK Z (binaryOp .Add) addL := ⟨_, op_cat, fun σ ι h H x y dx dy Q R rx ry p => by
  obtain ⟨m, em, q1⟩ := p.asRef
  obtain ⟨k, ek, q2⟩ := q1.asRef
  obtain ⟨xs, e1, q3⟩ := q2.onLst
  obtain ⟨ys, e2, q4⟩ := q3.onLst
  obtain ⟨c, q5⟩ := q4.guard
  subst em ek
  cases rx
  cases ry
  obtain ⟨us, f1, r1, _⟩ := lst_at R e1
  obtain ⟨vs, f2, r2, _⟩ := lst_at R e2
  exact ⟨_, _, us, vs, rfl, rfl, f1, f2, by rw [r1.len, r2.len]; exact lim_le c, fun a ha => alloc_post R ha (.lst (r1.append r2)) q5⟩⟩
def addA : F2 := fun x y h => match x with
  | .ref _ => addL x y h
  | _ => addF x y h
theorem ko_plusA : OpK Z (binaryOp .Add) addA := .alt ko_plus ko_addL fun x y h => by cases x <;> simp [addA]
theorem Reps.rep {K : PySem.W.Frag} {ι : Nat → Addr} {n : Nat} {H : Hp} {vs : List V} {ds : List D} (r : Reps K ι n H vs ds) : ∀ k : Nat, Reps K ι n H (List.replicate k vs).flatten (List.replicate k ds).flatten
  | 0 => .nil
  | k + 1 => by
    rw [List.replicate_succ, List.replicate_succ, List.flatten_cons, List.flatten_cons]
    exact r.append (r.rep k)
def repL : F2 := fun x y h => asRef x fun m => asInt y fun k => onLst h m fun xs => guard' ((-9223372036854775808 ≤ k ∧ k < 9223372036854775808) ∧ xs.length * k.toNat ≤ LIM) (.ok (.ref h.length) (h ++ [.lst (List.replicate k.toNat xs).flatten]))
theorem ko_repL : OpK Z (binaryOp .Mult) repL := ⟨_, op_rep, fun σ ι h H x y dx dy Q R rx ry p => by
  obtain ⟨m, em, q1⟩ := p.asRef
  obtain ⟨k, ek, q2⟩ := q1.asInt
  obtain ⟨xs, e1, q3⟩ := q2.onLst
  obtain ⟨c, q5⟩ := q3.guard
  subst em ek
  cases rx
  cases ry
  obtain ⟨us, f1, r1, _⟩ := lst_at R e1
  have e63 : (2 : Int) ^ 63 = 9223372036854775808 := by decide
  exact ⟨_, k, us, rfl, rfl, f1, by rw [e63]; exact c.1.1, by rw [e63]; exact c.1.2, by rw [r1.len]; exact lim_le c.2, fun a ha => alloc_post R ha (.lst (r1.rep _)) q5⟩⟩
def mulF : F2 := f2I (fun i j => (decide (-(18446744073709551616) < i) && decide (i < 18446744073709551616)) || (decide (-(18446744073709551616) < j) && decide (j < 18446744073709551616))) fun i j => .int (i * j)
def mulA : F2 := fun x y h => match x with
  | .ref _ => repL x y h
  | _ => mulF x y h
theorem ko_times : OpK Z (binaryOp .Mult) mulA := .alt ko_mul ko_repL fun x y h => by cases x <;> simp [mulA, mulF]
/-! ### built-ins over a new list -/
def CallKN (Z : Kx) (f : Value) (F : List D → Hd → Res D) : Prop := ∃ r, CallR Z.X f r ∧ ∀ (σ : L2.St) (ι : Nat → Addr) (h : Hd) (H : Hp) (p : Addr) (xs : List V) (ds : List D) (Q : VK), HRep Z.X.K Z.cA ι H h → H p = some (.lst xs) → Reps Z.X.K ι h.length H xs ds →
  RPost Z.X.K Z.cA Z.W σ ι h H (F ds h) (fun d h' ι' H' => ∀ v, Rep Z.X.K ι' h'.length H' v d → Q v H') → r [.ref p] H Q
section
variable {x : Str} {p pos : Pos} {e : Expr} {a : SA} {F : List D → Hd → Res D} {id T : String}
def sCallN (F : List D → Hd → Res D) (a : SA) : SE := fun env h => (a env h).bind fun ds h1 => F ds h1
theorem ke_callBN (hc : CallKN Z (.builtin id) F) (hg : Gl Z.X x) (hm : Z.X.mg x = none) (hv : bootBuiltins x = some (.builtin id)) (hl : KL Z e a) (hn : x ≠ "__name__" := by decide) (hdb : (x == ("__debug__" : Str)) = false := by decide)
    (he : starEach [e] Z.X.env = (false, eval e Z.X.env) :: starEach [] Z.X.env := by rfl) (hpl : (backTo pos (starEach [] Z.X.env)).any (·.1) = false := by rfl) : KE Z (.Call (.Name x p) [e] [] pos) (sCallN F a) := by
  obtain ⟨r, hr, k⟩ := hc
  exact ⟨(pe_callB hr hg hm hv (pa_cons hl.pe pa_nil he) hn hdb he hpl).weak fun σ H Q ⟨ι, env, h, R, V, p⟩ => ⟨ι, env, h, R, V, (RPost.bind p).mono fun ds h1 ι1 H1 S1 R1 p1 b vs _ e2 _ rs => k σ ι1 h1 H1 b vs ds Q R1 e2 rs p1⟩⟩
theorem ke_callTN (hc : CallKN Z (.type T) F) (hg : Gl Z.X x) (hm : Z.X.mg x = none) (hv : bootBuiltins x = some (.type T)) (hl : KL Z e a) (hn : x ≠ "__name__" := by decide) (hdb : (x == ("__debug__" : Str)) = false := by decide)
    (he : starEach [e] Z.X.env = (false, eval e Z.X.env) :: starEach [] Z.X.env := by rfl) (hpl : (backTo pos (starEach [] Z.X.env)).any (·.1) = false := by rfl) : KE Z (.Call (.Name x p) [e] [] pos) (sCallN F a) := by
  obtain ⟨r, hr, k⟩ := hc
  exact ⟨(pe_callTy hr hg hm hv (pa_cons hl.pe pa_nil he) hn hdb he hpl).weak fun σ H Q ⟨ι, env, h, R, V, p⟩ => ⟨ι, env, h, R, V, (RPost.bind p).mono fun ds h1 ι1 H1 S1 R1 p1 b vs _ e2 _ rs => k σ ι1 h1 H1 b vs ds Q R1 e2 rs p1⟩⟩
end
def tupN : List D → Hd → Res D := fun ds h => .ok (.tup ds) h
theorem cn_tuple : CallKN Z (.type "tuple") tupN := ⟨_, call_tuple_of, fun σ ι h H p xs ds Q R e rs q => ⟨p, xs, rfl, .inl ⟨.of e, fun l hl => q ι _ (Step.aside R hl (.tup xs)) (R.aside hl _) _ (.tup (.of upd_same) (rs.step (Step.aside R hl (.tup xs)) R))⟩⟩⟩
def lenN : List D → Hd → Res D := fun ds h => .ok (.int ds.length) h
theorem cn_len : CallKN Z (.builtin "len") lenN := ⟨_, call_len, fun σ ι h H p xs ds Q R e rs q => ⟨.ref p, xs.length, rfl, .inl ⟨xs, .of e, rfl⟩, by rw [rs.len]; exact RPost.ok R q _ .int⟩⟩
/-- all truth values | whole numbers -/
def blsD : List D → Option (List Bool)
  | [] => some []
  | .bl b :: ds => (blsD ds).map (b :: ·)
  | _ :: _ => none
def intsD : List D → Option (List Int)
  | [] => some []
  | .int b :: ds => (intsD ds).map (b :: ·)
  | _ :: _ => none
theorem bls_rep {K : PySem.W.Frag} {ι : Nat → Addr} {n : Nat} {H : Hp} : ∀ {vs : List V} {ds : List D} {bs : List Bool}, Reps K ι n H vs ds → blsD ds = some bs → vs = bs.map V.bl
  | _, _, _, .nil, e => by cases e; rfl
  | _, _, bs, .cons (d := d) r q, e => by
    cases r <;> simp [blsD] at e
    obtain ⟨cs, e1, e2⟩ := e
    subst e2
    rw [bls_rep q e1]; rfl
theorem ints_rep {K : PySem.W.Frag} {ι : Nat → Addr} {n : Nat} {H : Hp} : ∀ {vs : List V} {ds : List D} {bs : List Int}, Reps K ι n H vs ds → intsD ds = some bs → vs = bs.map V.int
  | _, _, _, .nil, e => by cases e; rfl
  | _, _, bs, .cons (d := d) r q, e => by
    cases r <;> simp [intsD] at e
    obtain ⟨cs, e1, e2⟩ := e
    subst e2
    rw [ints_rep q e1]; rfl
def allN : List D → Hd → Res D := fun ds h => onSome (blsD ds) fun bs => .ok (.bl (bs.all id)) h
def anyN : List D → Hd → Res D := fun ds h => onSome (blsD ds) fun bs => .ok (.bl (bs.any id)) h
def sumN : List D → Hd → Res D := fun ds h => onSome (intsD ds) fun bs => .ok (.int bs.sum) h
theorem cn_all (hc : Z.X.calm = true) : CallKN Z (.builtin "all") allN := ⟨_, cr_all hc, fun σ ι h H p xs ds Q R e rs q => by
  obtain ⟨bs, eb, q⟩ := q.onSome
  have := bls_rep rs eb
  subst this
  exact ⟨p, bs, rfl, .of e, RPost.ok R q _ .bl⟩⟩
theorem cn_any (hc : Z.X.calm = true) : CallKN Z (.builtin "any") anyN := ⟨_, cr_any hc, fun σ ι h H p xs ds Q R e rs q => by
  obtain ⟨bs, eb, q⟩ := q.onSome
  have := bls_rep rs eb
  subst this
  exact ⟨p, bs, rfl, .of e, RPost.ok R q _ .bl⟩⟩
theorem cn_sum (hc : Z.X.calm = true) : CallKN Z (.builtin "sum") sumN := ⟨_, cr_sum hc, fun σ ι h H p xs ds Q R e rs q => by
  obtain ⟨bs, eb, q⟩ := q.onSome
  have := ints_rep rs eb
  subst this
  exact ⟨p, bs, rfl, .of e, RPost.ok R q _ .int⟩⟩
/-- a slice, whatever it is of: of a list of ours a new one -/
def sSlA (f : SE) (l u : SO) : SE := fun env h => (f env h).bind fun d h1 => (l env h1).bind fun lo h2 => (u env h2).bind fun hi h3 => match d with
  | .tup ds => .ok (.tup (cutD ds lo hi)) h3
  | .fls ds => .ok (.ref h3.length) (h3 ++ [.lst (cutD ds lo hi)])
  | .ref m => onLst h3 m fun ds => .ok (.ref h3.length) (h3 ++ [.lst (cutD ds lo hi)])
  | _ => .stuck
theorem ke_sl {e : Expr} {lo hi : Option Expr} {f : SE} {l u : SO} {pos p2 : Pos} (he : KE Z e f) (hl : KO Z lo l) (hu : KO Z hi u) : KE Z (.Subscript e (.Slice lo hi none p2) pos) (sSlA f l u) :=
  ⟨(pe_slice (sl_tupA.or sl_list) he.pe hl.po hu.po).weak fun σ H Q ⟨ι, env, h, R, V, p⟩ => ⟨ι, env, h, R, V, (RPost.bind p).mono fun d h1 ι1 H1 S1 R1 p1 v r =>
    ⟨ι1, env, h1, R1, V.step S1 R, (RPost.bind p1).mono fun o1 h2 ι2 H2 S2 R2 p2 => ⟨ι2, env, h2, R2, (V.step S1 R).step S2 R1, (RPost.bind p2).mono fun o2 h3 ι3 H3 S3 R3 p3 => by
      have r3 := r.step (S2.trans S3) R1
      cases r3 with
      | @tup a xs ds q rs =>
        have p4 : RPost Z.X.K Z.cA Z.W σ ι3 h3 H3 (.ok (.tup (cutD ds o1 o2)) h3) fun d h' ι' H' => ∀ v, Rep Z.X.K ι' h'.length H' v d → Q v H' := p3
        refine .inl ⟨a, xs, rfl, q, fun hw => ?_, fun _ b hb => ?_⟩
        · have e : cutD ds o1 o2 = ds := by
            unfold cutD
            rw [rs.len] at hw
            rw [hw.1, hw.2]
            simp
          rw [e] at p4
          exact RPost.ok R3 p4 _ (.tup q rs)
        · have S4 := Step.aside R3 hb (.tup (cutV xs o1 o2))
          exact p4 ι3 _ S4 (R3.aside hb _) _ (.tup (.of upd_same) ((rs.cut o1 o2).step S4 R3))
      | @ref m hlt =>
        have p4 : RPost Z.X.K Z.cA Z.W σ ι3 h3 H3 (onLst h3 m fun ds => .ok (.ref h3.length) (h3 ++ [.lst (cutD ds o1 o2)])) fun d h' ι' H' => ∀ v, Rep Z.X.K ι' h'.length H' v d → Q v H' := p3
        obtain ⟨ds, hm, p4⟩ := p4.onLst
        obtain ⟨xs, e3, rs, _⟩ := lst_at R3 hm
        exact .inr ⟨_, xs, rfl, .of e3, fun b hb => alloc_post R3 hb (.lst (rs.cut o1 o2)) p4⟩
      | non => exact p3.elim
      | bl => exact p3.elim
      | int => exact p3.elim
      | str => exact p3.elim
      | xc0 => exact p3.elim
      | xc _ _ => exact p3.elim
      | @fls a xs ds q rs =>
        have p4 : RPost Z.X.K Z.cA Z.W σ ι3 h3 H3 (.ok (.ref h3.length) (h3 ++ [.lst (cutD ds o1 o2)])) fun d h' ι' H' => ∀ v, Rep Z.X.K ι' h'.length H' v d → Q v H' := p3
        exact .inr ⟨_, xs, rfl, q.sql, fun b hb => alloc_post R3 hb (.lst (rs.cut o1 o2)) p4⟩⟩⟩⟩⟩
end
abbrev fdivF : F2 := f2I (fun _ j => decide (0 < j) && decide (j < 1073741824)) fun i j => .int (i / j)
abbrev modF : F2 := f2I (fun _ j => decide (0 < j)) fun i j => .int (i % j)
abbrev powF : F2 := f2I (fun i j => decide (0 ≤ j) && decide (j ≤ 1000000) && decide (i.natAbs < 18446744073709551616)) fun i j => .int (i ^ j.toNat)
def FldG (G : Gx) (f : String) (cs : List String) : Prop := ∀ c, c ∈ cs → Cls G.K (G.cA c) ∧ NoAttr G.K (G.cA c) (Str.ofString f)
end Kf
end
section
set_option maxHeartbeats 4000000
/-! Kf: a try with several clauses, each with or without a name. -/
namespace Kf
open PySem PySem.Spec L2 PyProof.Rows
abbrev SuT := Addr → Value → Option Addr → TS
/-- what a clause with a name makes of its suite's reading: the slot is the exception's, and empty behind it -/
def asSu (i : Nat) (t : SuT) : SuT := fun a cls d D σ H =>
  t a cls d ⟨fun σ' H' => D.nx (σ'.set i none) H', D.rt, fun σ' H' => D.bk (σ'.set i none) H', fun σ' H' => D.ct (σ'.set i none) H'⟩ (σ.set i (some (.ref a))) H
/-- a suite is read so, whatever is caught -/
def SuOk (X : Cx) (body : List Stmt) (t : SuT) : Prop :=
  ∀ (a : Addr) (oe : Obj) (cls : Value) (d : Option Addr) (pn : List (Addr × Obj)), Zc cls d oe → (∃ fv, oe.data = .fields fv) → PSs (X.suite a ((a, oe) :: pn)) body (t a cls d)
inductive ClsOk (X : Cx) : List ExceptHandler → List (Value × SuT) → Prop
  | nil : ClsOk X [] []
  | plain {x : Str} {c : Value} {t : SuT} {b : Stmt} {bs : List Stmt} {p1 p2 : Pos} {hds : List ExceptHandler} {l : List (Value × SuT)} (hc : Names X x c) (su : SuOk X (b :: bs) t) (r : ClsOk X hds l) :
      ClsOk X (.ExceptHandler (some (.Name x p1)) none (b :: bs) p2 :: hds) ((c, t) :: l)
  | named {x n : Str} {i : Nat} {c : Value} {t : SuT} {b : Stmt} {bs : List Stmt} {p1 p2 : Pos} {hds : List ExceptHandler} {l : List (Value × SuT)} (hN : X.N.Nodup) (hi : X.N[i]? = some n) (hl : X.env.kindOf n = some .local)
      (hc : Names X x c) (su : SuOk X (b :: bs) t) (r : ClsOk X hds l) : ClsOk X (.ExceptHandler (some (.Name x p1)) (some n) (b :: bs) p2 :: hds) ((c, asSu i t) :: l)
section
variable {X : Cx} {body : List Stmt} {h₀ : ExceptHandler} {hds : List ExceptHandler} {l : List (Value × SuT)} {pos : Pos} {tb : WX → TS} {Wo : WX}
theorem frees {s : Shared} {pins : List (Addr × Obj)} {σ : L2.St} {H : Hp} {a : Addr} {oe : Obj} {i : Nat} {n : Str} {p2 : Pos} {Q : Shared → Prop} (ok : X.Ok) (hN : X.N.Nodup) (hi : X.N[i]? = some n) (hl : X.env.kindOf n = some .local)
    (S : Inv (X.suite a ((a, oe) :: (X.pn ++ pins))) [] σ H s) (hq : ∀ s7, Inv X pins (σ.set i none) H s7 → Q s7) :
    wpAny (model X.prog X.w) X.A (do bindName X.env n .none; unbindBehindTheSuite X.env n p2) (fun _ s7 => Q s7) X.xe s := gone_ok (S.unsuite ok) hN hi hl hq
/-- the clauses are gone through while the exception is held -/
theorem clauses (hs : X.stack = X.env :: X.outer) (hf : X.env.frame = some X.env.locals) (tk : Takes X Wo) {D : Ends} {pins pns : List (Addr × Obj)} {σ : L2.St} {H : Hp} {a : Addr} {B : Heap} {cls : Value} {d : Option Addr} {sI sE : Shared} {hp3 : Heap}
    (ok : X.Ok) (J : Inv X pins σ H sI) (up : sI.heap.UpToSlots hp3) (na : H a = none) (os : sE.os = sI.os) (ag : AllBare sE.gens) (nL : a ≠ X.env.locals) (nF : a ∉ X.fs)
    (fl : HandSPX.FlyingZ B (X.env :: X.outer) a (Zc cls d) hp3) (J3 : Inv X pins σ H { sE with heap := hp3 }) (land : ∀ {h5 : Heap}, HandSPX.FlyingZ B (X.env :: X.outer) a (Zc cls d) h5 → sI.heap.UpToSlots h5 → Inv X pins σ H { sE with heap := h5 })
    (out : ∀ {h5 : Heap}, HandSPX.HeldZ B (X.env :: X.outer) a (Zc cls d) X.env.locals h5 → sI.heap.UpToSlots h5 → Wo cls d σ H → X.xe (.ref a) { sE with heap := h5 }) :
    ∀ {hds : List ExceptHandler} {l : List (Value × SuT)}, ClsOk X hds l → wMany X.K Wo D l cls d σ H → wpAny (model X.prog X.w) X.A (handleBy (.ref a) X.env hds) (SP X pins D) X.xe { sE with heap := hp3 } := by
  obtain ⟨oe3, vs3, he3, hz3, hd3⟩ := fl.there
  have S3 := J3.suite he3 hd3 na nL nF
  have LT : PySem.W.Looks (model X.prog X.w) hp3 (typeOf (.ref a)) cls := fun A Q E s k q => wpAny_typeOf_ref (k _ _ he3) (by rw [hz3.1]; exact q)
  have naming : ∀ {x : Str} {c : Value} {np : Pos} {Q : Value → Shared → Prop} {E : Value → Shared → Prop}, Names X x c → Q c { sE with heap := hp3 } →
      wpAny (model X.prog X.w) (X.A.mark (some (.ref a))) (eval (.Name x np) X.env) Q E { sE with heap := hp3 } := by
    rintro x c np Q E ⟨g1, g2, g3 | ⟨g3, g4, g5⟩⟩ q
    · exact ld_glob (X := X.suite a ((a, oe3) :: (X.pn ++ pins))) S3 g1 g3 q g2
    · exact ld_blt (X := X.suite a ((a, oe3) :: (X.pn ++ pins))) S3 g1 g3 g4 q g5 g2
  intro hds l k
  induction k with
  | nil =>
    intro w
    refine wpAny_handleBy_nil ?_
    obtain ⟨k1, k2, k3, oe, vs, T, oT, ts', he, hz, hd, h1, hr⟩ := id fl
    unfold PySem.passOn
    refine wpAny_bind (wpAny_field he hd h1 ?_)
    rw [if_neg (show ¬ ((Value.ref T == Value.none) = true) by simp)]
    have fin : wpAny (model X.prog X.w) X.A (setFlight (.ref a) X.env.frame) (fun _ s4 => wpAny (model X.prog X.w) X.A (throw (.ref a) : Sem Flow) (SP X pins D) X.xe s4) X.xe { sE with heap := hp3 } := by
      rw [hf]
      exact HandSPX.setFlight_upZ fl fun h5 e5 u5 => wpAny_throw (out e5 (up.trans u5) w)
    first | exact wpAny_bind (wpAny_pure (wpAny_bind fin)) | exact wpAny_bind fin
  | @plain x c t b bs p1 p2 hds2 l2 hc su r ih =>
    rintro ⟨m, hm, yes, no⟩
    refine wpAny_handleBy_cons (codeAny_handlers_test ?_) (by intro q; cases q)
    refine naming hc ((PySem.W.exm_one (M := model X.prog X.w) J3.kIn LT hm).here ?_)
    cases m with
    | false => exact ih (no rfl)
    | true =>
      refine codeAny_handlers_suite (HandSPX.lands_againZ fl fun h5 f5 u5 => ?_)
      obtain ⟨oe5, vs5, he5, hz5, hd5⟩ := f5.there
      have S5 := (land f5 (up.trans u5)).suite he5 hd5 na nL nF
      refine wpAny_mono ((su a oe5 cls d (X.pn ++ pins) hz5 ⟨_, hd5⟩).run [] _ _ H _ S5 (yes rfl a na)) (fun f s6 z => ?_) (fun _ _ z => False.elim z)
      cases f with
      | ret u => obtain ⟨v6, σ6, H6, S6, r6, q6⟩ := z; exact ⟨_, _, _, S6.unsuite ok, r6, q6⟩
      | next => obtain ⟨σ6, H6, S6, q6⟩ := z; exact ⟨_, _, S6.unsuite ok, q6⟩
      | brk => obtain ⟨σ6, H6, S6, q6⟩ := z; exact ⟨_, _, S6.unsuite ok, q6⟩
      | cont => obtain ⟨σ6, H6, S6, q6⟩ := z; exact ⟨_, _, S6.unsuite ok, q6⟩
  | @named x n i c t b bs p1 p2 hds2 l2 hN hi hl hc su r ih =>
    rintro ⟨m, hm, yes, no⟩
    refine wpAny_handleBy_cons (codeAny_handlers_test ?_) (by intro q; cases q)
    refine naming hc ((PySem.W.exm_one (M := model X.prog X.w) J3.kIn LT hm).here ?_)
    cases m with
    | false => exact ih (no rfl)
    | true =>
      refine codeAny_handlers_suite_as (HandSPX.lands_againZ fl fun h5 f5 u5 => ?_)
      obtain ⟨oe5, vs5, he5, hz5, hd5⟩ := f5.there
      have S5 := (land f5 (up.trans u5)).suite he5 hd5 na nL nF
      refine store_ok (X := X.suite a ((a, oe5) :: (X.pn ++ pins))) (v := .ref a) S5 hN hi (.inl hl) rfl (fun s5 S5' => ?_) (.inr hl)
      refine wpAny_mono ((su a oe5 cls d (X.pn ++ pins) hz5 ⟨_, hd5⟩).run [] s5 _ H _ S5' (yes rfl a na)) (fun f s6 z => ?_) (fun _ _ z => False.elim z)
      cases f with
      | ret u => obtain ⟨v6, σ6, H6, S6, r6, q6⟩ := z; exact frees ok hN hi hl S6 fun s7 J7 => ⟨_, _, _, J7, r6, q6⟩
      | next => obtain ⟨σ6, H6, S6, q6⟩ := z; exact frees ok hN hi hl S6 fun s7 J7 => ⟨_, _, J7, q6⟩
      | brk => obtain ⟨σ6, H6, S6, q6⟩ := z; exact frees ok hN hi hl S6 fun s7 J7 => ⟨_, _, J7, q6⟩
      | cont => obtain ⟨σ6, H6, S6, q6⟩ := z; exact frees ok hN hi hl S6 fun s7 J7 => ⟨_, _, J7, q6⟩
theorem ps_try_all (hs : X.stack = X.env :: X.outer) (hf : X.env.frame = some X.env.locals) (tk : Takes X Wo)
    (hb : ∀ (W : WX) (pn : List (Addr × Obj)) (xe : Value → Shared → Prop), Takes (X.tr pn xe) W → PassesOwn (model X.prog X.w) X.A X.env xe → PSs (X.tr pn xe) body (tb W)) (hh : ClsOk X (h₀ :: hds) l) :
    PS X (.Try body (h₀ :: hds) [] [] pos) (fun D σ H => tb (wMany X.K Wo D l) D σ H) := by
  refine ⟨fun pins s σ H D I h => ?_⟩
  have ok := I.ok
  have hfr : X.A.frames = some (X.env :: X.outer) := by rw [ok.frames, hs]
  refine wpAny_Try_except (wpAny_mono ((hb (wMany X.K Wo D l) (X.pn ++ pins) (fun e s₁ => wpAny (model X.prog X.w) X.A (noteFrame e X.env) (fun _ s₂ => wpAny (model X.prog X.w) X.A (setFlight e none)
    (fun _ s₃ => wpAny (model X.prog X.w) X.A (handleBy e X.env (h₀ :: hds)) (SP X pins D) X.xe s₃) X.xe s₂) X.xe s₁) (fun u sE xx => ?_) PassesOwn.looking).run [] s σ H D (I.toTry _) h) (fun f s1 z => ?_) (fun _ _ z => z))
  · obtain ⟨a, B, sI, pins', σ', H', cls, d, rfl, J', nb, up, sky, na, os, ag, w⟩ := xx
    have J : Inv X pins σ' H' sI := J'.ofTry ok
    refine Sky.land Zc.steady hfr hf (by rw [← hs]; exact sky) fun h3 fl up3 => ?_
    obtain ⟨oe3, vs3, he3, hz3, hd3⟩ := fl.there
    have nfr : a ∉ frs (X.env :: X.outer) := fun hm => by
      obtain ⟨_, o', e', hnf⟩ := (fl.2.2.1).mem hm
      rw [he3] at e'
      cases e'
      exact hnf _ hd3
    have nL : a ≠ X.env.locals := fun z => nfr (List.mem_filterMap.mpr ⟨X.env, List.mem_cons_self, by rw [hf, z]⟩)
    have nF : a ∉ X.fs := fun hm => by
      obtain ⟨e, he, q⟩ := List.mem_filterMap.mp hm
      exact nfr (List.mem_filterMap.mpr ⟨e, List.mem_cons_of_mem _ he, q⟩)
    exact clauses hs hf tk (pns := []) ok J (up.trans up3) na os ag nL nF fl (J.landed nb fl.1 (up.trans up3) os ag) (fun f5 u5 => J.landed nb f5.1 u5 os ag)
      (fun e5 u5 w5 => tk _ _ ⟨a, B, sI, pins, σ', H', cls, d, rfl, J, nb, u5, .inr (.inr (by rw [hs]; exact e5)), na, os, ag, w5⟩) hh w
  · cases f with
    | ret u => obtain ⟨v, σ', H', J', r, q⟩ := z; exact ⟨v, σ', H', J'.ofTry ok, r, q⟩
    | next => obtain ⟨σ', H', J', q⟩ := z; exact wpAny_execs_nil ⟨σ', H', J'.ofTry ok, q⟩
    | brk => obtain ⟨σ', H', J', q⟩ := z; exact ⟨σ', H', J'.ofTry ok, q⟩
    | cont => obtain ⟨σ', H', J', q⟩ := z; exact ⟨σ', H', J'.ofTry ok, q⟩
end
end Kf
end
section
set_option maxHeartbeats 4000000
/-! Kf: isinstance; raise; try. -/
namespace Kf
open PySem PySem.Spec L2
/-! ### isinstance with built-in types -/
def tyD (h : Hd) : D → Option String
  | .non => some "NoneType"
  | .bl _ => some "bool"
  | .int _ => some "int"
  | .str _ => some "str"
  | .tup _ => some "tuple"
  | .fls _ => some "list"
  | .ref m => match h[m]? with
    | some (.lst _) => some "list"
    | some (.dict _) => some "dict"
    | _ => none
  | .xc _ _ _ _ => none
section
variable {Z : Kx}
theorem ty_rep {ι : Nat → Addr} {h : Hd} {H : Hp} {x : V} {d : D} {t : String} (R : HRep Z.X.K Z.cA ι H h) (r : Rep Z.X.K ι h.length H x d) (e : tyD h d = some t) : TyX Z.X.K H x (.type t) := by
  cases r with
  | non => cases e; exact .base .non
  | bl => cases e; exact .base (.bl _)
  | int => cases e; exact .base (.int _)
  | str => cases e; exact .base (.str _)
  | tup q _ =>
    cases e
    rcases q with (q | ⟨o, q⟩) | ⟨o, its, n, q1, q2, _⟩
    · exact .base (.tup q)
    · exact .fTuple q
    · exact .kTuple q1 q2
  | fls q _ =>
    cases e
    rcases q with ⟨o, q⟩ | ⟨o, its, n, q1, q2, _⟩
    · exact .base (.frz q)
    · exact .kList q1 q2
  | ref hlt =>
    rename_i m
    unfold tyD at e
    cases hm : h[m]? with
    | none => simp [hm] at e
    | some o =>
      obtain ⟨ho, e3, ro⟩ := R.obj m _ hm
      cases ro with
      | lst _ => simp [hm] at e; subst e; exact .base (.lst e3)
      | dict _ => simp [hm] at e; subst e; exact .base (.dK e3)
      | lkd _ => simp [hm] at e
      | ins _ => simp [hm] at e
  | xc0 => cases e
  | xc _ _ => cases e
def isiF (T : String) : D → Hd → Res D := fun d h => onSome (tyD h d) fun t => onSome (kitB t T) fun b => .ok (.bl b) h
def sIsi (T : String) (f : SE) : SE := fun env h => (f env h).bind fun d h1 => isiF T d h1
theorem ke_isi {T : String} {x : Str} {e : Expr} {f : SE} {p p2 pos : Pos} (hg : Gl Z.X "isinstance") (hm : Z.X.mg "isinstance" = none) (he : KE Z e f) (hgT : Gl Z.X x) (hmT : Z.X.mg x = none) (hv : bootBuiltins x = some (.type T)) (hn : x ≠ "__name__" := by decide) (hdb : (x == ("__debug__" : Str)) = false := by decide)
    (h1 : starEach [e, .Name x p2] Z.X.env = (false, eval e Z.X.env) :: starEach [.Name x p2] Z.X.env := by rfl) (h2 : starEach [.Name x p2] Z.X.env = (false, eval (.Name x p2) Z.X.env) :: starEach [] Z.X.env := by rfl) (hpl : (backTo pos (starEach [.Name x p2] Z.X.env)).any (·.1) = false := by rfl) :
    KE Z (.Call (.Name "isinstance" p) [e, .Name x p2] [] pos) (sIsi T f) :=
  ⟨(pe_callB call_isi hg hm (by decide +kernel) (pa_cons he.pe (pa_cons (pe_bltn (v := .ty T) hgT hmT hv rfl hn hdb) pa_nil h2) h1) (by decide) (by decide) h1 hpl).weak fun σ H Q ⟨ι, env, h, R, V, p⟩ => ⟨ι, env, h, R, V, (RPost.bind p).mono fun d h1 ι1 H1 S1 R1 p1 v r => by
    obtain ⟨t, et, p1⟩ := p1.onSome
    obtain ⟨b, eb, p1⟩ := p1.onSome
    exact ⟨v, .ty T, .type t, .type T, b, rfl, .ty T, ty_rep R1 r et, kit_ty eb, RPost.ok R1 p1 _ .bl⟩⟩⟩
end
theorem kB_ii : kitB "int" "int" = some true := by decide +kernel
theorem kB_bi : kitB "bool" "int" = some true := by decide +kernel
theorem kB_ni : kitB "NoneType" "int" = some false := by decide +kernel
theorem kB_si : kitB "str" "int" = some false := by decide +kernel
theorem kB_ti : kitB "tuple" "int" = some false := by decide +kernel
theorem kB_li : kitB "list" "int" = some false := by decide +kernel
theorem kB_ib : kitB "int" "bool" = some false := by decide +kernel
theorem kB_bb : kitB "bool" "bool" = some true := by decide +kernel
theorem kB_nb : kitB "NoneType" "bool" = some false := by decide +kernel
theorem kB_sb : kitB "str" "bool" = some false := by decide +kernel
theorem kB_tb : kitB "tuple" "bool" = some false := by decide +kernel
theorem kB_lb : kitB "list" "bool" = some false := by decide +kernel

/-! ### isinstance with a tuple of built-in types -/
section
variable {Z : Kx}
def kitD (t : String) : List String → Option Bool
  | [] => some false
  | T :: r => match kitB t T with | some true => some true | some false => kitD t r | none => none
def isiTF (Ts : List String) : D → Hd → Res D := fun d h => onSome (tyD h d) fun t => onSome (kitD t Ts) fun b => .ok (.bl b) h
def sIsiT (Ts : List String) (f : SE) : SE := fun env h => (f env h).bind fun d h1 => isiTF Ts d h1
theorem kitD_any {K : PySem.W.Frag} {t : String} : ∀ {Ts : List String} {b : Bool}, kitD t Ts = some b → PySem.W.kitAny K (.type t) (Ts.map Value.type) = some b
  | [], b, e => by cases e; rfl
  | T :: r, b, e => by
    unfold kitD at e
    show PySem.W.kitAny K (.type t) (.type T :: r.map Value.type) = some b
    cases h : kitB t T with
    | none => rw [h] at e; cases e
    | some c =>
      rw [h] at e
      cases c with
      | true => cases e; exact kitAny_cons (kit_ty h) (fun z => by cases z) fun _ => rfl
      | false => exact kitAny_cons (kit_ty h) (fun _ => kitD_any e) fun z => by cases z
theorem kcls_all : ∀ (Ts : List String), Paired ClsV (Ts.map V.ty) (Ts.map Value.type)
  | [] => .nil
  | T :: r => .cons (.ty T) (kcls_all r)
theorem ke_isiT {T1 T2 : String} {x1 x2 : Str} {e : Expr} {f : SE} {j : Nat} {p p1 p2 p3 pos : Pos} (hg : Gl Z.X "isinstance") (hm : Z.X.mg "isinstance" = none) (he : KE Z e f)
    (hg1 : Gl Z.X x1) (hm1 : Z.X.mg x1 = none) (hv1 : bootBuiltins x1 = some (.type T1)) (hg2 : Gl Z.X x2) (hm2 : Z.X.mg x2 = none) (hv2 : bootBuiltins x2 = some (.type T2)) (hn1 : x1 ≠ "__name__" := by decide) (hd1 : (x1 == ("__debug__" : Str)) = false := by decide)
    (hn2 : x2 ≠ "__name__" := by decide) (hd2 : (x2 == ("__debug__" : Str)) = false := by decide)
    (q1 : starEach [.Name x1 p1, .Name x2 p2] Z.X.env = (false, eval (.Name x1 p1) Z.X.env) :: starEach [.Name x2 p2] Z.X.env := by rfl) (q2 : starEach [.Name x2 p2] Z.X.env = (false, eval (.Name x2 p2) Z.X.env) :: starEach [] Z.X.env := by rfl)
    (hT : PE Z.X (.Tuple [.Name x1 p1, .Name x2 p2] j p3) (tTup (tCons (tC (.ty T1)) (tCons (tC (.ty T2)) tNil))))
    (h1 : starEach [e, .Tuple [.Name x1 p1, .Name x2 p2] j p3] Z.X.env = (false, eval e Z.X.env) :: starEach [.Tuple [.Name x1 p1, .Name x2 p2] j p3] Z.X.env := by rfl)
    (h2 : starEach [.Tuple [.Name x1 p1, .Name x2 p2] j p3] Z.X.env = (false, eval (.Tuple [.Name x1 p1, .Name x2 p2] j p3) Z.X.env) :: starEach [] Z.X.env := by rfl)
    (hpl : (backTo pos (starEach [.Tuple [.Name x1 p1, .Name x2 p2] j p3] Z.X.env)).any (·.1) = false := by rfl) :
    KE Z (.Call (.Name "isinstance" p) [e, .Tuple [.Name x1 p1, .Name x2 p2] j p3] [] pos) (sIsiT [T1, T2] f) :=
  ⟨(pe_callB call_isiT hg hm (by decide +kernel) (pa_cons he.pe (pa_cons hT pa_nil h2) h1) (by decide) (by decide) h1 hpl).weak fun σ H Q ⟨ι, env, h, R, V, p⟩ => ⟨ι, env, h, R, V, (RPost.bind p).mono fun d h1 ι1 H1 S1 R1 p1 v r => by
    obtain ⟨t, et, p1⟩ := p1.onSome
    obtain ⟨b, eb, p1⟩ := p1.onSome
    refine ⟨by show 2 ≤ sizeLine; decide, fun a ha => ?_⟩
    have S2 := Step.aside R1 ha (.tup [.ty T1, .ty T2])
    exact ⟨v, a, [.ty T1, .ty T2], .type t, [.type T1, .type T2], b, rfl, upd_same, kcls_all [T1, T2], ty_rep (R1.aside ha _) (r.step S2 R1) et, kitD_any eb, p1 ι1 _ S2 (R1.aside ha _) _ .bl⟩⟩⟩
end

/-! ### raise -/
/-- what an own exception class's __init__ does: it keeps its arguments -/
def spX (C : Addr) (ns : List String) : Sp := fun vs H Q _ => ∃ (a : Addr) (ys : List V), vs = .ref a :: ys ∧ ys.length = ns.length ∧ H a = some (exo a C none) ∧
  ∀ dx, H dx = none → dx ≠ a → Q .non (upd (upd H dx (exd dx ((ns.map Str.ofString).zip ys).reverse)) a (exo a C (some dx)))
/-- an own exception class, ready to be raised -/
structure CE (G : Gx) (x : Str) (c : String) (k : Nat) (ns : List String) : Prop where
  mg : G.mg x = some (.ref (G.cA c))
  T : OexC G.K (G.cA c)
  ex : ∃ (f : Addr) (fd : FuncData) (ps : List Str), PySem.W.findIn G.K (.ref (G.cA c)) "__init__" = some (some (.ref f)) ∧ PySem.W.typeIn G.K (.ref f) = some (.type "function") ∧
    FnOk G.P G.w G.K G.mg G.base (L2.CX G.P G.w) k f fd ps (spX (G.cA c) ns) ∧ Binds G.K fd ps []
section
variable {Z : Kx} {G : Gx} {j k : Nat} {x : Str} {c : String} {ns : List String} {p pos pos2 : Pos} {e : Expr} {es : List Expr} {fa : SA}
def sRaise (c : String) (ns : List String) (fa : SA) : SS := fun env h => (fa env h).lift env fun ds h1 => if ds.length = ns.length ∧ ds.length ≤ 900 then .ok (.exc c (ns.zip ds).reverse env) h1 else .stuck
theorem FRep.append {K : PySem.W.Frag} {ι : Nat → Addr} {n : Nat} {H : Hp} : ∀ {fs fs' : List (Str × V)} {gs gs' : List (String × D)}, FRep K ι n H fs gs → FRep K ι n H fs' gs' → FRep K ι n H (fs ++ fs') (gs ++ gs')
  | _, _, _, _, .nil, q => q
  | _, _, _, _, .cons r p, q => .cons r (FRep.append p q)
theorem FRep.rev {K : PySem.W.Frag} {ι : Nat → Addr} {n : Nat} {H : Hp} : ∀ {fs : List (Str × V)} {gs : List (String × D)}, FRep K ι n H fs gs → FRep K ι n H fs.reverse gs.reverse
  | _, _, .nil => .nil
  | _, _, .cons r p => by
    rw [List.reverse_cons, List.reverse_cons]
    exact (FRep.rev p).append (.cons r .nil)
theorem frep_zip {K : PySem.W.Frag} {ι : Nat → Addr} {n : Nat} {H : Hp} : ∀ {ns : List String} {vs : List V} {ds : List D}, Reps K ι n H vs ds → FRep K ι n H ((ns.map Str.ofString).zip vs) (ns.zip ds)
  | [], _, _, _ => by simpa using FRep.nil
  | _ :: _, _, _, .nil => by simpa using FRep.nil
  | n :: ns, _, _, .cons r q => by
    simp only [List.map_cons, List.zip_cons_cons]
    exact .cons r (frep_zip q)
theorem kr {i : Z.In G j} (F : CE G x c k ns) (hj : k + 1 ≤ j) (hg : Gl Z.X x) (ha : KA Z (e :: es) fa) (hdb : (x == ("__debug__" : Str)) = false := by decide)
    (he : starEach (e :: es) Z.X.env = (false, eval e Z.X.env) :: starEach es Z.X.env := by rfl) (hpl : (backTo pos (starEach es Z.X.env)).any (·.1) = false := by rfl) : KS Z (.Raise (some (.Call (.Name x p) (e :: es) [] pos)) none pos2) (sRaise c ns fa) := by
  obtain ⟨X, cA, W⟩ := Z
  obtain ⟨P, w, K, mg, base, cA'⟩ := G
  obtain ⟨h1, h2, h3, h4, h5, h6, room, tk, ow, cm⟩ := i
  obtain ⟨g0, T, f, fd, ps, g1, g2, g3, g4⟩ := F
  dsimp only at *
  subst h1 h2 h3 h4 h5 h6
  refine ⟨(ps_raise cm tk (pmk_oex T g1 g2 g3 (room.mono hj) g4 .nil (passes_call tk fun _ _ _ _ z => z.elim) hg g0 ha.pa hdb he hpl)).weak fun D σ H ⟨ι, env, h, R, V, p⟩ => ⟨ι, env, h, R, V, (RsPost.of R V p).mono fun ds h1 ι1 H1 S1 R1 p1 vs rs => ?_⟩⟩
  by_cases hl : ds.length = ns.length ∧ ds.length ≤ 900
  · rw [if_pos hl] at p1
    have hv : vs.length = ds.length := rs.len
    refine ⟨by omega, fun a ha => ⟨a, vs, by rw [List.append_nil], by omega, upd_same, fun dx hdx hda => ⟨rfl, dx, ((ns.map Str.ofString).zip vs).reverse, upd_same, ?_, ?_, ?_⟩⟩⟩
    · rw [upd_ne hda, upd_same]
    · rw [upd_ne hda] at hdx; exact hdx
    · rw [upd_ne hda] at hdx
      have e : upd (del (upd (upd (upd H1 a (exo a (cA c) none)) dx (exd dx ((ns.map Str.ofString).zip vs).reverse)) a (exo a (cA c) (some dx))) a) dx (.xd ((ns.map Str.ofString).zip vs).reverse) = upd H1 dx (.xd ((ns.map Str.ofString).zip vs).reverse) := by
        funext b
        by_cases e1 : b = dx
        · subst e1; rw [upd_same, upd_same]
        · rw [upd_ne e1, upd_ne e1]
          by_cases e2 : b = a
          · subst e2; rw [del_same, ha]
          · rw [del_ne e2, upd_ne e2, upd_ne e1, upd_ne e2]
      rw [e]
      have S2 := Step.aside R1 hdx (.xd ((ns.map Str.ofString).zip vs).reverse)
      exact p1 ι1 _ S2 (R1.aside hdx _) σ _ _ ((V.step S1 R).step S2 R1) ⟨rfl, .inr ⟨dx, _, rfl, upd_same, (frep_zip (rs.step S2 R1)).rev⟩⟩
  · rw [if_neg hl] at p1
    exact p1.elim
end
end Kf
end
section
set_option maxHeartbeats 4000000
/-! Kf: try with its clauses; what a suite reads of its exception; an own exception's __init__. -/
namespace Kf
open PySem PySem.Spec L2
section
variable {K : PySem.W.Frag} {ι : Nat → Addr} {n : Nat} {H : Hp}
theorem VRep.wipe1 {σ : St} {env : En} (V : VRep K ι n H σ env) (i : Nat) : VRep K ι n H (σ.set i none) (env.set i none) := by
  refine ⟨by simp [V.len], fun j e he => ?_⟩
  by_cases q : j = i
  · subst q
    have hj : j < env.length := by have := lt_of_get he; simpa using this
    rw [List.getElem?_set_self hj] at he
    cases he
  · rw [List.getElem?_set_ne (Ne.symm q)] at he ⊢
    exact V.var j e he
end
/-- one result for all places that an exception may lie at -/
noncomputable def onAll (g : Nat → Option Nat → Rs) : Rs := open Classical in if h : ∃ r, ∀ a d, g a d = r then h.choose else .stuck
theorem onAll_of {g : Nat → Option Nat → Rs} {r : Rs} (h : ∀ a d, g a d = r) : onAll g = r := by
  have e : ∃ r, ∀ a d, g a d = r := ⟨r, h⟩
  unfold onAll
  rw [dif_pos e]
  exact ((h 0 none).symm.trans (e.choose_spec 0 none)).symm
theorem onAll_at {g : Nat → Option Nat → Rs} (hn : onAll g ≠ .stuck) (a : Nat) (d : Option Nat) : g a d = onAll g := by
  unfold onAll at hn ⊢
  by_cases h : ∃ r, ∀ a d, g a d = r
  · rw [dif_pos h]; exact h.choose_spec a d
  · rw [dif_neg h] at hn; exact absurd rfl hn
/-- behind a suite its exception's name is empty -/
def outN (sl : Option Nat) (r : Rs) : Rs := match sl with
  | none => match r with
    | .ok (.exc _ _ _) _ => .stuck
    | r => r
  | some i => match r with
    | .ok (.nx env) h => .ok (.nx (env.set i none)) h
    | .ok (.brk env) h => .ok (.brk (env.set i none)) h
    | .ok (.ct env) h => .ok (.ct (env.set i none)) h
    | .ok (.ret d) h => .ok (.ret d) h
    | _ => .stuck
def inN (sl : Option Nat) (d : D) (env : En) : En := match sl with | none => env | some i => env.set i (some d)
/-- which classes a clause takes; its name's slot; its suite -/
abbrev Cl := (String → Option Bool) × Option Nat × (String → Nat → Option Nat → SS)
noncomputable def sCls : List Cl → String → List (String × D) → En → Hd → Rs
  | [], c, fs, env, h => .ok (.exc c fs env) h
  | (mt, sl, f) :: r, c, fs, env, h => match mt c with
    | none => .stuck
    | some false => sCls r c fs env h
    | some true => onAll fun a d => outN sl (f c a d (inN sl (.xc c a d fs) env) h)
noncomputable def sTry (f : SS) (l : List Cl) : SS := fun env h => match f env h with
  | .ok (.exc c fs env1) h1 => sCls l c fs env1 h1
  | r => r
abbrev Kx.tr (Z : Kx) (pn : List (Addr × Obj)) (xe : Value → Shared → Prop) (W : WX) : Kx := ⟨Z.X.tr pn xe, Z.cA, W⟩
abbrev Kx.su (Z : Kx) (a : Addr) (oe : Obj) (pn : List (Addr × Obj)) : Kx := ⟨Z.X.suite a ((a, oe) :: pn), Z.cA, fun _ _ _ _ => False⟩
/-- a suite's readings, class by class -/
def KSu (Z : Kx) (body : List Stmt) (mt : String → Option Bool) (f : String → Nat → Option Nat → SS) : Prop :=
  ∀ c, mt c = some true → ∀ (a : Addr) (oe : Obj) (d : Option Addr) (pn : List (Addr × Obj)), Zc (.ref (Z.cA c)) d oe → (∃ fv, oe.data = .fields fv) → KSs (Z.su a oe pn) body (f c a d)
inductive KCl (Z : Kx) : List ExceptHandler → List Cl → Prop
  | nil : KCl Z [] []
  | plain {x : Str} {cv : Value} {mt : String → Option Bool} {f : String → Nat → Option Nat → SS} {b : Stmt} {bs : List Stmt} {p1 p2 : Pos} {hds : List ExceptHandler} {l : List Cl} (hc : Names Z.X x cv)
      (hm : ∀ c r, mt c = some r → PySem.W.exmOne Z.X.K (.ref (Z.cA c)) cv = some r) (su : KSu Z (b :: bs) mt f) (r : KCl Z hds l) : KCl Z (.ExceptHandler (some (.Name x p1)) none (b :: bs) p2 :: hds) ((mt, none, f) :: l)
  | named {x n : Str} {i : Nat} {cv : Value} {mt : String → Option Bool} {f : String → Nat → Option Nat → SS} {b : Stmt} {bs : List Stmt} {p1 p2 : Pos} {hds : List ExceptHandler} {l : List Cl} (hN : Z.X.N.Nodup) (hi : Z.X.N[i]? = some n)
      (hl : Z.X.env.kindOf n = some .local) (hc : Names Z.X x cv) (hm : ∀ c r, mt c = some r → PySem.W.exmOne Z.X.K (.ref (Z.cA c)) cv = some r) (su : KSu Z (b :: bs) mt f) (r : KCl Z hds l) :
      KCl Z (.ExceptHandler (some (.Name x p1)) (some n) (b :: bs) p2 :: hds) ((mt, some i, f) :: l)
section
variable {Z : Kx} {body : List Stmt} {h₀ : ExceptHandler} {hds : List ExceptHandler} {l : List Cl} {pos : Pos} {fb : SS}
/-- the suite's reading in the hand layer -/
def suT (Z : Kx) (mt : String → Option Bool) (f : String → Nat → Option Nat → SS) : SuT := fun a cls d D σ H => ∃ c, mt c = some true ∧ cls = .ref (Z.cA c) ∧ tDS ⟨Z.X, Z.cA, fun _ _ _ _ => False⟩ (f c a d) D σ H
theorem suT_ok {mt : String → Option Bool} {f : String → Nat → Option Nat → SS} {b : List Stmt} (h : KSu Z b mt f) : SuOk Z.X b (suT Z mt f) := fun a oe cls d pn hz hf =>
  ⟨fun pins s σ H D I ⟨c, hc, e, q⟩ => by
    subst e
    exact (h c hc a oe d pn hz hf).pss.run pins s σ H D I q⟩
theorem xc_rep {K : PySem.W.Frag} {cA : CA} {ι : Nat → Addr} {n : Nat} {H : Hp} {c : String} {fs : List (String × D)} {cls : Value} {d : Option Addr} (x : XRep K cA ι n H c fs cls d) (a : Addr) : Rep K ι n H (.ref a) (.xc c a d fs) := by
  rcases x.2 with ⟨e1, e2⟩ | ⟨dd, gs, e1, e2, r⟩
  · subst e1 e2; exact .xc0
  · subst e1; exact .xc e2 r
theorem kcl_cls (k : KCl Z hds l) : ∃ l' : List (Value × SuT), ClsOk Z.X hds l' ∧ ∀ (Dd : Ends) (c : String) (fs : List (String × D)) (env : En) (h : Hd) (σ : St) (H : Hp) (ι : Nat → Addr) (cls : Value) (od : Option Addr),
    HRep Z.X.K Z.cA ι H h → VRep Z.X.K ι h.length H σ env → XRep Z.X.K Z.cA ι h.length H c fs cls od → RsPost Z Dd ι h H (sCls l c fs env h) → wMany Z.X.K Z.W Dd l' cls od σ H := by
  induction k with
  | nil => exact ⟨[], .nil, fun D c fs env h σ H ι cls od R V x p => p ι H .refl R σ cls od V x⟩
  | @plain x cv mt f b bs p1 p2 hds l hc hm su r ih =>
    obtain ⟨l', k, q⟩ := ih
    refine ⟨(cv, suT Z mt f) :: l', .plain hc (suT_ok su) k, fun D c fs env h σ H ι cls od R V x p => ?_⟩
    unfold sCls at p
    cases e : mt c with
    | none => rw [e] at p; exact p.elim
    | some m =>
      rw [e] at p
      refine ⟨m, by rw [x.1]; exact hm c m e, fun z a ha => ?_, fun z => ?_⟩
      · subst z
        have p : RsPost Z D ι h H (onAll fun a d => outN none (f c a d (inN none (.xc c a d fs) env) h)) := p
        have hn : (onAll fun a d => outN none (f c a d (inN none (.xc c a d fs) env) h)) ≠ .stuck := fun z => by rw [z] at p; exact p
        rw [← onAll_at hn a od] at p
        refine ⟨c, e, x.1, ι, env, h, R, V, ?_⟩
        have p : RsPost Z D ι h H (outN none (f c a od env h)) := p
        cases e2 : f c a od env h with
        | stuck => rw [e2] at p; exact p
        | ok fl h2 => rw [e2] at p; cases fl <;> first | exact p | exact p.elim
      · subst z
        exact q D c fs env h σ H ι cls od R V x p
  | @named x n i cv mt f b bs p1 p2 hds l hN hi hl hc hm su r ih =>
    obtain ⟨l', k, q⟩ := ih
    refine ⟨(cv, asSu i (suT Z mt f)) :: l', .named hN hi hl hc (suT_ok su) k, fun D c fs env h σ H ι cls od R V x p => ?_⟩
    unfold sCls at p
    cases e : mt c with
    | none => rw [e] at p; exact p.elim
    | some m =>
      rw [e] at p
      refine ⟨m, by rw [x.1]; exact hm c m e, fun z a ha => ?_, fun z => ?_⟩
      · subst z
        have p : RsPost Z D ι h H (onAll fun a d => outN (some i) (f c a d (inN (some i) (.xc c a d fs) env) h)) := p
        have hn : (onAll fun a d => outN (some i) (f c a d (inN (some i) (.xc c a d fs) env) h)) ≠ .stuck := fun z => by rw [z] at p; exact p
        rw [← onAll_at hn a od] at p
        refine ⟨c, e, x.1, ι, env.set i (some (.xc c a od fs)), h, R, V.set (xc_rep x a), ?_⟩
        have p : RsPost Z D ι h H (outN (some i) (f c a od (env.set i (some (.xc c a od fs))) h)) := p
        cases e2 : f c a od (env.set i (some (.xc c a od fs))) h with
        | stuck => rw [e2] at p; exact p
        | ok fl h2 =>
          rw [e2] at p
          cases fl with
          | nx env2 => exact fun ι' H' S' R' σ' V' => p ι' H' S' R' _ (V'.wipe1 i)
          | brk env2 => exact fun ι' H' S' R' σ' V' => p ι' H' S' R' _ (V'.wipe1 i)
          | ct env2 => exact fun ι' H' S' R' σ' V' => p ι' H' S' R' _ (V'.wipe1 i)
          | ret v => exact p
          | exc _ _ _ => exact p.elim
      · subst z
        exact q D c fs env h σ H ι cls od R V x p
theorem ks_try (hs : Z.X.stack = Z.X.env :: Z.X.outer) (hf : Z.X.env.frame = some Z.X.env.locals) (tk : Takes Z.X Z.W)
    (hb : ∀ (W : WX) (pn : List (Addr × Obj)) (xe : Value → Shared → Prop), Takes (Z.X.tr pn xe) W → PassesOwn (model Z.X.prog Z.X.w) Z.X.A Z.X.env xe → KSs (Z.tr pn xe W) body fb) (hh : KCl Z (h₀ :: hds) l) :
    KS Z (.Try body (h₀ :: hds) [] [] pos) (sTry fb l) := by
  obtain ⟨l', k, q⟩ := kcl_cls hh
  refine ⟨(ps_try_all (tb := fun W => tDS ⟨Z.X, Z.cA, W⟩ fb) hs hf tk (fun W pn xe t o => ⟨fun pins s σ H D I z => (hb W pn xe t o).pss.run pins s σ H D I z⟩) k).weak fun D σ H ⟨ι, env, h, R, V, p⟩ => ⟨ι, env, h, R, V, ?_⟩⟩
  unfold sTry at p
  cases e : fb env h with
  | stuck => rw [e] at p; exact p.elim
  | ok fl h1 =>
    rw [e] at p
    cases fl with
    | nx env2 => exact p
    | brk env2 => exact p
    | ct env2 => exact p
    | ret v => exact p
    | exc c fs env1 => exact fun ι' H' S' R' σ' cls od V' x => q D c fs env1 h1 σ' H' ι' cls od R' V' x (RsPost.step S' p)
/-! ### in a suite -/
def sXf (c : String) (a : Nat) (d : Option Nat) (g : SE) (f : String) : SE := fun env h => (g env h).bind fun x h1 => match x with
  | .xc c' a' d' fs => if c' = c ∧ a' = a ∧ d' = d then onSome (fs.lookup f) fun v => .ok v h1 else .stuck
  | _ => .stuck
theorem ke_xf {a : Addr} {oe : Obj} {d : Option Addr} {pn : List (Addr × Obj)} {e : Expr} {g : SE} {c f : String} (T : XfC Z.X.K (Z.cA c)) (hno : PySem.W.findIn Z.X.K (.ref (Z.cA c)) (Str.ofString f) = some none)
    (hz : Zc (.ref (Z.cA c)) d oe) (hf : ∃ fv, oe.data = .fields fv) (he : KE (Z.su a oe pn) e g) (hb : attributeBase e (Str.ofString f) Z.X.env (eval e Z.X.env) = eval e Z.X.env := by rfl) : KE (Z.su a oe pn) (.Attribute e (Str.ofString f) pos) (sXf c a d g f) :=
  ⟨(pe_xf T hno hz hf he.pe hb).weak fun σ H Q ⟨ι, env, h, R, V, p⟩ => ⟨ι, env, h, R, V, (RPost.bind p).mono fun x h1 ι1 H1 S1 R1 p1 v r => by
    cases r with
    | non => exact p1.elim
    | bl => exact p1.elim
    | int => exact p1.elim
    | str => exact p1.elim
    | tup _ _ => exact p1.elim
    | fls _ _ => exact p1.elim
    | ref _ => exact p1.elim
    | @xc0 c' a' =>
      have p1 : RPost Z.X.K Z.cA (fun _ _ _ _ => False) σ ι1 h1 H1 (if c' = c ∧ a' = a ∧ none = d then onSome (List.lookup f []) fun v => .ok v h1 else .stuck) _ := p1
      by_cases q : c' = c ∧ a' = a ∧ none = d
      · rw [if_pos q] at p1
        obtain ⟨w, ew, _⟩ := p1.onSome
        cases ew
      · rw [if_neg q] at p1; exact p1.elim
    | @xc c' a' d' gs fs e1 rf =>
      have p2 : RPost Z.X.K Z.cA (fun _ _ _ _ => False) σ ι1 h1 H1 (if c' = c ∧ a' = a ∧ some d' = d then onSome (fs.lookup f) fun v => .ok v h1 else .stuck) _ := p1
      clear p1
      by_cases q : c' = c ∧ a' = a ∧ some d' = d
      · rw [if_pos q] at p2
        obtain ⟨w, ew, p3⟩ := p2.onSome
        obtain ⟨u, eu, ru⟩ := rf.some ew
        exact ⟨by rw [q.2.1], by rw [← q.1], d', gs, u, q.2.2.symm, e1, eu, RPost.ok R1 p3 u ru⟩
      · rw [if_neg q] at p2; exact p2.elim⟩⟩
end
/-- a suite's surroundings stand in those of the law -/
structure Kx.InS (Z : Kx) (G : Gx) : Prop where
  P : Z.X.prog = G.P
  w : Z.X.w = G.w
  K : Z.X.K = G.K
  mg : Z.X.mg = G.mg
  base : Z.X.base = G.base
  cA : Z.cA = G.cA
  hu : Z.X.A.units + 65 < cLine
theorem Kx.InS.hu64 {Z : Kx} {G : Gx} (i : Z.InS G) : Z.X.A.units + 64 < cLine := by have := i.hu; omega
theorem Kx.InS.hu1 {Z : Kx} {G : Gx} (i : Z.InS G) : Z.X.A.units + 1 < cLine := by have := i.hu; omega
theorem Kx.In.su {Z : Kx} {G : Gx} {k : Nat} (i : Z.In G k) (a : Addr) (oe : Obj) (pn : List (Addr × Obj)) : (Z.su a oe pn).InS G := ⟨i.P, i.w, i.K, i.mg, i.base, i.cA, i.hu⟩
theorem Kx.In.tr {Z : Kx} {G : Gx} {k : Nat} (i : Z.In G k) {pn : List (Addr × Obj)} {xe : Value → Shared → Prop} {W : WX} (tk : Takes (Z.X.tr pn xe) W) (o : PassesOwn (model Z.X.prog Z.X.w) Z.X.A Z.X.env xe) : (Z.tr pn xe W).In G k := ⟨i.P, i.w, i.K, i.mg, i.base, i.cA, i.room, tk, o, i.cm⟩
/-! ### __init__ -/
section
variable {P : Program} {w : World} {K : PySem.W.Frag} {mg : Str → Option Value} {base : Heap} {x qual : Str} {st : Stmt} {f : Addr} {fd : FuncData} {N ps : List Str} {C : Addr}
theorem st_one {ns : List String} {ys : List V} (S : ps.length = ns.length + 1) {vs : List V} {H : Hp} {Q : VK} {E : XK} (h : spX C ns vs H Q E) : vs.length = ps.length := by
  obtain ⟨a, ys, rfl, hl, _⟩ := h
  simp [S, hl]
theorem x_init1 {f1 : String} (T : OexC K C) (F : Fun K x qual st f fd) (S : FnScope N ps (defScope st)) (hN : N.length = 2) (hp : ps.length = 2) (n1 : PySem.W.findIn K (.ref C) (Str.ofString f1) = some none)
    (hd : ∀ (cdv : Value) (A : Around) (outer : List Env) (s : Shared) (H : Hp) (E : XK), PSs (cxOf (L2.CX P w) P w K mg base N qual (defScope st) f cdv A outer s H E) (defBody st) (tOst K (Str.ofString f1) (tVar 0) (tVar 1))) :
    FnOk P w K mg base (L2.CX P w) 1 f fd ps (spX C [f1]) :=
  F.okX (k := 0) S (fun vs H Q E h => st_one (ys := []) (by simpa using hp) h) fun cdv A outer s H vs Q E hr h => by
    refine ⟨_, hd cdv A outer s H E, ?_⟩
    obtain ⟨a, ys, rfl, hl, ha, q⟩ := h
    match ys, hl with
    | [y], _ =>
      have e : L2.start N [V.ref a, y] = [some (.ref a), some y] := by unfold L2.start; rw [hN]; rfl
      rw [e]
      exact ⟨_, rfl, _, rfl, a, C, rfl, T, n1, .inl ⟨ha, fun dx hdx hda => q dx hdx hda⟩⟩
theorem x_init2 {f1 f2 : String} (T : OexC K C) (F : Fun K x qual st f fd) (S : FnScope N ps (defScope st)) (hN : N.length = 3) (hp : ps.length = 3) (n1 : PySem.W.findIn K (.ref C) (Str.ofString f1) = some none) (n2 : PySem.W.findIn K (.ref C) (Str.ofString f2) = some none)
    (hd : ∀ (cdv : Value) (A : Around) (outer : List Env) (s : Shared) (H : Hp) (E : XK), PSs (cxOf (L2.CX P w) P w K mg base N qual (defScope st) f cdv A outer s H E) (defBody st) (tSeq (tOst K (Str.ofString f1) (tVar 0) (tVar 1)) (tOst K (Str.ofString f2) (tVar 0) (tVar 2)))) :
    FnOk P w K mg base (L2.CX P w) 1 f fd ps (spX C [f1, f2]) :=
  F.okX (k := 0) S (fun vs H Q E h => st_one (ys := []) (by simpa using hp) h) fun cdv A outer s H vs Q E hr h => by
    refine ⟨_, hd cdv A outer s H E, ?_⟩
    obtain ⟨a, ys, rfl, hl, ha, q⟩ := h
    match ys, hl with
    | [y, z], _ =>
      have e : L2.start N [V.ref a, y, z] = [some (.ref a), some y, some z] := by unfold L2.start; rw [hN]; rfl
      rw [e]
      refine ⟨_, rfl, _, rfl, a, C, rfl, T, n1, .inl ⟨ha, fun dx hdx hda => ?_⟩⟩
      refine ⟨_, rfl, _, rfl, a, C, rfl, T, n2, .inr ⟨dx, [(Str.ofString f1, y)], upd_same, ?_, (by show 1 ≤ 900; decide), ?_⟩⟩
      · rw [upd_ne hda, upd_same]
      · have e2 : upd (upd (upd H dx (exd dx [(Str.ofString f1, y)])) a (exo a C (some dx))) dx (exd dx ((Str.ofString f2, z) :: [(Str.ofString f1, y)])) = upd (upd H dx (exd dx [(Str.ofString f2, z), (Str.ofString f1, y)])) a (exo a C (some dx)) := by
          funext b
          by_cases e1 : b = dx
          · subst e1; rw [upd_same, upd_ne hda, upd_same]
          · rw [upd_ne e1]
            by_cases e2 : b = a
            · subst e2; rw [upd_same, upd_same]
            · rw [upd_ne e2, upd_ne e2, upd_ne e1, upd_ne e1]
        show Q .non (upd _ dx _)
        rw [e2]
        exact q dx hdx hda
end
end Kf
end
section
set_option maxHeartbeats 4000000
/-! Kf: zip, reversed, append, a tuple times a number. -/
namespace Kf
open PySem PySem.Spec L2
section
variable {Z : Kx}
/-! ### zip -/
def seqK (h : Hd) : D → Option Bool
  | .tup _ => some true
  | .fls _ => some false
  | .ref m => match h[m]? with | some (.lst _) => some false | _ => none
  | _ => none
theorem seqK_rep {ι : Nat → Addr} {h : Hd} {H : Hp} {v : V} {d : D} {b : Bool} (R : HRep Z.X.K Z.cA ι H h) (r : Rep Z.X.K ι h.length H v d) (e : seqK h d = some b) :
    ∃ a xs ds, v = .ref a ∧ itemsD h d = some ds ∧ Reps Z.X.K ι h.length H xs ds ∧ (b = true → SqT Z.X.K H a xs) ∧ (b = false → SqL Z.X.K H a xs) := by
  cases r with
  | tup q rs => cases e; exact ⟨_, _, _, rfl, rfl, rs, fun _ => q, fun z => (by cases z)⟩
  | fls q rs => cases e; exact ⟨_, _, _, rfl, rfl, rs, fun z => (by cases z), fun _ => q.sql⟩
  | ref hlt =>
    rename_i m
    unfold seqK at e
    cases hm : h[m]? with
    | none => simp [hm] at e
    | some o =>
      obtain ⟨ho, e3, ro⟩ := R.obj m _ hm
      cases ro with
      | lst rs => simp [hm] at e; subst e; exact ⟨_, _, _, rfl, by simp [itemsD, hm], rs, fun z => (by cases z), fun _ => .of e3⟩
      | dict _ => simp [hm] at e
      | lkd _ => simp [hm] at e
      | ins _ => simp [hm] at e
  | _ => cases e
def sZip (f g : SE) : SI := fun env h => (f env h).bind fun x h1 => (g env h1).bind fun y h2 => onSome (seqK h2 x) fun b => onSome (seqK h2 y) fun c => guardI (b = c) (.ok (.zp x y) h2)
where guardI (c : Prop) [Decidable c] (r : Res ItD) : Res ItD := guard' c r
/-- kinds stay -/
theorem seqK_nx {ι ι' : Nat → Addr} {h h' : Hd} {H H' : Hp} {v : V} {d : D} {b : Bool} {ds : List D} (R : HRep Z.X.K Z.cA ι H h) (S : Step ι h H ι' h' H') (R' : HRep Z.X.K Z.cA ι' H' h') (r : Rep Z.X.K ι h.length H v d) (e : seqK h d = some b) (e2 : itemsD h' d = some ds) :
    ∃ a xs, v = .ref a ∧ Reps Z.X.K ι' h'.length H' xs ds ∧ (b = true → SqT Z.X.K H' a xs) ∧ (b = false → SqL Z.X.K H' a xs) := by
  have e3 : seqK h' d = some b := by
    cases d <;> first | (cases e; done) | exact e | skip
    rename_i m
    cases hm : h'[m]? with
    | none => simp [itemsD, hm] at e2
    | some o =>
      cases o <;> simp [itemsD, hm] at e2
      cases hm2 : h[m]? with
      | none => simp [seqK, hm2] at e
      | some o => cases o <;> simp [seqK, hm2] at e <;> simp [seqK, hm, e]
  obtain ⟨a, xs, ds', e4, e5, e6, e7⟩ := seqK_rep R' (r.step S R) e3
  rw [e2] at e5
  cases e5
  exact ⟨a, xs, e4, e6, e7⟩
theorem ki_zip {tg : List Expr} {kk : Nat} {a b : Expr} {f g : SE} {p pos tpos : Pos} (hg : Gl Z.X "zip") (hm : Z.X.mg "zip" = none) (ha : KE Z a f) (hb : KE Z b g) (hs : starEach [a, b] Z.X.env = (false, eval a Z.X.env) :: starEach [b] Z.X.env := by rfl)
    (hs2 : starEach [b] Z.X.env = (false, eval b Z.X.env) :: starEach [] Z.X.env := by rfl) (hpl : (backTo pos (starEach [b] Z.X.env)).any (·.1) = false := by rfl) : KI Z (.Tuple tg kk tpos) (.Call (.Name "zip" p) [a, b] [] pos) (sZip f g) :=
  ⟨(RZ.pi_zipA hg hm (ka_cons ha (ka_cons hb ka_nil hs2) hs).pa hs hpl).weak fun σ H Q ⟨ι, env, h, R, V, p⟩ => ⟨ι, env, h, R, V, by
    have p' : RPost Z.X.K Z.cA Z.W σ ι h H ((f env h).bind fun x h1 => (g env h1).bind fun y h2 => onSome (seqK h2 x) fun b => onSome (seqK h2 y) fun c => guard' (b = c) (.ok (ItD.zp x y) h2)) _ := p
    refine RPost.mono (P := fun ds h1 ι1 H1 => ∃ x y, ds = [x, y] ∧ RPost Z.X.K Z.cA Z.W σ ι1 h1 H1 (onSome (seqK h1 x) fun b => onSome (seqK h1 y) fun c => guard' (b = c) (.ok (ItD.zp x y) h1)) fun it h' ι' H' => ∀ J, ItOk Z J it ι' h' H' → Q J H') ?_ ?_
    · show RPost _ _ _ _ _ _ _ ((f env h).bind _) _
      cases e : f env h with
      | ok d h1 =>
        rw [e] at p'
        have p' : RPost Z.X.K Z.cA Z.W σ ι h H ((g env h1).bind _) _ := p'
        show RPost _ _ _ _ _ _ _ (((g env h1).bind _).bind _) _
        cases e2 : g env h1 with
        | ok d2 h2 => rw [e2] at p'; exact fun ι' H' S R' => ⟨d, d2, rfl, RPost.step S p'⟩
        | exc c fs h1 => rw [e2] at p'; exact p'
        | stuck => rw [e2] at p'; exact p'.elim
      | exc c fs h1 => rw [e] at p'; exact p'
      | stuck => rw [e] at p'; exact p'.elim
    · rintro ds h1 ι1 H1 S1 R1 ⟨x, y, rfl, p1⟩ vs rs
      obtain ⟨bx, kx, p2⟩ := p1.onSome
      obtain ⟨bY, ky, p3⟩ := p2.onSome
      obtain ⟨eb, p4⟩ := p3.guard
      subst eb
      cases rs with
      | cons rx rr =>
        cases rr with
        | cons ry rr =>
          cases rr
          obtain ⟨a, xs, es, e1, e2, e3, e4, e5⟩ := seqK_rep R1 rx kx
          obtain ⟨b, ys, fs, f1, f2, f3, f4, f5⟩ := seqK_rep R1 ry ky
          subst e1 f1
          have base : ∀ J : It, (∀ ι2 h2 H2, Step ι1 h1 H1 ι2 h2 H2 → HRep Z.X.K Z.cA ι2 H2 h2 → ∀ i us ws, itemsD h2 x = some us → itemsD h2 y = some ws →
              (∀ u w, us[i]? = some u → ws[i]? = some w → J.go i H2 ∧ ∀ v H3, J.yld i H2 v H3 → ∃ T p q, v = .ref T ∧ H2 T = none ∧ H3 = upd H2 T (.tup [p, q]) ∧ Rep Z.X.K ι2 h2.length H2 p u ∧ Rep Z.X.K ι2 h2.length H2 q w) ∧
              (us[i]? = none ∨ ws[i]? = none → J.stop i H2)) → ItOk Z J (.zp x y) ι1 h1 H1 := fun J k ι2 h2 H2 S2 R2 i => by
            cases ex : itemsD h2 x with
            | none => exact ⟨fun d e => by simp [nextD, ex] at e, fun e => by simp [nextD, ex] at e⟩
            | some us =>
              cases ey : itemsD h2 y with
              | none => exact ⟨fun d e => by simp [nextD, ex, ey] at e, fun e => by simp [nextD, ex, ey] at e⟩
              | some ws =>
                obtain ⟨k1, k2⟩ := k ι2 h2 H2 S2 R2 i us ws ex ey
                have en : nextD (.zp x y) h2 i = some (match us[i]?, ws[i]? with | some u, some v => some (.tup [u, v]) | _, _ => none) := by show (match itemsD h2 x, itemsD h2 y with | some xs, some ys => some (match xs[i]?, ys[i]? with | some u, some v => some (D.tup [u, v]) | _, _ => none) | _, _ => none) = _; rw [ex, ey]
                rw [en]
                cases eu : us[i]? with
                | none => exact ⟨fun d e => by simp at e, fun _ => k2 (.inl eu)⟩
                | some u =>
                  cases ew : ws[i]? with
                  | none => exact ⟨fun d e => by simp at e, fun _ => k2 (.inr ew)⟩
                  | some w =>
                    refine ⟨fun d e => ?_, fun e => by simp at e⟩
                    simp at e
                    subst e
                    obtain ⟨go, yl⟩ := k1 u w eu ew
                    refine ⟨go, fun v H3 yy => ?_⟩
                    obtain ⟨T, p, q, t1, t2, t3, t4, t5⟩ := yl v H3 yy
                    subst t1 t3
                    have S3 := Step.aside R2 t2 (.tup [p, q])
                    exact ⟨S3, R2.aside t2 _, .tup (.of upd_same) (.cons (t4.step S3 R2) (.cons (t5.step S3 R2) .nil))⟩
          cases bx with
          | true =>
            refine ⟨a, b, xs, ys, rfl, .inr ⟨e4 rfl, f4 rfl, RPost.ok R1 p4 _ (base _ fun ι2 h2 H2 S2 R2 i us ws g1 g2 => ?_)⟩⟩
            obtain ⟨a', xs2, c1, c2, c3, _⟩ := seqK_nx R1 S2 R2 rx kx g1
            obtain ⟨b', ys2, d1, d2, d3, _⟩ := seqK_nx R1 S2 R2 ry ky g2
            cases c1; cases d1
            refine ⟨fun u w gu gw => ?_, fun z => ⟨xs2, ys2, c3 rfl, d3 rfl, ?_⟩⟩
            · obtain ⟨p, hp, rp⟩ := c2.get gu
              obtain ⟨q, hq, rq⟩ := d2.get gw
              refine ⟨⟨xs2, ys2, p, q, c3 rfl, d3 rfl, hp, hq⟩, fun v H3 ⟨T, x', y', t1, t2, t3, t4, t5⟩ => ⟨T, x', y', t1, t2, t3, ?_, ?_⟩⟩
              · have := t4 _ (c3 rfl); rw [hp] at this; cases this; exact rp
              · have := t5 _ (d3 rfl); rw [hq] at this; cases this; exact rq
            · rcases z with z | z
              · exact .inl (by rw [c2.len]; exact List.getElem?_eq_none_iff.mp z)
              · exact .inr (by rw [d2.len]; exact List.getElem?_eq_none_iff.mp z)
          | false =>
            refine ⟨a, b, xs, ys, rfl, .inl ⟨e5 rfl, f5 rfl, RPost.ok R1 p4 _ (base _ fun ι2 h2 H2 S2 R2 i us ws g1 g2 => ?_)⟩⟩
            obtain ⟨a', xs2, c1, c2, _, c3⟩ := seqK_nx R1 S2 R2 rx kx g1
            obtain ⟨b', ys2, d1, d2, _, d3⟩ := seqK_nx R1 S2 R2 ry ky g2
            cases c1; cases d1
            refine ⟨fun u w gu gw => ?_, fun z => ⟨xs2, ys2, c3 rfl, d3 rfl, ?_⟩⟩
            · obtain ⟨p, hp, rp⟩ := c2.get gu
              obtain ⟨q, hq, rq⟩ := d2.get gw
              refine ⟨⟨xs2, ys2, p, q, c3 rfl, d3 rfl, hp, hq⟩, fun v H3 ⟨T, x', y', t1, t2, t3, t4, t5⟩ => ⟨T, x', y', t1, t2, t3, ?_, ?_⟩⟩
              · have := t4 _ (c3 rfl); rw [hp] at this; cases this; exact rp
              · have := t5 _ (d3 rfl); rw [hq] at this; cases this; exact rq
            · rcases z with z | z
              · exact .inl (by rw [c2.len]; exact List.getElem?_eq_none_iff.mp z)
              · exact .inr (by rw [d2.len]; exact List.getElem?_eq_none_iff.mp z)⟩⟩
/-! ### reversed, of what nobody changes -/
def sRev (f : SE) : SI := fun env h => (f env h).bind fun x h1 => match x with
  | .tup ds => .ok (.snap ds.reverse) h1
  | _ => .stuck
theorem ki_rev {tg e : Expr} {f : SE} {p pos : Pos} (hg : Gl Z.X "reversed") (hm : Z.X.mg "reversed" = none) (he : KE Z e f) (hs : starEach [e] Z.X.env = (false, eval e Z.X.env) :: starEach [] Z.X.env := by rfl) : KI Z tg (.Call (.Name "reversed" p) [e] [] pos) (sRev f) :=
  ⟨(RT.pi_revA hg hm he.pe hs).weak fun σ H Q ⟨ι, env, h, R, V, p⟩ => ⟨ι, env, h, R, V, (RPost.bind p).mono fun x h1 ι1 H1 S1 R1 p1 v r => by
    cases r with
    | @tup a xs ds q rs =>
      refine ⟨a, xs, rfl, .inr ⟨q, RPost.ok R1 p1 _ fun ι2 h2 H2 S2 R2 i => ?_⟩⟩
      have q2 := (S2.tkeep R1).tup _ _ q
      have rs2 := rs.step S2 R1
      have hl := rs2.len
      have key : ∀ j, j < ds.length → ds.reverse[j]? = ds[xs.length - 1 - j]? := fun j hj => by rw [List.getElem?_reverse hj, hl]
      refine ⟨fun d hd => ?_, fun hd => ?_⟩
      · have hd := Option.some.inj hd
        have hi : i < ds.length := by have := lt_of_get hd; simpa using this
        rw [key i hi] at hd
        obtain ⟨w, hw, rw'⟩ := rs2.get hd
        refine ⟨⟨by omega, xs, w, q2, hw⟩, fun x' H3 ⟨z1, z2⟩ => ?_⟩
        subst z1
        have hx := z2 xs q2
        rw [hw] at hx; cases hx
        exact ⟨.refl, R2, rw'⟩
      · have hd := Option.some.inj hd
        have : ds.reverse.length ≤ i := List.getElem?_eq_none_iff.mp hd
        show xs.length ≤ i
        simp at this; omega
    | _ => exact p1.elim⟩⟩
/-! ### append -/
def sAppend (f g : SE) : SE := fun env h => (f env h).bind fun x h1 => asRef x fun m => onLst h1 m fun _ => (g env h1).bind fun d h2 => onLst h2 m fun ds => guard' (ds.length < LIM) (.ok .non (h2.set m (.lst (ds ++ [d]))))
end
end Kf
end
section
set_option maxHeartbeats 4000000
/-! Kf: a tuple times a number; append. -/
namespace PySem
open PySem.Spec PyProof.Rows
theorem tuple_once (l : Addr) (items : Array Value) (n : Nat) (dd : Option Addr) (sl : Array (Option Value)) (u : Tok) (hne : items.isEmpty = false) :
    Meets (Builtin.«tuple.__mul__» ⟨[.ref l, .int 1 u], []⟩) (fun _ R s => s.heap.get? l = some { cls := .type "tuple", dict := dd, data := .seq items n, slots := sl } ∧ R (.ok (.ret (.ref l))) s) :=
  .of_wp fun prog w A R s h => by
    obtain ⟨hp, g, d, tk, os⟩ := s
    obtain ⟨hl, h⟩ := h
    have f1 := AutoSeq1.idx_int
    have c0 : (decide ((1 : Int) < -(2 ^ 63)) || decide ((1 : Int) ≥ 2 ^ 63)) = false := by decide
    have c1 : (items.isEmpty || (1 : Int) == 1) = true := by rw [hne]; rfl
    wp_walk using wpAny_loadPart' hl
    repeat (first
      | (refine wpAny_ite_false (decide_eq_false (by rw [c0]; exact Bool.false_ne_true)) ?_; wp_walk using wpAny_loadPart' hl)
      | (refine wpAny_ite_true (decide_eq_true c1) ?_; wp_walk using wpAny_loadPart' hl))
    exact ⟨_, rfl, h⟩
end PySem
namespace Kf
open PySem PySem.Spec L2 PyProof.Rows
theorem op_once {X : Cx} : OpR X (binaryOp .Mult) (fun x y H Q => ∃ l xs, x = .ref l ∧ y = .int 1 ∧ SqT X.K H l xs ∧ xs ≠ [] ∧ Q (.ref l) H) := by
  rintro pins s σ H x y v u Q I rx ry ⟨l, xs, rfl, rfl, hT, hne, q⟩
  cases rx
  obtain ⟨t, rfl⟩ := ry
  obtain ⟨its, r, ⟨⟨cls, dd, data, sl⟩, ho, hc, n, hd⟩, hs⟩ := I.tuple hT
  have e1 : cls = .type "tuple" := hc
  have e2 : data = .seq its.toArray n := hd
  subst e1 e2
  have hi : its.toArray.isEmpty = false := by
    cases r with
    | nil => exact absurd rfl hne
    | cons _ _ => rfl
  exact wpAny_binaryOp_repeat_ref (T := "tuple") (U := "int") (by decide) ⟨_, ho, rfl⟩ (fun s' => typeIs_int s' 1 t) noFill_tuple_mul PySem.F.fills_int_mul PySem.F.slot_int_rmul repeat_tuple PySem.F.slot_int_index.lookup
    (call_meets PySem.F.slot_int_rmul (typeIs_int s 1 t) PySem.F.entry_int_rmul (PySem.F.args_int_rmul_2 _ _) (int_rmul_tuple 1 t l its.toArray n dd sl) ⟨ho, rfl, ⟨_, ho, rfl⟩,
      call_meets PySem.F.slot_tuple_mul ⟨_, ho, rfl⟩ PySem.F.entry_tuple_mul (PySem.F.args_tuple_mul_2 _ _) (tuple_once l its.toArray n dd sl t hi) ⟨ho, .ref l, H, I, rfl, q⟩⟩)
section
variable {Z : Kx}
def repT : F2 := fun x y h => asTup x fun xs => asInt y fun k => guard' (xs ≠ [] ∧ 1 ≤ k ∧ k ≤ 1000 ∧ xs.length ≤ 1000) (.ok (.tup (List.replicate k.toNat xs).flatten) h)
theorem ko_repT : OpK Z (binaryOp .Mult) repT := by
  refine ⟨fun x y H Q => (∃ l xs, x = .ref l ∧ y = .int 1 ∧ SqT Z.X.K H l xs ∧ xs ≠ [] ∧ Q (.ref l) H) ∨ rRepT Z.X.K x y H Q, fun pins s σ H x y v u Q I rx ry z => z.elim (op_once pins s σ H x y v u Q I rx ry) (op_repT pins s σ H x y v u Q I rx ry), fun σ ι h H x y dx dy Q R rx ry p => ?_⟩
  obtain ⟨ds, e1, p1⟩ := p.asTup
  obtain ⟨k, e2, p2⟩ := p1.asInt
  obtain ⟨⟨c1, c2, c3, c4⟩, p3⟩ := p2.guard
  subst e1 e2
  cases ry
  cases rx with
  | @tup a xs ds q rs =>
    have hne : xs ≠ [] := fun z => by subst z; cases rs; exact c1 rfl
    by_cases hk : k = 1
    · subst hk
      have e : (List.replicate (1 : Int).toNat ds).flatten = ds := by simp
      rw [e] at p3
      exact .inl ⟨a, xs, rfl, rfl, q, hne, RPost.ok R p3 _ (.tup q rs)⟩
    · refine .inr ⟨a, k, xs, rfl, rfl, q, hne, by omega, c3, by rw [rs.len]; exact c4, fun l hl => ?_⟩
      have S2 := Step.aside R hl (.tup (List.replicate k.toNat xs).flatten)
      exact p3 ι _ S2 (R.aside hl _) _ (.tup (.of upd_same) ((rs.rep _).step S2 R))
def mulB : F2 := fun x y h => match x with
  | .tup _ => repT x y h
  | _ => mulA x y h
theorem ko_timesB : OpK Z (binaryOp .Mult) mulB := .alt ko_times ko_repT fun x y h => by cases x <;> simp [mulB]
/-! ### append -/
theorem ke_append {o e : Expr} {f g : SE} {p pos : Pos} (ho : KE Z o f) (he : KE Z e g) (hbase : attributeBase o "append" Z.X.env (eval o Z.X.env) = eval o Z.X.env := by rfl)
    (hfew : ((backTo pos (starEach [e] Z.X.env)).all (fun x => !x.1) && (backToKw pos (keywordEach [] Z.X.env)).all (fun x => x.1.isSome) && decide ([e].length + ([] : List Keyword).length + (if ([] : List Keyword).isEmpty then 0 else 1) < 30)) = true := by rfl)
    (hline : (p.endLine == pos.line) = true := by rfl) (hs : starEach [e] Z.X.env = (false, eval e Z.X.env) :: starEach [] Z.X.env := by rfl) (hpl : (backTo pos (starEach [] Z.X.env)).any (·.1) = false := by rfl) :
    KE Z (.Call (.Attribute o "append" p) [e] [] pos) (sAppend f g) :=
  ⟨(pe_bm PySem.F.plainAttrs_list PySem.F.slot_list_append PySem.F.type_list_append mt_append ho.pe (pa_cons he.pe pa_nil hs) hbase hfew hline hs hpl).weak fun σ H Q ⟨ι, env, h, R, V, p⟩ => ⟨ι, env, h, R, V, (RPost.bind p).mono fun x h1 ι1 H1 S1 R1 p1 v r => by
    obtain ⟨m, e1, p2⟩ := p1.asRef
    obtain ⟨ds, e2, p3⟩ := p2.onLst
    subst e1
    cases r with
    | ref hlt =>
      obtain ⟨xs, e3, _, _⟩ := lst_at R1 e2
      refine ⟨.inl ⟨rfl, xs, .of e3⟩, ι1, env, h1, R1, V.step S1 R, (RPost.bind p3).mono fun d h2 ι2 H2 S2 R2 p4 w rw' => ?_⟩
      obtain ⟨es, e4, p5⟩ := p4.onLst
      obtain ⟨hl, p6⟩ := p5.guard
      have hm2 : m < h2.length := Nat.lt_of_lt_of_le hlt S2.len
      obtain ⟨ys, e5, rs2, hf⟩ := lst_at R2 e4
      refine ⟨ι1 m, ys, w, rfl, by first | rfl | simp, by rw [← S2.eq m hlt]; exact e5, by rw [rs2.len, sizeLine_eq]; exact hl, ?_⟩
      rw [← S2.eq m hlt]
      exact p6 ι2 _ (Step.set R2 hm2 hf (.lst (ys ++ [w])) (.lst (es ++ [d]))) (R2.set hm2 hf (.lst (rs2.append (.cons rw' .nil)))) _ .non⟩⟩
end
end Kf
namespace Kf
open PySem PySem.Spec L2
/-- a class that a clause names -/
structure CH (G : Gx) (x : Str) (cv : Value) (mt : List (String × Bool)) : Prop where
  nm : (x == ("__debug__" : Str)) = false ∧ (G.mg x = some cv ∨ (G.mg x = none ∧ bootBuiltins x = some cv ∧ x ≠ "__name__"))
  ex : ∀ c r, mt.lookup c = some r → PySem.W.exmOne G.K (.ref (G.cA c)) cv = some r
/-- a field of an own exception class -/
structure XFG (G : Gx) (c f : String) : Prop where
  T : XfC G.K (G.cA c)
  no : PySem.W.findIn G.K (.ref (G.cA c)) (Str.ofString f) = some none
section
variable {Z : Kx} {G : Gx} {j : Nat} {x : Str} {cv : Value} {mt : List (String × Bool)}
theorem CH.names (h : CH G x cv mt) (i : Z.In G j) (hg : Gl Z.X x) : Names Z.X x cv := ⟨hg, h.nm.1, by rw [i.mg]; exact h.nm.2⟩
theorem CH.exm (h : CH G x cv mt) (i : Z.In G j) : ∀ c r, mt.lookup c = some r → PySem.W.exmOne Z.X.K (.ref (Z.cA c)) cv = some r := by
  rw [i.K, i.cA]; exact h.ex
theorem one_true {c0 : String} : ∀ {l : List (String × Bool)}, (l.all fun p => !p.2 || p.1 == c0) = true → ∀ c, l.lookup c = some true → c = c0
  | [], _, c, e => by cases e
  | (a, b) :: l, h, c, e => by
    simp only [List.all_cons, Bool.and_eq_true] at h
    rw [List.lookup_cons] at e
    cases q : c == a with
    | true =>
      rw [q] at e
      cases e
      have h1 : a = c0 := by simpa using h.1
      rw [eq_of_beq q, h1]
    | false => rw [q] at e; exact one_true h.2 c e
theorem ksu_one {body : List Stmt} {mt : String → Option Bool} {f : String → Nat → Option Nat → SS} {c0 : String} (h1 : ∀ c, mt c = some true → c = c0)
    (h : ∀ (a : Addr) (oe : Obj) (d : Option Addr) (pn : List (Addr × Obj)), Zc (.ref (Z.cA c0)) d oe → (∃ fv, oe.data = .fields fv) → KSs (Z.su a oe pn) body (f c0 a d)) : KSu Z body mt f := fun c hc a oe d pn hz hf => by
  cases h1 c hc
  exact h a oe d pn hz hf
end
end Kf
namespace Kf
open PySem PySem.Spec L2
section
variable {Z : Kx}
theorem reps_rg {K : PySem.W.Frag} {ι : Nat → Addr} {n : Nat} {H : Hp} (b : Int) : Reps K ι n H (rgV 0 b) (rangeL 0 b.toNat) := by
  unfold rgV rangeL
  rw [Int.sub_zero]
  generalize List.range b.toNat = l
  induction l with
  | nil => exact .nil
  | cons _ _ ih => exact .cons .int ih
/-- list(range(n)) -/
def sLstRg (f : SE) : SA := fun env h => (f env h).bind fun d h1 => asInt d fun b => guard' (-16777216 ≤ b ∧ b ≤ 16777216) (.ok (rangeL 0 b.toNat) h1)
theorem kl_listRg {a : Expr} {f : SE} {p p2 pos pos2 : Pos} (hc : Z.X.calm = true) (hl : Gl Z.X "list") (hlm : Z.X.mg "list" = none) (hg : Gl Z.X "range") (hm : Z.X.mg "range" = none) (ha : KE Z a f)
    (n1 : starEach [a] Z.X.env = (false, eval a Z.X.env) :: starEach [] Z.X.env := by rfl)
    (n2 : starEach [.Call (.Name "range" p2) [a] [] pos2] Z.X.env = (false, eval (.Call (.Name "range" p2) [a] [] pos2) Z.X.env) :: starEach [] Z.X.env := by rfl) : KL Z (.Call (.Name "list" p) [.Call (.Name "range" p2) [a] [] pos2] [] pos) (sLstRg f) :=
  ⟨(pe_listRg hc hl hlm (prg_1 hg hm ha.pe n1) n2).weak fun σ H Q ⟨ι, env, h, R, V, p⟩ => ⟨ι, env, h, R, V, (RPost.bind p).mono fun d h1 ι1 H1 S1 R1 p1 v r => by
    obtain ⟨b, e1, p2⟩ := p1.asInt
    obtain ⟨c, p3⟩ := p2.guard
    subst e1
    cases r
    refine ⟨b, rfl, ⟨by decide, by decide, by omega, by omega, by omega⟩, fun q hq => ?_⟩
    have S2 := Step.aside R1 hq (.lst (rgV 0 b))
    have hH : H q = none := none_of_there' S1 hq
    exact p3 ι1 _ S2 (R1.aside hq _) q _ hH upd_same (fun m hm z => R1.off hq hm z.symm) (reps_rg b)⟩⟩
end
end Kf
end
set_option maxHeartbeats 8000000
noncomputable section
namespace Kq
open PySem PySem.Spec L2 Kf
def topS (i : Nat) : Stmt := PySem.Challenge.pw_keptfiles_k04_whole_disks.main.body.getD i (.Pass ⟨0, 0, 0, 0⟩)
/-! ### _law_pen -/
abbrev st_law_pen : Stmt := topS 11
theorem sc_law_pen : FnScope ["_law_script", "_law_fold", "_law_cell"] ["_law_script"] (defScope st_law_pen) := ⟨rfl, rfl, rfl, by decide +kernel, rfl, by decide +kernel, by decide +kernel⟩
def s_law_pen : SS :=
    (sSeq (sAsg (sC (.int 0)) (gN 1))
    (sSeq (sFor (sVal (sVar 0)) (gN 2) (sAsg (s2 modF (sCall intF (sCons (s2 addA (s2 mulB (sVar 1) (sC (.int 41))) (sVar 2)) sNil)) (sC (.int 1000000007))) (gN 1)))
    (sRet (sDict [((sC (.str "cells")), (sNew (sCallL listF (sCons (sVar 0) sNil)))), ((sC (.str "at")), (sC (.int 0))), ((sC (.str "digits")), (sC (.int 0))), ((sC (.str "count")), (sC (.int 0))), ((sC (.str "fold")), (sVar 1))]))))
def M_law_pen : FA := defM 3 s_law_pen
theorem ok_law_pen {G : Gx} {f : Addr} {fd : FuncData} (F : Fun G.K "_law_pen" "_law_pen" st_law_pen f fd) (b_int : G.mg "int" = none) (b_list : G.mg "list" = none) :
    FnOk G.P G.w G.K G.mg G.base (L2.CX G.P G.w) 1 f fd ["_law_script"] (spOf G.K G.cA 1 M_law_pen) := fn_of' (k := 0) F sc_law_pen fun cdv A outer s H E i =>
    (kss_cons (ks_asg ke_int (gn 1 sc_law_pen.nd))
    (kss_cons (ks_for i.ow i.cm (ki_val (kv 0)) (gn 2 sc_law_pen.nd) (kss_one (ks_asg (ke_op ko_mod (ke_callTy ck_int (by rfl) b_int (by decide +kernel) (ka_cons (ke_op ko_plusA (ke_op ko_timesB (kv 1) ke_int) (kv 2)) ka_nil)) ke_int) (gn 1 sc_law_pen.nd))))
    (kss_one (ks_ret (ke_dict (kps_cons ke_str (ke_new (kl_callTy ck_list (by rfl) b_list (by decide +kernel) (ka_cons (kv 0) ka_nil))) (kps_cons ke_str ke_int (kps_cons ke_str ke_int (kps_cons ke_str ke_int (kps_cons ke_str (kv 1) kps_nil))))))))))
/-! ### is_whole -/
abbrev st_is_whole : Stmt := topS 4
theorem sc_is_whole : FnScope ["value"] ["value"] (defScope st_is_whole) := ⟨rfl, rfl, rfl, by decide +kernel, rfl, by decide +kernel, by decide +kernel⟩
def s_is_whole : SS :=
    (sRet (sAndV (sIsi "int" (sVar 0)) (sNotV (sIsi "bool" (sVar 0)))))
def M_is_whole : FA := defM 1 s_is_whole
theorem ok_is_whole {G : Gx} {f : Addr} {fd : FuncData} (F : Fun G.K "is_whole" "is_whole" st_is_whole f fd) (b_bool : G.mg "bool" = none) (b_int : G.mg "int" = none) (b_isinstance : G.mg "isinstance" = none) :
    FnOk G.P G.w G.K G.mg G.base (L2.CX G.P G.w) 1 f fd ["value"] (spOf G.K G.cA 1 M_is_whole) := fn_of' (k := 0) F sc_is_whole fun cdv A outer s H E i =>
    (kss_one (ks_ret (ke_and (ke_isi (by rfl) b_isinstance (kv 0) (by rfl) b_int (by decide +kernel)) (ke_one (ke_not (ke_isi (by rfl) b_isinstance (kv 0) (by rfl) b_bool (by decide +kernel)))))))
/-! ### is_count -/
abbrev st_is_count : Stmt := topS 5
theorem sc_is_count : FnScope ["value"] ["value"] (defScope st_is_count) := ⟨rfl, rfl, rfl, by decide +kernel, rfl, by decide +kernel, by decide +kernel⟩
def s_is_count : SS :=
    (sRet (sAndV (sFn 1 M_is_whole [] (sCons (sVar 0) sNil)) (s2 geF (sVar 0) (sC (.int 0)))))
def M_is_count : FA := defM 1 s_is_count
theorem ok_is_count {G : Gx} {f : Addr} {fd : FuncData} (F : Fun G.K "is_count" "is_count" st_is_count f fd) (c_is_whole_0 : CF G "is_whole" 1 1 M_is_whole []) :
    FnOk G.P G.w G.K G.mg G.base (L2.CX G.P G.w) 2 f fd ["value"] (spOf G.K G.cA 1 M_is_count) := fn_of' (k := 1) F sc_is_count fun cdv A outer s H E i =>
    (kss_one (ks_ret (ke_and (kc (i := i) c_is_whole_0 (by decide) (by rfl) (ka_cons (kv 0) ka_nil)) (ke_one (ke_cmp (ko_geD i.hu64) (kv 0) ke_int)))))
/-! ### Disk.__init__ -/
abbrev st_Disk_init : Stmt := inClass (topS 9) 0
theorem sc_Disk_init : FnScope ["self", "size"] ["self", "size"] (defScope st_Disk_init) := ⟨rfl, rfl, rfl, by decide +kernel, rfl, by decide +kernel, by decide +kernel⟩
def s_Disk_init : SS :=
    (sSeq (sIf (sOr (sNot (sTest (sFn 1 M_is_count [] (sCons (sVar 1) sNil)))) (sTest (s2 eqF (sVar 1) (sC (.int 0)))))
    (sRaise "BadNumber" ["what", "number"] (sCons (sC (.str "size")) (sCons (sVar 1) sNil)))
    sNext)
    (sSeq (sSetF (sVar 0) "size" ["Disk"] (sVar 1))
    (sSeq (sSetF (sVar 0) "blocks" ["Disk"] (s2 mulB (sTup (sCons (sC .non) sNil)) (sVar 1)))
    (sSeq (sSetF (sVar 0) "waiting" ["Disk"] (sTup sNil))
    (sSeq (sSetF (sVar 0) "fuse" ["Disk"] (sC .non))
    (sSetF (sVar 0) "fuse_steps" ["Disk"] (sC .non)))))))
def M_Disk_init : FA := defM 2 s_Disk_init
theorem ok_Disk_init {G : Gx} {f : Addr} {fd : FuncData} (F : Fun G.K "__init__" "Disk.__init__" st_Disk_init f fd) (fl_blocks : FldG G "blocks" ["Disk"]) (fl_fuse : FldG G "fuse" ["Disk"]) (fl_fuse_steps : FldG G "fuse_steps" ["Disk"]) (fl_size : FldG G "size" ["Disk"]) (fl_waiting : FldG G "waiting" ["Disk"]) (x_BadNumber : CE G "BadNumber" "BadNumber" 1 ["what", "number"]) (c_is_count_0 : CF G "is_count" 2 1 M_is_count []) :
    FnOk G.P G.w G.K G.mg G.base (L2.CX G.P G.w) 3 f fd ["self", "size"] (spOf G.K G.cA 2 M_Disk_init) := fn_of' (k := 2) F sc_Disk_init fun cdv A outer s H E i =>
    (kss_cons (ks_if (kb_w (kw_or (kb_not (kb_val (kc (i := i) c_is_count_0 (by decide) (by rfl) (ka_cons (kv 1) ka_nil)))) (kw_or1 (kb_cmp (ko_eq i.hu64) (kv 1) ke_int)))) (kss_one (kr (i := i) x_BadNumber (by decide) (by rfl) (ka_cons ke_str (ka_cons (kv 1) ka_nil)))) kss_nil)
    (kss_cons (ks_fld (f := "size") (kv 0) (kv 1) fl_size)
    (kss_cons (ks_fld (f := "blocks") (kv 0) (ke_op ko_timesB (ke_tup (ka_cons ke_non ka_nil)) (kv 1)) fl_blocks)
    (kss_cons (ks_fld (f := "waiting") (kv 0) (ke_tup ka_nil) fl_waiting)
    (kss_cons (ks_fld (f := "fuse") (kv 0) ke_non fl_fuse)
    (kss_one (ks_fld (f := "fuse_steps") (kv 0) ke_non fl_fuse_steps)))))))
/-! ### _law_size_refused -/
abbrev st_law_size_refused : Stmt := topS 25
theorem sc_law_size_refused : FnScope ["_law_size", "_law_told", "e"] ["_law_size"] (defScope st_law_size_refused) := ⟨rfl, rfl, rfl, by decide +kernel, rfl, by decide +kernel, by decide +kernel⟩
def s_law_size_refused : SS :=
    (sSeq (sAsg (sC .non) (gN 1))
    (sSeq (sTry (sSeq (sDrop (sNewI "Disk" 2 M_Disk_init [] (sCons (sVar 0) sNil)))
    (sAsg (sC (.str "made")) (gN 1))) [((fun c => List.lookup c [("BadNumber", true), ("Fallen", false)]), (some 2), fun _ a d => (sAsg (sTup (sCons (sXf "BadNumber" a d (sVar 2) "what") (sCons (sXf "BadNumber" a d (sVar 2) "number") (sCons (sIsi "bool" (sXf "BadNumber" a d (sVar 2) "number")) sNil)))) (gN 1)))])
    (sRet (s2 eqF (sVar 1) (sTup (sCons (sC (.str "size")) (sCons (sVar 0) (sCons (sIsi "bool" (sVar 0)) sNil))))))))
def M_law_size_refused : FA := defM 3 s_law_size_refused
theorem ok_law_size_refused {G : Gx} {f : Addr} {fd : FuncData} (F : Fun G.K "_law_size_refused" "_law_size_refused" st_law_size_refused f fd) (b_bool : G.mg "bool" = none) (b_isinstance : G.mg "isinstance" = none) (h_BadNumber : CH G "BadNumber" (.ref (G.cA "BadNumber")) [("BadNumber", true), ("Fallen", false)]) (xf_BadNumber_number : XFG G "BadNumber" "number") (xf_BadNumber_what : XFG G "BadNumber" "what") (c_Disk_init_0 : CM G "Disk" "Disk" 3 2 M_Disk_init []) :
    FnOk G.P G.w G.K G.mg G.base (L2.CX G.P G.w) 5 f fd ["_law_size"] (spOf G.K G.cA 1 M_law_size_refused) := fn_of' (k := 4) F sc_law_size_refused fun cdv A outer s H E i =>
    (kss_cons (ks_asg ke_non (gn 1 sc_law_size_refused.nd))
    (kss_cons (ks_try rfl rfl i.tk (fun W pn xe tk o => (kss_cons (ks_expr (km (i := (i.tr tk o)) c_Disk_init_0 (by decide) (by rfl) (ka_cons (kv 0) ka_nil)))
    (kss_one (ks_asg ke_str (gn 1 sc_law_size_refused.nd))))) (.named (i := 2) sc_law_size_refused.nd rfl rfl (h_BadNumber.names i (by rfl)) (h_BadNumber.exm i) (ksu_one (one_true (c0 := "BadNumber") (by decide)) fun a oe d pn hz hf => (kss_one (ks_asg (ke_tup (ka_cons (ke_xf xf_BadNumber_what.1 xf_BadNumber_what.2 hz hf (kv 2)) (ka_cons (ke_xf xf_BadNumber_number.1 xf_BadNumber_number.2 hz hf (kv 2)) (ka_cons (ke_isi (by rfl) b_isinstance (ke_xf xf_BadNumber_number.1 xf_BadNumber_number.2 hz hf (kv 2)) (by rfl) b_bool (by decide +kernel)) ka_nil)))) (gn 1 sc_law_size_refused.nd)))) .nil))
    (kss_one (ks_ret (ke_cmp (ko_eq i.hu64) (kv 1) (ke_tup (ka_cons ke_str (ka_cons (kv 0) (ka_cons (ke_isi (by rfl) b_isinstance (kv 0) (by rfl) b_bool (by decide +kernel)) ka_nil)))))))))
/-! ### _law_draw -/
abbrev st_law_draw : Stmt := topS 12
theorem sc_law_draw : FnScope ["_law_pen_here", "_law_many", "_law_cell", "_law_digit", "_law_blend"] ["_law_pen_here", "_law_many"] (defScope st_law_draw) := ⟨rfl, rfl, rfl, by decide +kernel, rfl, by decide +kernel, by decide +kernel⟩
def s_law_draw : SS :=
    (sSeq (sAsg (s2 addA (s2 getF (sVar 0) (sC (.str "count"))) (sC (.int 1))) (gSub' (sVar 0) (sC (.str "count")) setF))
    (sSeq (sIf (sAnd (sTest (s2 eqF (s2 getF (sVar 0) (sC (.str "digits"))) (sC (.int 0)))) (sTest (s2 ltF (s2 getF (sVar 0) (sC (.str "at"))) (sCall lenA (sCons (s2 getF (sVar 0) (sC (.str "cells"))) sNil)))))
    (sSeq (sAsg (s2 getF (s2 getF (sVar 0) (sC (.str "cells"))) (s2 getF (sVar 0) (sC (.str "at")))) (gN 2))
    (sSeq (sAsg (s2 addA (s2 getF (sVar 0) (sC (.str "at"))) (sC (.int 1))) (gSub' (sVar 0) (sC (.str "at")) setF))
    (sIf (sTest (s2 geF (sVar 2) (s2 powF (sC (.int 10)) (sC (.int 18)))))
    (sAsg (s2 (f2I yes2 fun i j => .int (i - j)) (sVar 2) (s2 powF (sC (.int 10)) (sC (.int 18)))) (gSub' (sVar 0) (sC (.str "digits")) setF))
    (sAsg (s2 modF (sCall intF (sCons (s2 addA (s2 mulB (s2 getF (sVar 0) (sC (.str "fold"))) (sC (.int 69069))) (sVar 2)) sNil)) (sC (.int 2147483587))) (gSub' (sVar 0) (sC (.str "fold")) setF)))))
    sNext)
    (sSeq (sIf (sTest (s2 gtF (s2 getF (sVar 0) (sC (.str "digits"))) (sC (.int 0))))
    (sSeq (sAsg (s2 modF (sCall intF (sCons (s2 getF (sVar 0) (sC (.str "digits"))) sNil)) (sVar 1)) (gN 3))
    (sSeq (sAsg (s2 fdivF (s2 getF (sVar 0) (sC (.str "digits"))) (sVar 1)) (gSub' (sVar 0) (sC (.str "digits")) setF))
    (sRet (sVar 3))))
    sNext)
    (sSeq (sAsg (s2 addA (s2 addA (s2 getF (sVar 0) (sC (.str "fold"))) (s2 mulB (s2 getF (sVar 0) (sC (.str "count"))) (sC (.int 7907)))) (sC (.int 37))) (gN 4))
    (sRet (s2 modF (s2 fdivF (sCall intF (sCons (s2 modF (s2 powF (sVar 4) (sC (.int 17))) (sC (.int 2305843009213693951))) sNil)) (sC (.int 128))) (sVar 1)))))))
def M_law_draw : FA := defM 5 s_law_draw
theorem ok_law_draw {G : Gx} {f : Addr} {fd : FuncData} (F : Fun G.K "_law_draw" "_law_draw" st_law_draw f fd) (b_int : G.mg "int" = none) (b_len : G.mg "len" = none) :
    FnOk G.P G.w G.K G.mg G.base (L2.CX G.P G.w) 1 f fd ["_law_pen_here", "_law_many"] (spOf G.K G.cA 2 M_law_draw) := fn_of' (k := 0) F sc_law_draw fun cdv A outer s H E i =>
    (kss_cons (ks_asg (ke_op ko_plusA (ke_ix (ik_get i.hu1) (kv 0) ke_str) ke_int) (kg_sub (st_set i.hu1) (kv 0) ke_str))
    (kss_cons (ks_if (kb_w (kw_and (kb_cmp (ko_eq i.hu64) (ke_ix (ik_get i.hu1) (kv 0) ke_str) ke_int) (kw_and1 (kb_cmp (ko_ltD i.hu64) (ke_ix (ik_get i.hu1) (kv 0) ke_str) (ke_callB ck_lenA (by rfl) b_len (by decide +kernel) (ka_cons (ke_ix (ik_get i.hu1) (kv 0) ke_str) ka_nil)))))) (kss_cons (ks_asg (ke_ix (ik_get i.hu1) (ke_ix (ik_get i.hu1) (kv 0) ke_str) (ke_ix (ik_get i.hu1) (kv 0) ke_str)) (gn 2 sc_law_draw.nd))
    (kss_cons (ks_asg (ke_op ko_plusA (ke_ix (ik_get i.hu1) (kv 0) ke_str) ke_int) (kg_sub (st_set i.hu1) (kv 0) ke_str))
    (kss_one (ks_if (kb_cmp (ko_geD i.hu64) (kv 2) (ke_op ko_pow ke_int ke_int)) (kss_one (ks_asg (ke_op ko_sub (kv 2) (ke_op ko_pow ke_int ke_int)) (kg_sub (st_set i.hu1) (kv 0) ke_str))) (kss_one (ks_asg (ke_op ko_mod (ke_callTy ck_int (by rfl) b_int (by decide +kernel) (ka_cons (ke_op ko_plusA (ke_op ko_timesB (ke_ix (ik_get i.hu1) (kv 0) ke_str) ke_int) (kv 2)) ka_nil)) ke_int) (kg_sub (st_set i.hu1) (kv 0) ke_str))))))) kss_nil)
    (kss_cons (ks_if (kb_cmp (ko_gtD i.hu64) (ke_ix (ik_get i.hu1) (kv 0) ke_str) ke_int) (kss_cons (ks_asg (ke_op ko_mod (ke_callTy ck_int (by rfl) b_int (by decide +kernel) (ka_cons (ke_ix (ik_get i.hu1) (kv 0) ke_str) ka_nil)) (kv 1)) (gn 3 sc_law_draw.nd))
    (kss_cons (ks_asg (ke_op ko_fdiv (ke_ix (ik_get i.hu1) (kv 0) ke_str) (kv 1)) (kg_sub (st_set i.hu1) (kv 0) ke_str))
    (kss_one (ks_ret (kv 3))))) kss_nil)
    (kss_cons (ks_asg (ke_op ko_plusA (ke_op ko_plusA (ke_ix (ik_get i.hu1) (kv 0) ke_str) (ke_op ko_timesB (ke_ix (ik_get i.hu1) (kv 0) ke_str) ke_int)) ke_int) (gn 4 sc_law_draw.nd))
    (kss_one (ks_ret (ke_op ko_mod (ke_op ko_fdiv (ke_callTy ck_int (by rfl) b_int (by decide +kernel) (ka_cons (ke_op ko_mod (ke_op ko_pow (kv 4) ke_int) ke_int) ka_nil)) ke_int) (kv 1))))))))
/-! ### _law_pick -/
abbrev st_law_pick : Stmt := topS 13
theorem sc_law_pick : FnScope ["_law_pen_here", "_law_some"] ["_law_pen_here", "_law_some"] (defScope st_law_pick) := ⟨rfl, rfl, rfl, by decide +kernel, rfl, by decide +kernel, by decide +kernel⟩
def s_law_pick : SS :=
    (sRet (s2 getF (sVar 1) (sFn 2 M_law_draw [] (sCons (sVar 0) (sCons (sCall lenA (sCons (sVar 1) sNil)) sNil)))))
def M_law_pick : FA := defM 2 s_law_pick
theorem ok_law_pick {G : Gx} {f : Addr} {fd : FuncData} (F : Fun G.K "_law_pick" "_law_pick" st_law_pick f fd) (b_len : G.mg "len" = none) (c_law_draw_0 : CF G "_law_draw" 1 2 M_law_draw []) :
    FnOk G.P G.w G.K G.mg G.base (L2.CX G.P G.w) 2 f fd ["_law_pen_here", "_law_some"] (spOf G.K G.cA 2 M_law_pick) := fn_of' (k := 1) F sc_law_pick fun cdv A outer s H E i =>
    (kss_one (ks_ret (ke_ix (ik_get i.hu1) (kv 1) (kc (i := i) c_law_draw_0 (by decide) (by rfl) (ka_cons (kv 0) (ka_cons (ke_callB ck_lenA (by rfl) b_len (by decide +kernel) (ka_cons (kv 1) ka_nil)) ka_nil))))))
/-! ### _law_disk_new -/
abbrev st_law_disk_new : Stmt := topS 15
theorem sc_law_disk_new : FnScope ["_law_size"] ["_law_size"] (defScope st_law_disk_new) := ⟨rfl, rfl, rfl, by decide +kernel, rfl, by decide +kernel, by decide +kernel⟩
def s_law_disk_new : SS :=
    (sRet (sDict [((sC (.str "blocks")), (s2 mulB (sNew (sLst (sCons (sC .non) sNil))) (sVar 0))), ((sC (.str "waiting")), (sNew (sLst sNil))), ((sC (.str "fuse")), (sC .non))]))
def M_law_disk_new : FA := defM 1 s_law_disk_new
theorem ok_law_disk_new {G : Gx} {f : Addr} {fd : FuncData} (F : Fun G.K "_law_disk_new" "_law_disk_new" st_law_disk_new f fd)  :
    FnOk G.P G.w G.K G.mg G.base (L2.CX G.P G.w) 1 f fd ["_law_size"] (spOf G.K G.cA 1 M_law_disk_new) := fn_of' (k := 0) F sc_law_disk_new fun cdv A outer s H E i =>
    (kss_one (ks_ret (ke_dict (kps_cons ke_str (ke_op ko_timesB (ke_new (kl_lst (ka_cons ke_non ka_nil))) (kv 0)) (kps_cons ke_str (ke_new (kl_lst ka_nil)) (kps_cons ke_str ke_non kps_nil))))))
/-! ### _law_kp_lot -/
abbrev st_law_kp_lot : Stmt := topS 19
theorem sc_law_kp_lot : FnScope ["_law_pen_here", "_law_many", "_law_way", "_law_one", "_law_chances", "_law_place", "_law_lap"] ["_law_pen_here", "_law_many"] (defScope st_law_kp_lot) := ⟨rfl, rfl, rfl, by decide +kernel, rfl, by decide +kernel, by decide +kernel⟩
def s_law_kp_lot : SS :=
    (sSeq (sAsg (sFn 2 M_law_draw [] (sCons (sVar 0) (sCons (sC (.int 8)) sNil))) (gN 2))
    (sSeq (sIf (sTest (s2 eqF (sVar 2) (sC (.int 0))))
    (sRet (sNew (sLst sNil)))
    sNext)
    (sSeq (sIf (sOr (sTest (s2 eqF (sVar 2) (sC (.int 1)))) (sTest (s2 eqF (sVar 1) (sC (.int 0)))))
    (sRet (sNew (sLstRg (sVar 1))))
    sNext)
    (sSeq (sAsg (sFn 2 M_law_draw [] (sCons (sVar 0) (sCons (sVar 1) sNil))) (gN 3))
    (sSeq (sIf (sTest (s2 eqF (sVar 2) (sC (.int 2))))
    (sRet (sNew (sLst (sCons (sVar 3) sNil))))
    sNext)
    (sSeq (sIf (sTest (s2 eqF (sVar 2) (sC (.int 3))))
    (sRet (sNew (sLc (sRange1 (sVar 1)) (gN 5) (sTest (s2 neF (sVar 5) (sVar 3))) (sVar 5) [5])))
    sNext)
    (sSeq (sAsg (sNew (sLc (sRange1 (sVar 1)) (gN 6) sYes (sFn 2 M_law_draw [] (sCons (sVar 0) (sCons (sC (.int 2)) sNil))) [6])) (gN 4))
    (sRet (sNew (sLc (sRange1 (sVar 1)) (gN 5) (sTest (s2 eqF (s2 getF (sVar 4) (sVar 5)) (sC (.int 1)))) (sVar 5) [5]))))))))))
def M_law_kp_lot : FA := defM 7 s_law_kp_lot
theorem ok_law_kp_lot {G : Gx} {f : Addr} {fd : FuncData} (F : Fun G.K "_law_kp_lot" "_law_kp_lot" st_law_kp_lot f fd) (b_list : G.mg "list" = none) (b_range : G.mg "range" = none) (c_law_draw_0 : CF G "_law_draw" 1 2 M_law_draw []) :
    FnOk G.P G.w G.K G.mg G.base (L2.CX G.P G.w) 2 f fd ["_law_pen_here", "_law_many"] (spOf G.K G.cA 2 M_law_kp_lot) := fn_of' (k := 1) F sc_law_kp_lot fun cdv A outer s H E i =>
    (kss_cons (ks_asg (kc (i := i) c_law_draw_0 (by decide) (by rfl) (ka_cons (kv 0) (ka_cons ke_int ka_nil))) (gn 2 sc_law_kp_lot.nd))
    (kss_cons (ks_if (kb_cmp (ko_eq i.hu64) (kv 2) ke_int) (kss_one (ks_ret (ke_new (kl_lst ka_nil)))) kss_nil)
    (kss_cons (ks_if (kb_w (kw_or (kb_cmp (ko_eq i.hu64) (kv 2) ke_int) (kw_or1 (kb_cmp (ko_eq i.hu64) (kv 1) ke_int)))) (kss_one (ks_ret (ke_new (kl_listRg i.cm (by rfl) b_list (by rfl) b_range (kv 1))))) kss_nil)
    (kss_cons (ks_asg (kc (i := i) c_law_draw_0 (by decide) (by rfl) (ka_cons (kv 0) (ka_cons (kv 1) ka_nil))) (gn 3 sc_law_kp_lot.nd))
    (kss_cons (ks_if (kb_cmp (ko_eq i.hu64) (kv 2) ke_int) (kss_one (ks_ret (ke_new (kl_lst (ka_cons (kv 3) ka_nil))))) kss_nil)
    (kss_cons (ks_if (kb_cmp (ko_eq i.hu64) (kv 2) ke_int) (kss_one (ks_ret (ke_new (kl_lc i.cm sc_law_kp_lot.nd (ki_range1 (by rfl) b_range (kv 1)) (blkOk_by (own := [("_law_place", 5)]) (N := ["_law_pen_here", "_law_many", "_law_way", "_law_one", "_law_chances", "_law_place", "_law_lap"]) (sc := defScope st_law_kp_lot) (by decide +kernel)) (fun s H C cl fp => (gw 5 sc_law_kp_lot.nd)) (fun s H C cl fp => (kt_one (kb_cmp (ko_ne (i.blk s H _ C cl fp).hu64) (kv 5) (kv 3)))) (fun s H C cl fp => (kv 5)))))) kss_nil)
    (kss_cons (ks_asg (ke_new (kl_lc i.cm sc_law_kp_lot.nd (ki_range1 (by rfl) b_range (kv 1)) (blkOk_by (own := [("_law_lap", 6)]) (N := ["_law_pen_here", "_law_many", "_law_way", "_law_one", "_law_chances", "_law_place", "_law_lap"]) (sc := defScope st_law_kp_lot) (by decide +kernel)) (fun s H C cl fp => (gw 6 sc_law_kp_lot.nd)) (fun s H C cl fp => kt_nil) (fun s H C cl fp => (kc (i := (i.blk s H _ C cl fp)) c_law_draw_0 (by decide) (by rfl) (ka_cons (kv 0) (ka_cons ke_int ka_nil)))))) (gn 4 sc_law_kp_lot.nd))
    (kss_one (ks_ret (ke_new (kl_lc i.cm sc_law_kp_lot.nd (ki_range1 (by rfl) b_range (kv 1)) (blkOk_by (own := [("_law_place", 5)]) (N := ["_law_pen_here", "_law_many", "_law_way", "_law_one", "_law_chances", "_law_place", "_law_lap"]) (sc := defScope st_law_kp_lot) (by decide +kernel)) (fun s H C cl fp => (gw 5 sc_law_kp_lot.nd)) (fun s H C cl fp => (kt_one (kb_cmp (ko_eq (i.blk s H _ C cl fp).hu64) (ke_ix (ik_get (i.blk s H _ C cl fp).hu1) (kv 4) (kv 5)) ke_int))) (fun s H C cl fp => (kv 5)))))))))))))
/-! ### _law_disk_deed -/
abbrev st_law_disk_deed : Stmt := topS 22
theorem sc_law_disk_deed : FnScope ["_law_pen_here", "_law_own", "_law_serial", "_law_size", "_law_many", "_law_way", "_law_is_odd", "_law_place", "_law_contents", "_law_lot"] ["_law_pen_here", "_law_own", "_law_serial"] (defScope st_law_disk_deed) := ⟨rfl, rfl, rfl, by decide +kernel, rfl, by decide +kernel, by decide +kernel⟩
def s_law_disk_deed : SS :=
    (sSeq (sAsg (sTup (sCons (sCall lenA (sCons (s2 getF (sVar 1) (sC (.str "blocks"))) sNil)) (sCons (sCall lenA (sCons (s2 getF (sVar 1) (sC (.str "waiting"))) sNil)) (sCons (sFn 2 M_law_draw [] (sCons (sVar 0) (sCons (sC (.int 20)) sNil))) (sCons (s2 eqF (sFn 2 M_law_draw [] (sCons (sVar 0) (sCons (sC (.int 8)) sNil))) (sC (.int 0))) sNil))))) (gTp 4 (gCons' (gN 3) (gCons' (gN 4) (gCons' (gN 5) (gCons' (gN 6) gNil'))))))
    (sSeq (sIf (sTest (s2 ltF (sVar 5) (sC (.int 12))))
    (sSeq (sAsg (sFn 2 M_law_draw [] (sCons (sVar 0) (sCons (sVar 3) sNil))) (gN 7))
    (sSeq (sIf (sTest (sVar 6))
    (sAsg (sFn 2 M_law_pick [] (sCons (sVar 0) (sCons (sNew (sLst (sCons (sNeg (sC (.int 1))) (sCons (sVar 3) (sCons (s2 addA (sVar 3) (sC (.int 1))) (sCons (sNeg (sVar 3)) (sCons (s2 powF (sC (.int 10)) (sC (.int 30))) (sCons (sC .non) (sCons (sC (.bl true)) (sCons (sC (.str "0")) (sCons (sTup (sCons (sC (.int 0)) sNil)) (sCons (sNew (sLst sNil)) sNil)))))))))))) sNil))) (gN 7))
    sNext)
    (sSeq (sIf (sTest (s2 gtF (sVar 5) (sC (.int 9))))
    (sRet (sTup (sCons (sC (.str "read")) (sCons (sVar 7) sNil))))
    sNext)
    (sSeq (sAsg (sNew (sLst (sCons (sTup (sCons (sVar 2) sNil)) (sCons (sTup (sCons (sVar 2) (sCons (sC (.str "a")) sNil))) (sCons (sTup sNil) (sCons (sTup (sCons (sTup (sCons (sVar 2) (sCons (sC (.int 0)) sNil))) (sCons (sC .non) sNil))) sNil)))))) (gN 8))
    (sSeq (sIf (sTest (s2 eqF (sVar 5) (sC (.int 9))))
    (sRet (sTup (sCons (sC (.str "spoil")) (sCons (sVar 7) (sCons (sFn 2 M_law_pick [] (sCons (sVar 0) (sCons (s2 addA (sVar 8) (sNew (sLst (sCons (sC .non) sNil)))) sNil))) sNil)))))
    sNext)
    (sRet (sTup (sCons (sC (.str "write")) (sCons (sVar 7) (sCons (sFn 2 M_law_pick [] (sCons (sVar 0) (sCons (sVar 8) sNil))) sNil))))))))))
    sNext)
    (sSeq (sIf (sTest (s2 ltF (sVar 5) (sC (.int 14))))
    (sRet (sTup (sCons (sC (.str "flush")) (sCons (sC .non) sNil))))
    sNext)
    (sSeq (sIf (sTest (s2 ltF (sVar 5) (sC (.int 16))))
    (sRet (sTup (sCons (sC (.str "fuse")) (sCons (sFn 2 M_law_pick [] (sCons (sVar 0) (sCons (sIfE (sTest (sVar 6)) (sNew (sLst (sCons (sNeg (sC (.int 1))) (sCons (sC (.str "1")) (sCons (sC (.bl true)) (sCons (sTup (sCons (sC (.int 1)) sNil)) sNil)))))) (sNew (sLst (sCons (sC .non) (sCons (sC (.int 0)) (sCons (sC (.int 1)) (sCons (sC (.int 2)) (sCons (sC (.int 3)) (sCons (sC (.int 5)) (sCons (s2 powF (sC (.int 10)) (sC (.int 20))) sNil)))))))))) sNil))) sNil))))
    sNext)
    (sSeq (sIf (sAnd (sTest (s2 eqF (sVar 5) (sC (.int 19)))) (sNot (sTest (sVar 6))))
    (sRet (sTup (sCons (sC (.str "wipe")) (sCons (sC .non) sNil))))
    sNext)
    (sSeq (sAsg (sFn 2 M_law_kp_lot [] (sCons (sVar 0) (sCons (sVar 4) sNil))) (gN 9))
    (sSeq (sIf (sTest (sVar 6))
    (sAsg (sFn 2 M_law_pick [] (sCons (sVar 0) (sCons (sNew (sLst (sCons (sNew (sLst (sCons (sVar 4) sNil))) (sCons (sNew (sLst (sCons (sNeg (sC (.int 1))) sNil))) (sCons (sNew (sLst (sCons (sC (.int 0)) (sCons (sC (.int 0)) sNil)))) (sCons (sNew (sLst (sCons (sC (.int 1)) (sCons (sC (.int 0)) sNil)))) (sCons (sNew (sLst (sCons (sC .non) sNil))) (sCons (sNew (sLst (sCons (sC (.str "0")) sNil))) (sCons (sNew (sLst (sCons (sC (.bl true)) sNil))) (sCons (sC .non) (sCons (sC (.int 0)) (sCons (sC (.str "0")) (sCons (s2 addA (sVar 9) (sNew (sLst (sCons (sVar 4) sNil)))) (sCons (sTup (sCons (sVar 4) sNil)) sNil)))))))))))))) sNil))) (gN 9))
    (sIf (sTest (s2 eqF (sFn 2 M_law_draw [] (sCons (sVar 0) (sCons (sC (.int 3)) sNil))) (sC (.int 0))))
    (sAsg (sCall tupF (sCons (sVar 9) sNil)) (gN 9))
    sNext))
    (sRet (sTup (sCons (sC (.str "fall")) (sCons (sVar 9) sNil)))))))))))
def M_law_disk_deed : FA := defM 10 s_law_disk_deed
theorem ok_law_disk_deed {G : Gx} {f : Addr} {fd : FuncData} (F : Fun G.K "_law_disk_deed" "_law_disk_deed" st_law_disk_deed f fd) (b_len : G.mg "len" = none) (b_tuple : G.mg "tuple" = none) (c_law_draw_0 : CF G "_law_draw" 1 2 M_law_draw []) (c_law_pick_0 : CF G "_law_pick" 2 2 M_law_pick []) (c_law_kp_lot_0 : CF G "_law_kp_lot" 2 2 M_law_kp_lot []) :
    FnOk G.P G.w G.K G.mg G.base (L2.CX G.P G.w) 3 f fd ["_law_pen_here", "_law_own", "_law_serial"] (spOf G.K G.cA 3 M_law_disk_deed) := fn_of' (k := 2) F sc_law_disk_deed fun cdv A outer s H E i =>
    (kss_cons (ks_asg (ke_tup (ka_cons (ke_callB ck_lenA (by rfl) b_len (by decide +kernel) (ka_cons (ke_ix (ik_get i.hu1) (kv 1) ke_str) ka_nil)) (ka_cons (ke_callB ck_lenA (by rfl) b_len (by decide +kernel) (ka_cons (ke_ix (ik_get i.hu1) (kv 1) ke_str) ka_nil)) (ka_cons (kc (i := i) c_law_draw_0 (by decide) (by rfl) (ka_cons (kv 0) (ka_cons ke_int ka_nil))) (ka_cons (ke_cmp (ko_eq i.hu64) (kc (i := i) c_law_draw_0 (by decide) (by rfl) (ka_cons (kv 0) (ka_cons ke_int ka_nil))) ke_int) ka_nil))))) (kg_tup i.cm (kgs_cons (gn 3 sc_law_disk_deed.nd) (kgs_cons (gn 4 sc_law_disk_deed.nd) (kgs_cons (gn 5 sc_law_disk_deed.nd) (kgs_cons (gn 6 sc_law_disk_deed.nd) kgs_nil))))))
    (kss_cons (ks_if (kb_cmp (ko_ltD i.hu64) (kv 5) ke_int) (kss_cons (ks_asg (kc (i := i) c_law_draw_0 (by decide) (by rfl) (ka_cons (kv 0) (ka_cons (kv 3) ka_nil))) (gn 7 sc_law_disk_deed.nd))
    (kss_cons (ks_if (kb_val (kv 6)) (kss_one (ks_asg (kc (i := i) c_law_pick_0 (by decide) (by rfl) (ka_cons (kv 0) (ka_cons (ke_new (kl_lst (ka_cons (ke_neg ke_int) (ka_cons (kv 3) (ka_cons (ke_op ko_plusA (kv 3) ke_int) (ka_cons (ke_neg (kv 3)) (ka_cons (ke_op ko_pow ke_int ke_int) (ka_cons ke_non (ka_cons ke_bl (ka_cons ke_str (ka_cons (ke_tup (ka_cons ke_int ka_nil)) (ka_cons (ke_new (kl_lst ka_nil)) ka_nil)))))))))))) ka_nil))) (gn 7 sc_law_disk_deed.nd))) kss_nil)
    (kss_cons (ks_if (kb_cmp (ko_gtD i.hu64) (kv 5) ke_int) (kss_one (ks_ret (ke_tup (ka_cons ke_str (ka_cons (kv 7) ka_nil))))) kss_nil)
    (kss_cons (ks_asg (ke_new (kl_lst (ka_cons (ke_tup (ka_cons (kv 2) ka_nil)) (ka_cons (ke_tup (ka_cons (kv 2) (ka_cons ke_str ka_nil))) (ka_cons (ke_tup ka_nil) (ka_cons (ke_tup (ka_cons (ke_tup (ka_cons (kv 2) (ka_cons ke_int ka_nil))) (ka_cons ke_non ka_nil))) ka_nil)))))) (gn 8 sc_law_disk_deed.nd))
    (kss_cons (ks_if (kb_cmp (ko_eq i.hu64) (kv 5) ke_int) (kss_one (ks_ret (ke_tup (ka_cons ke_str (ka_cons (kv 7) (ka_cons (kc (i := i) c_law_pick_0 (by decide) (by rfl) (ka_cons (kv 0) (ka_cons (ke_op ko_plusA (kv 8) (ke_new (kl_lst (ka_cons ke_non ka_nil)))) ka_nil))) ka_nil)))))) kss_nil)
    (kss_one (ks_ret (ke_tup (ka_cons ke_str (ka_cons (kv 7) (ka_cons (kc (i := i) c_law_pick_0 (by decide) (by rfl) (ka_cons (kv 0) (ka_cons (kv 8) ka_nil))) ka_nil))))))))))) kss_nil)
    (kss_cons (ks_if (kb_cmp (ko_ltD i.hu64) (kv 5) ke_int) (kss_one (ks_ret (ke_tup (ka_cons ke_str (ka_cons ke_non ka_nil))))) kss_nil)
    (kss_cons (ks_if (kb_cmp (ko_ltD i.hu64) (kv 5) ke_int) (kss_one (ks_ret (ke_tup (ka_cons ke_str (ka_cons (kc (i := i) c_law_pick_0 (by decide) (by rfl) (ka_cons (kv 0) (ka_cons (ke_ife (kb_val (kv 6)) (ke_new (kl_lst (ka_cons (ke_neg ke_int) (ka_cons ke_str (ka_cons ke_bl (ka_cons (ke_tup (ka_cons ke_int ka_nil)) ka_nil)))))) (ke_new (kl_lst (ka_cons ke_non (ka_cons ke_int (ka_cons ke_int (ka_cons ke_int (ka_cons ke_int (ka_cons ke_int (ka_cons (ke_op ko_pow ke_int ke_int) ka_nil)))))))))) ka_nil))) ka_nil))))) kss_nil)
    (kss_cons (ks_if (kb_w (kw_and (kb_cmp (ko_eq i.hu64) (kv 5) ke_int) (kw_and1 (kb_not (kb_val (kv 6)))))) (kss_one (ks_ret (ke_tup (ka_cons ke_str (ka_cons ke_non ka_nil))))) kss_nil)
    (kss_cons (ks_asg (kc (i := i) c_law_kp_lot_0 (by decide) (by rfl) (ka_cons (kv 0) (ka_cons (kv 4) ka_nil))) (gn 9 sc_law_disk_deed.nd))
    (kss_cons (ks_if (kb_val (kv 6)) (kss_one (ks_asg (kc (i := i) c_law_pick_0 (by decide) (by rfl) (ka_cons (kv 0) (ka_cons (ke_new (kl_lst (ka_cons (ke_new (kl_lst (ka_cons (kv 4) ka_nil))) (ka_cons (ke_new (kl_lst (ka_cons (ke_neg ke_int) ka_nil))) (ka_cons (ke_new (kl_lst (ka_cons ke_int (ka_cons ke_int ka_nil)))) (ka_cons (ke_new (kl_lst (ka_cons ke_int (ka_cons ke_int ka_nil)))) (ka_cons (ke_new (kl_lst (ka_cons ke_non ka_nil))) (ka_cons (ke_new (kl_lst (ka_cons ke_str ka_nil))) (ka_cons (ke_new (kl_lst (ka_cons ke_bl ka_nil))) (ka_cons ke_non (ka_cons ke_int (ka_cons ke_str (ka_cons (ke_op ko_plusA (kv 9) (ke_new (kl_lst (ka_cons (kv 4) ka_nil)))) (ka_cons (ke_tup (ka_cons (kv 4) ka_nil)) ka_nil)))))))))))))) ka_nil))) (gn 9 sc_law_disk_deed.nd))) (kss_one (ks_if (kb_cmp (ko_eq i.hu64) (kc (i := i) c_law_draw_0 (by decide) (by rfl) (ka_cons (kv 0) (ka_cons ke_int ka_nil))) ke_int) (kss_one (ks_asg (ke_callTy ck_tuple (by rfl) b_tuple (by decide +kernel) (ka_cons (kv 9) ka_nil)) (gn 9 sc_law_disk_deed.nd))) kss_nil)))
    (kss_one (ks_ret (ke_tup (ka_cons ke_str (ka_cons (kv 9) ka_nil))))))))))))
/-! ### _law_disk_fall -/
abbrev st_law_disk_fall : Stmt := topS 17
theorem sc_law_disk_fall : FnScope ["_law_disk", "_law_lot", "_law_place", "_law_number", "_law_content"] ["_law_disk", "_law_lot"] (defScope st_law_disk_fall) := ⟨rfl, rfl, rfl, by decide +kernel, rfl, by decide +kernel, by decide +kernel⟩
def s_law_disk_fall : SS :=
    (sSeq (sFor (sVal (sVar 1)) (gN 2) (sSeq (sAsg (s2 getF (s2 getF (sVar 0) (sC (.str "waiting"))) (sVar 2)) (gTp 2 (gCons' (gN 3) (gCons' (gN 4) gNil'))))
    (sAsg (sVar 4) (gSub' (s2 getF (sVar 0) (sC (.str "blocks"))) (sVar 3) setF))))
    (sAsg (sNew (sLst sNil)) (gSub' (sVar 0) (sC (.str "waiting")) setF)))
def M_law_disk_fall : FA := defM 5 s_law_disk_fall
theorem ok_law_disk_fall {G : Gx} {f : Addr} {fd : FuncData} (F : Fun G.K "_law_disk_fall" "_law_disk_fall" st_law_disk_fall f fd)  :
    FnOk G.P G.w G.K G.mg G.base (L2.CX G.P G.w) 1 f fd ["_law_disk", "_law_lot"] (spOf G.K G.cA 2 M_law_disk_fall) := fn_of' (k := 0) F sc_law_disk_fall fun cdv A outer s H E i =>
    (kss_cons (ks_for i.ow i.cm (ki_val (kv 1)) (gn 2 sc_law_disk_fall.nd) (kss_cons (ks_asg (ke_ix (ik_get i.hu1) (ke_ix (ik_get i.hu1) (kv 0) ke_str) (kv 2)) (kg_tup i.cm (kgs_cons (gn 3 sc_law_disk_fall.nd) (kgs_cons (gn 4 sc_law_disk_fall.nd) kgs_nil))))
    (kss_one (ks_asg (kv 4) (kg_sub (st_set i.hu1) (ke_ix (ik_get i.hu1) (kv 0) ke_str) (kv 3))))))
    (kss_one (ks_asg (ke_new (kl_lst ka_nil)) (kg_sub (st_set i.hu1) (kv 0) ke_str))))
/-! ### _law_disk_steps -/
abbrev st_law_disk_steps : Stmt := topS 16
theorem sc_law_disk_steps : FnScope ["_law_disk", "_law_steps", "_law_step"] ["_law_disk", "_law_steps"] (defScope st_law_disk_steps) := ⟨rfl, rfl, rfl, by decide +kernel, rfl, by decide +kernel, by decide +kernel⟩
def s_law_disk_steps : SS :=
    (sSeq (sFor (sVal (sVar 1)) (gN 2) (sSeq (sIf (sTest (s2 eqF (s2 getF (sVar 0) (sC (.str "fuse"))) (sC (.int 0))))
    (sRet (sC (.bl false)))
    sNext)
    (sSeq (sIf (sTest (s2 notF (s2 getF (sVar 0) (sC (.str "fuse"))) (sC .non)))
    (sAsg (s2 (f2I yes2 fun i j => .int (i - j)) (s2 getF (sVar 0) (sC (.str "fuse"))) (sC (.int 1))) (gSub' (sVar 0) (sC (.str "fuse")) setF))
    sNext)
    (sIf (sTest (s2 notF (sVar 2) (sC .non)))
    (sAsg (s2 addA (s2 getF (sVar 0) (sC (.str "waiting"))) (sNew (sLst (sCons (sVar 2) sNil)))) (gSub' (sVar 0) (sC (.str "waiting")) setF))
    (sDrop (sFn 2 M_law_disk_fall [] (sCons (sVar 0) (sCons (sNew (sLstRg (sCall lenA (sCons (s2 getF (sVar 0) (sC (.str "waiting"))) sNil)))) sNil))))))))
    (sRet (sC (.bl true))))
def M_law_disk_steps : FA := defM 3 s_law_disk_steps
theorem ok_law_disk_steps {G : Gx} {f : Addr} {fd : FuncData} (F : Fun G.K "_law_disk_steps" "_law_disk_steps" st_law_disk_steps f fd) (b_len : G.mg "len" = none) (b_list : G.mg "list" = none) (b_range : G.mg "range" = none) (c_law_disk_fall_0 : CF G "_law_disk_fall" 1 2 M_law_disk_fall []) :
    FnOk G.P G.w G.K G.mg G.base (L2.CX G.P G.w) 2 f fd ["_law_disk", "_law_steps"] (spOf G.K G.cA 2 M_law_disk_steps) := fn_of' (k := 1) F sc_law_disk_steps fun cdv A outer s H E i =>
    (kss_cons (ks_for i.ow i.cm (ki_val (kv 1)) (gn 2 sc_law_disk_steps.nd) (kss_cons (ks_if (kb_cmp (ko_eq i.hu64) (ke_ix (ik_get i.hu1) (kv 0) ke_str) ke_int) (kss_one (ks_ret ke_bl)) kss_nil)
    (kss_cons (ks_if (kb_cmp ko_isnot (ke_ix (ik_get i.hu1) (kv 0) ke_str) ke_non) (kss_one (ks_asg (ke_op ko_sub (ke_ix (ik_get i.hu1) (kv 0) ke_str) ke_int) (kg_sub (st_set i.hu1) (kv 0) ke_str))) kss_nil)
    (kss_one (ks_if (kb_cmp ko_isnot (kv 2) ke_non) (kss_one (ks_asg (ke_op ko_plusA (ke_ix (ik_get i.hu1) (kv 0) ke_str) (ke_new (kl_lst (ka_cons (kv 2) ka_nil)))) (kg_sub (st_set i.hu1) (kv 0) ke_str))) (kss_one (ks_expr (kc (i := i) c_law_disk_fall_0 (by decide) (by rfl) (ka_cons (kv 0) (ka_cons (ke_new (kl_listRg i.cm (by rfl) b_list (by rfl) b_range (ke_callB ck_lenA (by rfl) b_len (by decide +kernel) (ka_cons (ke_ix (ik_get i.hu1) (kv 0) ke_str) ka_nil)))) ka_nil))))))))))
    (kss_one (ks_ret ke_bl)))
/-! ### _law_is_whole -/
abbrev st_law_is_whole : Stmt := topS 14
theorem sc_law_is_whole : FnScope ["_law_value"] ["_law_value"] (defScope st_law_is_whole) := ⟨rfl, rfl, rfl, by decide +kernel, rfl, by decide +kernel, by decide +kernel⟩
def s_law_is_whole : SS :=
    (sRet (sAndV (sIsi "int" (sVar 0)) (sNotV (sIsi "bool" (sVar 0)))))
def M_law_is_whole : FA := defM 1 s_law_is_whole
theorem ok_law_is_whole {G : Gx} {f : Addr} {fd : FuncData} (F : Fun G.K "_law_is_whole" "_law_is_whole" st_law_is_whole f fd) (b_bool : G.mg "bool" = none) (b_int : G.mg "int" = none) (b_isinstance : G.mg "isinstance" = none) :
    FnOk G.P G.w G.K G.mg G.base (L2.CX G.P G.w) 1 f fd ["_law_value"] (spOf G.K G.cA 1 M_law_is_whole) := fn_of' (k := 0) F sc_law_is_whole fun cdv A outer s H E i =>
    (kss_one (ks_ret (ke_and (ke_isi (by rfl) b_isinstance (kv 0) (by rfl) b_int (by decide +kernel)) (ke_one (ke_not (ke_isi (by rfl) b_isinstance (kv 0) (by rfl) b_bool (by decide +kernel)))))))
/-! ### _law_is_place -/
abbrev st_law_is_place : Stmt := topS 20
theorem sc_law_is_place : FnScope ["_law_one", "_law_many"] ["_law_one", "_law_many"] (defScope st_law_is_place) := ⟨rfl, rfl, rfl, by decide +kernel, rfl, by decide +kernel, by decide +kernel⟩
def s_law_is_place : SS :=
    (sRet (sAndV (sFn 1 M_law_is_whole [] (sCons (sVar 0) sNil)) (sChain leF ltF (sC (.int 0)) (sVar 0) (sVar 1))))
def M_law_is_place : FA := defM 2 s_law_is_place
theorem ok_law_is_place {G : Gx} {f : Addr} {fd : FuncData} (F : Fun G.K "_law_is_place" "_law_is_place" st_law_is_place f fd) (c_law_is_whole_0 : CF G "_law_is_whole" 1 1 M_law_is_whole []) :
    FnOk G.P G.w G.K G.mg G.base (L2.CX G.P G.w) 2 f fd ["_law_one", "_law_many"] (spOf G.K G.cA 2 M_law_is_place) := fn_of' (k := 1) F sc_law_is_place fun cdv A outer s H E i =>
    (kss_one (ks_ret (ke_and (kc (i := i) c_law_is_whole_0 (by decide) (by rfl) (ka_cons (kv 0) ka_nil)) (ke_one (ke_chain (ko_leD i.hu64) (ko_ltD i.hu64) ke_int (kv 0) (kv 1))))))
/-! ### _law_is_lot -/
abbrev st_law_is_lot : Stmt := topS 21
theorem sc_law_is_lot : FnScope ["_law_lot", "_law_many", "_law_place", "_law_k"] ["_law_lot", "_law_many"] (defScope st_law_is_lot) := ⟨rfl, rfl, rfl, by decide +kernel, rfl, by decide +kernel, by decide +kernel⟩
def s_law_is_lot : SS :=
    (sSeq (sIf (sAnd (sNot (sTest (sIsi "list" (sVar 0)))) (sNot (sTest (sIsi "tuple" (sVar 0)))))
    (sRet (sC (.bl false)))
    sNext)
    (sSeq (sIf (sTest (s2 neF (sNew (sLc (sVal (sVar 0)) (gN 2) (sNot (sTest (sFn 2 M_law_is_place [] (sCons (sVar 2) (sCons (sVar 1) sNil))))) (sVar 2) [2])) (sNew (sLst sNil))))
    (sRet (sC (.bl false)))
    sNext)
    (sRet (s2 eqF (sNew (sLc (sRange1 (s2 (f2I yes2 fun i j => .int (i - j)) (sCall lenA (sCons (sVar 0) sNil)) (sC (.int 1)))) (gN 3) (sTest (s2 geF (s2 getF (sVar 0) (sVar 3)) (s2 getF (sVar 0) (s2 addA (sVar 3) (sC (.int 1)))))) (sVar 3) [3])) (sNew (sLst sNil))))))
def M_law_is_lot : FA := defM 4 s_law_is_lot
theorem ok_law_is_lot {G : Gx} {f : Addr} {fd : FuncData} (F : Fun G.K "_law_is_lot" "_law_is_lot" st_law_is_lot f fd) (b_isinstance : G.mg "isinstance" = none) (b_len : G.mg "len" = none) (b_list : G.mg "list" = none) (b_range : G.mg "range" = none) (b_tuple : G.mg "tuple" = none) (c_law_is_place_0 : CF G "_law_is_place" 2 2 M_law_is_place []) :
    FnOk G.P G.w G.K G.mg G.base (L2.CX G.P G.w) 3 f fd ["_law_lot", "_law_many"] (spOf G.K G.cA 2 M_law_is_lot) := fn_of' (k := 2) F sc_law_is_lot fun cdv A outer s H E i =>
    (kss_cons (ks_if (kb_w (kw_and (kb_not (kb_val (ke_isi (by rfl) b_isinstance (kv 0) (by rfl) b_list (by decide +kernel)))) (kw_and1 (kb_not (kb_val (ke_isi (by rfl) b_isinstance (kv 0) (by rfl) b_tuple (by decide +kernel))))))) (kss_one (ks_ret ke_bl)) kss_nil)
    (kss_cons (ks_if (kb_cmp (ko_ne i.hu64) (ke_new (kl_lc i.cm sc_law_is_lot.nd (ki_val (kv 0)) (blkOk_by (own := [("_law_place", 2)]) (N := ["_law_lot", "_law_many", "_law_place", "_law_k"]) (sc := defScope st_law_is_lot) (by decide +kernel)) (fun s H C cl fp => (gw 2 sc_law_is_lot.nd)) (fun s H C cl fp => (kt_one (kb_not (kb_val (kc (i := (i.blk s H _ C cl fp)) c_law_is_place_0 (by decide) (by rfl) (ka_cons (kv 2) (ka_cons (kv 1) ka_nil))))))) (fun s H C cl fp => (kv 2)))) (ke_new (kl_lst ka_nil))) (kss_one (ks_ret ke_bl)) kss_nil)
    (kss_one (ks_ret (ke_cmp (ko_eq i.hu64) (ke_new (kl_lc i.cm sc_law_is_lot.nd (ki_range1 (by rfl) b_range (ke_op ko_sub (ke_callB ck_lenA (by rfl) b_len (by decide +kernel) (ka_cons (kv 0) ka_nil)) ke_int)) (blkOk_by (own := [("_law_k", 3)]) (N := ["_law_lot", "_law_many", "_law_place", "_law_k"]) (sc := defScope st_law_is_lot) (by decide +kernel)) (fun s H C cl fp => (gw 3 sc_law_is_lot.nd)) (fun s H C cl fp => (kt_one (kb_cmp (ko_geD (i.blk s H _ C cl fp).hu64) (ke_ix (ik_get (i.blk s H _ C cl fp).hu1) (kv 0) (kv 3)) (ke_ix (ik_get (i.blk s H _ C cl fp).hu1) (kv 0) (ke_op ko_plusA (kv 3) ke_int))))) (fun s H C cl fp => (kv 3)))) (ke_new (kl_lst ka_nil)))))))
/-! ### _law_disk_due -/
abbrev st_law_disk_due : Stmt := topS 23
theorem sc_law_disk_due : FnScope ["_law_own", "_law_deed", "_law_word", "_law_what", "_law_found", "_law_is_borne", "_law_pair"] ["_law_own", "_law_deed"] (defScope st_law_disk_due) := ⟨rfl, rfl, rfl, by decide +kernel, rfl, by decide +kernel, by decide +kernel⟩
def s_law_disk_due : SS :=
    (sSeq (sAsg (sTup (sCons (s2 getF (sVar 1) (sC (.int 0))) (sCons (s2 getF (sVar 1) (sC (.int 1))) sNil))) (gTp 2 (gCons' (gN 2) (gCons' (gN 3) gNil'))))
    (sSeq (sIf (sAnd (sTest (s2 (memF false) (sVar 2) (sNew (sLst (sCons (sC (.str "write")) (sCons (sC (.str "read")) (sCons (sC (.str "spoil")) sNil))))))) (sNot (sTest (sFn 2 M_law_is_place [] (sCons (sVar 3) (sCons (sCall lenA (sCons (s2 getF (sVar 0) (sC (.str "blocks"))) sNil)) sNil))))))
    (sRet (sTup (sCons (sC (.str "bad")) (sCons (sC (.str "block")) (sCons (sVar 3) (sCons (sIsi "bool" (sVar 3)) sNil))))))
    sNext)
    (sSeq (sIf (sTest (s2 eqF (sVar 2) (sC (.str "spoil"))))
    (sSeq (sAsg (s2 getF (sVar 1) (sC (.int 2))) (gSub' (s2 getF (sVar 0) (sC (.str "blocks"))) (sVar 3) setF))
    (sRet (sTup (sCons (sC (.str "done")) (sCons (sC .non) sNil)))))
    sNext)
    (sSeq (sIf (sTest (s2 eqF (sVar 2) (sC (.str "read"))))
    (sSeq (sAsg (sNew (sLc (sVal (s2 getF (sVar 0) (sC (.str "waiting")))) (gN 6) (sTest (s2 eqF (s2 getF (sVar 6) (sC (.int 0))) (sVar 3))) (s2 getF (sVar 6) (sC (.int 1))) [6])) (gN 4))
    (sRet (sTup (sCons (sC (.str "done")) (sCons (sIfE (sTest (s2 neF (sVar 4) (sNew (sLst sNil)))) (s2 getF (sVar 4) (sNeg (sC (.int 1)))) (s2 getF (s2 getF (sVar 0) (sC (.str "blocks"))) (sVar 3))) sNil)))))
    sNext)
    (sSeq (sIf (sTest (s2 (memF false) (sVar 2) (sNew (sLst (sCons (sC (.str "write")) (sCons (sC (.str "flush")) sNil))))))
    (sSeq (sAsg (sFn 2 M_law_disk_steps [] (sCons (sVar 0) (sCons (sNew (sLst (sCons (sIfE (sTest (s2 eqF (sVar 2) (sC (.str "write")))) (sTup (sCons (sVar 3) (sCons (s2 getF (sVar 1) (sC (.int 2))) sNil))) (sC .non)) sNil))) sNil))) (gN 5))
    (sRet (sIfE (sTest (sVar 5)) (sTup (sCons (sC (.str "done")) (sCons (sC .non) sNil))) (sTup (sCons (sC (.str "cut")) (sCons (s2 getF (sVar 0) (sC (.str "told"))) sNil))))))
    sNext)
    (sSeq (sIf (sTest (s2 eqF (sVar 2) (sC (.str "fuse"))))
    (sSeq (sIf (sAnd (sTest (s2 notF (sVar 3) (sC .non))) (sOr (sNot (sTest (sFn 1 M_law_is_whole [] (sCons (sVar 3) sNil)))) (sTest (s2 ltF (sVar 3) (sC (.int 0))))))
    (sRet (sTup (sCons (sC (.str "bad")) (sCons (sC (.str "steps")) (sCons (sVar 3) (sCons (sIsi "bool" (sVar 3)) sNil))))))
    sNext)
    (sSeq (sAsg (sTup (sCons (sVar 3) (sCons (sVar 3) sNil))) (gTp 2 (gCons' (gSub' (sVar 0) (sC (.str "fuse")) setF) (gCons' (gSub' (sVar 0) (sC (.str "told")) setF) gNil'))))
    (sRet (sTup (sCons (sC (.str "done")) (sCons (sC .non) sNil))))))
    sNext)
    (sSeq (sIf (sTest (s2 eqF (sVar 2) (sC (.str "fall"))))
    (sSeq (sIf (sNot (sTest (sFn 2 M_law_is_lot [] (sCons (sVar 3) (sCons (sCall lenA (sCons (s2 getF (sVar 0) (sC (.str "waiting"))) sNil)) sNil)))))
    (sRet (sTup (sCons (sC (.str "bad")) (sCons (sC (.str "lot")) (sCons (sVar 3) (sCons (sIsi "bool" (sVar 3)) sNil))))))
    sNext)
    (sDrop (sFn 2 M_law_disk_fall [] (sCons (sVar 0) (sCons (sVar 3) sNil)))))
    sNext)
    (sSeq (sIf (sTest (s2 eqF (sVar 2) (sC (.str "wipe"))))
    (sAsg (sTup (sCons (s2 mulB (sNew (sLst (sCons (sC .non) sNil))) (sCall lenA (sCons (s2 getF (sVar 0) (sC (.str "blocks"))) sNil))) (sCons (sNew (sLst sNil)) sNil))) (gTp 2 (gCons' (gSub' (sVar 0) (sC (.str "blocks")) setF) (gCons' (gSub' (sVar 0) (sC (.str "waiting")) setF) gNil'))))
    sNext)
    (sSeq (sAsg (sTup (sCons (sC .non) (sCons (sC .non) sNil))) (gTp 2 (gCons' (gSub' (sVar 0) (sC (.str "fuse")) setF) (gCons' (gSub' (sVar 0) (sC (.str "told")) setF) gNil'))))
    (sRet (sTup (sCons (sC (.str "done")) (sCons (sC .non) sNil)))))))))))))
def M_law_disk_due : FA := defM 7 s_law_disk_due
theorem ok_law_disk_due {G : Gx} {f : Addr} {fd : FuncData} (F : Fun G.K "_law_disk_due" "_law_disk_due" st_law_disk_due f fd) (b_bool : G.mg "bool" = none) (b_isinstance : G.mg "isinstance" = none) (b_len : G.mg "len" = none) (c_law_is_place_0 : CF G "_law_is_place" 2 2 M_law_is_place []) (c_law_disk_steps_0 : CF G "_law_disk_steps" 2 2 M_law_disk_steps []) (c_law_is_whole_0 : CF G "_law_is_whole" 1 1 M_law_is_whole []) (c_law_is_lot_0 : CF G "_law_is_lot" 3 2 M_law_is_lot []) (c_law_disk_fall_0 : CF G "_law_disk_fall" 1 2 M_law_disk_fall []) :
    FnOk G.P G.w G.K G.mg G.base (L2.CX G.P G.w) 4 f fd ["_law_own", "_law_deed"] (spOf G.K G.cA 2 M_law_disk_due) := fn_of' (k := 3) F sc_law_disk_due fun cdv A outer s H E i =>
    (kss_cons (ks_asg (ke_tup (ka_cons (ke_ix (ik_get i.hu1) (kv 1) ke_int) (ka_cons (ke_ix (ik_get i.hu1) (kv 1) ke_int) ka_nil))) (kg_tup i.cm (kgs_cons (gn 2 sc_law_disk_due.nd) (kgs_cons (gn 3 sc_law_disk_due.nd) kgs_nil))))
    (kss_cons (ks_if (kb_w (kw_and (kb_cmp (ko_mem i.hu) (kv 2) (ke_new (kl_lst (ka_cons ke_str (ka_cons ke_str (ka_cons ke_str ka_nil)))))) (kw_and1 (kb_not (kb_val (kc (i := i) c_law_is_place_0 (by decide) (by rfl) (ka_cons (kv 3) (ka_cons (ke_callB ck_lenA (by rfl) b_len (by decide +kernel) (ka_cons (ke_ix (ik_get i.hu1) (kv 0) ke_str) ka_nil)) ka_nil)))))))) (kss_one (ks_ret (ke_tup (ka_cons ke_str (ka_cons ke_str (ka_cons (kv 3) (ka_cons (ke_isi (by rfl) b_isinstance (kv 3) (by rfl) b_bool (by decide +kernel)) ka_nil))))))) kss_nil)
    (kss_cons (ks_if (kb_cmp (ko_eq i.hu64) (kv 2) ke_str) (kss_cons (ks_asg (ke_ix (ik_get i.hu1) (kv 1) ke_int) (kg_sub (st_set i.hu1) (ke_ix (ik_get i.hu1) (kv 0) ke_str) (kv 3)))
    (kss_one (ks_ret (ke_tup (ka_cons ke_str (ka_cons ke_non ka_nil)))))) kss_nil)
    (kss_cons (ks_if (kb_cmp (ko_eq i.hu64) (kv 2) ke_str) (kss_cons (ks_setLc i.cm sc_law_disk_due.nd rfl rfl (sw_true rfl rfl rfl (by decide +kernel)) (ki_val (ke_ix (ik_get i.hu1) (kv 0) ke_str)) (blkOk_by (own := [("_law_pair", 6)]) (N := ["_law_own", "_law_deed", "_law_word", "_law_what", "_law_found", "_law_is_borne", "_law_pair"]) (sc := defScope st_law_disk_due) (by decide +kernel)) (fun s H C cl fp => (gw 6 sc_law_disk_due.nd)) (fun s H C cl fp => (kt_one (kb_cmp (ko_eq (i.blk s H _ C cl fp).hu64) (ke_ix (ik_get (i.blk s H _ C cl fp).hu1) (kv 6) ke_int) (kv 3)))) (fun s H C cl fp => (ke_ix (ik_get (i.blk s H _ C cl fp).hu1) (kv 6) ke_int)))
    (kss_one (ks_ret (ke_tup (ka_cons ke_str (ka_cons (ke_ife (kb_cmp (ko_ne i.hu64) (kv 4) (ke_new (kl_lst ka_nil))) (ke_ix (ik_get i.hu1) (kv 4) (ke_neg ke_int)) (ke_ix (ik_get i.hu1) (ke_ix (ik_get i.hu1) (kv 0) ke_str) (kv 3))) ka_nil)))))) kss_nil)
    (kss_cons (ks_if (kb_cmp (ko_mem i.hu) (kv 2) (ke_new (kl_lst (ka_cons ke_str (ka_cons ke_str ka_nil))))) (kss_cons (ks_asg (kc (i := i) c_law_disk_steps_0 (by decide) (by rfl) (ka_cons (kv 0) (ka_cons (ke_new (kl_lst (ka_cons (ke_ife (kb_cmp (ko_eq i.hu64) (kv 2) ke_str) (ke_tup (ka_cons (kv 3) (ka_cons (ke_ix (ik_get i.hu1) (kv 1) ke_int) ka_nil))) ke_non) ka_nil))) ka_nil))) (gn 5 sc_law_disk_due.nd))
    (kss_one (ks_ret (ke_ife (kb_val (kv 5)) (ke_tup (ka_cons ke_str (ka_cons ke_non ka_nil))) (ke_tup (ka_cons ke_str (ka_cons (ke_ix (ik_get i.hu1) (kv 0) ke_str) ka_nil))))))) kss_nil)
    (kss_cons (ks_if (kb_cmp (ko_eq i.hu64) (kv 2) ke_str) (kss_cons (ks_if (kb_w (kw_and (kb_cmp ko_isnot (kv 3) ke_non) (kw_and1 (kb_w (kw_or (kb_not (kb_val (kc (i := i) c_law_is_whole_0 (by decide) (by rfl) (ka_cons (kv 3) ka_nil)))) (kw_or1 (kb_cmp (ko_ltD i.hu64) (kv 3) ke_int))))))) (kss_one (ks_ret (ke_tup (ka_cons ke_str (ka_cons ke_str (ka_cons (kv 3) (ka_cons (ke_isi (by rfl) b_isinstance (kv 3) (by rfl) b_bool (by decide +kernel)) ka_nil))))))) kss_nil)
    (kss_cons (ks_asg (ke_tup (ka_cons (kv 3) (ka_cons (kv 3) ka_nil))) (kg_tup i.cm (kgs_cons (kg_sub (st_set i.hu1) (kv 0) ke_str) (kgs_cons (kg_sub (st_set i.hu1) (kv 0) ke_str) kgs_nil))))
    (kss_one (ks_ret (ke_tup (ka_cons ke_str (ka_cons ke_non ka_nil))))))) kss_nil)
    (kss_cons (ks_if (kb_cmp (ko_eq i.hu64) (kv 2) ke_str) (kss_cons (ks_if (kb_not (kb_val (kc (i := i) c_law_is_lot_0 (by decide) (by rfl) (ka_cons (kv 3) (ka_cons (ke_callB ck_lenA (by rfl) b_len (by decide +kernel) (ka_cons (ke_ix (ik_get i.hu1) (kv 0) ke_str) ka_nil)) ka_nil))))) (kss_one (ks_ret (ke_tup (ka_cons ke_str (ka_cons ke_str (ka_cons (kv 3) (ka_cons (ke_isi (by rfl) b_isinstance (kv 3) (by rfl) b_bool (by decide +kernel)) ka_nil))))))) kss_nil)
    (kss_one (ks_expr (kc (i := i) c_law_disk_fall_0 (by decide) (by rfl) (ka_cons (kv 0) (ka_cons (kv 3) ka_nil)))))) kss_nil)
    (kss_cons (ks_if (kb_cmp (ko_eq i.hu64) (kv 2) ke_str) (kss_one (ks_asg (ke_tup (ka_cons (ke_op ko_timesB (ke_new (kl_lst (ka_cons ke_non ka_nil))) (ke_callB ck_lenA (by rfl) b_len (by decide +kernel) (ka_cons (ke_ix (ik_get i.hu1) (kv 0) ke_str) ka_nil))) (ka_cons (ke_new (kl_lst ka_nil)) ka_nil))) (kg_tup i.cm (kgs_cons (kg_sub (st_set i.hu1) (kv 0) ke_str) (kgs_cons (kg_sub (st_set i.hu1) (kv 0) ke_str) kgs_nil))))) kss_nil)
    (kss_cons (ks_asg (ke_tup (ka_cons ke_non (ka_cons ke_non ka_nil))) (kg_tup i.cm (kgs_cons (kg_sub (st_set i.hu1) (kv 0) ke_str) (kgs_cons (kg_sub (st_set i.hu1) (kv 0) ke_str) kgs_nil))))
    (kss_one (ks_ret (ke_tup (ka_cons ke_str (ka_cons ke_non ka_nil))))))))))))))
/-! ### is_between -/
abbrev st_is_between : Stmt := topS 6
theorem sc_is_between : FnScope ["value", "low", "high"] ["value", "low", "high"] (defScope st_is_between) := ⟨rfl, rfl, rfl, by decide +kernel, rfl, by decide +kernel, by decide +kernel⟩
def s_is_between : SS :=
    (sRet (sAndV (sFn 1 M_is_whole [] (sCons (sVar 0) sNil)) (sChain leF leF (sVar 1) (sVar 0) (sVar 2))))
def M_is_between : FA := defM 3 s_is_between
theorem ok_is_between {G : Gx} {f : Addr} {fd : FuncData} (F : Fun G.K "is_between" "is_between" st_is_between f fd) (c_is_whole_0 : CF G "is_whole" 1 1 M_is_whole []) :
    FnOk G.P G.w G.K G.mg G.base (L2.CX G.P G.w) 2 f fd ["value", "low", "high"] (spOf G.K G.cA 3 M_is_between) := fn_of' (k := 1) F sc_is_between fun cdv A outer s H E i =>
    (kss_one (ks_ret (ke_and (kc (i := i) c_is_whole_0 (by decide) (by rfl) (ka_cons (kv 0) ka_nil)) (ke_one (ke_chain (ko_leD i.hu64) (ko_leD i.hu64) (kv 1) (kv 0) (kv 2))))))
/-! ### Disk.need_block -/
abbrev st_Disk_need_block : Stmt := inClass (topS 9) 1
theorem sc_Disk_need_block : FnScope ["self", "number"] ["self", "number"] (defScope st_Disk_need_block) := ⟨rfl, rfl, rfl, by decide +kernel, rfl, by decide +kernel, by decide +kernel⟩
def s_Disk_need_block : SS :=
    (sIf (sNot (sTest (sFn 3 M_is_between [] (sCons (sVar 1) (sCons (sC (.int 0)) (sCons (s2 (f2I yes2 fun i j => .int (i - j)) (sFld (sVar 0) "size" ["Disk"]) (sC (.int 1))) sNil))))))
    (sRaise "BadNumber" ["what", "number"] (sCons (sC (.str "block")) (sCons (sVar 1) sNil)))
    sNext)
def M_Disk_need_block : FA := defM 2 s_Disk_need_block
theorem ok_Disk_need_block {G : Gx} {f : Addr} {fd : FuncData} (F : Fun G.K "need_block" "Disk.need_block" st_Disk_need_block f fd) (fl_size : FldG G "size" ["Disk"]) (x_BadNumber : CE G "BadNumber" "BadNumber" 1 ["what", "number"]) (c_is_between_0 : CF G "is_between" 2 3 M_is_between []) :
    FnOk G.P G.w G.K G.mg G.base (L2.CX G.P G.w) 3 f fd ["self", "number"] (spOf G.K G.cA 2 M_Disk_need_block) := fn_of' (k := 2) F sc_Disk_need_block fun cdv A outer s H E i =>
    (kss_one (ks_if (kb_not (kb_val (kc (i := i) c_is_between_0 (by decide) (by rfl) (ka_cons (kv 1) (ka_cons ke_int (ka_cons (ke_op ko_sub (ke_fld (f := "size") (kv 0) fl_size) ke_int) ka_nil)))))) (kss_one (kr (i := i) x_BadNumber (by decide) (by rfl) (ka_cons ke_str (ka_cons (kv 1) ka_nil)))) kss_nil))
/-! ### Disk.bear -/
abbrev st_Disk_bear : Stmt := inClass (topS 9) 2
theorem sc_Disk_bear : FnScope ["self"] ["self"] (defScope st_Disk_bear) := ⟨rfl, rfl, rfl, by decide +kernel, rfl, by decide +kernel, by decide +kernel⟩
def s_Disk_bear : SS :=
    (sSeq (sIf (sTest (s2 isF (sFld (sVar 0) "fuse" ["Disk"]) (sC .non)))
    sRetN
    sNext)
    (sSeq (sIf (sTest (s2 eqF (sFld (sVar 0) "fuse" ["Disk"]) (sC (.int 0))))
    (sRaise "Fallen" ["steps"] (sCons (sFld (sVar 0) "fuse_steps" ["Disk"]) sNil))
    sNext)
    (sSetF (sVar 0) "fuse" ["Disk"] (s2 (f2I yes2 fun i j => .int (i - j)) (sFld (sVar 0) "fuse" ["Disk"]) (sC (.int 1))))))
def M_Disk_bear : FA := defM 1 s_Disk_bear
theorem ok_Disk_bear {G : Gx} {f : Addr} {fd : FuncData} (F : Fun G.K "bear" "Disk.bear" st_Disk_bear f fd) (fl_fuse : FldG G "fuse" ["Disk"]) (fl_fuse_steps : FldG G "fuse_steps" ["Disk"]) (x_Fallen : CE G "Fallen" "Fallen" 1 ["steps"]) :
    FnOk G.P G.w G.K G.mg G.base (L2.CX G.P G.w) 3 f fd ["self"] (spOf G.K G.cA 1 M_Disk_bear) := fn_of' (k := 2) F sc_Disk_bear fun cdv A outer s H E i =>
    (kss_cons (ks_if (kb_cmp ko_is (ke_fld (f := "fuse") (kv 0) fl_fuse) ke_non) (kss_one ks_retN) kss_nil)
    (kss_cons (ks_if (kb_cmp (ko_eq i.hu64) (ke_fld (f := "fuse") (kv 0) fl_fuse) ke_int) (kss_one (kr (i := i) x_Fallen (by decide) (by rfl) (ka_cons (ke_fld (f := "fuse_steps") (kv 0) fl_fuse_steps) ka_nil))) kss_nil)
    (kss_one (ks_fld (f := "fuse") (kv 0) (ke_op ko_sub (ke_fld (f := "fuse") (kv 0) fl_fuse) ke_int) fl_fuse))))
/-! ### Disk.write -/
abbrev st_Disk_write : Stmt := inClass (topS 9) 4
theorem sc_Disk_write : FnScope ["self", "number", "content"] ["self", "number", "content"] (defScope st_Disk_write) := ⟨rfl, rfl, rfl, by decide +kernel, rfl, by decide +kernel, by decide +kernel⟩
def s_Disk_write : SS :=
    (sSeq (sDrop (sMeth "need_block" (tabM [("Disk", 2, M_Disk_need_block, [])]) (sVar 0) (sCons (sVar 1) sNil)))
    (sSeq (sDrop (sMeth "bear" (tabM [("Disk", 1, M_Disk_bear, [])]) (sVar 0) sNil))
    (sSetF (sVar 0) "waiting" ["Disk"] (s2 addA (sFld (sVar 0) "waiting" ["Disk"]) (sTup (sCons (sTup (sCons (sVar 1) (sCons (sVar 2) sNil))) sNil))))))
def M_Disk_write : FA := defM 3 s_Disk_write
theorem ok_Disk_write {G : Gx} {f : Addr} {fd : FuncData} (F : Fun G.K "write" "Disk.write" st_Disk_write f fd) (fl_waiting : FldG G "waiting" ["Disk"]) (c_Disk_need_block_0 : CMeth G "need_block" "Disk" 3 2 M_Disk_need_block []) (c_Disk_bear_0 : CMeth G "bear" "Disk" 3 1 M_Disk_bear []) :
    FnOk G.P G.w G.K G.mg G.base (L2.CX G.P G.w) 4 f fd ["self", "number", "content"] (spOf G.K G.cA 3 M_Disk_write) := fn_of' (k := 3) F sc_Disk_write fun cdv A outer s H E i =>
    (kss_cons (ks_expr (ks_meth (i := i) (kv 0) (.cons c_Disk_need_block_0 (by decide) CMeths.nil) (ka_cons (kv 1) ka_nil)))
    (kss_cons (ks_expr (ks_meth0 (i := i) (kv 0) (.cons c_Disk_bear_0 (by decide) CMeths.nil)))
    (kss_one (ks_fld (f := "waiting") (kv 0) (ke_op ko_plusA (ke_fld (f := "waiting") (kv 0) fl_waiting) (ke_tup (ka_cons (ke_tup (ka_cons (kv 1) (ka_cons (kv 2) ka_nil))) ka_nil))) fl_waiting))))
/-! ### Disk.read -/
abbrev st_Disk_read : Stmt := inClass (topS 9) 5
theorem sc_Disk_read : FnScope ["self", "number", "other", "content"] ["self", "number"] (defScope st_Disk_read) := ⟨rfl, rfl, rfl, by decide +kernel, rfl, by decide +kernel, by decide +kernel⟩
def s_Disk_read : SS :=
    (sSeq (sDrop (sMeth "need_block" (tabM [("Disk", 2, M_Disk_need_block, [])]) (sVar 0) (sCons (sVar 1) sNil)))
    (sSeq (sFor (sRev (sFld (sVar 0) "waiting" ["Disk"])) (gTp 2 (gCons' (gN 2) (gCons' (gN 3) gNil'))) (sIf (sTest (s2 eqF (sVar 2) (sVar 1)))
    (sRet (sVar 3))
    sNext))
    (sRet (s2 getF (sFld (sVar 0) "blocks" ["Disk"]) (sVar 1)))))
def M_Disk_read : FA := defM 4 s_Disk_read
theorem ok_Disk_read {G : Gx} {f : Addr} {fd : FuncData} (F : Fun G.K "read" "Disk.read" st_Disk_read f fd) (b_reversed : G.mg "reversed" = none) (fl_blocks : FldG G "blocks" ["Disk"]) (fl_waiting : FldG G "waiting" ["Disk"]) (c_Disk_need_block_0 : CMeth G "need_block" "Disk" 3 2 M_Disk_need_block []) :
    FnOk G.P G.w G.K G.mg G.base (L2.CX G.P G.w) 4 f fd ["self", "number"] (spOf G.K G.cA 2 M_Disk_read) := fn_of' (k := 3) F sc_Disk_read fun cdv A outer s H E i =>
    (kss_cons (ks_expr (ks_meth (i := i) (kv 0) (.cons c_Disk_need_block_0 (by decide) CMeths.nil) (ka_cons (kv 1) ka_nil)))
    (kss_cons (ks_for i.ow i.cm (ki_rev (by rfl) b_reversed (ke_fld (f := "waiting") (kv 0) fl_waiting)) (kg_tup i.cm (kgs_cons (gn 2 sc_Disk_read.nd) (kgs_cons (gn 3 sc_Disk_read.nd) kgs_nil))) (kss_one (ks_if (kb_cmp (ko_eq i.hu64) (kv 2) (kv 1)) (kss_one (ks_ret (kv 3))) kss_nil)))
    (kss_one (ks_ret (ke_ix (ik_get i.hu1) (ke_fld (f := "blocks") (kv 0) fl_blocks) (kv 1))))))
/-! ### Disk.do_writes -/
abbrev st_Disk_do_writes : Stmt := inClass (topS 9) 3
theorem sc_Disk_do_writes : FnScope ["self", "writes", "blocks", "number", "content"] ["self", "writes"] (defScope st_Disk_do_writes) := ⟨rfl, rfl, rfl, by decide +kernel, rfl, by decide +kernel, by decide +kernel⟩
def s_Disk_do_writes : SS :=
    (sSeq (sAsg (sNew (sCallL listF (sCons (sFld (sVar 0) "blocks" ["Disk"]) sNil))) (gN 2))
    (sSeq (sFor (sVal (sVar 1)) (gTp 2 (gCons' (gN 3) (gCons' (gN 4) gNil'))) (sAsg (sVar 4) (gSub' (sVar 2) (sVar 3) setF)))
    (sSeq (sSetF (sVar 0) "blocks" ["Disk"] (sCall tupF (sCons (sVar 2) sNil)))
    (sSetF (sVar 0) "waiting" ["Disk"] (sTup sNil)))))
def M_Disk_do_writes : FA := defM 5 s_Disk_do_writes
theorem ok_Disk_do_writes {G : Gx} {f : Addr} {fd : FuncData} (F : Fun G.K "do_writes" "Disk.do_writes" st_Disk_do_writes f fd) (b_list : G.mg "list" = none) (b_tuple : G.mg "tuple" = none) (fl_blocks : FldG G "blocks" ["Disk"]) (fl_waiting : FldG G "waiting" ["Disk"]) :
    FnOk G.P G.w G.K G.mg G.base (L2.CX G.P G.w) 1 f fd ["self", "writes"] (spOf G.K G.cA 2 M_Disk_do_writes) := fn_of' (k := 0) F sc_Disk_do_writes fun cdv A outer s H E i =>
    (kss_cons (ks_asg (ke_new (kl_callTy ck_list (by rfl) b_list (by decide +kernel) (ka_cons (ke_fld (f := "blocks") (kv 0) fl_blocks) ka_nil))) (gn 2 sc_Disk_do_writes.nd))
    (kss_cons (ks_for i.ow i.cm (ki_val (kv 1)) (kg_tup i.cm (kgs_cons (gn 3 sc_Disk_do_writes.nd) (kgs_cons (gn 4 sc_Disk_do_writes.nd) kgs_nil))) (kss_one (ks_asg (kv 4) (kg_sub (st_set i.hu1) (kv 2) (kv 3)))))
    (kss_cons (ks_fld (f := "blocks") (kv 0) (ke_callTy ck_tuple (by rfl) b_tuple (by decide +kernel) (ka_cons (kv 2) ka_nil)) fl_blocks)
    (kss_one (ks_fld (f := "waiting") (kv 0) (ke_tup ka_nil) fl_waiting)))))
/-! ### Disk.flush -/
abbrev st_Disk_flush : Stmt := inClass (topS 9) 6
theorem sc_Disk_flush : FnScope ["self"] ["self"] (defScope st_Disk_flush) := ⟨rfl, rfl, rfl, by decide +kernel, rfl, by decide +kernel, by decide +kernel⟩
def s_Disk_flush : SS :=
    (sSeq (sDrop (sMeth "bear" (tabM [("Disk", 1, M_Disk_bear, [])]) (sVar 0) sNil))
    (sDrop (sMeth "do_writes" (tabM [("Disk", 2, M_Disk_do_writes, [])]) (sVar 0) (sCons (sFld (sVar 0) "waiting" ["Disk"]) sNil))))
def M_Disk_flush : FA := defM 1 s_Disk_flush
theorem ok_Disk_flush {G : Gx} {f : Addr} {fd : FuncData} (F : Fun G.K "flush" "Disk.flush" st_Disk_flush f fd) (fl_waiting : FldG G "waiting" ["Disk"]) (c_Disk_bear_0 : CMeth G "bear" "Disk" 3 1 M_Disk_bear []) (c_Disk_do_writes_0 : CMeth G "do_writes" "Disk" 1 2 M_Disk_do_writes []) :
    FnOk G.P G.w G.K G.mg G.base (L2.CX G.P G.w) 4 f fd ["self"] (spOf G.K G.cA 1 M_Disk_flush) := fn_of' (k := 3) F sc_Disk_flush fun cdv A outer s H E i =>
    (kss_cons (ks_expr (ks_meth0 (i := i) (kv 0) (.cons c_Disk_bear_0 (by decide) CMeths.nil)))
    (kss_one (ks_expr (ks_meth (i := i) (kv 0) (.cons c_Disk_do_writes_0 (by decide) CMeths.nil) (ka_cons (ke_fld (f := "waiting") (kv 0) fl_waiting) ka_nil)))))
/-! ### Disk.set_fuse -/
abbrev st_Disk_set_fuse : Stmt := inClass (topS 9) 7
theorem sc_Disk_set_fuse : FnScope ["self", "steps"] ["self", "steps"] (defScope st_Disk_set_fuse) := ⟨rfl, rfl, rfl, by decide +kernel, rfl, by decide +kernel, by decide +kernel⟩
def s_Disk_set_fuse : SS :=
    (sSeq (sIf (sAnd (sTest (s2 notF (sVar 1) (sC .non))) (sNot (sTest (sFn 1 M_is_count [] (sCons (sVar 1) sNil)))))
    (sRaise "BadNumber" ["what", "number"] (sCons (sC (.str "steps")) (sCons (sVar 1) sNil)))
    sNext)
    (sSeq (sSetF (sVar 0) "fuse" ["Disk"] (sVar 1))
    (sSetF (sVar 0) "fuse_steps" ["Disk"] (sVar 1))))
def M_Disk_set_fuse : FA := defM 2 s_Disk_set_fuse
theorem ok_Disk_set_fuse {G : Gx} {f : Addr} {fd : FuncData} (F : Fun G.K "set_fuse" "Disk.set_fuse" st_Disk_set_fuse f fd) (fl_fuse : FldG G "fuse" ["Disk"]) (fl_fuse_steps : FldG G "fuse_steps" ["Disk"]) (x_BadNumber : CE G "BadNumber" "BadNumber" 1 ["what", "number"]) (c_is_count_0 : CF G "is_count" 2 1 M_is_count []) :
    FnOk G.P G.w G.K G.mg G.base (L2.CX G.P G.w) 3 f fd ["self", "steps"] (spOf G.K G.cA 2 M_Disk_set_fuse) := fn_of' (k := 2) F sc_Disk_set_fuse fun cdv A outer s H E i =>
    (kss_cons (ks_if (kb_w (kw_and (kb_cmp ko_isnot (kv 1) ke_non) (kw_and1 (kb_not (kb_val (kc (i := i) c_is_count_0 (by decide) (by rfl) (ka_cons (kv 1) ka_nil))))))) (kss_one (kr (i := i) x_BadNumber (by decide) (by rfl) (ka_cons ke_str (ka_cons (kv 1) ka_nil)))) kss_nil)
    (kss_cons (ks_fld (f := "fuse") (kv 0) (kv 1) fl_fuse)
    (kss_one (ks_fld (f := "fuse_steps") (kv 0) (kv 1) fl_fuse_steps))))
/-! ### Disk.spoil -/
abbrev st_Disk_spoil : Stmt := inClass (topS 9) 9
theorem sc_Disk_spoil : FnScope ["self", "number", "content", "blocks"] ["self", "number", "content"] (defScope st_Disk_spoil) := ⟨rfl, rfl, rfl, by decide +kernel, rfl, by decide +kernel, by decide +kernel⟩
def s_Disk_spoil : SS :=
    (sSeq (sDrop (sMeth "need_block" (tabM [("Disk", 2, M_Disk_need_block, [])]) (sVar 0) (sCons (sVar 1) sNil)))
    (sSeq (sAsg (sNew (sCallL listF (sCons (sFld (sVar 0) "blocks" ["Disk"]) sNil))) (gN 3))
    (sSeq (sAsg (sVar 2) (gSub' (sVar 3) (sVar 1) setF))
    (sSetF (sVar 0) "blocks" ["Disk"] (sCall tupF (sCons (sVar 3) sNil))))))
def M_Disk_spoil : FA := defM 4 s_Disk_spoil
theorem ok_Disk_spoil {G : Gx} {f : Addr} {fd : FuncData} (F : Fun G.K "spoil" "Disk.spoil" st_Disk_spoil f fd) (b_list : G.mg "list" = none) (b_tuple : G.mg "tuple" = none) (fl_blocks : FldG G "blocks" ["Disk"]) (c_Disk_need_block_0 : CMeth G "need_block" "Disk" 3 2 M_Disk_need_block []) :
    FnOk G.P G.w G.K G.mg G.base (L2.CX G.P G.w) 4 f fd ["self", "number", "content"] (spOf G.K G.cA 3 M_Disk_spoil) := fn_of' (k := 3) F sc_Disk_spoil fun cdv A outer s H E i =>
    (kss_cons (ks_expr (ks_meth (i := i) (kv 0) (.cons c_Disk_need_block_0 (by decide) CMeths.nil) (ka_cons (kv 1) ka_nil)))
    (kss_cons (ks_asg (ke_new (kl_callTy ck_list (by rfl) b_list (by decide +kernel) (ka_cons (ke_fld (f := "blocks") (kv 0) fl_blocks) ka_nil))) (gn 3 sc_Disk_spoil.nd))
    (kss_cons (ks_asg (kv 2) (kg_sub (st_set i.hu1) (kv 3) (kv 1)))
    (kss_one (ks_fld (f := "blocks") (kv 0) (ke_callTy ck_tuple (by rfl) b_tuple (by decide +kernel) (ka_cons (kv 3) ka_nil)) fl_blocks)))))
/-! ### is_list -/
abbrev st_is_list : Stmt := topS 7
theorem sc_is_list : FnScope ["value"] ["value"] (defScope st_is_list) := ⟨rfl, rfl, rfl, by decide +kernel, rfl, by decide +kernel, by decide +kernel⟩
def s_is_list : SS :=
    (sRet (sIsiT ["list", "tuple"] (sVar 0)))
def M_is_list : FA := defM 1 s_is_list
theorem ok_is_list {G : Gx} {f : Addr} {fd : FuncData} (F : Fun G.K "is_list" "is_list" st_is_list f fd) (b_isinstance : G.mg "isinstance" = none) (b_list : G.mg "list" = none) (b_tuple : G.mg "tuple" = none) :
    FnOk G.P G.w G.K G.mg G.base (L2.CX G.P G.w) 1 f fd ["value"] (spOf G.K G.cA 1 M_is_list) := fn_of' (k := 0) F sc_is_list fun cdv A outer s H E i =>
    (kss_one (ks_ret (ke_isiT (by rfl) b_isinstance (kv 0) (by rfl) b_list (by decide +kernel) (by rfl) b_tuple (by decide +kernel) (hT := pe_tup (pa_cons (pe_bltn (by rfl) b_list (by decide +kernel) rfl) (pa_cons (pe_bltn (by rfl) b_tuple (by decide +kernel) rfl) pa_nil))))))
/-! ### Disk.fall -/
abbrev st_Disk_fall : Stmt := inClass (topS 9) 8
theorem sc_Disk_fall : FnScope ["self", "lot", "place", "one", "two"] ["self", "lot"] (defScope st_Disk_fall) := ⟨rfl, rfl, rfl, by decide +kernel, rfl, by decide +kernel, by decide +kernel⟩
def s_Disk_fall : SS :=
    (sSeq (sIf (sOr (sNot (sTest (sFn 1 M_is_list [] (sCons (sVar 1) sNil)))) (sNot (sTest (sCallN allN (sLc (sVal (sVar 1)) (gN 2) sYes (sFn 3 M_is_between [] (sCons (sVar 2) (sCons (sC (.int 0)) (sCons (s2 (f2I yes2 fun i j => .int (i - j)) (sCall lenA (sCons (sFld (sVar 0) "waiting" ["Disk"]) sNil)) (sC (.int 1))) sNil)))) [2])))))
    (sRaise "BadNumber" ["what", "number"] (sCons (sC (.str "lot")) (sCons (sVar 1) sNil)))
    sNext)
    (sSeq (sIf (sTest (sCallN anyN (sLc (sZip (sVar 1) (sSlA (sVar 1) (sPart (sC (.int 1))) sNoPart)) (gTp 2 (gCons' (gN 3) (gCons' (gN 4) gNil'))) sYes (s2 geF (sVar 3) (sVar 4)) [3, 4])))
    (sRaise "BadNumber" ["what", "number"] (sCons (sC (.str "lot")) (sCons (sVar 1) sNil)))
    sNext)
    (sSeq (sDrop (sMeth "do_writes" (tabM [("Disk", 2, M_Disk_do_writes, [])]) (sVar 0) (sCons (sNew (sLc (sVal (sVar 1)) (gN 2) sYes (s2 getF (sFld (sVar 0) "waiting" ["Disk"]) (sVar 2)) [2])) sNil)))
    (sDrop (sMeth "set_fuse" (tabM [("Disk", 2, M_Disk_set_fuse, [])]) (sVar 0) (sCons (sC .non) sNil))))))
def M_Disk_fall : FA := defM 5 s_Disk_fall
theorem ok_Disk_fall {G : Gx} {f : Addr} {fd : FuncData} (F : Fun G.K "fall" "Disk.fall" st_Disk_fall f fd) (b_all : G.mg "all" = none) (b_any : G.mg "any" = none) (b_len : G.mg "len" = none) (b_zip : G.mg "zip" = none) (fl_waiting : FldG G "waiting" ["Disk"]) (x_BadNumber : CE G "BadNumber" "BadNumber" 1 ["what", "number"]) (c_is_list_0 : CF G "is_list" 1 1 M_is_list []) (c_is_between_0 : CF G "is_between" 2 3 M_is_between []) (c_Disk_do_writes_0 : CMeth G "do_writes" "Disk" 1 2 M_Disk_do_writes []) (c_Disk_set_fuse_0 : CMeth G "set_fuse" "Disk" 3 2 M_Disk_set_fuse []) :
    FnOk G.P G.w G.K G.mg G.base (L2.CX G.P G.w) 4 f fd ["self", "lot"] (spOf G.K G.cA 2 M_Disk_fall) := fn_of' (k := 3) F sc_Disk_fall fun cdv A outer s H E i =>
    (kss_cons (ks_if (kb_w (kw_or (kb_not (kb_val (kc (i := i) c_is_list_0 (by decide) (by rfl) (ka_cons (kv 1) ka_nil)))) (kw_or1 (kb_not (kb_val (ke_callBN (cn_all i.cm) (by rfl) b_all (by decide +kernel) (kl_lc i.cm sc_Disk_fall.nd (ki_val (kv 1)) (blkOk_by (own := [("place", 2)]) (N := ["self", "lot", "place", "one", "two"]) (sc := defScope st_Disk_fall) (by decide +kernel)) (fun s H C cl fp => (gw 2 sc_Disk_fall.nd)) (fun s H C cl fp => kt_nil) (fun s H C cl fp => (kc (i := (i.blk s H _ C cl fp)) c_is_between_0 (by decide) (by rfl) (ka_cons (kv 2) (ka_cons ke_int (ka_cons (ke_op ko_sub (ke_callB ck_lenA (by rfl) b_len (by decide +kernel) (ka_cons (ke_fld (f := "waiting") (kv 0) fl_waiting) ka_nil)) ke_int) ka_nil)))))))))))) (kss_one (kr (i := i) x_BadNumber (by decide) (by rfl) (ka_cons ke_str (ka_cons (kv 1) ka_nil)))) kss_nil)
    (kss_cons (ks_if (kb_val (ke_callBN (cn_any i.cm) (by rfl) b_any (by decide +kernel) (kl_lc i.cm sc_Disk_fall.nd (ki_zip (by rfl) b_zip (kv 1) (ke_sl (kv 1) (ko_some ke_int) ko_none)) (blkOk_by (own := [("one", 3), ("two", 4)]) (N := ["self", "lot", "place", "one", "two"]) (sc := defScope st_Disk_fall) (by decide +kernel)) (fun s H C cl fp => (kgw_tup (i.blk s H _ C cl fp).cm (kgws_cons (gw 3 sc_Disk_fall.nd) (kgws_cons (gw 4 sc_Disk_fall.nd) kgws_nil)))) (fun s H C cl fp => kt_nil) (fun s H C cl fp => (ke_cmp (ko_geD (i.blk s H _ C cl fp).hu64) (kv 3) (kv 4)))))) (kss_one (kr (i := i) x_BadNumber (by decide) (by rfl) (ka_cons ke_str (ka_cons (kv 1) ka_nil)))) kss_nil)
    (kss_cons (ks_expr (ks_meth (i := i) (kv 0) (.cons c_Disk_do_writes_0 (by decide) CMeths.nil) (ka_cons (ke_new (kl_lc i.cm sc_Disk_fall.nd (ki_val (kv 1)) (blkOk_by (own := [("place", 2)]) (N := ["self", "lot", "place", "one", "two"]) (sc := defScope st_Disk_fall) (by decide +kernel)) (fun s H C cl fp => (gw 2 sc_Disk_fall.nd)) (fun s H C cl fp => kt_nil) (fun s H C cl fp => (ke_ix (ik_get (i.blk s H _ C cl fp).hu1) (ke_fld (f := "waiting") (kv 0) fl_waiting) (kv 2))))) ka_nil)))
    (kss_one (ks_expr (ks_meth (i := i) (kv 0) (.cons c_Disk_set_fuse_0 (by decide) CMeths.nil) (ka_cons ke_non ka_nil)))))))
/-! ### Disk.wipe -/
abbrev st_Disk_wipe : Stmt := inClass (topS 9) 10
theorem sc_Disk_wipe : FnScope ["self"] ["self"] (defScope st_Disk_wipe) := ⟨rfl, rfl, rfl, by decide +kernel, rfl, by decide +kernel, by decide +kernel⟩
def s_Disk_wipe : SS :=
    (sSeq (sSetF (sVar 0) "blocks" ["Disk"] (s2 mulB (sTup (sCons (sC .non) sNil)) (sFld (sVar 0) "size" ["Disk"])))
    (sSeq (sSetF (sVar 0) "waiting" ["Disk"] (sTup sNil))
    (sDrop (sMeth "set_fuse" (tabM [("Disk", 2, M_Disk_set_fuse, [])]) (sVar 0) (sCons (sC .non) sNil)))))
def M_Disk_wipe : FA := defM 1 s_Disk_wipe
theorem ok_Disk_wipe {G : Gx} {f : Addr} {fd : FuncData} (F : Fun G.K "wipe" "Disk.wipe" st_Disk_wipe f fd) (fl_blocks : FldG G "blocks" ["Disk"]) (fl_size : FldG G "size" ["Disk"]) (fl_waiting : FldG G "waiting" ["Disk"]) (c_Disk_set_fuse_0 : CMeth G "set_fuse" "Disk" 3 2 M_Disk_set_fuse []) :
    FnOk G.P G.w G.K G.mg G.base (L2.CX G.P G.w) 4 f fd ["self"] (spOf G.K G.cA 1 M_Disk_wipe) := fn_of' (k := 3) F sc_Disk_wipe fun cdv A outer s H E i =>
    (kss_cons (ks_fld (f := "blocks") (kv 0) (ke_op ko_timesB (ke_tup (ka_cons ke_non ka_nil)) (ke_fld (f := "size") (kv 0) fl_size)) fl_blocks)
    (kss_cons (ks_fld (f := "waiting") (kv 0) (ke_tup ka_nil) fl_waiting)
    (kss_one (ks_expr (ks_meth (i := i) (kv 0) (.cons c_Disk_set_fuse_0 (by decide) CMeths.nil) (ka_cons ke_non ka_nil))))))
/-! ### _law_disk_told -/
abbrev st_law_disk_told : Stmt := topS 24
theorem sc_law_disk_told : FnScope ["_law_disk", "_law_deed", "_law_told", "_law_word", "_law_what", "_law_passed", "e"] ["_law_disk", "_law_deed"] (defScope st_law_disk_told) := ⟨rfl, rfl, rfl, by decide +kernel, rfl, by decide +kernel, by decide +kernel⟩
def s_law_disk_told : SS :=
    (sSeq (sPar [2, 3, 4] (sCons (sC .non) (sCons (s2 getF (sVar 1) (sC (.int 0))) (sCons (s2 getF (sVar 1) (sC (.int 1))) sNil))))
    (sSeq (sAsg (sIfE (sTest (sIsi "list" (sVar 4))) (sNew (sCallL listF (sCons (sVar 4) sNil))) (sVar 4)) (gN 5))
    (sSeq (sTry (sIf (sTest (s2 eqF (sVar 3) (sC (.str "write"))))
    (sAsg (sTup (sCons (sC (.str "done")) (sCons (sMeth "write" (tabM [("Disk", 3, M_Disk_write, [])]) (sVar 0) (sCons (sVar 5) (sCons (s2 getF (sVar 1) (sC (.int 2))) sNil))) sNil))) (gN 2))
    (sIf (sTest (s2 eqF (sVar 3) (sC (.str "read"))))
    (sAsg (sTup (sCons (sC (.str "done")) (sCons (sMeth "read" (tabM [("Disk", 2, M_Disk_read, [])]) (sVar 0) (sCons (sVar 5) sNil)) sNil))) (gN 2))
    (sIf (sTest (s2 eqF (sVar 3) (sC (.str "flush"))))
    (sAsg (sTup (sCons (sC (.str "done")) (sCons (sMeth "flush" (tabM [("Disk", 1, M_Disk_flush, [])]) (sVar 0) sNil) sNil))) (gN 2))
    (sIf (sTest (s2 eqF (sVar 3) (sC (.str "fuse"))))
    (sAsg (sTup (sCons (sC (.str "done")) (sCons (sMeth "set_fuse" (tabM [("Disk", 2, M_Disk_set_fuse, [])]) (sVar 0) (sCons (sVar 5) sNil)) sNil))) (gN 2))
    (sIf (sTest (s2 eqF (sVar 3) (sC (.str "spoil"))))
    (sAsg (sTup (sCons (sC (.str "done")) (sCons (sMeth "spoil" (tabM [("Disk", 3, M_Disk_spoil, [])]) (sVar 0) (sCons (sVar 5) (sCons (s2 getF (sVar 1) (sC (.int 2))) sNil))) sNil))) (gN 2))
    (sIf (sTest (s2 eqF (sVar 3) (sC (.str "fall"))))
    (sAsg (sTup (sCons (sC (.str "done")) (sCons (sMeth "fall" (tabM [("Disk", 2, M_Disk_fall, [])]) (sVar 0) (sCons (sVar 5) sNil)) sNil))) (gN 2))
    (sAsg (sTup (sCons (sC (.str "done")) (sCons (sMeth "wipe" (tabM [("Disk", 1, M_Disk_wipe, [])]) (sVar 0) sNil) sNil))) (gN 2)))))))) [((fun c => List.lookup c [("BadNumber", true), ("Fallen", false)]), (some 6), fun _ a d => (sAsg (sTup (sCons (sC (.str "bad")) (sCons (sXf "BadNumber" a d (sVar 6) "what") (sCons (sXf "BadNumber" a d (sVar 6) "number") (sCons (sIsi "bool" (sXf "BadNumber" a d (sVar 6) "number")) sNil))))) (gN 2))), ((fun c => List.lookup c [("BadNumber", false), ("Fallen", true)]), (some 6), fun _ a d => (sAsg (sTup (sCons (sC (.str "cut")) (sCons (sXf "Fallen" a d (sVar 6) "steps") sNil))) (gN 2)))])
    (sRet (sIfE (sTest (s2 eqF (sVar 5) (sVar 4))) (sVar 2) (sTup (sCons (sC (.str "changed")) (sCons (sVar 5) sNil))))))))
def M_law_disk_told : FA := defM 7 s_law_disk_told
theorem ok_law_disk_told {G : Gx} {f : Addr} {fd : FuncData} (F : Fun G.K "_law_disk_told" "_law_disk_told" st_law_disk_told f fd) (b_bool : G.mg "bool" = none) (b_isinstance : G.mg "isinstance" = none) (b_list : G.mg "list" = none) (h_BadNumber : CH G "BadNumber" (.ref (G.cA "BadNumber")) [("BadNumber", true), ("Fallen", false)]) (h_Fallen : CH G "Fallen" (.ref (G.cA "Fallen")) [("BadNumber", false), ("Fallen", true)]) (xf_BadNumber_number : XFG G "BadNumber" "number") (xf_BadNumber_what : XFG G "BadNumber" "what") (xf_Fallen_steps : XFG G "Fallen" "steps") (c_Disk_write_0 : CMeth G "write" "Disk" 4 3 M_Disk_write []) (c_Disk_read_0 : CMeth G "read" "Disk" 4 2 M_Disk_read []) (c_Disk_flush_0 : CMeth G "flush" "Disk" 4 1 M_Disk_flush []) (c_Disk_set_fuse_0 : CMeth G "set_fuse" "Disk" 3 2 M_Disk_set_fuse []) (c_Disk_spoil_0 : CMeth G "spoil" "Disk" 4 3 M_Disk_spoil []) (c_Disk_fall_0 : CMeth G "fall" "Disk" 4 2 M_Disk_fall []) (c_Disk_wipe_0 : CMeth G "wipe" "Disk" 4 1 M_Disk_wipe []) :
    FnOk G.P G.w G.K G.mg G.base (L2.CX G.P G.w) 5 f fd ["_law_disk", "_law_deed"] (spOf G.K G.cA 2 M_law_disk_told) := fn_of' (k := 4) F sc_law_disk_told fun cdv A outer s H E i =>
    (kss_cons (ks_par3 (i := 2) (j := 3) (l := 4) i.cm sc_law_disk_told.nd (ka_cons ke_non (ka_cons (ke_ix (ik_get i.hu1) (kv 1) ke_int) (ka_cons (ke_ix (ik_get i.hu1) (kv 1) ke_int) ka_nil))))
    (kss_cons (ks_asg (ke_ife (kb_val (ke_isi (by rfl) b_isinstance (kv 4) (by rfl) b_list (by decide +kernel))) (ke_new (kl_callTy ck_list (by rfl) b_list (by decide +kernel) (ka_cons (kv 4) ka_nil))) (kv 4)) (gn 5 sc_law_disk_told.nd))
    (kss_cons (ks_try rfl rfl i.tk (fun W pn xe tk o => (kss_one (ks_if (kb_cmp (ko_eq (i.tr tk o).hu64) (kv 3) ke_str) (kss_one (ks_asg (ke_tup (ka_cons ke_str (ka_cons (ks_meth (i := (i.tr tk o)) (kv 0) (.cons c_Disk_write_0 (by decide) CMeths.nil) (ka_cons (kv 5) (ka_cons (ke_ix (ik_get (i.tr tk o).hu1) (kv 1) ke_int) ka_nil))) ka_nil))) (gn 2 sc_law_disk_told.nd))) (kss_one (ks_if (kb_cmp (ko_eq (i.tr tk o).hu64) (kv 3) ke_str) (kss_one (ks_asg (ke_tup (ka_cons ke_str (ka_cons (ks_meth (i := (i.tr tk o)) (kv 0) (.cons c_Disk_read_0 (by decide) CMeths.nil) (ka_cons (kv 5) ka_nil)) ka_nil))) (gn 2 sc_law_disk_told.nd))) (kss_one (ks_if (kb_cmp (ko_eq (i.tr tk o).hu64) (kv 3) ke_str) (kss_one (ks_asg (ke_tup (ka_cons ke_str (ka_cons (ks_meth0 (i := (i.tr tk o)) (kv 0) (.cons c_Disk_flush_0 (by decide) CMeths.nil)) ka_nil))) (gn 2 sc_law_disk_told.nd))) (kss_one (ks_if (kb_cmp (ko_eq (i.tr tk o).hu64) (kv 3) ke_str) (kss_one (ks_asg (ke_tup (ka_cons ke_str (ka_cons (ks_meth (i := (i.tr tk o)) (kv 0) (.cons c_Disk_set_fuse_0 (by decide) CMeths.nil) (ka_cons (kv 5) ka_nil)) ka_nil))) (gn 2 sc_law_disk_told.nd))) (kss_one (ks_if (kb_cmp (ko_eq (i.tr tk o).hu64) (kv 3) ke_str) (kss_one (ks_asg (ke_tup (ka_cons ke_str (ka_cons (ks_meth (i := (i.tr tk o)) (kv 0) (.cons c_Disk_spoil_0 (by decide) CMeths.nil) (ka_cons (kv 5) (ka_cons (ke_ix (ik_get (i.tr tk o).hu1) (kv 1) ke_int) ka_nil))) ka_nil))) (gn 2 sc_law_disk_told.nd))) (kss_one (ks_if (kb_cmp (ko_eq (i.tr tk o).hu64) (kv 3) ke_str) (kss_one (ks_asg (ke_tup (ka_cons ke_str (ka_cons (ks_meth (i := (i.tr tk o)) (kv 0) (.cons c_Disk_fall_0 (by decide) CMeths.nil) (ka_cons (kv 5) ka_nil)) ka_nil))) (gn 2 sc_law_disk_told.nd))) (kss_one (ks_asg (ke_tup (ka_cons ke_str (ka_cons (ks_meth0 (i := (i.tr tk o)) (kv 0) (.cons c_Disk_wipe_0 (by decide) CMeths.nil)) ka_nil))) (gn 2 sc_law_disk_told.nd)))))))))))))))) (.named (i := 6) sc_law_disk_told.nd rfl rfl (h_BadNumber.names i (by rfl)) (h_BadNumber.exm i) (ksu_one (one_true (c0 := "BadNumber") (by decide)) fun a oe d pn hz hf => (kss_one (ks_asg (ke_tup (ka_cons ke_str (ka_cons (ke_xf xf_BadNumber_what.1 xf_BadNumber_what.2 hz hf (kv 6)) (ka_cons (ke_xf xf_BadNumber_number.1 xf_BadNumber_number.2 hz hf (kv 6)) (ka_cons (ke_isi (by rfl) b_isinstance (ke_xf xf_BadNumber_number.1 xf_BadNumber_number.2 hz hf (kv 6)) (by rfl) b_bool (by decide +kernel)) ka_nil))))) (gn 2 sc_law_disk_told.nd)))) (.named (i := 6) sc_law_disk_told.nd rfl rfl (h_Fallen.names i (by rfl)) (h_Fallen.exm i) (ksu_one (one_true (c0 := "Fallen") (by decide)) fun a oe d pn hz hf => (kss_one (ks_asg (ke_tup (ka_cons ke_str (ka_cons (ke_xf xf_Fallen_steps.1 xf_Fallen_steps.2 hz hf (kv 6)) ka_nil))) (gn 2 sc_law_disk_told.nd)))) .nil)))
    (kss_one (ks_ret (ke_ife (kb_cmp (ko_eq i.hu64) (kv 5) (kv 4)) (kv 2) (ke_tup (ka_cons ke_str (ka_cons (kv 5) ka_nil)))))))))
/-! ### _law_disk_is -/
abbrev st_law_disk_is : Stmt := topS 18
theorem sc_law_disk_is : FnScope ["_law_disk", "_law_told"] ["_law_disk", "_law_told"] (defScope st_law_disk_is) := ⟨rfl, rfl, rfl, by decide +kernel, rfl, by decide +kernel, by decide +kernel⟩
def s_law_disk_is : SS :=
    (sSeq (sIf (sOr (sNot (sTest (sIsi "tuple" (sFld (sVar 1) "blocks" ["Disk"])))) (sNot (sTest (sIsi "tuple" (sFld (sVar 1) "waiting" ["Disk"])))))
    (sRet (sC (.bl false)))
    sNext)
    (sSeq (sIf (sOr (sTest (s2 neF (sFld (sVar 1) "size" ["Disk"]) (sCall lenA (sCons (s2 getF (sVar 0) (sC (.str "blocks"))) sNil)))) (sTest (s2 neF (sNew (sCallL listF (sCons (sFld (sVar 1) "blocks" ["Disk"]) sNil))) (s2 getF (sVar 0) (sC (.str "blocks"))))))
    (sRet (sC (.bl false)))
    sNext)
    (sRet (s2 eqF (sNew (sCallL listF (sCons (sFld (sVar 1) "waiting" ["Disk"]) sNil))) (s2 getF (sVar 0) (sC (.str "waiting")))))))
def M_law_disk_is : FA := defM 2 s_law_disk_is
theorem ok_law_disk_is {G : Gx} {f : Addr} {fd : FuncData} (F : Fun G.K "_law_disk_is" "_law_disk_is" st_law_disk_is f fd) (b_isinstance : G.mg "isinstance" = none) (b_len : G.mg "len" = none) (b_list : G.mg "list" = none) (b_tuple : G.mg "tuple" = none) (fl_blocks : FldG G "blocks" ["Disk"]) (fl_size : FldG G "size" ["Disk"]) (fl_waiting : FldG G "waiting" ["Disk"]) :
    FnOk G.P G.w G.K G.mg G.base (L2.CX G.P G.w) 1 f fd ["_law_disk", "_law_told"] (spOf G.K G.cA 2 M_law_disk_is) := fn_of' (k := 0) F sc_law_disk_is fun cdv A outer s H E i =>
    (kss_cons (ks_if (kb_w (kw_or (kb_not (kb_val (ke_isi (by rfl) b_isinstance (ke_fld (f := "blocks") (kv 1) fl_blocks) (by rfl) b_tuple (by decide +kernel)))) (kw_or1 (kb_not (kb_val (ke_isi (by rfl) b_isinstance (ke_fld (f := "waiting") (kv 1) fl_waiting) (by rfl) b_tuple (by decide +kernel))))))) (kss_one (ks_ret ke_bl)) kss_nil)
    (kss_cons (ks_if (kb_w (kw_or (kb_cmp (ko_ne i.hu64) (ke_fld (f := "size") (kv 1) fl_size) (ke_callB ck_lenA (by rfl) b_len (by decide +kernel) (ka_cons (ke_ix (ik_get i.hu1) (kv 0) ke_str) ka_nil))) (kw_or1 (kb_cmp (ko_ne i.hu64) (ke_new (kl_callTy ck_list (by rfl) b_list (by decide +kernel) (ka_cons (ke_fld (f := "blocks") (kv 1) fl_blocks) ka_nil))) (ke_ix (ik_get i.hu1) (kv 0) ke_str))))) (kss_one (ks_ret ke_bl)) kss_nil)
    (kss_one (ks_ret (ke_cmp (ko_eq i.hu64) (ke_new (kl_callTy ck_list (by rfl) b_list (by decide +kernel) (ka_cons (ke_fld (f := "waiting") (kv 1) fl_waiting) ka_nil))) (ke_ix (ik_get i.hu1) (kv 0) ke_str))))))
/-! ### law -/
abbrev st_law : Stmt := topS 26
theorem sc_law : FnScope ["_law_script", "_law_pen_here", "_law_owns", "_law_disks", "_law_lap", "_law_size", "_law_own", "_law_turn", "_law_at", "_law_deed", "_law_due"] ["_law_script"] (defScope st_law) := ⟨rfl, rfl, rfl, by decide +kernel, rfl, by decide +kernel, by decide +kernel⟩
def s_law : SS :=
    (sSeq (sAsg (sFn 1 M_law_pen [] (sCons (sVar 0) sNil)) (gN 1))
    (sSeq (sIf (sNot (sTest (sFn 1 M_law_size_refused [] (sCons (sFn 2 M_law_pick [] (sCons (sVar 1) (sCons (sNew (sLst (sCons (sC (.int 0)) (sCons (sNeg (sC (.int 1))) (sCons (sC .non) (sCons (sC (.bl true)) (sCons (sC (.str "3")) (sCons (sTup (sCons (sC (.int 3)) sNil)) (sCons (sNeg (s2 powF (sC (.int 10)) (sC (.int 30)))) sNil))))))))) sNil))) sNil))))
    (sRet (sC (.bl false)))
    sNext)
    (sSeq (sPar [2, 3] (sCons (sNew (sLst sNil)) (sCons (sNew (sLst sNil)) sNil)))
    (sSeq (sFor (sRange1 (sC (.int 2))) (gN 4) (sSeq (sAsg (sFn 2 M_law_pick [] (sCons (sVar 1) (sCons (sNew (sLst (sCons (sC (.int 1)) (sCons (sC (.int 2)) (sCons (s2 addA (sC (.int 1)) (sFn 2 M_law_draw [] (sCons (sVar 1) (sCons (sC (.int 12)) sNil)))) sNil))))) sNil))) (gN 5))
    (sSeq (sAsg (sFn 1 M_law_disk_new [] (sCons (sVar 5) sNil)) (gN 6))
    (sSeq (sAsg (sC .non) (gSub' (sVar 6) (sC (.str "told")) setF))
    (sSeq (sDrop (sAppend (sVar 2) (sVar 6)))
    (sDrop (sAppend (sVar 3) (sNewI "Disk" 2 M_Disk_init [] (sCons (sVar 5) sNil)))))))))
    (sSeq (sFor (sRange1 (s2 addA (sC (.int 24)) (sCall lenA (sCons (sVar 0) sNil)))) (gN 7) (sSeq (sAsg (sFn 2 M_law_draw [] (sCons (sVar 1) (sCons (sC (.int 2)) sNil))) (gN 8))
    (sSeq (sAsg (sFn 3 M_law_disk_deed [] (sCons (sVar 1) (sCons (s2 getF (sVar 2) (sVar 8)) (sCons (sVar 7) sNil)))) (gN 9))
    (sSeq (sAsg (sFn 2 M_law_disk_due [] (sCons (s2 getF (sVar 2) (sVar 8)) (sCons (sVar 9) sNil))) (gN 10))
    (sSeq (sIf (sTest (s2 neF (sFn 2 M_law_disk_told [] (sCons (s2 getF (sVar 3) (sVar 8)) (sCons (sVar 9) sNil))) (sVar 10)))
    (sRet (sC (.bl false)))
    sNext)
    (sIf (sOr (sNot (sTest (sFn 2 M_law_disk_is [] (sCons (s2 getF (sVar 2) (sC (.int 0))) (sCons (s2 getF (sVar 3) (sC (.int 0))) sNil))))) (sNot (sTest (sFn 2 M_law_disk_is [] (sCons (s2 getF (sVar 2) (sC (.int 1))) (sCons (s2 getF (sVar 3) (sC (.int 1))) sNil))))))
    (sRet (sC (.bl false)))
    sNext))))))
    (sRet (sC (.bl true))))))))
def M_law : FA := defM 11 s_law
theorem ok_law {G : Gx} {f : Addr} {fd : FuncData} (F : Fun G.K "law" "law" st_law f fd) (b_len : G.mg "len" = none) (b_range : G.mg "range" = none) (c_law_pen_0 : CF G "_law_pen" 1 1 M_law_pen []) (c_law_size_refused_0 : CF G "_law_size_refused" 5 1 M_law_size_refused []) (c_law_pick_0 : CF G "_law_pick" 2 2 M_law_pick []) (c_law_draw_0 : CF G "_law_draw" 1 2 M_law_draw []) (c_law_disk_new_0 : CF G "_law_disk_new" 1 1 M_law_disk_new []) (c_Disk_init_0 : CM G "Disk" "Disk" 3 2 M_Disk_init []) (c_law_disk_deed_0 : CF G "_law_disk_deed" 3 3 M_law_disk_deed []) (c_law_disk_due_0 : CF G "_law_disk_due" 4 2 M_law_disk_due []) (c_law_disk_told_0 : CF G "_law_disk_told" 5 2 M_law_disk_told []) (c_law_disk_is_0 : CF G "_law_disk_is" 1 2 M_law_disk_is []) :
    FnOk G.P G.w G.K G.mg G.base (L2.CX G.P G.w) 6 f fd ["_law_script"] (spOf G.K G.cA 1 M_law) := fn_of' (k := 5) F sc_law fun cdv A outer s H E i =>
    (kss_cons (ks_asg (kc (i := i) c_law_pen_0 (by decide) (by rfl) (ka_cons (kv 0) ka_nil)) (gn 1 sc_law.nd))
    (kss_cons (ks_if (kb_not (kb_val (kc (i := i) c_law_size_refused_0 (by decide) (by rfl) (ka_cons (kc (i := i) c_law_pick_0 (by decide) (by rfl) (ka_cons (kv 1) (ka_cons (ke_new (kl_lst (ka_cons ke_int (ka_cons (ke_neg ke_int) (ka_cons ke_non (ka_cons ke_bl (ka_cons ke_str (ka_cons (ke_tup (ka_cons ke_int ka_nil)) (ka_cons (ke_neg (ke_op ko_pow ke_int ke_int)) ka_nil))))))))) ka_nil))) ka_nil)))) (kss_one (ks_ret ke_bl)) kss_nil)
    (kss_cons (ks_par2 (i := 2) (j := 3) i.cm sc_law.nd (ka_cons (ke_new (kl_lst ka_nil)) (ka_cons (ke_new (kl_lst ka_nil)) ka_nil)))
    (kss_cons (ks_for i.ow i.cm (ki_range1 (by rfl) b_range ke_int) (gn 4 sc_law.nd) (kss_cons (ks_asg (kc (i := i) c_law_pick_0 (by decide) (by rfl) (ka_cons (kv 1) (ka_cons (ke_new (kl_lst (ka_cons ke_int (ka_cons ke_int (ka_cons (ke_op ko_plusA ke_int (kc (i := i) c_law_draw_0 (by decide) (by rfl) (ka_cons (kv 1) (ka_cons ke_int ka_nil)))) ka_nil))))) ka_nil))) (gn 5 sc_law.nd))
    (kss_cons (ks_asg (kc (i := i) c_law_disk_new_0 (by decide) (by rfl) (ka_cons (kv 5) ka_nil)) (gn 6 sc_law.nd))
    (kss_cons (ks_asg ke_non (kg_sub (st_set i.hu1) (kv 6) ke_str))
    (kss_cons (ks_expr (ke_append (kv 2) (kv 6)))
    (kss_one (ks_expr (ke_append (kv 3) (km (i := i) c_Disk_init_0 (by decide) (by rfl) (ka_cons (kv 5) ka_nil))))))))))
    (kss_cons (ks_for i.ow i.cm (ki_range1 (by rfl) b_range (ke_op ko_plusA ke_int (ke_callB ck_lenA (by rfl) b_len (by decide +kernel) (ka_cons (kv 0) ka_nil)))) (gn 7 sc_law.nd) (kss_cons (ks_asg (kc (i := i) c_law_draw_0 (by decide) (by rfl) (ka_cons (kv 1) (ka_cons ke_int ka_nil))) (gn 8 sc_law.nd))
    (kss_cons (ks_asg (kc (i := i) c_law_disk_deed_0 (by decide) (by rfl) (ka_cons (kv 1) (ka_cons (ke_ix (ik_get i.hu1) (kv 2) (kv 8)) (ka_cons (kv 7) ka_nil)))) (gn 9 sc_law.nd))
    (kss_cons (ks_asg (kc (i := i) c_law_disk_due_0 (by decide) (by rfl) (ka_cons (ke_ix (ik_get i.hu1) (kv 2) (kv 8)) (ka_cons (kv 9) ka_nil))) (gn 10 sc_law.nd))
    (kss_cons (ks_if (kb_cmp (ko_ne i.hu64) (kc (i := i) c_law_disk_told_0 (by decide) (by rfl) (ka_cons (ke_ix (ik_get i.hu1) (kv 3) (kv 8)) (ka_cons (kv 9) ka_nil))) (kv 10)) (kss_one (ks_ret ke_bl)) kss_nil)
    (kss_one (ks_if (kb_w (kw_or (kb_not (kb_val (kc (i := i) c_law_disk_is_0 (by decide) (by rfl) (ka_cons (ke_ix (ik_get i.hu1) (kv 2) ke_int) (ka_cons (ke_ix (ik_get i.hu1) (kv 3) ke_int) ka_nil))))) (kw_or1 (kb_not (kb_val (kc (i := i) c_law_disk_is_0 (by decide) (by rfl) (ka_cons (ke_ix (ik_get i.hu1) (kv 2) ke_int) (ka_cons (ke_ix (ik_get i.hu1) (kv 3) ke_int) ka_nil)))))))) (kss_one (ks_ret ke_bl)) kss_nil)))))))
    (kss_one (ks_ret ke_bl)))))))
end Kq
end
section
set_option maxHeartbeats 4000000
/-! Kf: what simp may use to run a reading. -/
namespace Kf
open PySem PySem.Spec L2
theorem LIM_eq : LIM = 16777216 := rfl
theorem guard_true {β : Type} (c : Prop) [Decidable c] (r : Res β) (hc : c) : guard' c r = r := if_pos hc
/-- only what is at the head is looked at -/
theorem bind_congr {α β : Type} {r r' : Res α} {f : α → Hd → Res β} (e : r = r') : r.bind f = r'.bind f := by rw [e]
theorem lift_congr {α : Type} {r r' : Res α} {env : En} {f : α → Hd → Rs} (e : r = r') : r.lift env f = r'.lift env f := by rw [e]
def iteR {α : Type} (b : Bool) (x y : α) : α := if b = true then x else y
@[simp] theorem iteR_true {α : Type} (x y : α) : iteR true x y = x := id rfl
@[simp] theorem iteR_false {α : Type} (x y : α) : iteR false x y = y := id rfl
theorem iteR_congr {α : Type} {b b' : Bool} {x y : α} (e : b = b') : iteR b x y = iteR b' x y := by rw [e]
theorem guard_congr {β : Type} {c c' : Prop} [Decidable c] [Decidable c'] {r : Res β} (e : c = c') : guard' c r = guard' c' r := by subst e; unfold guard'; congr
def andThen (r : Rs) (g : SS) : Rs := match r with | .ok (.nx env1) h1 => g env1 h1 | r => r
theorem andThen_congr {r r' : Rs} {g : SS} (e : r = r') : andThen r g = andThen r' g := by rw [e]
@[simp] theorem andThen_nx (env : En) (h : Hd) (g : SS) : andThen (.ok (.nx env) h) g = g env h := id rfl
@[simp] theorem andThen_ret (d : D) (h : Hd) (g : SS) : andThen (.ok (.ret d) h) g = .ok (.ret d) h := id rfl
@[simp] theorem andThen_brk (env : En) (h : Hd) (g : SS) : andThen (.ok (.brk env) h) g = .ok (.brk env) h := id rfl
@[simp] theorem andThen_ct (env : En) (h : Hd) (g : SS) : andThen (.ok (.ct env) h) g = .ok (.ct env) h := id rfl
@[simp] theorem andThen_exc (c fs) (env : En) (h : Hd) (g : SS) : andThen (.ok (.exc c fs env) h) g = .ok (.exc c fs env) h := id rfl
def finR (r : Rs) : Res D := match r with
  | .ok (.nx _) h' => .ok .non h'
  | .ok (.ret d) h' => .ok d h'
  | .ok (.exc c fs _) h' => .exc c fs h'
  | _ => .stuck
@[simp] theorem finR_nx (env : En) (h : Hd) : finR (.ok (.nx env) h) = .ok .non h := id rfl
@[simp] theorem finR_ret (d : D) (h : Hd) : finR (.ok (.ret d) h) = .ok d h := id rfl
@[simp] theorem finR_exc (c fs) (env : En) (h : Hd) : finR (.ok (.exc c fs env) h) = .exc c fs h := id rfl
theorem defM_ev (n : Nat) (f : SS) (ds : List D) (h : Hd) : defM n f ds h = finR (f (startD n ds) h) := rfl
def onVar (o : Option (Option D)) (h : Hd) : Res D := match o with | some (some d) => .ok d h | _ => .stuck
@[simp] theorem onVar_some (d : D) (h : Hd) : onVar (some (some d)) h = .ok d h := id rfl
def nth : En → Nat → Option (Option D)
  | [], _ => none
  | a :: _, 0 => some a
  | _ :: l, n + 1 => nth l n
@[simp] theorem nth_zero (a : Option D) (l : En) : nth (a :: l) 0 = some a := id rfl
@[simp] theorem nth_succ (a : Option D) (l : En) (n : Nat) : nth (a :: l) (n + 1) = nth l n := id rfl
theorem nth_get : ∀ (env : En) (i : Nat), env[i]? = nth env i
  | [], _ => rfl
  | _ :: _, 0 => rfl
  | _ :: l, n + 1 => by rw [List.getElem?_cons_succ, nth_get l n]; rfl
@[simp] theorem ev_var (i : Nat) (env : En) (h : Hd) : sVar i env h = onVar (nth env i) h := by rw [← nth_get]; rfl
@[simp] theorem ev_c (d : D) (env : En) (h : Hd) : sC d env h = .ok d h := id rfl
@[simp] theorem ev_nil (env : En) (h : Hd) : sNil env h = .ok [] h := id rfl
@[simp] theorem ev_cons (f : SE) (g : SA) (env : En) (h : Hd) : sCons f g env h = (f env h).bind fun d h1 => (g env h1).bind fun ds h2 => .ok (d :: ds) h2 := id rfl
@[simp] theorem ev_2 (F : F2) (f g : SE) (env : En) (h : Hd) : s2 F f g env h = (f env h).bind fun x h1 => (g env h1).bind fun y h2 => F x y h2 := id rfl
@[simp] theorem ev_tup (f : SA) (env : En) (h : Hd) : sTup f env h = (f env h).bind fun ds h1 => guard' (ds.length ≤ LIM) (.ok (.tup ds) h1) := id rfl
@[simp] theorem ev_lst (f : SA) (env : En) (h : Hd) : sLst f env h = (f env h).bind fun ds h1 => guard' (ds.length ≤ LIM) (.ok ds h1) := id rfl
@[simp] theorem ev_new (f : SA) (env : En) (h : Hd) : sNew f env h = (f env h).bind fun ds h1 => .ok (.ref h1.length) (h1 ++ [.lst ds]) := id rfl
@[simp] theorem ev_test (f : SE) (env : En) (h : Hd) : sTest f env h = (f env h).bind fun d h1 => asBl d fun b => .ok b h1 := id rfl
@[simp] theorem ev_and (f g : SB) (env : En) (h : Hd) : sAnd f g env h = (f env h).bind fun b h1 => iteR b (g env h1) (.ok false h1) := id rfl
@[simp] theorem ev_or (f g : SB) (env : En) (h : Hd) : sOr f g env h = (f env h).bind fun b h1 => iteR b (.ok true h1) (g env h1) := id rfl
@[simp] theorem ev_not (f : SB) (env : En) (h : Hd) : sNot f env h = (f env h).bind fun b h1 => .ok (!b) h1 := id rfl
@[simp] theorem ev_ife (c : SB) (f g : SE) (env : En) (h : Hd) : sIfE c f g env h = (c env h).bind fun b h1 => iteR b (f env h1) (g env h1) := id rfl
@[simp] theorem ev_andV (f g : SE) (env : En) (h : Hd) : sAndV f g env h = (f env h).bind fun d h1 => asBl d fun b => iteR b (g env h1) (.ok (.bl false) h1) := id rfl
@[simp] theorem ev_orV (f g : SE) (env : En) (h : Hd) : sOrV f g env h = (f env h).bind fun d h1 => asBl d fun b => iteR b (.ok (.bl true) h1) (g env h1) := id rfl
@[simp] theorem ev_notV (f : SE) (env : En) (h : Hd) : sNotV f env h = (f env h).bind fun d h1 => asBl d fun b => .ok (.bl (!b)) h1 := id rfl
@[simp] theorem ev_next (env : En) (h : Hd) : sNext env h = .ok (.nx env) h := id rfl
@[simp] theorem ev_seq (f g : SS) (env : En) (h : Hd) : sSeq f g env h = andThen (f env h) g := id rfl
@[simp] theorem ev_ret (f : SE) (env : En) (h : Hd) : sRet f env h = (f env h).lift env fun d h1 => .ok (.ret d) h1 := id rfl
@[simp] theorem ev_retN (env : En) (h : Hd) : sRetN env h = .ok (.ret .non) h := id rfl
@[simp] theorem ev_brk (env : En) (h : Hd) : sBrk env h = .ok (.brk env) h := id rfl
@[simp] theorem ev_ct (env : En) (h : Hd) : sCt env h = .ok (.ct env) h := id rfl
@[simp] theorem ev_drop (f : SE) (env : En) (h : Hd) : sDrop f env h = (f env h).lift env fun _ h1 => .ok (.nx env) h1 := id rfl
@[simp] theorem ev_if (c : SB) (f g : SS) (env : En) (h : Hd) : sIf c f g env h = (c env h).lift env fun b h1 => iteR b (f env h1) (g env h1) := id rfl
@[simp] theorem ev_gN (i : Nat) (d : D) (env : En) (h : Hd) : gN i d env h = .ok (env.set i (some d)) h := id rfl
@[simp] theorem ev_gsub (fo fi : SE) (F : F3) (d : D) (env : En) (h : Hd) : gSub' fo fi F d env h = (fo env h).bind fun o h1 => (fi env h1).bind fun i h2 => (F o i d h2).bind fun _ h3 => .ok env h3 := id rfl
@[simp] theorem ev_gnil (env : En) (h : Hd) : gNil' [] env h = .ok env h := id rfl
@[simp] theorem ev_gcons (g : SG) (k : SGs) (d : D) (ds : List D) (env : En) (h : Hd) : gCons' g k (d :: ds) env h = (noX (g d env h)).bind fun env1 h1 => noX (k ds env1 h1) := id rfl
@[simp] theorem ev_gtp (n : Nat) (k : SGs) (ds : List D) (env : En) (h : Hd) : gTp n k (.tup ds) env h = guard' (ds.length = n) (k ds env h) := id rfl
@[simp] theorem ev_nox {α : Type} (a : α) (h : Hd) : noX (.ok a h) = .ok a h := id rfl
@[simp] theorem ev_asg (f : SE) (g : SG) (env : En) (h : Hd) : sAsg f g env h = (f env h).lift env fun d h1 => (noX (g d env h1)).lift env fun env' h2 => .ok (.nx env') h2 := id rfl
@[simp] theorem ev_call (F : FA) (a : SA) (env : En) (h : Hd) : sCall F a env h = (a env h).bind fun ds h1 => F ds h1 := id rfl
@[simp] theorem ev_callL (F : List D → Hd → Res (List D)) (a : SA) (env : En) (h : Hd) : sCallL F a env h = (a env h).bind fun ds h1 => F ds h1 := id rfl
@[simp] theorem ev_callN (F : List D → Hd → Res D) (a : SA) (env : En) (h : Hd) : sCallN F a env h = (a env h).bind fun ds h1 => F ds h1 := id rfl
@[simp] theorem ev_fn (n : Nat) (M : FA) (dds : List D) (a : SA) (env : En) (h : Hd) : sFn n M dds a env h = (a env h).bind fun ds h1 => guard' (ds.length + dds.length = n) (M (ds ++ dds) h1) := id rfl
@[simp] theorem ev_for (it : SI) (g : SG) (b : SS) (env : En) (h : Hd) : sFor it g b env h = (it env h).lift env fun j h1 => loopI j g b (turnsD j h1) 0 env h1 := id rfl
@[simp] theorem ev_val (f : SE) (env : En) (h : Hd) : sVal f env h = (f env h).bind fun d h1 => onSome (itOf d h1) fun it => .ok it h1 := by
  unfold sVal
  congr
  funext d h1
  cases itOf d h1 <;> rfl
@[simp] theorem ev_snap (f : SA) (env : En) (h : Hd) : sSnap f env h = (f env h).bind fun ds h1 => .ok (.snap ds) h1 := id rfl
@[simp] theorem ev_lc (it : SI) (g : SG) (t : SB) (f : SE) (vs : List Nat) (env : En) (h : Hd) : sLc it g t f vs env h = (it env h).bind fun j h1 => compI j g t f (wipeD env vs) (turnsD j h1) 0 0 h1 := id rfl
@[simp] theorem ev_yes (env : En) (h : Hd) : sYes env h = .ok true h := id rfl
@[simp] theorem ev_dict0 (env : En) (h : Hd) : sDict0 env h = .ok (.ref h.length) (h ++ [.dict []]) := id rfl
@[simp] theorem ev_dict (r : List (SE × SE)) (env : En) (h : Hd) : sDict r env h = (sPairs r env h).bind fun ds h1 => guard' (ds.length ≤ 15 ∧ (ds.all fun p => (keyD p.1).isSome) = true) (.ok (.ref h1.length) (h1 ++ [.dict (dmerge [] ds)])) := id rfl
@[simp] theorem ev_pairs0 (env : En) (h : Hd) : sPairs [] env h = .ok [] h := id rfl
@[simp] theorem ev_pairs (f g : SE) (r : List (SE × SE)) (env : En) (h : Hd) : sPairs ((f, g) :: r) env h = (f env h).bind fun k h1 => (g env h1).bind fun v h2 => (sPairs r env h2).bind fun ps h3 => .ok ((k, v) :: ps) h3 := id rfl
@[simp] theorem ev_par (is : List Nat) (a : SA) (env : En) (h : Hd) : sPar is a env h = (a env h).lift env fun ds h1 => if ds.length = is.length then .ok (.nx ((is.zip ds).foldl (fun e p => e.set p.1 (some p.2)) env)) h1 else .stuck := id rfl
@[simp] theorem ev_neg (f : SE) (env : En) (h : Hd) : sNeg f env h = (f env h).bind fun d h1 => asInt d fun i => .ok (.int (-i)) h1 := id rfl
/-! ### operators -/
theorem f2I_int (C : Int → Int → Bool) (g : Int → Int → D) (i j : Int) (h : Hd) : f2I C g (.int i) (.int j) h = guard' (C i j = true) (.ok (g i j) h) := rfl
@[simp] theorem addA_int (i j : Int) (h : Hd) : addA (.int i) (.int j) h = .ok (.int (i + j)) h := id rfl
@[simp] theorem addA_str (s t : String) (h : Hd) : addA (.str s) (.str t) h = guard' (s.length + t.length ≤ LIM) (.ok (.str (s ++ t)) h) := id rfl
@[simp] theorem addA_tup (s t : List D) (h : Hd) : addA (.tup s) (.tup t) h = guard' (s.length + t.length ≤ LIM) (.ok (.tup (s ++ t)) h) := id rfl
@[simp] theorem mulB_int (i j : Int) (h : Hd) (c : (-(18446744073709551616) < i ∧ i < 18446744073709551616) ∨ (-(18446744073709551616) < j ∧ j < 18446744073709551616)) : mulB (.int i) (.int j) h = .ok (.int (i * j)) h := by
  show (if ((decide (-(18446744073709551616) < i) && decide (i < 18446744073709551616)) || (decide (-(18446744073709551616) < j) && decide (j < 18446744073709551616))) = true then _ else _) = _
  rw [if_pos]
  simpa using c
@[simp] theorem modF_int (i j : Int) (h : Hd) (c : 0 < j) : modF (.int i) (.int j) h = .ok (.int (i % j)) h := by
  show (if decide (0 < j) = true then _ else _) = _
  rw [if_pos (by simpa using c)]
@[simp] theorem fdivF_int (i j : Int) (h : Hd) (c : 0 < j ∧ j < 1073741824) : fdivF (.int i) (.int j) h = .ok (.int (i / j)) h := by
  show (if (decide (0 < j) && decide (j < 1073741824)) = true then _ else _) = _
  rw [if_pos (by simpa using c)]
@[simp] theorem powF_int (i j : Int) (h : Hd) (c : 0 ≤ j ∧ j ≤ 1000000 ∧ i.natAbs < 18446744073709551616) : powF (.int i) (.int j) h = .ok (.int (i ^ j.toNat)) h := by
  show (if (decide (0 ≤ j) && decide (j ≤ 1000000) && decide (i.natAbs < 18446744073709551616)) = true then _ else _) = _
  rw [if_pos (by simpa [and_assoc] using c)]
@[simp] theorem subF_int (i j : Int) (h : Hd) : f2I yes2 (fun i j => .int (i - j)) (.int i) (.int j) h = .ok (.int (i - j)) h := id rfl
theorem beq_dec (i j : Int) : (i == j) = decide (i = j) := by
  by_cases e : i = j
  · subst e; simp
  · rw [decide_eq_false e, beq_eq_false_iff_ne.mpr e]
@[simp] theorem eqF_int (i j : Int) (h : Hd) : eqF (.int i) (.int j) h = .ok (.bl (decide (i = j))) h := by
  rw [← beq_dec]; rfl
@[simp] theorem neF_int (i j : Int) (h : Hd) : neF (.int i) (.int j) h = .ok (.bl (!decide (i = j))) h := by
  rw [← beq_dec]; rfl
theorem cmp_int {r : PyData → PyData → Bool} {b : Bool} (i j : Int) (h : Hd) (e : r (.int i) (.int j) = b) : f2P (cmpG r) (.int i) (.int j) h = .ok (.bl b) h := by
  subst e; rfl
@[simp] theorem ltF_int (i j : Int) (h : Hd) : ltF (.int i) (.int j) h = .ok (.bl (decide (i < j))) h := cmp_int i j h (PySem.W.dataLt_int i j)
@[simp] theorem gtF_int (i j : Int) (h : Hd) : gtF (.int i) (.int j) h = .ok (.bl (decide (j < i))) h := cmp_int i j h (PySem.W.dataLt_int j i)
@[simp] theorem leF_int (i j : Int) (h : Hd) : leF (.int i) (.int j) h = .ok (.bl (!decide (j < i))) h := cmp_int i j h (by rw [PySem.W.dataLt_int])
@[simp] theorem geF_int (i j : Int) (h : Hd) : geF (.int i) (.int j) h = .ok (.bl (!decide (i < j))) h := cmp_int i j h (by rw [PySem.W.dataLt_int])
@[simp] theorem isF_ev (x : D) (h : Hd) : isF x .non h = .ok (.bl (isNonD x)) h := id rfl
@[simp] theorem notF_ev (x : D) (h : Hd) : notF x .non h = .ok (.bl (!isNonD x)) h := id rfl
@[simp] theorem intF_int (i : Int) (h : Hd) : intF [.int i] h = .ok (.int i) h := id rfl
/-! ### places -/
def lk (h : Hd) (m : Nat) : Option O := h[m]?
theorem lk_def (h : Hd) (m : Nat) : h[m]? = lk h m := rfl
@[simp] theorem lk_set (h : Hd) (p q : Nat) (u : O) : lk (h.set p u) q = if p = q then (if p < h.length then some u else none) else lk h q := by
  unfold lk
  rw [List.getElem?_set]
@[simp] theorem lk_app (h : Hd) (q : Nat) (u : O) : lk (h ++ [u]) q = if q < h.length then lk h q else if q = h.length then some u else none := by
  unfold lk
  by_cases e : q < h.length
  · rw [if_pos e, List.getElem?_append_left e]
  · rw [if_neg e, List.getElem?_append_right (by omega)]
    by_cases e2 : q = h.length
    · subst e2; simp
    · rw [if_neg e2]; exact List.getElem?_eq_none (by simp; omega)
theorem lk_lt {h : Hd} {m : Nat} {o : O} (e : lk h m = some o) : m < h.length := lt_of_get e
def gO (o : Option O) (y : D) (h : Hd) : Res D := match o with
  | some (.lst ds) => asInt y fun i => onSome (atI ds i) fun d => .ok d h
  | some (.dict kvs) => onSome (keyD y) fun _ => onSome (dget kvs y) fun d => .ok d h
  | some (.lkd kvs) => onSome (keyD y) fun _ => onSome (dget kvs y) fun d => .ok d h
  | _ => .stuck
@[simp] theorem getF_ref (m : Nat) (y : D) (h : Hd) : getF (.ref m) y h = gO (lk h m) y h := by
  unfold getF lk
  cases e : h[m]? with
  | none => simp [gO, e, dixF, dictD]; rfl
  | some o => cases o <;> simp [gO, e, dixF, dictD, ixF, itemsD] <;> rfl
@[simp] theorem getF_tup (ds : List D) (i : Int) (h : Hd) : getF (.tup ds) (.int i) h = onSome (atI ds i) fun d => .ok d h := id rfl
@[simp] theorem gO_lst (ds : List D) (i : Int) (h : Hd) : gO (some (.lst ds)) (.int i) h = onSome (atI ds i) fun d => .ok d h := id rfl
@[simp] theorem gO_dict (kvs : List (D × D)) (s : String) (h : Hd) : gO (some (.dict kvs)) (.str s) h = onSome (dget kvs (.str s)) fun d => .ok d h := id rfl
def stO (o : Option O) (m : Nat) (i v : D) (h : Hd) : Res Unit := match o with
  | some (.lst ds) => asInt i fun k => onSome (ixN ds.length k) fun j => .ok () (h.set m (.lst (ds.set j v)))
  | some (.dict kvs) => onSome (keyD i) fun _ => guard' (kvs.length < LIM) (.ok () (h.set m (.dict (dput kvs i v))))
  | _ => .stuck
@[simp] theorem setF_ref (m : Nat) (i v : D) (h : Hd) : setF (.ref m) i v h = stO (lk h m) m i v h := by
  unfold setF lk
  cases e : h[m]? with
  | none => simp [stO, setD, onDict, e]
  | some o => cases o <;> simp [stO, e, setL, setD, onDict, onLst, asRef]
@[simp] theorem stO_lst (ds : List D) (m : Nat) (k : Int) (v : D) (h : Hd) : stO (some (.lst ds)) m (.int k) v h = onSome (ixN ds.length k) fun j => .ok () (h.set m (.lst (ds.set j v))) := id rfl
@[simp] theorem stO_dict (kvs : List (D × D)) (m : Nat) (s : String) (v : D) (h : Hd) : stO (some (.dict kvs)) m (.str s) v h = guard' (kvs.length < LIM) (.ok () (h.set m (.dict (dput kvs (.str s) v)))) := id rfl
def lnO (o : Option O) (h : Hd) : Res D := match o with
  | some (.lst ds) => .ok (.int ds.length) h
  | some (.dict ds) => .ok (.int ds.length) h
  | _ => .stuck
@[simp] theorem lenA_ref (m : Nat) (h : Hd) : lenA [.ref m] h = lnO (lk h m) h := by
  unfold lenA lk
  cases e : h[m]? with
  | none => simp [lnO, e, lenF, itemsD, onSome]
  | some o => cases o <;> simp [lnO, e, lenF, dlenF, itemsD, onSome, onDict]
@[simp] theorem lnO_lst (ds : List D) (h : Hd) : lnO (some (.lst ds)) h = .ok (.int ds.length) h := id rfl
@[simp] theorem lenA_tup (ds : List D) (h : Hd) : lenA [.tup ds] h = .ok (.int ds.length) h := id rfl
@[simp] theorem lenA_fls (ds : List D) (h : Hd) : lenA [.fls ds] h = .ok (.int ds.length) h := id rfl
def klO {β : Type} (o : Option O) (k : List D → Res β) : Res β := match o with | some (.lst ds) => k ds | _ => .stuck
@[simp] theorem onLst_ev {β : Type} (h : Hd) (m : Nat) (k : List D → Res β) : onLst h m k = klO (lk h m) k := id rfl
@[simp] theorem klO_lst {β : Type} (ds : List D) (k : List D → Res β) : klO (some (.lst ds)) k = k ds := id rfl
def kiO {β : Type} (o : Option O) (k : String → List (String × D) → Res β) : Res β := match o with | some (.ins c fs) => k c fs | _ => .stuck
@[simp] theorem onIns_ev {β : Type} (h : Hd) (m : Nat) (k : String → List (String × D) → Res β) : onIns h m k = kiO (lk h m) k := id rfl
@[simp] theorem kiO_ins {β : Type} (c : String) (fs : List (String × D)) (k : String → List (String × D) → Res β) : kiO (some (.ins c fs)) k = k c fs := id rfl
@[simp] theorem dget_cons (k' v : D) (r : List (D × D)) (k : D) : dget ((k', v) :: r) k = if keyEq k' k then some v else dget r k := id rfl
@[simp] theorem dget_nil (k : D) : dget [] k = none := id rfl
@[simp] theorem keyEq_str (s t : String) : keyEq (.str s) (.str t) = (s == t) := id rfl
@[simp] theorem keyEq_int (s t : Int) : keyEq (.int s) (.int t) = (s == t) := id rfl
@[simp] theorem keyD_str (s : String) : (keyD (.str s)).isSome = true := id rfl
@[simp] theorem guard_T {β : Type} (r : Res β) : guard' True r = r := id rfl
@[simp] theorem guard_T2 {β : Type} [Decidable True] (r : Res β) : guard' True r = r := if_pos trivial
/-! ### more words -/
@[simp] theorem ev_fld (o : SE) (f : String) (cs : List String) (env : En) (h : Hd) : sFld o f cs env h = (o env h).bind fun d h1 => asRef d fun r => onIns h1 r fun c fs => guard' (c ∈ cs) (onSome (fs.lookup f) fun v => .ok v h1) := id rfl
@[simp] theorem ev_setF (o : SE) (f : String) (cs : List String) (e : SE) (env : En) (h : Hd) : sSetF o f cs e env h = (e env h).lift env fun d h1 => (o env h1).lift env fun od h2 =>
  Res.lift (asRef od fun r => onIns h2 r fun c fs => guard' (c ∈ cs ∧ fs.length < 1000) (.ok () (h2.set r (.ins c (putD f d fs))))) env fun _ h3 => .ok (.nx env) h3 := rfl
@[simp] theorem ev_meth (mm : String) (T : MT) (o : SE) (a : SA) (env : En) (h : Hd) : sMeth mm T o a env h = (o env h).bind fun d h1 => asRef d fun r => onIns h1 r fun c fs => onSome (T c) fun t => guard' (fs.lookup mm = none) ((a env h1).bind fun ds h2 => guard' (ds.length + 1 + t.2.2.length = t.1) (t.2.1 (d :: ds ++ t.2.2) h2)) := id rfl
def onNon (v : D) (r : Res D) : Res D := match v with | .non => r | _ => .stuck
@[simp] theorem onNon_non (r : Res D) : onNon .non r = r := id rfl
@[simp] theorem ev_newI (c : String) (n : Nat) (M : FA) (dds : List D) (a : SA) (env : En) (h : Hd) : sNewI c n M dds a env h = (a env h).bind fun ds h1 => guard' (ds.length + 1 + dds.length = n) ((M (.ref h1.length :: (ds ++ dds)) (h1 ++ [.ins c []])).bind fun v h2 => onNon v (.ok (.ref h1.length) h2)) := by
  unfold sNewI
  congr
@[simp] theorem ev_isi (T : String) (f : SE) (env : En) (h : Hd) : sIsi T f env h = (f env h).bind fun d h1 => isiF T d h1 := id rfl
@[simp] theorem ev_isiT (T : List String) (f : SE) (env : En) (h : Hd) : sIsiT T f env h = (f env h).bind fun d h1 => isiTF T d h1 := id rfl
@[simp] theorem ev_raise (c : String) (ns : List String) (fa : SA) (env : En) (h : Hd) : sRaise c ns fa env h = (fa env h).lift env fun ds h1 => if ds.length = ns.length ∧ ds.length ≤ 900 then .ok (.exc c (ns.zip ds).reverse env) h1 else .stuck := id rfl
@[simp] theorem ev_append (f g : SE) (env : En) (h : Hd) : sAppend f g env h = (f env h).bind fun x h1 => asRef x fun m => onLst h1 m fun _ => (g env h1).bind fun d h2 => onLst h2 m fun ds => guard' (ds.length < LIM) (.ok .non (h2.set m (.lst (ds ++ [d])))) := id rfl
@[simp] theorem ev_lstRg (f : SE) (env : En) (h : Hd) : sLstRg f env h = (f env h).bind fun d h1 => asInt d fun b => guard' (-16777216 ≤ b ∧ b ≤ 16777216) (.ok (rangeL 0 b.toNat) h1) := id rfl
@[simp] theorem ev_chain (F F' : F2) (f g k : SE) (env : En) (h : Hd) : sChain F F' f g k env h = (f env h).bind fun x h1 => (g env h1).bind fun y h2 => (F x y h2).bind fun t h3 => asBl t fun b => iteR b ((k env h3).bind fun z h4 => F' y z h4) (.ok (.bl false) h3) := id rfl
def rg1 (d : D) (h : Hd) : Res ItD := asInt d fun j => guard' (-BIG ≤ j ∧ j < BIG) (.ok (.snap (rangeL 0 j.toNat)) h)
@[simp] theorem ev_range1 (f : SE) (env : En) (h : Hd) : sRange1 f env h = (f env h).bind fun d h1 => rg1 d h1 := by
  unfold sRange1
  congr
theorem big_a : -BIG ≤ 0 := by decide +kernel
theorem big_b : (1000000 : Int) ≤ BIG := by decide +kernel
@[simp] theorem rg1_int (j : Int) (h : Hd) (c : 0 ≤ j ∧ j < 1000000) : rg1 (.int j) h = .ok (.snap (rangeL 0 j.toNat)) h :=
  guard_true _ _ ⟨Int.le_trans big_a c.1, Int.lt_of_lt_of_le c.2 big_b⟩
@[simp] theorem loop_snap0 (g : SG) (b : SS) (ds : List D) (h1 : Hd) (env : En) (h : Hd) : loopI (.snap ds) g b (turnsD (.snap ds) h1) 0 env h = loopItems g b ds env h := loop_snap g b ds ds.length 0 env h rfl
@[simp] theorem comp_snap0 (g : SG) (t : SB) (f : SE) (ds : List D) (h1 : Hd) (env : En) (h : Hd) : compI (.snap ds) g t f env (turnsD (.snap ds) h1) 0 0 h = compItems g t f env ds 0 h := comp_snap g t f env ds ds.length 0 0 h rfl
/-! ### what comes out -/
def Tr {α : Type} (r : Res α) (Q : α → Hd → Prop) : Prop := match r with | .ok a h => Q a h | _ => False
@[simp] theorem Tr_ok {α : Type} (a : α) (h : Hd) (Q : α → Hd → Prop) : Tr (.ok a h) Q = Q a h := id rfl
theorem Tr.get {α : Type} {r : Res α} {Q : α → Hd → Prop} (t : Tr r Q) : ∃ a h, r = .ok a h ∧ Q a h := by
  cases r with
  | ok a h => exact ⟨a, h, rfl, t⟩
  | exc _ _ _ => exact t.elim
  | stuck => exact t.elim
end Kf
end
set_option maxHeartbeats 8000000
noncomputable section
namespace Kq
open PySem PySem.Spec L2 Kf
/-- a pen at p: its cells at c -/
def penO (c : Nat) (at' dg ct fo : Int) : O := .dict [(.str "cells", .ref c), (.str "at", .int at'), (.str "digits", .int dg), (.str "count", .int ct), (.str "fold", .int fo)]
structure IsPen (h : Hd) (p c n : Nat) : Prop where
  ex : ∃ (cells : List Int) (at' dg ct fo : Int), lk h p = some (penO c at' dg ct fo) ∧ lk h c = some (.lst (cells.map D.int)) ∧ c ≠ p ∧ 0 ≤ at' ∧ at' ≤ cells.length ∧ 0 ≤ dg ∧ 0 ≤ ct ∧ ct ≤ n ∧ 0 ≤ fo ∧ fo < 2147483648
theorem atI_map {cells : List Int} {i : Int} (h0 : 0 ≤ i) (h1 : i < cells.length) : atI (cells.map D.int) i = some (.int (cells[i.toNat]'(by omega))) := by
  unfold atI ixN
  rw [if_pos h0, if_pos (by simpa using h1)]
  simp
def drawC : SS :=
    (sSeq (sIf (sTest (s2 gtF (s2 getF (sVar 0) (sC (.str "digits"))) (sC (.int 0))))
    (sSeq (sAsg (s2 modF (sCall intF (sCons (s2 getF (sVar 0) (sC (.str "digits"))) sNil)) (sVar 1)) (gN 3))
    (sSeq (sAsg (s2 fdivF (s2 getF (sVar 0) (sC (.str "digits"))) (sVar 1)) (gSub' (sVar 0) (sC (.str "digits")) setF))
    (sRet (sVar 3))))
    sNext)
    (sSeq (sAsg (s2 addA (s2 addA (s2 getF (sVar 0) (sC (.str "fold"))) (s2 mulB (s2 getF (sVar 0) (sC (.str "count"))) (sC (.int 7907)))) (sC (.int 37))) (gN 4))
    (sRet (s2 modF (s2 fdivF (sCall intF (sCons (s2 modF (s2 powF (sVar 4) (sC (.int 17))) (sC (.int 2305843009213693951))) sNil)) (sC (.int 128))) (sVar 1)))))
def s_law_drawA : SS := (sAsg (s2 addA (s2 getF (sVar 0) (sC (.str "count"))) (sC (.int 1))) (gSub' (sVar 0) (sC (.str "count")) setF))
def s_law_drawB : SS := (sIf (sAnd (sTest (s2 eqF (s2 getF (sVar 0) (sC (.str "digits"))) (sC (.int 0)))) (sTest (s2 ltF (s2 getF (sVar 0) (sC (.str "at"))) (sCall lenA (sCons (s2 getF (sVar 0) (sC (.str "cells"))) sNil)))))
    (sSeq (sAsg (s2 getF (s2 getF (sVar 0) (sC (.str "cells"))) (s2 getF (sVar 0) (sC (.str "at")))) (gN 2))
    (sSeq (sAsg (s2 addA (s2 getF (sVar 0) (sC (.str "at"))) (sC (.int 1))) (gSub' (sVar 0) (sC (.str "at")) setF))
    (sIf (sTest (s2 geF (sVar 2) (s2 powF (sC (.int 10)) (sC (.int 18)))))
    (sAsg (s2 (f2I yes2 fun i j => .int (i - j)) (sVar 2) (s2 powF (sC (.int 10)) (sC (.int 18)))) (gSub' (sVar 0) (sC (.str "digits")) setF))
    (sAsg (s2 modF (sCall intF (sCons (s2 addA (s2 mulB (s2 getF (sVar 0) (sC (.str "fold"))) (sC (.int 69069))) (sVar 2)) sNil)) (sC (.int 2147483587))) (gSub' (sVar 0) (sC (.str "fold")) setF)))))
    sNext)
theorem draw_tr {h : Hd} {p c n : Nat} (P : IsPen h p c n) (hn : n < 1000000000) {many : Int} (h0 : 0 < many) (h1 : many < 1073741824) {Q : D → Hd → Prop}
    (kQ : ∀ (r : Int) (o : O), 0 ≤ r → r < many → IsPen (h.set p o) p c (n + 1) → Q (.int r) (h.set p o)) : Tr (M_law_draw [.ref p, .int many] h) Q := by
  obtain ⟨cells, at', dg, ct, fo, e1, e2, hc, a0, a1, d0, c0, c1, f0, f1⟩ := P.ex
  unfold penO at e1
  have hp := lk_lt e1
  have hcp : ¬ p = c := fun z => hc z.symm
  have pen : ∀ (at2 dg2 fo2 : Int), 0 ≤ at2 → at2 ≤ cells.length → 0 ≤ dg2 → 0 ≤ fo2 → fo2 < 2147483648 → IsPen (h.set p (penO c at2 dg2 (ct + 1) fo2)) p c (n + 1) := fun at2 dg2 fo2 q3 q4 q5 q6 q7 =>
    ⟨cells, at2, dg2, ct + 1, fo2, by simp [hp], by simp [hcp, e2], hc, q3, q4, q5, by omega, by omega, q6, q7⟩
  have m0 : ∀ x : Int, 0 ≤ x % many := fun x => Int.emod_nonneg _ (by omega)
  have m1 : ∀ x : Int, x % many < many := fun x => Int.emod_lt_of_pos _ h0
  have key : ∀ (at2 dg2 fo2 : Int) (u : Option D), 0 ≤ at2 → at2 ≤ cells.length → 0 ≤ dg2 → 0 ≤ fo2 → fo2 < 2147483648 → Tr (finR (drawC [some (.ref p), some (.int many), u, none, none] (h.set p (penO c at2 dg2 (ct + 1) fo2))))
      Q := by
    intro at2 dg2 fo2 u q3 q4 q5 q6 q7
    have := pen at2 dg2 fo2 q3 q4 q5 q6 q7
    have := pen at2 (dg2 / many) fo2 q3 q4 (Int.ediv_nonneg q5 (by omega)) q6 q7
    unfold penO at *
    by_cases hd : 0 < dg2
    · simp (disch := omega) [drawC, hp, hd, LIM_eq, dput, dhas]
      exact kQ _ _ (m0 _) (m1 _) (by assumption)
    · simp (disch := omega) [drawC, hp, hd, LIM_eq, dput, dhas]
      exact kQ _ _ (m0 _) (m1 _) (by assumption)
  have enter : ∀ Q, (Tr (finR (andThen (s_law_drawA [some (.ref p), some (.int many), none, none, none] h) (sSeq s_law_drawB drawC))) Q) → Tr (M_law_draw [.ref p, .int many] h) Q := fun Q z => z
  apply enter
  have eA : s_law_drawA [some (.ref p), some (.int many), none, none, none] h = .ok (.nx [some (.ref p), some (.int many), none, none, none]) (h.set p (penO c at' dg (ct + 1) fo)) := by
    unfold penO
    simp (disch := omega) [s_law_drawA, e1, hp, LIM_eq, dput, dhas]
  rw [eA, andThen_nx, ev_seq]
  by_cases hd : dg = 0
  · by_cases ha : at' < cells.length
    · have ea := atI_map a0 ha
      generalize cells[at'.toNat]'(by omega) = cell at ea
      by_cases hb : cell < 1000000000000000000
      · have := key (at' + 1) 0 ((fo * 69069 + cell) % 2147483587) (some (.int cell)) (by omega) (by omega) (by omega) (by omega) (by omega)
        unfold penO at *
        simp (disch := omega) [s_law_drawB, hp, LIM_eq, dput, dhas, hd, ha, ea, hb, hcp, e2]
        exact this
      · have := key (at' + 1) (cell - 1000000000000000000) fo (some (.int cell)) (by omega) (by omega) (by omega) (by omega) (by omega)
        unfold penO at *
        simp (disch := omega) [s_law_drawB, hp, LIM_eq, dput, dhas, hd, ha, ea, hb, hcp, e2]
        exact this
    · have := key at' 0 fo none (by omega) (by omega) (by omega) (by omega) (by omega)
      unfold penO at *
      simp (disch := omega) [s_law_drawB, hp, LIM_eq, dput, dhas, hd, ha, hcp, e2]
      exact this
  · have := key at' dg fo none (by omega) (by omega) (by omega) (by omega) (by omega)
    unfold penO at *
    simp (disch := omega) [s_law_drawB, hp, LIM_eq, dput, dhas, hd, hcp, e2]
    exact this
end Kq
end
set_option maxHeartbeats 8000000
noncomputable section
namespace Kq
open PySem PySem.Spec L2 Kf
theorem draw_ex {h : Hd} {p c n : Nat} (P : IsPen h p c n) (hn : n < 1000000000) {many : Int} (h0 : 0 < many) (h1 : many < 1073741824) :
    ∃ (r : Int) (o : O), M_law_draw [.ref p, .int many] h = .ok (.int r) (h.set p o) ∧ 0 ≤ r ∧ r < many ∧ IsPen (h.set p o) p c (n + 1) := by
  obtain ⟨a, h', e, r, o, e1, e2, q⟩ := (draw_tr P hn h0 h1 (Q := fun d h' => ∃ (r : Int) (o : O), d = .int r ∧ h' = h.set p o ∧ 0 ≤ r ∧ r < many ∧ IsPen (h.set p o) p c (n + 1)) fun r o a b q => ⟨r, o, rfl, rfl, a, b, q⟩).get
  subst e1 e2
  exact ⟨r, o, e, q⟩
theorem IsPen.lt {h : Hd} {p c n : Nat} (P : IsPen h p c n) : p < h.length := by
  obtain ⟨cells, at', dg, ct, fo, e1, _⟩ := P.ex
  exact lk_lt e1
theorem IsPen.ltc {h : Hd} {p c n : Nat} (P : IsPen h p c n) : c < h.length := by
  obtain ⟨cells, at', dg, ct, fo, _, e1, _⟩ := P.ex
  exact lk_lt e1
theorem IsPen.ne {h : Hd} {p c n : Nat} (P : IsPen h p c n) : c ≠ p := by
  obtain ⟨cells, at', dg, ct, fo, _, _, e1, _⟩ := P.ex
  exact e1
theorem IsPen.mono {h h' : Hd} {p c n n' : Nat} (P : IsPen h p c n) (hn : n ≤ n') (e1 : lk h' p = lk h p) (e2 : lk h' c = lk h c) : IsPen h' p c n' := by
  obtain ⟨cells, at', dg, ct, fo, q1, q2, q3, q4, q5, q6, q7, q8, q9⟩ := P.ex
  exact ⟨cells, at', dg, ct, fo, by rw [e1, q1], by rw [e2, q2], q3, q4, q5, q6, q7, by omega, q9⟩
/-- what stays: all but the places T -/
structure Fr (T : List Nat) (h h' : Hd) : Prop where
  len : h.length ≤ h'.length
  at_ : ∀ m, m < h.length → m ∉ T → lk h' m = lk h m
theorem Fr.refl {T : List Nat} {h : Hd} : Fr T h h := ⟨Nat.le_refl _, fun _ _ _ => rfl⟩
theorem Fr.trans {T : List Nat} {h h' h'' : Hd} (a : Fr T h h') (b : Fr T h' h'') : Fr T h h'' := ⟨Nat.le_trans a.len b.len, fun m hm hT => (b.at_ m (Nat.lt_of_lt_of_le hm a.len) hT).trans (a.at_ m hm hT)⟩
theorem Fr.sub {T T' : List Nat} {h h' : Hd} (a : Fr T h h') (s : ∀ m, m ∈ T → m ∈ T') : Fr T' h h' := ⟨a.len, fun m hm hT => a.at_ m hm fun z => hT (s m z)⟩
theorem Fr.get {T : List Nat} {h h' : Hd} {m : Nat} {o : O} (a : Fr T h h') (e : lk h m = some o) (hT : m ∉ T) : lk h' m = some o := (a.at_ m (lk_lt e) hT).trans e
theorem Fr.set {T : List Nat} {h : Hd} {p : Nat} {o : O} (hp : p ∈ T) : Fr T h (h.set p o) := ⟨by simp, fun m _ hT => by
  rw [lk_set, if_neg]
  intro z; subst z; exact hT hp⟩
theorem Fr.app {T : List Nat} {h : Hd} {o : O} : Fr T h (h ++ [o]) := ⟨by simp, fun m hm _ => by rw [lk_app, if_pos hm]⟩
theorem Fr.pen {h h' : Hd} {T : List Nat} {p c n : Nat} (a : Fr T h h') (P : IsPen h p c n) (h1 : p ∉ T) (h2 : c ∉ T) : IsPen h' p c n := P.mono (Nat.le_refl _) (a.at_ p P.lt h1) (a.at_ c P.ltc h2)
/-! ### flat data -/
def Dk (k : Nat) (d : D) : Prop := ∃ q, ∀ h n, k ≤ n → py h n d = some q
theorem Dk.up {k j : Nat} {d : D} (h : Dk k d) (e : k ≤ j) : Dk j d := by
  obtain ⟨q, z⟩ := h
  exact ⟨q, fun h n hn => z h n (by omega)⟩
theorem dk_int {i : Int} : Dk 1 (.int i) := ⟨.int i, fun h n hn => by cases n with | zero => omega | succ n => rfl⟩
theorem dk_str {i : String} : Dk 1 (.str i) := ⟨.str (Str.ofString i), fun h n hn => by cases n with | zero => omega | succ n => rfl⟩
theorem dk_bl {i : Bool} : Dk 1 (.bl i) := ⟨.bool i, fun h n hn => by cases n with | zero => omega | succ n => rfl⟩
theorem dk_non : Dk 1 .non := ⟨.none, fun h n hn => by cases n with | zero => omega | succ n => rfl⟩
theorem dk_all {k : Nat} : ∀ {ds : List D}, (∀ d ∈ ds, Dk k d) → ∃ qs, ∀ h n, k ≤ n → allS (ds.map (py h n)) = some qs
  | [], _ => ⟨[], fun _ _ _ => rfl⟩
  | d :: ds, z => by
    obtain ⟨q, e⟩ := z d List.mem_cons_self
    obtain ⟨qs, es⟩ := dk_all fun x hx => z x (List.mem_cons_of_mem _ hx)
    refine ⟨q :: qs, fun h n hn => ?_⟩
    rw [List.map_cons, e h n hn]
    show (allS (ds.map (py h n))).map (q :: ·) = _
    rw [es h n hn]; rfl
theorem dk_tup {k : Nat} {ds : List D} (z : ∀ d ∈ ds, Dk k d) : Dk (k + 1) (.tup ds) := by
  obtain ⟨qs, e⟩ := dk_all z
  refine ⟨.tuple qs, fun h n hn => ?_⟩
  obtain ⟨m, rfl⟩ : ∃ m, n = m + 1 := ⟨n - 1, by omega⟩
  show (allS (ds.map (py h m))).map PyData.tuple = _
  rw [e h m (by omega)]; rfl
/-- a value of the menus: flat data, or a list of such -/
inductive Val (h : Hd) : D → Prop where
  | flat {d : D} : Dk 10 d → Val h d
  | lst {m : Nat} {ds : List D} : lk h m = some (.lst ds) → (∀ d ∈ ds, Dk 10 d) → Val h (.ref m)
theorem Val.fr {h h' : Hd} {T : List Nat} {d : D} (v : Val h d) (f : Fr T h h') (hT : ∀ m, d = .ref m → m ∉ T) : Val h' d := by
  cases v with
  | flat k => exact .flat k
  | @lst m ds e k => exact .lst (f.get e (hT m rfl)) k
/-! ### a pick -/
theorem atI_mem {ds : List D} {i : Int} (h0 : 0 ≤ i) (h1 : i < ds.length) : ∃ d, atI ds i = some d ∧ d ∈ ds := by
  unfold atI ixN
  rw [if_pos h0, if_pos (by simpa using h1)]
  have : i.toNat < ds.length := by omega
  exact ⟨ds[i.toNat], by simp [this], List.getElem_mem _⟩
theorem pick_ex {h : Hd} {p c n m : Nat} (P : IsPen h p c n) (hn : n < 1000000000) {ds : List D} (e : lk h m = some (.lst ds)) (hm : m ≠ p) (h0 : 0 < ds.length) (h1 : ds.length < 1000000) :
    ∃ (d : D) (o : O), M_law_pick [.ref p, .ref m] h = .ok d (h.set p o) ∧ d ∈ ds ∧ IsPen (h.set p o) p c (n + 1) := by
  obtain ⟨r, o, e1, r0, r1, P1⟩ := draw_ex P hn (many := (ds.length : Int)) (by omega) (by omega)
  obtain ⟨d, ed, hd⟩ := atI_mem r0 r1
  refine ⟨d, o, ?_, hd, P1⟩
  have hpm : ¬ p = m := fun z => hm z.symm
  simp [M_law_pick, defM_ev, s_law_pick, startD, e, e1, hpm, ed, guard_true]
end Kq
end
set_option maxHeartbeats 8000000
noncomputable section
namespace Kq
open PySem PySem.Spec L2 Kf
@[simp] theorem itOf_tup (ds : List D) (h : Hd) : itOf (.tup ds) h = some (.snap ds) := id rfl
@[simp] theorem itOf_fls (ds : List D) (h : Hd) : itOf (.fls ds) h = some (.snap ds) := id rfl
def ivO (o : Option O) (m : Nat) : Option ItD := match o with | some (.lst _) => some (.live m) | _ => none
@[simp] theorem itOf_ref (m : Nat) (h : Hd) : itOf (.ref m) h = ivO (lk h m) m := id rfl
@[simp] theorem ivO_lst (m : Nat) (ds : List D) : ivO (some (.lst ds)) m = some (.live m) := id rfl
@[simp] theorem loopItems_nil (g : SG) (b : SS) (env : En) (h : Hd) : loopItems g b [] env h = .ok (.nx env) h := id rfl
/-- a turn's end -/
def turnE (r : Rs) (k : En → Hd → Rs) : Rs := match r with
  | .ok (.nx env2) h2 => k env2 h2
  | .ok (.ct env2) h2 => k env2 h2
  | .ok (.brk env2) h2 => .ok (.nx env2) h2
  | r => r
@[simp] theorem turnE_nx (env : En) (h : Hd) (k : En → Hd → Rs) : turnE (.ok (.nx env) h) k = k env h := id rfl
@[simp] theorem turnE_ret (d : D) (h : Hd) (k : En → Hd → Rs) : turnE (.ok (.ret d) h) k = .ok (.ret d) h := id rfl
theorem loopItems_cons (g : SG) (b : SS) (d : D) (ds : List D) (env : En) (h : Hd) : loopItems g b (d :: ds) env h = (noX (g d env h)).lift env fun env1 h1 => turnE (b env1 h1) fun env2 h2 => loopItems g b ds env2 h2 := by
  conv => lhs; unfold loopItems
  congr
@[simp] theorem listF_fls (ds : List D) (h : Hd) : listF [.fls ds] h = .ok ds h := id rfl
@[simp] theorem listF_tup (ds : List D) (h : Hd) : listF [.tup ds] h = .ok ds h := id rfl
def itemsO (o : Option O) : Option (List D) := match o with | some (.lst ds) => some ds | _ => none
@[simp] theorem itemsO_lst (ds : List D) : itemsO (some (.lst ds)) = some ds := id rfl
@[simp] theorem listF_ref (m : Nat) (h : Hd) : listF [.ref m] h = onSome (itemsO (lk h m)) fun es => .ok es h := id rfl
@[simp] theorem tupF_ref (m : Nat) (h : Hd) : tupF [.ref m] h = onSome (itemsO (lk h m)) fun es => .ok (.tup es) h := id rfl
/-! ### the pen -/
def penB : SS := (sAsg (s2 modF (sCall intF (sCons (s2 addA (s2 mulB (sVar 1) (sC (.int 41))) (sVar 2)) sNil)) (sC (.int 1000000007))) (gN 1))
theorem pen_loop (a : Option D) (h : Hd) : ∀ (ns : List Int) (f : Int) (x : Option D), 0 ≤ f → f < 1000000007 → ∃ (f' : Int) (x' : Option D), 0 ≤ f' ∧ f' < 1000000007 ∧
    loopItems (gN 2) penB (ns.map D.int) [a, some (.int f), x] h = .ok (.nx [a, some (.int f'), x']) h
  | [], f, x, q1, q2 => ⟨f, x, q1, q2, rfl⟩
  | i :: ns, f, x, q1, q2 => by
    obtain ⟨f', x', r1, r2, r3⟩ := pen_loop a h ns ((f * 41 + i) % 1000000007) (some (.int i)) (by omega) (by omega)
    refine ⟨f', x', r1, r2, ?_⟩
    rw [List.map_cons, loopItems_cons]
    simp (disch := omega) [penB]
    exact r3
theorem pen_ex (ns : List Int) : ∃ h', M_law_pen [.fls (ns.map D.int)] [] = .ok (.ref 1) h' ∧ IsPen h' 1 0 0 ∧ h'.length = 2 := by
  obtain ⟨f, x, q1, q2, q3⟩ := pen_loop (some (.fls (ns.map D.int))) [] ns 0 none (by omega) (by omega)
  have e : M_law_pen [.fls (ns.map D.int)] [] = .ok (.ref 1) [.lst (ns.map D.int), penO 0 0 0 0 f] := by
    unfold penB at q3
    simp [M_law_pen, defM_ev, s_law_pen, startD, q3, guard_true, dmerge, dput, dhas, penO, keyD]
  exact ⟨_, e, ⟨ns, 0, 0, 0, f, rfl, rfl, by decide, by omega, by omega, by omega, by omega, by omega, q1, by omega⟩, rfl⟩
end Kq
end
set_option maxHeartbeats 8000000
noncomputable section
namespace Kq
open PySem PySem.Spec L2 Kf
theorem comp_pure {it : ItD} {g : SG} {t : SB} {f : SE} {env : En} {h : Hd} {β : D → Bool} {φ : D → D} : ∀ (ds : List D) (m i n : Nat), (∀ j, nextD it h (i + j) = some ds[j]?) → ds.length < m → n + ds.length ≤ LIM →
    (∀ d ∈ ds, ∃ env1, g d env h = .ok env1 h ∧ t env1 h = .ok (β d) h ∧ (β d = true → f env1 h = .ok (φ d) h)) → compI it g t f env m i n h = .ok ((ds.filter β).map φ) h
  | [], m, i, n, hn, hm, _, _ => by
    obtain ⟨m, rfl⟩ : ∃ k, m = k + 1 := ⟨m - 1, by simp at hm; omega⟩
    unfold compI
    rw [show nextD it h i = some none by simpa using hn 0]
    rfl
  | d :: ds, m, i, n, hn, hm, hl, hp => by
    obtain ⟨m, rfl⟩ : ∃ k, m = k + 1 := ⟨m - 1, by simp at hm; omega⟩
    have hm' : ds.length < m := by simp at hm; omega
    have hl' : n + ds.length + 1 ≤ LIM := by simp at hl; omega
    have hn' : ∀ j, nextD it h (i + 1 + j) = some ds[j]? := fun j => by
      have := hn (j + 1)
      rw [show i + 1 + j = i + (j + 1) by omega]
      simpa using this
    have ih := fun n (q : n + ds.length ≤ LIM) => comp_pure ds m (i + 1) n hn' hm' q fun x hx => hp x (List.mem_cons_of_mem _ hx)
    obtain ⟨env1, e1, e2, e3⟩ := hp d List.mem_cons_self
    unfold compI
    rw [show nextD it h i = some (some d) by simpa using hn 0]
    dsimp only
    rw [e1, ev_nox, Res.bind_ok, e2, ev_nox, Res.bind_ok]
    cases hb : β d with
    | true =>
      rw [if_pos rfl, e3 hb, ev_nox, Res.bind_ok, if_pos (by omega), ih (n + 1) (by omega)]
      simp [List.filter_cons, hb]
    | false =>
      rw [if_neg (by simp), ih n (by omega)]
      simp [List.filter_cons, hb]
theorem comp_snapP {g : SG} {t : SB} {f : SE} {env : En} {h : Hd} {h1 : Hd} {β : D → Bool} {φ : D → D} (ds : List D) (hl : ds.length ≤ LIM)
    (hp : ∀ d ∈ ds, ∃ env1, g d env h = .ok env1 h ∧ t env1 h = .ok (β d) h ∧ (β d = true → f env1 h = .ok (φ d) h)) : compI (.snap ds) g t f env (turnsD (.snap ds) h1) 0 0 h = .ok ((ds.filter β).map φ) h :=
  comp_pure ds _ 0 0 (fun j => by rw [Nat.zero_add]; rfl) (Nat.lt_succ_self _) (by omega) hp
theorem comp_liveP {g : SG} {t : SB} {f : SE} {env : En} {h : Hd} {m : Nat} {β : D → Bool} {φ : D → D} (ds : List D) (e : lk h m = some (.lst ds)) (hl : ds.length ≤ LIM)
    (hp : ∀ d ∈ ds, ∃ env1, g d env h = .ok env1 h ∧ t env1 h = .ok (β d) h ∧ (β d = true → f env1 h = .ok (φ d) h)) : compI (.live m) g t f env (turnsD (.live m) h) 0 0 h = .ok ((ds.filter β).map φ) h := by
  have e' : h[m]? = some (.lst ds) := e
  refine comp_pure ds _ 0 0 (fun j => ?_) ?_ (by omega) hp
  · rw [Nat.zero_add]; simp [nextD, e']
  · simp [turnsD, e']
theorem rangeL_mem {n : Nat} {d : D} (h : d ∈ rangeL 0 n) : ∃ k : Nat, k < n ∧ d = .int k := by
  unfold rangeL at h
  simp at h
  obtain ⟨k, hk, rfl⟩ := h
  exact ⟨k, hk, by simp⟩
theorem rangeL_len (n : Nat) : (rangeL 0 n).length = n := by simp [rangeL]
theorem rangeL_dk {n : Nat} : ∀ d ∈ rangeL 0 n, Dk 1 d := fun d hd => by
  obtain ⟨k, _, rfl⟩ := rangeL_mem hd
  exact dk_int
/-- many draws -/
theorem comp_draws {p c : Nat} {a : En} {many : Int} (h0 : 0 < many) (h1 : many < 1073741824) (f : SE) (hf : ∀ env1 h, (∃ x, env1 = some (.ref p) :: x) → f env1 h = M_law_draw [.ref p, .int many] h) (i : Nat) (hi : 0 < i) : ∀ (ds : List D) (n k : Nat) (h : Hd), IsPen h p c n → n + ds.length < 1000000 → k + ds.length ≤ LIM →
    ∃ (o : O) (out : List Int), compItems (gN i) sYes f (some (.ref p) :: a) ds k h = .ok (out.map D.int) (h.set p o) ∧ out.length = ds.length ∧ IsPen (h.set p o) p c (n + ds.length)
  | [], n, k, h, P, _, _ => by
    obtain ⟨cells, at', dg, ct, fo, q1, _⟩ := P.ex
    refine ⟨penO c at' dg ct fo, [], ?_, rfl, ?_⟩
    · have : h.set p (penO c at' dg ct fo) = h := by
        apply List.ext_getElem?
        intro j
        have := lk_set h p j (penO c at' dg ct fo)
        unfold lk at this q1
        rw [this]
        by_cases e : p = j
        · subst e; rw [if_pos rfl, if_pos P.lt, q1]
        · rw [if_neg e]
      rw [this]; rfl
    · refine P.mono (by simp) ?_ ?_
      · rw [lk_set, if_pos rfl, if_pos P.lt, q1]
      · rw [lk_set, if_neg (fun z => P.ne z.symm)]
  | d :: ds, n, k, h, P, hn, hk => by
    simp only [List.length_cons] at hn hk
    obtain ⟨r, o, e1, r0, r1, P1⟩ := draw_ex P (by omega) h0 h1
    obtain ⟨o2, out, e2, e3, e4⟩ := comp_draws h0 h1 f hf i hi ds (n + 1) (k + 1) _ P1 (by omega) (by omega)
    refine ⟨o2, r :: out, ?_, by simp [e3], ?_⟩
    · unfold compItems
      have hg : (some (D.ref p) :: a).set i (some d) = some (.ref p) :: a.set (i - 1) (some d) := by
        obtain ⟨j, rfl⟩ : ∃ j, i = j + 1 := ⟨i - 1, by omega⟩
        rfl
      rw [ev_gN, ev_nox, Res.bind_ok, ev_yes, ev_nox, Res.bind_ok, if_pos rfl, hf _ _ ⟨_, hg⟩, e1, ev_nox, Res.bind_ok, if_pos (by omega), e2, Res.bind_ok, List.set_set]
      rfl
    · rw [List.set_set] at e4
      have : n + 1 + ds.length = n + (d :: ds).length := by simp; omega
      rw [← this]; exact e4
end Kq
end
set_option maxHeartbeats 8000000
noncomputable section
namespace Kq
open PySem PySem.Spec L2 Kf
@[simp] theorem compItems_nil (g : SG) (t : SB) (f : SE) (env : En) (n : Nat) (h : Hd) : compItems g t f env [] n h = .ok [] h := id rfl
theorem comp_itemsP {g : SG} {t : SB} {f : SE} {env : En} {h : Hd} {β : D → Bool} {φ : D → D} (ds : List D) (hl : ds.length ≤ LIM)
    (hp : ∀ d ∈ ds, ∃ env1, g d env h = .ok env1 h ∧ t env1 h = .ok (β d) h ∧ (β d = true → f env1 h = .ok (φ d) h)) : compItems g t f env ds 0 h = .ok ((ds.filter β).map φ) h := by
  rw [← comp_snapP (h1 := h) ds hl hp, comp_snap0]
@[simp] theorem wipeD_one (env : En) (v : Nat) : wipeD env [v] = env.set v none := id rfl
@[simp] theorem wipeD_two (env : En) (v w : Nat) : wipeD env [v, w] = (env.set w none).set v none := id rfl
theorem lk_append (h l : Hd) (q : Nat) : lk (h ++ l) q = if q < h.length then lk h q else l[q - h.length]? := by
  unfold lk
  by_cases e : q < h.length
  · rw [if_pos e, List.getElem?_append_left e]
  · rw [if_neg e, List.getElem?_append_right (by omega)]
section
variable {h : Hd} {p c n mw : Nat} {r r2 : Int} {o o2 o3 : O} {out out2 : List Int}
theorem lot_a (e1 : M_law_draw [.ref p, .int 8] h = .ok (.int r) (h.set p o)) (a0 : r = 0) : M_law_kp_lot [.ref p, .int mw] h = .ok (.ref (h.set p o).length) (h.set p o ++ [.lst []]) := by
  simp (disch := omega) [M_law_kp_lot, defM_ev, s_law_kp_lot, startD, guard_true, e1, a0]
theorem lot_b (e1 : M_law_draw [.ref p, .int 8] h = .ok (.int r) (h.set p o)) (hw : mw < 10000) (a0 : ¬ r = 0) (z : r = 1) : M_law_kp_lot [.ref p, .int mw] h = .ok (.ref (h.set p o).length) (h.set p o ++ [.lst (rangeL 0 mw)]) := by
  simp (disch := omega) [M_law_kp_lot, defM_ev, s_law_kp_lot, startD, guard_true, e1, a0, z]
theorem lot_c (e1 : M_law_draw [.ref p, .int 8] h = .ok (.int r) (h.set p o)) (a0 : ¬ r = 0) (z : ¬ r = 1) : M_law_kp_lot [.ref p, .int (0 : Nat)] h = .ok (.ref (h.set p o).length) (h.set p o ++ [.lst (rangeL 0 0)]) := by
  simp (disch := omega) [M_law_kp_lot, defM_ev, s_law_kp_lot, startD, guard_true, e1, a0, z]
theorem lot_d (e1 : M_law_draw [.ref p, .int 8] h = .ok (.int r) (h.set p o)) (e2 : M_law_draw [.ref p, .int mw] (h.set p o) = .ok (.int r2) (h.set p o2)) (b2 : ¬ mw = 0) (a2 : r = 2) : M_law_kp_lot [.ref p, .int mw] h = .ok (.ref (h.set p o2).length) (h.set p o2 ++ [.lst [.int r2]]) := by
  simp (disch := omega) [M_law_kp_lot, defM_ev, s_law_kp_lot, startD, guard_true, e1, e2, b2, a2, LIM_eq]
abbrev exB (r2 : Int) : D → Bool := fun d => match d with | .int k => !decide (k = r2) | _ => false
theorem lot_e (e1 : M_law_draw [.ref p, .int 8] h = .ok (.int r) (h.set p o)) (e2 : M_law_draw [.ref p, .int mw] (h.set p o) = .ok (.int r2) (h.set p o2)) (hw : mw < 10000) (b2 : ¬ mw = 0) (a3 : r = 3) :
    M_law_kp_lot [.ref p, .int mw] h = .ok (.ref (h.set p o2).length) (h.set p o2 ++ [.lst (((rangeL 0 mw).filter (exB r2)).map id)]) := by
  have C : ∀ (a b x y z : Option D), compItems (gN 5) (sTest (s2 neF (sVar 5) (sVar 3))) (sVar 5) [a, b, x, some (.int r2), y, none, z] (rangeL 0 mw) 0 (h.set p o2) =
      .ok (((rangeL 0 mw).filter (exB r2)).map id) (h.set p o2) := fun a b x y z => by
    refine comp_itemsP _ (by rw [rangeL_len, LIM_eq]; omega) fun d hd => ?_
    obtain ⟨k, hk, rfl⟩ := rangeL_mem hd
    exact ⟨_, rfl, by simp, fun _ => by simp⟩
  simp (disch := omega) [M_law_kp_lot, defM_ev, s_law_kp_lot, startD, guard_true, e1, e2, a3, b2, C]
theorem lot_f (e1 : M_law_draw [.ref p, .int 8] h = .ok (.int r) (h.set p o)) (e2 : M_law_draw [.ref p, .int mw] (h.set p o) = .ok (.int r2) (h.set p o2)) (hw : mw < 10000) (a0 : ¬ r = 0) (b1 : ¬ r = 1) (b2 : ¬ mw = 0) (a2 : ¬ r = 2) (a3 : ¬ r = 3)
    (e3 : compItems (gN 6) sYes (sFn 2 M_law_draw [] (sCons (sVar 0) (sCons (sC (.int 2)) sNil))) [some (.ref p), some (.int mw), some (.int r), some (.int r2), none, none, none] (rangeL 0 mw) 0 (h.set p o2) = .ok (out.map D.int) (h.set p o3))
    {out2 : List D} (c3 : compItems (gN 5) (sTest (s2 eqF (s2 getF (sVar 4) (sVar 5)) (sC (.int 1)))) (sVar 5) [some (.ref p), some (.int mw), some (.int r), some (.int r2), some (.ref h.length), none, none] (rangeL 0 mw) 0 (h.set p o3 ++ [.lst (out.map D.int)]) =
      .ok out2 (h.set p o3 ++ [.lst (out.map D.int)])) :
    M_law_kp_lot [.ref p, .int mw] h = .ok (.ref (h.length + 1)) (h.set p o3 ++ [.lst (out.map D.int)] ++ [.lst out2]) := by
  simp (disch := omega) [M_law_kp_lot, defM_ev, s_law_kp_lot, startD, guard_true, e1, e2, a0, b1, a2, a3, b2, e3, c3]
end
theorem lot_ex {h : Hd} {p c n : Nat} (P : IsPen h p c n) (hn : n < 900000) {mw : Nat} (hw : mw < 10000) :
    ∃ (m : Nat) (ds : List D) (h' : Hd) (n' : Nat), M_law_kp_lot [.ref p, .int mw] h = .ok (.ref m) h' ∧ Fr [p] h h' ∧ h.length ≤ m ∧ lk h' m = some (.lst ds) ∧ (∀ d ∈ ds, Dk 1 d) ∧ ds.length ≤ mw + 1 ∧ IsPen h' p c n' ∧ n' ≤ n + mw + 2 := by
  obtain ⟨r, o, e1, r0, r1, P1⟩ := draw_ex P (by omega) (many := 8) (by omega) (by omega)
  have hp := P.lt
  have fin : ∀ (ds : List D) (o' : O) (n' : Nat), (∀ d ∈ ds, Dk 1 d) → ds.length ≤ mw + 1 → IsPen (h.set p o') p c n' → n' ≤ n + mw + 2 → M_law_kp_lot [.ref p, .int mw] h = .ok (.ref (h.set p o').length) (h.set p o' ++ [.lst ds]) →
      ∃ (m : Nat) (ds : List D) (h' : Hd) (n' : Nat), M_law_kp_lot [.ref p, .int mw] h = .ok (.ref m) h' ∧ Fr [p] h h' ∧ h.length ≤ m ∧ lk h' m = some (.lst ds) ∧ (∀ d ∈ ds, Dk 1 d) ∧ ds.length ≤ mw + 1 ∧ IsPen h' p c n' ∧ n' ≤ n + mw + 2 := fun ds o' n' a b q l e =>
    ⟨_, ds, _, n', e, (Fr.set (by simp)).trans .app, by simp, by simp, a, b, (Fr.app (T := [])).pen q (by simp) (by simp), l⟩
  have fl : ∀ β : D → Bool, (∀ d ∈ ((rangeL 0 mw).filter β).map id, Dk 1 d) ∧ (((rangeL 0 mw).filter β).map id).length ≤ mw := fun β => by
    rw [List.map_id]
    exact ⟨fun d hd => rangeL_dk d (List.mem_filter.mp hd).1, Nat.le_trans (List.length_filter_le _ _) (Nat.le_of_eq (rangeL_len mw))⟩
  by_cases a0 : r = 0
  · exact fin [] o (n + 1) (by simp) (by simp) P1 (by omega) (lot_a e1 a0)
  by_cases b1 : r = 1
  · exact fin (rangeL 0 mw) o (n + 1) rangeL_dk (by rw [rangeL_len]; omega) P1 (by omega) (lot_b e1 hw a0 b1)
  by_cases b2 : mw = 0
  · subst b2
    exact fin (rangeL 0 0) o (n + 1) rangeL_dk (by rw [rangeL_len]; omega) P1 (by omega) (lot_c e1 a0 b1)
  obtain ⟨r2, o2, e2, r20, r21, P2⟩ := draw_ex P1 (by omega) (many := mw) (by omega) (by omega)
  rw [List.set_set] at e2 P2
  by_cases a2 : r = 2
  · exact fin [.int r2] o2 (n + 2) (fun d hd => by simp at hd; subst hd; exact dk_int) (by simp) P2 (by omega) (lot_d e1 e2 b2 a2)
  by_cases a3 : r = 3
  · exact fin _ o2 (n + 2) (fl _).1 (by have := (fl (exB r2)).2; omega) P2 (by omega) (lot_e e1 e2 hw b2 a3)
  obtain ⟨o3, out, e3, e4, P3⟩ := comp_draws (p := p) (c := c) (a := [some (.int mw), some (.int r), some (.int r2), none, none, none]) (many := 2) (by omega) (by omega) (sFn 2 M_law_draw [] (sCons (sVar 0) (sCons (sC (.int 2)) sNil)))
    (fun env1 h ⟨x, e⟩ => by subst e; simp [guard_true]) 6 (by omega) (rangeL 0 mw) (n + 2) 0 (h.set p o2) P2 (by rw [rangeL_len]; omega) (by rw [rangeL_len, LIM_eq]; omega)
  rw [List.set_set] at e3 P3
  rw [rangeL_len] at e4 P3
  have F3 : ∀ k : Nat, k < mw → ∃ v, atI (out.map D.int) (k : Int) = some (.int v) := fun k hk => ⟨_, atI_map (by omega) (by omega)⟩
  have C : compItems (gN 5) (sTest (s2 eqF (s2 getF (sVar 4) (sVar 5)) (sC (.int 1)))) (sVar 5) [some (.ref p), some (.int mw), some (.int r), some (.int r2), some (.ref h.length), none, none] (rangeL 0 mw) 0 (h.set p o3 ++ [.lst (out.map D.int)]) =
      .ok (((rangeL 0 mw).filter fun d => match d with | .int k => (match atI (out.map D.int) k with | some (.int v) => decide (v = 1) | _ => false) | _ => false).map id) (h.set p o3 ++ [.lst (out.map D.int)]) :=
    comp_itemsP _ (by rw [rangeL_len, LIM_eq]; omega) fun d hd => by
      obtain ⟨k, hk, rfl⟩ := rangeL_mem hd
      obtain ⟨v, ev⟩ := F3 k hk
      exact ⟨_, rfl, by simp [ev], fun _ => by simp⟩
  have q := fl fun d => match d with | .int k => (match atI (out.map D.int) k with | some (.int v) => decide (v = 1) | _ => false) | _ => false
  refine ⟨_, _, _, n + 2 + mw, lot_f e1 e2 hw a0 b1 b2 a2 a3 e3 C, ((Fr.set (o := o3) (by simp)).trans .app).trans .app, by omega, ?_, q.1, by have := q.2; omega, (Fr.app (T := [])).pen ((Fr.app (T := [])).pen P3 (by simp) (by simp)) (by simp) (by simp), by omega⟩
  rw [lk_app, if_neg (by simp), if_pos (by simp)]
end Kq
end
set_option maxHeartbeats 8000000
noncomputable section
namespace Kq
open PySem PySem.Spec L2 Kf
theorem drawF {h : Hd} {p c n : Nat} (P : IsPen h p c n) (hn : n < 1000000000) {many : Int} (h0 : 0 < many) (h1 : many < 1073741824) :
    ∃ (r : Int) (h' : Hd), M_law_draw [.ref p, .int many] h = .ok (.int r) h' ∧ 0 ≤ r ∧ r < many ∧ IsPen h' p c (n + 1) ∧ Fr [p] h h' := by
  obtain ⟨r, o, e, a, b, q⟩ := draw_ex P hn h0 h1
  exact ⟨r, _, e, a, b, q, .set (by simp)⟩
theorem pickF {h : Hd} {p c n m : Nat} (P : IsPen h p c n) (hn : n < 1000000000) {ds : List D} (e : lk h m = some (.lst ds)) (hm : m ≠ p) (h0 : 0 < ds.length) (h1 : ds.length < 1000000) :
    ∃ (d : D) (h' : Hd), M_law_pick [.ref p, .ref m] h = .ok d h' ∧ d ∈ ds ∧ IsPen h' p c (n + 1) ∧ Fr [p] h h' := by
  obtain ⟨d, o, e, a, q⟩ := pick_ex P hn e hm h0 h1
  exact ⟨d, _, e, a, q, .set (by simp)⟩
theorem Fr.apps {T : List Nat} {h l : Hd} : Fr T h (h ++ l) := ⟨by simp, fun m hm _ => by rw [lk_append, if_pos hm]⟩
def ownO (b w : Nat) (f t : D) : O := .dict [(.str "blocks", .ref b), (.str "waiting", .ref w), (.str "fuse", f), (.str "told", t)]
/-- what is a place in the heap lies behind k -/
def Ge (k : Nat) (x : D) : Prop := ∀ m, x = .ref m → k ≤ m
theorem Ge.mono {k j : Nat} {x : D} (g : Ge k x) (e : j ≤ k) : Ge j x := fun m hm => Nat.le_trans e (g m hm)
/-- a lot is not long -/
def Lt (h : Hd) (x : D) : Prop := match x with
  | .tup ds => ds.length < 20000
  | .fls ds => ds.length < 20000
  | .ref m => ∃ ds, lk h m = some (.lst ds) ∧ ds.length < 20000
  | _ => True
inductive IsDeed (k0 : Nat) (h : Hd) : D → Prop where
  | read {x : D} : Val h x → Ge k0 x → IsDeed k0 h (.tup [.str "read", x])
  | spoil {x v : D} : Val h x → Ge k0 x → Dk 4 v → IsDeed k0 h (.tup [.str "spoil", x, v])
  | write {x v : D} : Val h x → Ge k0 x → Dk 4 v → IsDeed k0 h (.tup [.str "write", x, v])
  | flush : IsDeed k0 h (.tup [.str "flush", .non])
  | fuse {x : D} : Dk 10 x → IsDeed k0 h (.tup [.str "fuse", x])
  | wipe : IsDeed k0 h (.tup [.str "wipe", .non])
  | fall {x : D} : Val h x → Ge k0 x → Lt h x → IsDeed k0 h (.tup [.str "fall", x])
/-- what a deed's drawing leaves -/
def DeedQ (p c n k : Nat) (h : Hd) (r : Res D) : Prop := ∃ (d : D) (h' : Hd) (n' : Nat), r = .ok d h' ∧ Fr [p] h h' ∧ IsPen h' p c n' ∧ n' ≤ n + k ∧ IsDeed h.length h' d
abbrev conts (k : Int) : List D := [.tup [.int k], .tup [.int k, .str "a"], .tup [], .tup [.tup [.int k, .int 0], .non]]
theorem conts_dk {k : Int} : ∀ d ∈ conts k, Dk 4 d := fun d hd => by
  simp at hd
  rcases hd with e | e | e | e <;> subst e
  · exact (dk_tup (k := 1) (fun x hx => by simp at hx; subst hx; exact dk_int)).up (by omega)
  · exact (dk_tup (k := 1) (fun x hx => by simp at hx; rcases hx with e | e <;> subst e <;> first | exact dk_int | exact dk_str)).up (by omega)
  · exact (dk_tup (k := 1) (fun x hx => by simp at hx)).up (by omega)
  · exact (dk_tup (k := 2) (fun x hx => by
      simp at hx
      rcases hx with e | e <;> subst e
      · exact dk_tup (k := 1) (fun y hy => by simp at hy; rcases hy with e | e <;> subst e <;> exact dk_int)
      · exact dk_non.up (by omega))).up (by omega)
section
variable {h h1 h2 h3 : Hd} {p c n o b w sz : Nat} {f t : D} {bs ws : List D} {r1 r2 r3 k : Int}
/-- behind the place: read, spoil, write -/
def deedP : SS := (sSeq (sIf (sTest (s2 gtF (sVar 5) (sC (.int 9))))
    (sRet (sTup (sCons (sC (.str "read")) (sCons (sVar 7) sNil))))
    sNext)
    (sSeq (sAsg (sNew (sLst (sCons (sTup (sCons (sVar 2) sNil)) (sCons (sTup (sCons (sVar 2) (sCons (sC (.str "a")) sNil))) (sCons (sTup sNil) (sCons (sTup (sCons (sTup (sCons (sVar 2) (sCons (sC (.int 0)) sNil))) (sCons (sC .non) sNil))) sNil)))))) (gN 8))
    (sSeq (sIf (sTest (s2 eqF (sVar 5) (sC (.int 9))))
    (sRet (sTup (sCons (sC (.str "spoil")) (sCons (sVar 7) (sCons (sFn 2 M_law_pick [] (sCons (sVar 0) (sCons (s2 addA (sVar 8) (sNew (sLst (sCons (sC .non) sNil)))) sNil))) sNil)))))
    sNext)
    (sRet (sTup (sCons (sC (.str "write")) (sCons (sVar 7) (sCons (sFn 2 M_law_pick [] (sCons (sVar 0) (sCons (sVar 8) sNil))) sNil))))))))
theorem Val.frp {x : D} (v : Val h x) (P : IsPen h p c n) (F : Fr [p] h h1) : Val h1 x := by
  refine v.fr F fun m e z => ?_
  subst e
  cases v with
  | flat q => obtain ⟨q, z⟩ := q; have := z [] 10 (by omega); simp [py] at this
  | lst e1 _ =>
    simp at z; subst z
    obtain ⟨_, _, _, _, _, e2, _⟩ := P.ex
    rw [e1] at e2; cases e2
theorem Lt.frp {x : D} (v : Lt h x) (P : IsPen h p c n) (F : Fr [p] h h1) : Lt h1 x := by
  cases x with
  | ref m =>
    obtain ⟨ds, e, l⟩ := v
    refine ⟨ds, F.get e fun z => ?_, l⟩
    simp at z; subst z
    obtain ⟨_, _, _, _, _, e2, _⟩ := P.ex
    rw [e] at e2; cases e2
  | _ => exact v
@[simp] theorem addA_ref (m k : Nat) (h : Hd) : addA (.ref m) (.ref k) h = klO (lk h m) fun xs => klO (lk h k) fun ys => guard' (xs.length + ys.length ≤ LIM) (.ok (.ref h.length) (h ++ [.lst (xs ++ ys)])) := id rfl
theorem deedP_ex {k0 : Nat} (P : IsPen h p c n) (hn : n < 900000) (x : D) (v : Val h x) (gx : Ge k0 x) (a1 a3 a4 a6 a8 a9 : Option D) : ∃ (d : D) (h' : Hd) (n' : Nat), deedP [some (.ref p), a1, some (.int k), a3, a4, some (.int r1), a6, some x, a8, a9] h = .ok (.ret d) h' ∧ Fr [p] h h' ∧ IsPen h' p c n' ∧ n' ≤ n + 1 ∧ IsDeed k0 h' d := by
  have hp := P.lt
  by_cases g : 9 < r1
  · exact ⟨.tup [.str "read", x], h, n, by simp (disch := omega) [deedP, g, LIM_eq], .refl, P, by omega, .read v gx⟩
  · by_cases g2 : r1 = 9
    · obtain ⟨d, h', e, hd, P', F'⟩ := pickF (h := h ++ [.lst (conts k), .lst [.non], .lst (conts k ++ [.non])]) (m := h.length + 2) ((Fr.apps (T := [])).pen P (by simp) (by simp)) (by omega) (ds := conts k ++ [.non]) (by rw [lk_append, if_neg (by omega), Nat.add_sub_cancel_left]; rfl) (by omega) (by simp) (by simp)
      refine ⟨.tup [.str "spoil", x, d], h', n + 1, ?_, Fr.trans .apps F', P', by omega, .spoil ((v.fr (Fr.apps (T := [])) (by simp)).frp ((Fr.apps (T := [])).pen P (by simp) (by simp)) F') gx ?_⟩
      · simp (disch := omega) [deedP, g, g2, LIM_eq, guard_true, lk_append]
        simp at e
        simp [e]
      · rcases List.mem_append.mp hd with z | z
        · exact conts_dk d z
        · simp at z; subst z; exact dk_non.up (by omega)
    · obtain ⟨d, h', e, hd, P', F'⟩ := pickF (h := h ++ [.lst (conts k)]) (m := h.length) ((Fr.app (T := [])).pen P (by simp) (by simp)) (by omega) (ds := conts k) (by simp) (by omega) (by simp) (by simp)
      exact ⟨.tup [.str "write", x, d], h', n + 1, by simp (disch := omega) [deedP, g, g2, LIM_eq, guard_true, e], Fr.trans .app F', P', by omega, .write ((v.fr (Fr.app (T := [])) (by simp)).frp ((Fr.app (T := [])).pen P (by simp) (by simp)) F') gx (conts_dk d hd)⟩
end
end Kq
end
set_option maxHeartbeats 8000000
noncomputable section
namespace Kq
open PySem PySem.Spec L2 Kf
def deedA : SS := (sAsg (sTup (sCons (sCall lenA (sCons (s2 getF (sVar 1) (sC (.str "blocks"))) sNil)) (sCons (sCall lenA (sCons (s2 getF (sVar 1) (sC (.str "waiting"))) sNil)) (sCons (sFn 2 M_law_draw [] (sCons (sVar 0) (sCons (sC (.int 20)) sNil))) (sCons (s2 eqF (sFn 2 M_law_draw [] (sCons (sVar 0) (sCons (sC (.int 8)) sNil))) (sC (.int 0))) sNil))))) (gTp 4 (gCons' (gN 3) (gCons' (gN 4) (gCons' (gN 5) (gCons' (gN 6) gNil'))))))
def deedD : SS := (sAsg (sFn 2 M_law_draw [] (sCons (sVar 0) (sCons (sVar 3) sNil))) (gN 7))
def deedO : SS := (sIf (sTest (sVar 6))
    (sAsg (sFn 2 M_law_pick [] (sCons (sVar 0) (sCons (sNew (sLst (sCons (sNeg (sC (.int 1))) (sCons (sVar 3) (sCons (s2 addA (sVar 3) (sC (.int 1))) (sCons (sNeg (sVar 3)) (sCons (s2 powF (sC (.int 10)) (sC (.int 30))) (sCons (sC .non) (sCons (sC (.bl true)) (sCons (sC (.str "0")) (sCons (sTup (sCons (sC (.int 0)) sNil)) (sCons (sNew (sLst sNil)) sNil)))))))))))) sNil))) (gN 7))
    sNext)
def deedU : SS := (sIf (sTest (s2 ltF (sVar 5) (sC (.int 16))))
    (sRet (sTup (sCons (sC (.str "fuse")) (sCons (sFn 2 M_law_pick [] (sCons (sVar 0) (sCons (sIfE (sTest (sVar 6)) (sNew (sLst (sCons (sNeg (sC (.int 1))) (sCons (sC (.str "1")) (sCons (sC (.bl true)) (sCons (sTup (sCons (sC (.int 1)) sNil)) sNil)))))) (sNew (sLst (sCons (sC .non) (sCons (sC (.int 0)) (sCons (sC (.int 1)) (sCons (sC (.int 2)) (sCons (sC (.int 3)) (sCons (sC (.int 5)) (sCons (s2 powF (sC (.int 10)) (sC (.int 20))) sNil)))))))))) sNil))) sNil))))
    sNext)
def deedL : SS := (sSeq (sAsg (sFn 2 M_law_kp_lot [] (sCons (sVar 0) (sCons (sVar 4) sNil))) (gN 9))
    (sSeq (sIf (sTest (sVar 6))
    (sAsg (sFn 2 M_law_pick [] (sCons (sVar 0) (sCons (sNew (sLst (sCons (sNew (sLst (sCons (sVar 4) sNil))) (sCons (sNew (sLst (sCons (sNeg (sC (.int 1))) sNil))) (sCons (sNew (sLst (sCons (sC (.int 0)) (sCons (sC (.int 0)) sNil)))) (sCons (sNew (sLst (sCons (sC (.int 1)) (sCons (sC (.int 0)) sNil)))) (sCons (sNew (sLst (sCons (sC .non) sNil))) (sCons (sNew (sLst (sCons (sC (.str "0")) sNil))) (sCons (sNew (sLst (sCons (sC (.bl true)) sNil))) (sCons (sC .non) (sCons (sC (.int 0)) (sCons (sC (.str "0")) (sCons (s2 addA (sVar 9) (sNew (sLst (sCons (sVar 4) sNil)))) (sCons (sTup (sCons (sVar 4) sNil)) sNil)))))))))))))) sNil))) (gN 9))
    (sIf (sTest (s2 eqF (sFn 2 M_law_draw [] (sCons (sVar 0) (sCons (sC (.int 3)) sNil))) (sC (.int 0))))
    (sAsg (sCall tupF (sCons (sVar 9) sNil)) (gN 9))
    sNext))
    (sRet (sTup (sCons (sC (.str "fall")) (sCons (sVar 9) sNil))))))
theorem deed_eq : M_law_disk_deed = defM 10 (sSeq deedA (sSeq (sIf (sTest (s2 ltF (sVar 5) (sC (.int 12)))) (sSeq deedD (sSeq deedO deedP)) sNext)
    (sSeq (sIf (sTest (s2 ltF (sVar 5) (sC (.int 14)))) (sRet (sTup (sCons (sC (.str "flush")) (sCons (sC .non) sNil)))) sNext) (sSeq deedU
    (sSeq (sIf (sAnd (sTest (s2 eqF (sVar 5) (sC (.int 19)))) (sNot (sTest (sVar 6)))) (sRet (sTup (sCons (sC (.str "wipe")) (sCons (sC .non) sNil)))) sNext) deedL))))) := rfl
theorem dk_one (x : D) (q : Dk 1 x) : Dk 2 (.tup [x]) := dk_tup (k := 1) fun y hy => by simp at hy; subst hy; exact q
section
variable {h : Hd} {p c n o b w sz mw : Nat} {f t : D} {r1 k : Int} {odd : Bool}
theorem deedA_ex {bs ws : List D} (P : IsPen h p c n) (hn : n < 900000) (eo : lk h o = some (ownO b w f t)) (eb : lk h b = some (.lst bs)) (ew : lk h w = some (.lst ws)) (ho : o ≠ p) (hb : b ≠ p) (hw : w ≠ p) :
    ∃ (r1 : Int) (odd : Bool) (h' : Hd), deedA [some (.ref p), some (.ref o), some (.int k), none, none, none, none, none, none, none] h = .ok (.nx [some (.ref p), some (.ref o), some (.int k), some (.int bs.length), some (.int ws.length), some (.int r1), some (.bl odd), none, none, none]) h' ∧ Fr [p] h h' ∧ IsPen h' p c (n + 2) := by
  obtain ⟨r1, h1, e1, _, _, P1, F1⟩ := drawF P (by omega) (many := 20) (by omega) (by omega)
  obtain ⟨r2, h2, e2, _, _, P2, F2⟩ := drawF P1 (by omega) (many := 8) (by omega) (by omega)
  refine ⟨r1, decide (r2 = 0), h2, ?_, F1.trans F2, P2⟩
  simp (disch := omega) [deedA, eo, ownO, eb, ew, LIM_eq, guard_true, e1, e2]
theorem deedD_ex (P : IsPen h p c n) (hn : n < 900000) (h0 : 0 < sz) (h1 : sz < 10000) (a1 a2 a4 a5 a6 a7 a8 a9 : Option D) :
    ∃ (r : Int) (h' : Hd), deedD [some (.ref p), a1, a2, some (.int sz), a4, a5, a6, a7, a8, a9] h = .ok (.nx [some (.ref p), a1, a2, some (.int sz), a4, a5, a6, some (.int r), a8, a9]) h' ∧ Fr [p] h h' ∧ IsPen h' p c (n + 1) := by
  obtain ⟨r, h1, e1, _, _, P1, F1⟩ := drawF P (by omega) (many := sz) (by omega) (by omega)
  exact ⟨r, h1, by simp (disch := omega) [deedD, guard_true, e1], F1, P1⟩
abbrev places (sz : Int) (m : Nat) : List D := [.int (-1), .int sz, .int (sz + 1), .int (-sz), .int 1000000000000000000000000000000, .non, .bl true, .str "0", .tup [.int 0], .ref m]
theorem deedO_ex (P : IsPen h p c n) (hn : n < 900000) (a1 a2 a4 a5 a8 a9 : Option D) {x : D} (v : Val h x) (gx : Ge h.length x) :
    ∃ (y : D) (h' : Hd), deedO [some (.ref p), a1, a2, some (.int sz), a4, a5, some (.bl odd), some x, a8, a9] h = .ok (.nx [some (.ref p), a1, a2, some (.int sz), a4, a5, some (.bl odd), some y, a8, a9]) h' ∧ Fr [p] h h' ∧ IsPen h' p c (n + 1) ∧ Val h' y ∧ Ge h.length y := by
  have hp := P.lt
  cases odd with
  | false => exact ⟨x, h, by simp [deedO], .refl, P.mono (by omega) rfl rfl, v, gx⟩
  | true =>
    have PA := (Fr.apps (T := []) (h := h) (l := [.lst [], .lst (places sz h.length)])).pen P (by simp) (by simp)
    obtain ⟨d, h', e, hd, P', F'⟩ := pickF (h := h ++ [.lst [], .lst (places sz h.length)]) (m := h.length + 1) PA (by omega) (ds := places sz h.length) (by rw [lk_append, if_neg (by omega), Nat.add_sub_cancel_left]; rfl) (by omega) (by simp) (by simp)
    refine ⟨d, h', by simp (disch := omega) [deedO, LIM_eq, guard_true, e], Fr.trans .apps F', P', Val.frp ?_ PA F', ?_⟩
    rotate_left
    · intro m e
      subst e
      simp only [places, List.mem_cons, List.not_mem_nil, or_false] at hd
      simp at hd
      omega
    have s : ∀ y, Dk 2 y → Val (h ++ [.lst [], .lst (places sz h.length)]) y := fun y q => .flat (q.up (by omega))
    simp only [places, List.mem_cons, List.not_mem_nil, or_false] at hd
    rcases hd with e | e | e | e | e | e | e | e | e | e <;> subst e
    · exact s _ (dk_int.up (by omega))
    · exact s _ (dk_int.up (by omega))
    · exact s _ (dk_int.up (by omega))
    · exact s _ (dk_int.up (by omega))
    · exact s _ (dk_int.up (by omega))
    · exact s _ (dk_non.up (by omega))
    · exact s _ (dk_bl.up (by omega))
    · exact s _ (dk_str.up (by omega))
    · exact s _ (dk_one _ dk_int)
    · exact .lst (ds := []) (by rw [lk_append, if_neg (by omega), Nat.sub_self]; rfl) (by simp)
theorem deedU_ex (P : IsPen h p c n) (hn : n < 900000) (a1 a2 a3 a4 a7 a8 a9 : Option D) (g : r1 < 16) :
    ∃ (y : D) (h' : Hd), deedU [some (.ref p), a1, a2, a3, a4, some (.int r1), some (.bl odd), a7, a8, a9] h = .ok (.ret (.tup [.str "fuse", y])) h' ∧ Fr [p] h h' ∧ IsPen h' p c (n + 1) ∧ Dk 10 y := by
  have hp := P.lt
  cases odd with
  | true =>
    obtain ⟨d, h', e, hd, P', F'⟩ := pickF (h := h ++ [.lst [.int (-1), .str "1", .bl true, .tup [.int 1]]]) (m := h.length) ((Fr.app (T := [])).pen P (by simp) (by simp)) (by omega) (ds := [.int (-1), .str "1", .bl true, .tup [.int 1]]) (by simp) (by omega) (by simp) (by simp)
    refine ⟨d, h', by simp (disch := omega) [deedU, LIM_eq, guard_true, e, g], Fr.trans .app F', P', ?_⟩
    simp only [List.mem_cons, List.not_mem_nil, or_false] at hd
    rcases hd with e | e | e | e <;> subst e
    · exact dk_int.up (by omega)
    · exact dk_str.up (by omega)
    · exact dk_bl.up (by omega)
    · exact (dk_one _ dk_int).up (by omega)
  | false =>
    obtain ⟨d, h', e, hd, P', F'⟩ := pickF (h := h ++ [.lst [.non, .int 0, .int 1, .int 2, .int 3, .int 5, .int 100000000000000000000]]) (m := h.length) ((Fr.app (T := [])).pen P (by simp) (by simp)) (by omega) (ds := [.non, .int 0, .int 1, .int 2, .int 3, .int 5, .int 100000000000000000000]) (by simp) (by omega) (by simp) (by simp)
    refine ⟨d, h', by simp (disch := omega) [deedU, LIM_eq, guard_true, e, g], Fr.trans .app F', P', ?_⟩
    simp only [List.mem_cons, List.not_mem_nil, or_false] at hd
    rcases hd with e | e | e | e | e | e | e <;> subst e
    · exact dk_non.up (by omega)
    all_goals exact dk_int.up (by omega)
end
end Kq
end
set_option maxHeartbeats 8000000
noncomputable section
namespace Kq
open PySem PySem.Spec L2 Kf
def deedL2 : SS := (sAsg (sFn 2 M_law_pick [] (sCons (sVar 0) (sCons (sNew (sLst (sCons (sNew (sLst (sCons (sVar 4) sNil))) (sCons (sNew (sLst (sCons (sNeg (sC (.int 1))) sNil))) (sCons (sNew (sLst (sCons (sC (.int 0)) (sCons (sC (.int 0)) sNil)))) (sCons (sNew (sLst (sCons (sC (.int 1)) (sCons (sC (.int 0)) sNil)))) (sCons (sNew (sLst (sCons (sC .non) sNil))) (sCons (sNew (sLst (sCons (sC (.str "0")) sNil))) (sCons (sNew (sLst (sCons (sC (.bl true)) sNil))) (sCons (sC .non) (sCons (sC (.int 0)) (sCons (sC (.str "0")) (sCons (s2 addA (sVar 9) (sNew (sLst (sCons (sVar 4) sNil)))) (sCons (sTup (sCons (sVar 4) sNil)) sNil)))))))))))))) sNil))) (gN 9))
theorem deedL_eq : deedL = (sSeq (sAsg (sFn 2 M_law_kp_lot [] (sCons (sVar 0) (sCons (sVar 4) sNil))) (gN 9))
    (sSeq (sIf (sTest (sVar 6)) deedL2
    (sIf (sTest (s2 eqF (sFn 2 M_law_draw [] (sCons (sVar 0) (sCons (sC (.int 3)) sNil))) (sC (.int 0)))) (sAsg (sCall tupF (sCons (sVar 9) sNil)) (gN 9)) sNext))
    (sRet (sTup (sCons (sC (.str "fall")) (sCons (sVar 9) sNil)))))) := rfl
section
variable {h : Hd} {p c n o b w sz mw : Nat} {f t : D} {r1 k : Int} {odd : Bool}
/-- the lists that deedL lays for its odd pick; l: where the first lies -/
abbrev lotA (mw : Int) (ds : List D) : List O := [.lst [.int mw], .lst [.int (-1)], .lst [.int 0, .int 0], .lst [.int 1, .int 0], .lst [.non], .lst [.str "0"], .lst [.bl true], .lst [.int mw], .lst (ds ++ [.int mw])]
abbrev lotM (mw : Int) (l : Nat) : List D := [.ref l, .ref (l + 1), .ref (l + 2), .ref (l + 3), .ref (l + 4), .ref (l + 5), .ref (l + 6), .non, .int 0, .str "0", .ref (l + 8), .tup [.int mw]]
theorem lotM_val {mw : Int} {ds : List D} (hds : ∀ d ∈ ds, Dk 1 d) : ∀ d ∈ lotM mw h.length, Val (h ++ (lotA mw ds ++ [.lst (lotM mw h.length)])) d := by
  intro d hd
  have at_ : ∀ (j : Nat) (es : List D), (lotA mw ds ++ [.lst (lotM mw h.length)])[j]? = some (.lst es) → (∀ e ∈ es, Dk 10 e) → Val (h ++ (lotA mw ds ++ [.lst (lotM mw h.length)])) (.ref (h.length + j)) := fun j es e q =>
    .lst (ds := es) (by rw [lk_append, if_neg (by omega), Nat.add_sub_cancel_left]; exact e) q
  have i1 : ∀ i : Int, ∀ e ∈ [D.int i], Dk 10 e := fun i e he => by simp at he; subst he; exact dk_int.up (by omega)
  simp only [lotM, List.mem_cons, List.not_mem_nil, or_false] at hd
  rcases hd with e | e | e | e | e | e | e | e | e | e | e | e <;> subst e
  · exact at_ 0 _ rfl (i1 _)
  · exact at_ 1 _ rfl (i1 _)
  · exact at_ 2 _ rfl fun e he => by simp at he; subst he; exact dk_int.up (by omega)
  · exact at_ 3 _ rfl fun e he => by simp at he; rcases he with z | z <;> subst z <;> exact dk_int.up (by omega)
  · exact at_ 4 _ rfl fun e he => by simp at he; subst he; exact dk_non.up (by omega)
  · exact at_ 5 _ rfl fun e he => by simp at he; subst he; exact dk_str.up (by omega)
  · exact at_ 6 _ rfl fun e he => by simp at he; subst he; exact dk_bl.up (by omega)
  · exact .flat (dk_non.up (by omega))
  · exact .flat (dk_int.up (by omega))
  · exact .flat (dk_str.up (by omega))
  · exact at_ 8 _ rfl fun e he => by
      rcases List.mem_append.mp he with z | z
      · exact (hds e z).up (by omega)
      · exact i1 _ e z
  · exact .flat ((dk_one _ dk_int).up (by omega))
theorem lotM_ge {mw : Int} {k : Nat} : ∀ d ∈ lotM mw k, Ge k d := by
  intro d hd m e
  subst e
  simp [lotM] at hd
  omega
theorem lotM_lt {mw : Int} {ds : List D} (hl : ds.length < 10002) : ∀ d ∈ lotM mw h.length, Lt (h ++ (lotA mw ds ++ [.lst (lotM mw h.length)])) d := by
  intro d hd
  have at_ : ∀ (j : Nat) (es : List D), (lotA mw ds ++ [.lst (lotM mw h.length)])[j]? = some (.lst es) → es.length < 20000 → Lt (h ++ (lotA mw ds ++ [.lst (lotM mw h.length)])) (.ref (h.length + j)) := fun j es e q =>
    ⟨es, by rw [lk_append, if_neg (by omega), Nat.add_sub_cancel_left]; exact e, q⟩
  simp only [lotM, List.mem_cons, List.not_mem_nil, or_false] at hd
  rcases hd with e | e | e | e | e | e | e | e | e | e | e | e <;> subst e
  · exact at_ 0 _ rfl (by simp)
  · exact at_ 1 _ rfl (by simp)
  · exact at_ 2 _ rfl (by simp)
  · exact at_ 3 _ rfl (by simp)
  · exact at_ 4 _ rfl (by simp)
  · exact at_ 5 _ rfl (by simp)
  · exact at_ 6 _ rfl (by simp)
  · trivial
  · trivial
  · trivial
  · exact at_ 8 _ rfl (by simp; omega)
  · show [D.int mw].length < 20000
    simp
theorem deedL2_ex {m : Nat} {ds : List D} (P : IsPen h p c n) (hn : n < 900000) (em : lk h m = some (.lst ds)) (hds : ∀ d ∈ ds, Dk 1 d) (hl : ds.length < 10002) (a1 a2 a3 a5 a6 a7 a8 : Option D) :
    ∃ (x : D) (h' : Hd), deedL2 [some (.ref p), a1, a2, a3, some (.int mw), a5, a6, a7, a8, some (.ref m)] h = .ok (.nx [some (.ref p), a1, a2, a3, some (.int mw), a5, a6, a7, a8, some x]) h' ∧ Fr [p] h h' ∧ IsPen h' p c (n + 1) ∧ Val h' x ∧ Ge h.length x ∧ Lt h' x := by
  have hp := P.lt
  have hm := lk_lt em
  have PA := (Fr.apps (T := []) (h := h) (l := lotA mw ds ++ [.lst (lotM mw h.length)])).pen P (by simp) (by simp)
  obtain ⟨d, h', e, hd, P', F'⟩ := pickF (h := h ++ (lotA mw ds ++ [.lst (lotM mw h.length)])) (m := h.length + 9) PA (by omega) (ds := lotM mw h.length) (by rw [lk_append, if_neg (by omega), Nat.add_sub_cancel_left]; rfl) (by omega) (by simp) (by simp)
  refine ⟨d, h', ?_, Fr.trans .apps F', P', Val.frp (lotM_val hds d hd) PA F', lotM_ge d hd, (lotM_lt hl d hd).frp PA F'⟩
  have m1 : m < h.length + 1 := by omega
  simp (maxSteps := 3000000) (disch := omega) [deedL2, LIM_eq, guard_true, lk_append, hm, em, if_pos, List.getElem?_cons_zero, e]
  exact congrArg (fun r : Res D => r.lift [some (.ref p), a1, a2, a3, some (.int mw), a5, a6, a7, a8, some (.ref m)] fun d h1 => Rs.ok (Fl.nx [some (.ref p), a1, a2, a3, some (.int mw), a5, a6, a7, a8, some d]) h1) e
theorem deedL_ex (P : IsPen h p c n) (hn : n < 800000) (hw : mw < 10000) (a1 a2 a3 a5 a7 a8 : Option D) :
    ∃ (x : D) (h' : Hd) (n' : Nat), deedL [some (.ref p), a1, a2, a3, some (.int mw), a5, some (.bl odd), a7, a8, none] h = .ok (.ret (.tup [.str "fall", x])) h' ∧ Fr [p] h h' ∧ IsPen h' p c n' ∧ n' ≤ n + mw + 5 ∧ Val h' x ∧ Ge h.length x ∧ Lt h' x := by
  obtain ⟨m, ds, h1, n1, e1, F1, hm, em, hds, hl, P1, hn1⟩ := lot_ex P (by omega) hw
  have hp := P.lt
  have hp1 := P1.lt
  have hm1 := lk_lt em
  rw [deedL_eq]
  cases odd with
  | false =>
    obtain ⟨r, h2, e2, _, _, P2, F2⟩ := drawF P1 (by omega) (many := 3) (by omega) (by omega)
    have em2 : lk h2 m = some (.lst ds) := F2.get em (by simp; omega)
    by_cases g : r = 0
    · exact ⟨.tup ds, h2, n1 + 1, by simp (disch := omega) [guard_true, e1, e2, g, em2, LIM_eq], F1.trans F2, P2, by omega, .flat ((dk_tup hds).up (by omega)), (fun m e => by cases e), by show ds.length < 20000; omega⟩
    · exact ⟨.ref m, h2, n1 + 1, by simp (disch := omega) [guard_true, e1, e2, g, LIM_eq], F1.trans F2, P2, by omega, .lst em2 fun d hd => (hds d hd).up (by omega), fun m' e => by cases e; exact hm, ⟨ds, em2, by omega⟩⟩
  | true =>
    obtain ⟨x, h2, e2, F2, P2, V2, G2, L2'⟩ := deedL2_ex (mw := mw) P1 (by omega) em hds (by omega) a1 a2 a3 a5 (some (.bl true)) a7 a8
    exact ⟨x, h2, n1 + 1, by simp (disch := omega) [guard_true, e1, e2, LIM_eq], F1.trans F2, P2, by omega, V2, G2.mono F1.len, L2'⟩
theorem deed_ex {bs ws : List D} (P : IsPen h p c n) (hn : n < 700000) (eo : lk h o = some (ownO b w f t)) (eb : lk h b = some (.lst bs)) (ew : lk h w = some (.lst ws)) (ho : o ≠ p) (hb : b ≠ p) (hw : w ≠ p) (l0 : 0 < bs.length) (l1 : bs.length < 10000) (l2 : ws.length < 10000) :
    DeedQ p c n (ws.length + 20) h (M_law_disk_deed [.ref p, .ref o, .int k] h) := by
  obtain ⟨r1, odd, h1, e1, F1, P1⟩ := deedA_ex (k := k) P (by omega) eo eb ew ho hb hw
  rw [deed_eq]
  by_cases g1 : r1 < 12
  · obtain ⟨r, h2, e2, F2, P2⟩ := deedD_ex (sz := bs.length) P1 (by omega) l0 l1 (some (.ref o)) (some (.int k)) (some (.int ws.length)) (some (.int r1)) (some (.bl odd)) none none none
    obtain ⟨y, h3, e3, F3, P3, V3, G3⟩ := deedO_ex (sz := bs.length) (odd := odd) P2 (by omega) (some (.ref o)) (some (.int k)) (some (.int ws.length)) (some (.int r1)) none none (x := .int r) (.flat (dk_int.up (by omega))) (fun m e => by cases e)
    obtain ⟨d, h4, n', e4, F4, P4, hn', D4⟩ := deedP_ex (k := k) (r1 := r1) P3 (by omega) y V3 (k0 := h.length) (G3.mono (by have := F1.len; have := F2.len; omega)) (some (.ref o)) (some (.int bs.length)) (some (.int ws.length)) (some (.bl odd)) none none
    exact ⟨d, h4, n', by simp (disch := omega) [defM_ev, startD, e1, g1, e2, e3, e4], ((F1.trans F2).trans F3).trans F4, P4, by omega, D4⟩
  by_cases g2 : r1 < 14
  · exact ⟨_, h1, n + 2, by simp (disch := omega) [defM_ev, startD, e1, g1, g2, LIM_eq, guard_true], F1, P1, by omega, .flush⟩
  by_cases g3 : r1 < 16
  · obtain ⟨y, h2, e2, F2, P2, V2⟩ := deedU_ex (odd := odd) (r1 := r1) P1 (by omega) (some (.ref o)) (some (.int k)) (some (.int bs.length)) (some (.int ws.length)) none none none g3
    exact ⟨_, h2, _, by simp (disch := omega) [defM_ev, startD, e1, g1, g2, e2], F1.trans F2, P2, by omega, .fuse V2⟩
  have e3 : deedU [some (.ref p), some (.ref o), some (.int k), some (.int bs.length), some (.int ws.length), some (.int r1), some (.bl odd), none, none, none] h1 = .ok (.nx [some (.ref p), some (.ref o), some (.int k), some (.int bs.length), some (.int ws.length), some (.int r1), some (.bl odd), none, none, none]) h1 := by
    simp (disch := omega) [deedU, g3]
  by_cases g4 : r1 = 19 ∧ odd = false
  · obtain ⟨g4, g5⟩ := g4
    subst g5
    exact ⟨_, h1, n + 2, by simp (disch := omega) [defM_ev, startD, e1, g1, g2, e3, g4, LIM_eq, guard_true]; rfl, F1, P1, by omega, .wipe⟩
  · obtain ⟨x, h2, n', e2, F2, P2, hn', V2, G2, L2'⟩ := deedL_ex (odd := odd) (mw := ws.length) P1 (by omega) l2 (some (.ref o)) (some (.int k)) (some (.int bs.length)) (some (.int r1)) none none
    refine ⟨_, h2, n', ?_, F1.trans F2, P2, by omega, .fall V2 (G2.mono F1.len) L2'⟩
    by_cases g6 : r1 = 19
    · have g7 : odd = true := by cases odd <;> simp_all
      subst g7 g6
      simp (disch := omega) [defM_ev, startD, e1, e3, e2]
    · simp (disch := omega) [defM_ev, startD, e1, g1, g2, e3, g6, e2]
end
end Kq
end
set_option maxHeartbeats 8000000
noncomputable section
namespace Kq
open PySem PySem.Spec L2 Kf
theorem kq_NoneType_int : kitB "NoneType" "int" = some false := by decide +kernel
theorem kq_bool_int : kitB "bool" "int" = some true := by decide +kernel
theorem kq_int_int : kitB "int" "int" = some true := by decide +kernel
theorem kq_str_int : kitB "str" "int" = some false := by decide +kernel
theorem kq_tuple_int : kitB "tuple" "int" = some false := by decide +kernel
theorem kq_list_int : kitB "list" "int" = some false := by decide +kernel
theorem kq_NoneType_bool : kitB "NoneType" "bool" = some false := by decide +kernel
theorem kq_bool_bool : kitB "bool" "bool" = some true := by decide +kernel
theorem kq_int_bool : kitB "int" "bool" = some false := by decide +kernel
theorem kq_str_bool : kitB "str" "bool" = some false := by decide +kernel
theorem kq_tuple_bool : kitB "tuple" "bool" = some false := by decide +kernel
theorem kq_list_bool : kitB "list" "bool" = some false := by decide +kernel
theorem kq_NoneType_list : kitB "NoneType" "list" = some false := by decide +kernel
theorem kq_bool_list : kitB "bool" "list" = some false := by decide +kernel
theorem kq_int_list : kitB "int" "list" = some false := by decide +kernel
theorem kq_str_list : kitB "str" "list" = some false := by decide +kernel
theorem kq_tuple_list : kitB "tuple" "list" = some false := by decide +kernel
theorem kq_list_list : kitB "list" "list" = some true := by decide +kernel
theorem kq_NoneType_tuple : kitB "NoneType" "tuple" = some false := by decide +kernel
theorem kq_bool_tuple : kitB "bool" "tuple" = some false := by decide +kernel
theorem kq_int_tuple : kitB "int" "tuple" = some false := by decide +kernel
theorem kq_str_tuple : kitB "str" "tuple" = some false := by decide +kernel
theorem kq_tuple_tuple : kitB "tuple" "tuple" = some true := by decide +kernel
theorem kq_list_tuple : kitB "list" "tuple" = some false := by decide +kernel
@[simp] theorem isi_int_non (h : Hd) : isiF "int" .non h = .ok (.bl false) h := by
  show (onSome (kitB "NoneType" "int") fun b => (Res.ok (D.bl b) h : Res D)) = _
  rw [kq_NoneType_int]; rfl
@[simp] theorem isi_int_bl (b : Bool) (h : Hd) : isiF "int" (.bl b) h = .ok (.bl true) h := by
  show (onSome (kitB "bool" "int") fun b => (Res.ok (D.bl b) h : Res D)) = _
  rw [kq_bool_int]; rfl
@[simp] theorem isi_int_int (i : Int) (h : Hd) : isiF "int" (.int i) h = .ok (.bl true) h := by
  show (onSome (kitB "int" "int") fun b => (Res.ok (D.bl b) h : Res D)) = _
  rw [kq_int_int]; rfl
@[simp] theorem isi_int_str (s : String) (h : Hd) : isiF "int" (.str s) h = .ok (.bl false) h := by
  show (onSome (kitB "str" "int") fun b => (Res.ok (D.bl b) h : Res D)) = _
  rw [kq_str_int]; rfl
@[simp] theorem isi_int_tup (ds : List D) (h : Hd) : isiF "int" (.tup ds) h = .ok (.bl false) h := by
  show (onSome (kitB "tuple" "int") fun b => (Res.ok (D.bl b) h : Res D)) = _
  rw [kq_tuple_int]; rfl
@[simp] theorem isi_int_fls (ds : List D) (h : Hd) : isiF "int" (.fls ds) h = .ok (.bl false) h := by
  show (onSome (kitB "list" "int") fun b => (Res.ok (D.bl b) h : Res D)) = _
  rw [kq_list_int]; rfl
theorem isi_int_ref {m : Nat} {ds : List D} {h : Hd} (e : lk h m = some (.lst ds)) : isiF "int" (.ref m) h = .ok (.bl false) h := by
  have e2 : tyD h (.ref m) = some "list" := by
    show (match lk h m with | some (.lst _) => some "list" | some (.dict _) => some "dict" | _ => none) = _
    rw [e]
  unfold isiF
  rw [e2]
  show (onSome (kitB "list" "int") fun b => (Res.ok (D.bl b) h : Res D)) = _
  rw [kq_list_int]; rfl
@[simp] theorem isi_bool_non (h : Hd) : isiF "bool" .non h = .ok (.bl false) h := by
  show (onSome (kitB "NoneType" "bool") fun b => (Res.ok (D.bl b) h : Res D)) = _
  rw [kq_NoneType_bool]; rfl
@[simp] theorem isi_bool_bl (b : Bool) (h : Hd) : isiF "bool" (.bl b) h = .ok (.bl true) h := by
  show (onSome (kitB "bool" "bool") fun b => (Res.ok (D.bl b) h : Res D)) = _
  rw [kq_bool_bool]; rfl
@[simp] theorem isi_bool_int (i : Int) (h : Hd) : isiF "bool" (.int i) h = .ok (.bl false) h := by
  show (onSome (kitB "int" "bool") fun b => (Res.ok (D.bl b) h : Res D)) = _
  rw [kq_int_bool]; rfl
@[simp] theorem isi_bool_str (s : String) (h : Hd) : isiF "bool" (.str s) h = .ok (.bl false) h := by
  show (onSome (kitB "str" "bool") fun b => (Res.ok (D.bl b) h : Res D)) = _
  rw [kq_str_bool]; rfl
@[simp] theorem isi_bool_tup (ds : List D) (h : Hd) : isiF "bool" (.tup ds) h = .ok (.bl false) h := by
  show (onSome (kitB "tuple" "bool") fun b => (Res.ok (D.bl b) h : Res D)) = _
  rw [kq_tuple_bool]; rfl
@[simp] theorem isi_bool_fls (ds : List D) (h : Hd) : isiF "bool" (.fls ds) h = .ok (.bl false) h := by
  show (onSome (kitB "list" "bool") fun b => (Res.ok (D.bl b) h : Res D)) = _
  rw [kq_list_bool]; rfl
theorem isi_bool_ref {m : Nat} {ds : List D} {h : Hd} (e : lk h m = some (.lst ds)) : isiF "bool" (.ref m) h = .ok (.bl false) h := by
  have e2 : tyD h (.ref m) = some "list" := by
    show (match lk h m with | some (.lst _) => some "list" | some (.dict _) => some "dict" | _ => none) = _
    rw [e]
  unfold isiF
  rw [e2]
  show (onSome (kitB "list" "bool") fun b => (Res.ok (D.bl b) h : Res D)) = _
  rw [kq_list_bool]; rfl
@[simp] theorem isi_list_non (h : Hd) : isiF "list" .non h = .ok (.bl false) h := by
  show (onSome (kitB "NoneType" "list") fun b => (Res.ok (D.bl b) h : Res D)) = _
  rw [kq_NoneType_list]; rfl
@[simp] theorem isi_list_bl (b : Bool) (h : Hd) : isiF "list" (.bl b) h = .ok (.bl false) h := by
  show (onSome (kitB "bool" "list") fun b => (Res.ok (D.bl b) h : Res D)) = _
  rw [kq_bool_list]; rfl
@[simp] theorem isi_list_int (i : Int) (h : Hd) : isiF "list" (.int i) h = .ok (.bl false) h := by
  show (onSome (kitB "int" "list") fun b => (Res.ok (D.bl b) h : Res D)) = _
  rw [kq_int_list]; rfl
@[simp] theorem isi_list_str (s : String) (h : Hd) : isiF "list" (.str s) h = .ok (.bl false) h := by
  show (onSome (kitB "str" "list") fun b => (Res.ok (D.bl b) h : Res D)) = _
  rw [kq_str_list]; rfl
@[simp] theorem isi_list_tup (ds : List D) (h : Hd) : isiF "list" (.tup ds) h = .ok (.bl false) h := by
  show (onSome (kitB "tuple" "list") fun b => (Res.ok (D.bl b) h : Res D)) = _
  rw [kq_tuple_list]; rfl
@[simp] theorem isi_list_fls (ds : List D) (h : Hd) : isiF "list" (.fls ds) h = .ok (.bl true) h := by
  show (onSome (kitB "list" "list") fun b => (Res.ok (D.bl b) h : Res D)) = _
  rw [kq_list_list]; rfl
theorem isi_list_ref {m : Nat} {ds : List D} {h : Hd} (e : lk h m = some (.lst ds)) : isiF "list" (.ref m) h = .ok (.bl true) h := by
  have e2 : tyD h (.ref m) = some "list" := by
    show (match lk h m with | some (.lst _) => some "list" | some (.dict _) => some "dict" | _ => none) = _
    rw [e]
  unfold isiF
  rw [e2]
  show (onSome (kitB "list" "list") fun b => (Res.ok (D.bl b) h : Res D)) = _
  rw [kq_list_list]; rfl
@[simp] theorem isi_tuple_non (h : Hd) : isiF "tuple" .non h = .ok (.bl false) h := by
  show (onSome (kitB "NoneType" "tuple") fun b => (Res.ok (D.bl b) h : Res D)) = _
  rw [kq_NoneType_tuple]; rfl
@[simp] theorem isi_tuple_bl (b : Bool) (h : Hd) : isiF "tuple" (.bl b) h = .ok (.bl false) h := by
  show (onSome (kitB "bool" "tuple") fun b => (Res.ok (D.bl b) h : Res D)) = _
  rw [kq_bool_tuple]; rfl
@[simp] theorem isi_tuple_int (i : Int) (h : Hd) : isiF "tuple" (.int i) h = .ok (.bl false) h := by
  show (onSome (kitB "int" "tuple") fun b => (Res.ok (D.bl b) h : Res D)) = _
  rw [kq_int_tuple]; rfl
@[simp] theorem isi_tuple_str (s : String) (h : Hd) : isiF "tuple" (.str s) h = .ok (.bl false) h := by
  show (onSome (kitB "str" "tuple") fun b => (Res.ok (D.bl b) h : Res D)) = _
  rw [kq_str_tuple]; rfl
@[simp] theorem isi_tuple_tup (ds : List D) (h : Hd) : isiF "tuple" (.tup ds) h = .ok (.bl true) h := by
  show (onSome (kitB "tuple" "tuple") fun b => (Res.ok (D.bl b) h : Res D)) = _
  rw [kq_tuple_tuple]; rfl
@[simp] theorem isi_tuple_fls (ds : List D) (h : Hd) : isiF "tuple" (.fls ds) h = .ok (.bl false) h := by
  show (onSome (kitB "list" "tuple") fun b => (Res.ok (D.bl b) h : Res D)) = _
  rw [kq_list_tuple]; rfl
theorem isi_tuple_ref {m : Nat} {ds : List D} {h : Hd} (e : lk h m = some (.lst ds)) : isiF "tuple" (.ref m) h = .ok (.bl false) h := by
  have e2 : tyD h (.ref m) = some "list" := by
    show (match lk h m with | some (.lst _) => some "list" | some (.dict _) => some "dict" | _ => none) = _
    rw [e]
  unfold isiF
  rw [e2]
  show (onSome (kitB "list" "tuple") fun b => (Res.ok (D.bl b) h : Res D)) = _
  rw [kq_list_tuple]; rfl
/-! ### whole numbers, places -/
def isW : D → Bool | .int _ => true | _ => false
def isB : D → Bool | .bl _ => true | _ => false
/-- a place among n -/
def isP (n : Int) : D → Bool | .int i => decide (0 ≤ i) && decide (i < n) | _ => false
/-- what a value of the menus may be -/
theorem Val.cases' {h : Hd} {x : D} (v : Val h x) : x = .non ∨ (∃ b, x = .bl b) ∨ (∃ i, x = .int i) ∨ (∃ s, x = .str s) ∨ (∃ ds, x = .tup ds) ∨ (∃ ds, x = .fls ds) ∨ ∃ m ds, x = .ref m ∧ lk h m = some (.lst ds) ∧ ∀ d ∈ ds, Dk 10 d := by
  cases v with
  | lst e q => exact .inr (.inr (.inr (.inr (.inr (.inr ⟨_, _, rfl, e, q⟩)))))
  | flat q =>
    obtain ⟨q, z⟩ := q
    cases x with
    | non => exact .inl rfl
    | bl b => exact .inr (.inl ⟨b, rfl⟩)
    | int i => exact .inr (.inr (.inl ⟨i, rfl⟩))
    | str s => exact .inr (.inr (.inr (.inl ⟨s, rfl⟩)))
    | tup ds => exact .inr (.inr (.inr (.inr (.inl ⟨ds, rfl⟩))))
    | fls ds => exact .inr (.inr (.inr (.inr (.inr (.inl ⟨ds, rfl⟩)))))
    | ref m => have := z [] 10 (by omega); simp [py] at this
    | xc c a d fs => have := z [] 10 (by omega); simp [py] at this
theorem isi_bool {h : Hd} {x : D} (v : Val h x) : isiF "bool" x h = .ok (.bl (isB x)) h := by
  rcases v.cases' with e | ⟨b, e⟩ | ⟨b, e⟩ | ⟨b, e⟩ | ⟨b, e⟩ | ⟨b, e⟩ | ⟨m, ds, e, e2, _⟩ <;> subst e <;> first | exact isi_bool_ref e2 | simp [isB]
theorem isi_list {h : Hd} {x : D} (v : Val h x) : ∃ b, isiF "list" x h = .ok (.bl b) h ∧ isiF "tuple" x h = .ok (.bl (!b && (match x with | .tup _ => true | _ => false))) h := by
  rcases v.cases' with e | ⟨b, e⟩ | ⟨b, e⟩ | ⟨b, e⟩ | ⟨b, e⟩ | ⟨b, e⟩ | ⟨m, ds, e, e2, _⟩ <;> subst e
  · exact ⟨false, by simp, by simp⟩
  · exact ⟨false, by simp, by simp⟩
  · exact ⟨false, by simp, by simp⟩
  · exact ⟨false, by simp, by simp⟩
  · exact ⟨false, by simp, by simp⟩
  · exact ⟨true, by simp, by simp⟩
  · exact ⟨true, isi_list_ref e2, isi_tuple_ref e2⟩
theorem whole_ex {h : Hd} {x : D} (v : Val h x) : M_is_whole [x] h = .ok (.bl (isW x)) h := by
  rcases v.cases' with e | ⟨b, e⟩ | ⟨b, e⟩ | ⟨b, e⟩ | ⟨b, e⟩ | ⟨b, e⟩ | ⟨m, ds, e, e2, _⟩ <;> subst e <;> simp [M_is_whole, defM_ev, s_is_whole, startD, isW]
  simp [isi_int_ref e2]
theorem wholeL_ex {h : Hd} {x : D} (v : Val h x) : M_law_is_whole [x] h = .ok (.bl (isW x)) h := whole_ex v
theorem place_ex {h : Hd} {x : D} (v : Val h x) (n : Int) : M_law_is_place [x, .int n] h = .ok (.bl (isP n x)) h := by
  have w := wholeL_ex v
  cases hw : isW x with
  | false =>
    have : isP n x = false := by cases x <;> first | rfl | simp [isW] at hw
    simp (disch := omega) [M_law_is_place, defM_ev, s_law_is_place, startD, w, hw, this, guard_true]
  | true =>
    obtain ⟨i, rfl⟩ : ∃ i, x = .int i := by cases x <;> first | exact ⟨_, rfl⟩ | simp [isW] at hw
    by_cases g : i < 0
    · simp (disch := omega) [M_law_is_place, defM_ev, s_law_is_place, startD, w, hw, isP, guard_true, g]
      omega
    · simp (disch := omega) [M_law_is_place, defM_ev, s_law_is_place, startD, w, hw, isP, guard_true, g]
      omega
end Kq
end
set_option maxHeartbeats 8000000
noncomputable section
namespace Kq
open PySem PySem.Spec L2 Kf
/-- a loop whose turns all go on -/
theorem loop_inv {it : ItD} {g : SG} {b : SS} (I : Nat → En → Hd → Prop) (ds : List D) (hn : ∀ i env h, I i env h → nextD it h i = some ds[i]?)
    (hs : ∀ i env h d, ds[i]? = some d → I i env h → ∃ env1 h1, g d env h = .ok env1 h1 ∧ ∃ env2 h2, b env1 h1 = .ok (.nx env2) h2 ∧ I (i + 1) env2 h2) :
    ∀ m i env h, I i env h → ds.length < m + i → i ≤ ds.length → ∃ env' h', loopI it g b m i env h = .ok (.nx env') h' ∧ I ds.length env' h'
  | 0, i, env, h, _, l, l2 => absurd l (by omega)
  | m + 1, i, env, h, a, l, l2 => by
    unfold loopI
    rw [hn i env h a]
    by_cases hi : i < ds.length
    · rw [List.getElem?_eq_getElem hi]
      obtain ⟨env1, h1, e1, env2, h2, e2, a2⟩ := hs i env h _ (List.getElem?_eq_getElem hi) a
      obtain ⟨env', h', e3, a3⟩ := loop_inv I ds hn hs m (i + 1) env2 h2 a2 (by omega) (by omega)
      refine ⟨env', h', ?_, a3⟩
      dsimp only
      rw [e1, ev_nox, Res.lift_ok, e2]
      exact e3
    · rw [List.getElem?_eq_none (Nat.le_of_not_lt hi)]
      have : i = ds.length := by omega
      subst this
      exact ⟨env, h, rfl, a⟩
def kD (k : Nat) : D := .int (k : Int)
/-- a write that waits -/
def wD (q : Nat × D) : D := .tup [.int q.1, q.2]
/-- the law's own disk: its dict at o, its lists at b and w -/
structure Own (h : Hd) (o b w : Nat) (bs : List D) (ws : List (Nat × D)) (f t : D) : Prop where
  eo : lk h o = some (ownO b w f t)
  eb : lk h b = some (.lst bs)
  ew : lk h w = some (.lst (ws.map wD))
  ob : o ≠ b
  ow : o ≠ w
  bw : b ≠ w
/-- the writes of some places, done -/
def done (ws : List (Nat × D)) : List Nat → List D → List D
  | [], bs => bs
  | k :: ks, bs => done ws ks (match ws[k]? with | some q => bs.set q.1 q.2 | none => bs)
theorem done_len {ws : List (Nat × D)} : ∀ {ks : List Nat} {bs : List D}, (done ws ks bs).length = bs.length
  | [], _ => rfl
  | k :: ks, bs => by
    unfold done
    rw [done_len]
    cases ws[k]? <;> simp
theorem done_snoc {ws : List (Nat × D)} {k : Nat} : ∀ {ks : List Nat} {bs : List D}, done ws (ks ++ [k]) bs = (match ws[k]? with | some q => (done ws ks bs).set q.1 q.2 | none => done ws ks bs)
  | [], _ => rfl
  | _ :: ks, bs => by
    show done ws (ks ++ [k]) _ = _
    rw [done_snoc]; rfl
theorem atI_nat {ds : List D} {k : Nat} {d : D} (e : ds[k]? = some d) : atI ds (k : Int) = some d := by
  have hk := lt_of_get e
  unfold atI ixN
  rw [if_pos (by omega), if_pos (by omega)]
  simpa using e
theorem ixN_nat {n k : Nat} (h : k < n) : ixN n (k : Int) = some k := by
  unfold ixN
  rw [if_pos (by omega), if_pos (by omega)]
  simp
def fallB : SS := (sSeq (sAsg (s2 getF (s2 getF (sVar 0) (sC (.str "waiting"))) (sVar 2)) (gTp 2 (gCons' (gN 3) (gCons' (gN 4) gNil'))))
    (sAsg (sVar 4) (gSub' (s2 getF (sVar 0) (sC (.str "blocks"))) (sVar 3) setF)))
section
variable {h : Hd} {o b w : Nat} {bs : List D} {ws : List (Nat × D)} {f t : D}
theorem fall_turn (W : Own h o b w bs ws f t) (hw : ∀ q ∈ ws, q.1 < bs.length) {k : Nat} {q : Nat × D} (ek : ws[k]? = some q) (a1 a3 a4 : Option D) :
    fallB [some (.ref o), a1, some (.int k), a3, a4] h = .ok (.nx [some (.ref o), a1, some (.int k), some (.int q.1), some q.2]) (h.set b (.lst (bs.set q.1 q.2))) := by
  have e1 : atI (ws.map wD) (k : Int) = some (.tup [.int q.1, q.2]) := atI_nat (by rw [List.getElem?_map, ek]; rfl)
  have e2 : ixN bs.length (q.1 : Int) = some q.1 := ixN_nat (hw q (List.mem_of_getElem? ek))
  have eo := W.eo
  unfold ownO at eo
  simp (disch := omega) [fallB, eo, W.ew, W.eb, e1, e2, guard_true]
theorem done_take {ks : List Nat} {i k : Nat} (e : ks[i]? = some k) : ks.take (i + 1) = ks.take i ++ [k] := by
  have hi := lt_of_get e
  rw [List.take_succ, e]; rfl
/-- the places are walked, written out or in a list of their own -/
theorem fall_loop (W : Own h o b w bs ws f t) (hw : ∀ q ∈ ws, q.1 < bs.length) (ks : List Nat) (hk : ∀ k ∈ ks, k < ws.length) (lot : Option D) {it : ItD} {m : Nat} (hm : ks.length < m)
    (hn : ∀ bs' i, nextD it (h.set b (.lst bs')) i = some (ks.map kD)[i]?) :
    ∃ a2 a3 a4, loopI it (gN 2) fallB m 0 [some (.ref o), lot, none, none, none] h = .ok (.nx [some (.ref o), lot, a2, a3, a4]) (h.set b (.lst (done ws ks bs))) := by
  have hb := lk_lt W.eb
  have same : h.set b (.lst bs) = h := by
    apply List.ext_getElem?
    intro j
    have := lk_set h b j (.lst bs)
    unfold lk at this
    rw [this]
    by_cases e : b = j
    · subst e; rw [if_pos rfl, if_pos hb]; exact W.eb.symm
    · rw [if_neg e]
  obtain ⟨env', h', e, a2, a3, a4, e2, e3⟩ := loop_inv (it := it) (g := gN 2) (b := fallB) (fun i env h' => ∃ a2 a3 a4, env = [some (.ref o), lot, a2, a3, a4] ∧ h' = h.set b (.lst (done ws (ks.take i) bs))) (ks.map kD)
    (fun i env h' ⟨a2, a3, a4, _, e⟩ => by rw [e]; exact hn _ i)
    (fun i env h' d hd ⟨a2, a3, a4, e1, e2⟩ => by
      subst e1 e2
      rw [List.getElem?_map] at hd
      cases ek : ks[i]? with
      | none => rw [ek] at hd; cases hd
      | some k =>
        rw [ek] at hd
        cases hd
        have hkw := hk k (List.mem_of_getElem? ek)
        have eq : ws[k]? = some ws[k] := List.getElem?_eq_getElem hkw
        have W2 : Own (h.set b (.lst (done ws (ks.take i) bs))) o b w (done ws (ks.take i) bs) ws f t := ⟨by simp [W.ob.symm, W.eo], by simp [hb], by simp [W.bw, W.ew], W.ob, W.ow, W.bw⟩
        refine ⟨_, _, rfl, _, _, fall_turn W2 (fun q hq => by rw [done_len]; exact hw q hq) eq lot a3 a4, _, _, _, rfl, ?_⟩
        rw [List.set_set, done_take ek, done_snoc, eq])
    m 0 _ h ⟨none, none, none, rfl, by rw [List.take_zero]; exact same.symm⟩ (by simpa using hm) (Nat.zero_le _)
  subst e2 e3
  rw [List.length_map, List.take_length] at e
  exact ⟨a2, a3, a4, e⟩
theorem fall_ex (W : Own h o b w bs ws f t) (hw : ∀ q ∈ ws, q.1 < bs.length) (ks : List Nat) (hk : ∀ k ∈ ks, k < ws.length) {lot : D} (hl : lot = .tup (ks.map kD) ∨ lot = .fls (ks.map kD) ∨ ∃ m, lot = .ref m ∧ m ≠ b ∧ lk h m = some (.lst (ks.map kD))) :
    M_law_disk_fall [.ref o, lot] h = .ok .non ((h.set b (.lst (done ws ks bs)) ++ [O.lst []]).set o (ownO b h.length f t)) := by
  have hb := lk_lt W.eb
  have ho := lk_lt W.eo
  have ob := W.ob
  have eo := W.eo
  unfold ownO at eo
  have fin : ∀ it a2 a3 a4, itOf lot h = some it → loopI it (gN 2) fallB (turnsD it h) 0 [some (.ref o), some lot, none, none, none] h = .ok (.nx [some (.ref o), some lot, a2, a3, a4]) (h.set b (.lst (done ws ks bs))) →
      M_law_disk_fall [.ref o, lot] h = .ok .non ((h.set b (.lst (done ws ks bs)) ++ [O.lst []]).set o (ownO b h.length f t)) := fun it a2 a3 a4 e1 e2 => by
    have e3 : M_law_disk_fall = defM 5 (sSeq (sFor (sVal (sVar 1)) (gN 2) fallB) (sAsg (sNew (sLst sNil)) (gSub' (sVar 0) (sC (.str "waiting")) setF))) := rfl
    rw [e3]
    simp (disch := omega) [defM_ev, startD, e1, e2, guard_true, ob.symm, ho, eo, LIM_eq, dput, dhas, ownO]
  rcases hl with e | e | ⟨m, e, hm, em⟩
  rotate_left
  · subst e
    obtain ⟨a2, a3, a4, e⟩ := fall_loop W hw ks hk (some (.fls (ks.map kD))) (it := .snap (ks.map kD)) (m := turnsD (.snap (ks.map kD)) h) (by simp [turnsD]) fun bs' i => rfl
    exact fin _ a2 a3 a4 rfl e
  rotate_left
  · subst e
    obtain ⟨a2, a3, a4, e⟩ := fall_loop W hw ks hk (some (.tup (ks.map kD))) (it := .snap (ks.map kD)) (m := turnsD (.snap (ks.map kD)) h) (by simp [turnsD]) fun bs' i => rfl
    exact fin _ a2 a3 a4 rfl e
  · subst e
    have em' : h[m]? = some (.lst (ks.map kD)) := em
    obtain ⟨a2, a3, a4, e⟩ := fall_loop W hw ks hk (some (.ref m)) (it := .live m) (m := turnsD (.live m) h) (by simp [turnsD, em']) fun bs' i => by
      have : lk (h.set b (.lst bs')) m = some (.lst (ks.map kD)) := by simp [hm.symm, em]
      have this2 : (h.set b (.lst bs'))[m]? = some (.lst (ks.map kD)) := this
      show (match (h.set b (.lst bs'))[m]? with | some (.lst ds) => some ds[i]? | _ => none) = _
      rw [this2]
    exact fin _ a2 a3 a4 (by simp [em]) e
end
end Kq
end
set_option maxHeartbeats 8000000
noncomputable section
namespace Kq
open PySem PySem.Spec L2 Kf
def stepE (o : Option (Option D)) (k0 : Rs) (k : D → Rs) : Rs := match o with | none => .stuck | some none => k0 | some (some d) => k d
@[simp] theorem stepE_end (k0 : Rs) (k : D → Rs) : stepE (some none) k0 k = k0 := id rfl
@[simp] theorem stepE_on (d : D) (k0 : Rs) (k : D → Rs) : stepE (some (some d)) k0 k = k d := id rfl
theorem loopI_ev (it : ItD) (g : SG) (b : SS) (n i : Nat) (env : En) (h : Hd) : loopI it g b (n + 1) i env h = stepE (nextD it h i) (.ok (.nx env) h) fun d => (noX (g d env h)).lift env fun env1 h1 => turnE (b env1 h1) fun env2 h2 => loopI it g b n (i + 1) env2 h2 := by
  conv => lhs; unfold loopI
  unfold stepE
  cases nextD it h i with
  | none => rfl
  | some o => cases o <;> rfl
def nvO (o : Option O) (i : Nat) : Option (Option D) := match o with | some (.lst ds) => some ds[i]? | _ => none
@[simp] theorem nextD_live (m : Nat) (h : Hd) (i : Nat) : nextD (.live m) h i = nvO (lk h m) i := id rfl
def nD : List D → Nat → Option D
  | [], _ => none
  | a :: _, 0 => some a
  | _ :: l, n + 1 => nD l n
theorem nD_get : ∀ (l : List D) (i : Nat), l[i]? = nD l i
  | [], _ => rfl
  | _ :: _, 0 => rfl
  | _ :: l, n + 1 => by rw [List.getElem?_cons_succ, nD_get l n]; rfl
@[simp] theorem nD_nil (n : Nat) : nD [] n = none := id rfl
@[simp] theorem nD_zero (a : D) (l : List D) : nD (a :: l) 0 = some a := id rfl
@[simp] theorem nD_succ (a : D) (l : List D) (n : Nat) : nD (a :: l) (n + 1) = nD l n := id rfl
@[simp] theorem nvO_lst (ds : List D) (i : Nat) : nvO (some (.lst ds)) i = some (nD ds i) := by rw [← nD_get]; rfl
@[simp] theorem eqF_non_int (i : Int) (h : Hd) : eqF .non (.int i) h = .ok (.bl false) h := by rfl
theorem isNon_non : isNonD .non = true := rfl
theorem isNon_int (i : Int) : isNonD (.int i) = false := rfl
def stepsB : SS := (sSeq (sIf (sTest (s2 eqF (s2 getF (sVar 0) (sC (.str "fuse"))) (sC (.int 0))))
    (sRet (sC (.bl false)))
    sNext)
    (sSeq (sIf (sTest (s2 notF (s2 getF (sVar 0) (sC (.str "fuse"))) (sC .non)))
    (sAsg (s2 (f2I yes2 fun i j => .int (i - j)) (s2 getF (sVar 0) (sC (.str "fuse"))) (sC (.int 1))) (gSub' (sVar 0) (sC (.str "fuse")) setF))
    sNext)
    (sIf (sTest (s2 notF (sVar 2) (sC .non)))
    (sAsg (s2 addA (s2 getF (sVar 0) (sC (.str "waiting"))) (sNew (sLst (sCons (sVar 2) sNil)))) (gSub' (sVar 0) (sC (.str "waiting")) setF))
    (sDrop (sFn 2 M_law_disk_fall [] (sCons (sVar 0) (sCons (sNew (sLstRg (sCall lenA (sCons (s2 getF (sVar 0) (sC (.str "waiting"))) sNil)))) sNil)))))))
theorem steps_eq : M_law_disk_steps = defM 3 (sSeq (sFor (sVal (sVar 1)) (gN 2) stepsB) (sRet (sC (.bl true)))) := rfl
/-- a fuse after one step; none: blown -/
def burnt : D → Option D
  | .non => some .non
  | .int i => if i = 0 then none else some (.int (i - 1))
  | _ => none
def isFuse (f : D) : Prop := f = .non ∨ ∃ i : Int, f = .int i ∧ 0 ≤ i
section
variable {h : Hd} {o b w m : Nat} {bs : List D} {ws : List (Nat × D)} {f t d : D}
theorem burnB_none (W : Own h o b w bs ws f t) (hf : isFuse f) (e : burnt f = none) (a1 : Option D) : stepsB [some (.ref o), a1, some d] h = .ok (.ret (.bl false)) h := by
  have eo := W.eo
  rcases hf with z | ⟨i, z, hi⟩
  · subst z; cases e
  · subst z
    have : i = 0 := by
      by_cases q : i = 0
      · exact q
      · simp [burnt, q] at e
    subst this
    unfold ownO at eo
    simp (disch := omega) [stepsB, eo]
theorem steps_none (W : Own h o b w bs ws f t) (hf : isFuse f) (e : burnt f = none) (em : lk h m = some (.lst [d])) : M_law_disk_steps [.ref o, .ref m] h = .ok (.bl false) h := by
  have em' : h[m]? = some (.lst [d]) := em
  have e1 : turnsD (.live m) h = 2 := by simp [turnsD, em']
  rw [steps_eq]
  simp (disch := omega) [defM_ev, startD, em, e1, loopI_ev, burnB_none W hf e]
/-- a write that is borne -/
theorem steps_write (W : Own h o b w bs ws f t) (hf : isFuse f) {f' : D} (e : burnt f = some f') {q : Nat × D} (em : lk h m = some (.lst [wD q])) (hm : m ≠ o) (hl : ws.length < 10000) :
    ∃ h' w', M_law_disk_steps [.ref o, .ref m] h = .ok (.bl true) h' ∧ Own h' o b w' bs (ws ++ [q]) f' t ∧ Fr [o] h h' ∧ h.length ≤ w' := by
  have em' : h[m]? = some (.lst [wD q]) := em
  have e1 : turnsD (.live m) h = 2 := by simp [turnsD, em']
  have eo := W.eo
  have ho := lk_lt W.eo
  have hb := lk_lt W.eb
  have hw := lk_lt W.ew
  have hmm := lk_lt em
  have ob := W.ob
  have ow := W.ow
  have ew := W.ew
  refine ⟨(h ++ [O.lst [wD q], O.lst (ws.map wD ++ [wD q])]).set o (ownO b (h.length + 1) f' t), h.length + 1, ?_, ⟨?_, ?_, ?_, ob, by omega, by omega⟩, ?_, by omega⟩
  · rw [steps_eq]
    unfold ownO at eo
    have n1 : isNonD (wD q) = false := rfl
    rcases hf with z | ⟨i, z, hi⟩
    · subst z
      cases e
      simp (disch := omega) [defM_ev, startD, em, e1, loopI_ev, stepsB, eo, isNon_non, isNon_int, n1, List.getElem?_cons_zero, ew, LIM_eq, guard_true, dput, dhas, ho, ow, hm.symm, lk_append, hw, hmm, ownO]
    · subst z
      by_cases g : i = 0
      · simp [burnt, g] at e
      · have : f' = .int (i - 1) := by simpa [burnt, g] using e.symm
        subst this
        have sa : ∀ (x y : O) (l : List O), (h.set o x ++ l).set o y = (h ++ l).set o y := fun x y l => by
          rw [← List.set_append_left _ _ ho, List.set_set]
        simp (disch := omega) [defM_ev, startD, em, e1, loopI_ev, stepsB, eo, isNon_non, isNon_int, n1, List.getElem?_cons_zero, ew, LIM_eq, guard_true, dput, dhas, ho, ow, hm.symm, lk_append, hw, hmm, ownO, g, sa]
  · rw [lk_set, if_pos rfl, if_pos (by simp; omega)]
  · rw [lk_set, if_neg ob, lk_append, if_pos hb, W.eb]
  · rw [lk_set, if_neg (by omega), lk_append, if_neg (by omega), Nat.add_sub_cancel_left]; simp
  · exact Fr.trans .apps (.set (by simp))
theorem rangeL_kD (n : Nat) : rangeL 0 n = (List.range n).map kD := by
  unfold rangeL kD
  congr
  funext i
  simp
theorem Own.app {l : List O} (W : Own h o b w bs ws f t) : Own (h ++ l) o b w bs ws f t :=
  ⟨by rw [lk_append, if_pos (lk_lt W.eo), W.eo], by rw [lk_append, if_pos (lk_lt W.eb), W.eb], by rw [lk_append, if_pos (lk_lt W.ew), W.ew], W.ob, W.ow, W.bw⟩
theorem Own.fuse {f' t' : D} (W : Own h o b w bs ws f t) : Own (h.set o (ownO b w f' t')) o b w bs ws f' t' :=
  ⟨by rw [lk_set, if_pos rfl, if_pos (lk_lt W.eo)], by rw [lk_set, if_neg W.ob, W.eb], by rw [lk_set, if_neg W.ow, W.ew], W.ob, W.ow, W.bw⟩
/-- all that waits is done -/
theorem fall_all (W : Own h o b w bs ws f t) (hq : ∀ q ∈ ws, q.1 < bs.length) :
    ∃ h', M_law_disk_fall [.ref o, .ref h.length] (h ++ [O.lst (rangeL 0 ws.length)]) = .ok .non h' ∧ Own h' o b (h.length + 1) (done ws (List.range ws.length) bs) [] f t ∧ Fr [o, b] h h' := by
  have ho := lk_lt W.eo
  have hb := lk_lt W.eb
  have e := fall_ex (lot := .ref h.length) (W.app (l := [O.lst (rangeL 0 ws.length)])) hq (List.range ws.length) (fun k hk => List.mem_range.mp hk) (.inr (.inr ⟨h.length, rfl, by omega, by rw [lk_append, if_neg (by omega), Nat.sub_self, rangeL_kD]; rfl⟩))
  refine ⟨_, e, ⟨?_, ?_, ?_, W.ob, ?_, ?_⟩, ?_⟩
  · rw [lk_set, if_pos rfl, if_pos (by simp; omega)]; simp
  · rw [lk_set, if_neg W.ob, lk_append, if_pos (by simp; omega), lk_set, if_pos rfl, if_pos (by simp; omega)]
  · rw [lk_set, if_neg (by omega), lk_append, if_neg (by simp), ]
    simp
  · omega
  · omega
  · exact Fr.trans (Fr.trans (Fr.trans .apps (.set (by simp))) .app) (.set (by simp))
theorem flush_turn (W : Own h o b w bs ws f t) (hf : isFuse f) {f' : D} (e : burnt f = some f') (hq : ∀ q ∈ ws, q.1 < bs.length) (hl : ws.length < 10000) (a1 : Option D) :
    ∃ h', stepsB [some (.ref o), a1, some .non] h = .ok (.nx [some (.ref o), a1, some .non]) h' ∧ Own h' o b (h.length + 1) (done ws (List.range ws.length) bs) [] f' t ∧ Fr [o, b] h h' := by
  have eo := W.eo
  have ew := W.ew
  have ow := W.ow
  have ho := lk_lt W.eo
  unfold ownO at eo
  rcases hf with z | ⟨i, z, hi⟩
  · subst z
    cases e
    obtain ⟨h', e1, W', F'⟩ := fall_all W hq
    exact ⟨h', by simp (disch := omega) [stepsB, eo, isNon_non, ew, LIM_eq, guard_true, e1], W', F'⟩
  · subst z
    by_cases g : i = 0
    · simp [burnt, g] at e
    · have : f' = .int (i - 1) := by simpa [burnt, g] using e.symm
      subst this
      obtain ⟨h', e1, W', F'⟩ := fall_all (W.fuse (f' := .int (i - 1)) (t' := t)) hq
      rw [List.length_set] at e1 W'
      refine ⟨h', ?_, W', (Fr.set (by simp)).trans F'⟩
      unfold ownO at e1
      simp (disch := omega) [stepsB, eo, isNon_non, isNon_int, ew, LIM_eq, guard_true, dput, dhas, ho, ow, g, e1]
theorem steps_flush (W : Own h o b w bs ws f t) (hf : isFuse f) {f' : D} (e : burnt f = some f') (hq : ∀ q ∈ ws, q.1 < bs.length) (em : lk h m = some (.lst [.non])) (hm : m ≠ o) (hmb : m ≠ b) (hl : ws.length < 10000) :
    ∃ h' w', M_law_disk_steps [.ref o, .ref m] h = .ok (.bl true) h' ∧ Own h' o b w' (done ws (List.range ws.length) bs) [] f' t ∧ Fr [o, b] h h' ∧ h.length ≤ w' := by
  have em' : h[m]? = some (.lst [.non]) := em
  have e1 : turnsD (.live m) h = 2 := by simp [turnsD, em']
  obtain ⟨h', e2, W', F'⟩ := flush_turn W hf e hq hl (some (.ref m))
  have em2 : lk h' m = some (.lst [.non]) := F'.get em (by simp [hm, hmb])
  refine ⟨h', _, ?_, W', F', by omega⟩
  rw [steps_eq]
  simp (disch := omega) [defM_ev, startD, em, e1, loopI_ev, e2, em2]
end
end Kq
end
set_option maxHeartbeats 8000000
noncomputable section
namespace Kq
open PySem PySem.Spec L2 Kf
theorem py_list {h : Hd} {m n : Nat} {ds : List D} (e : lk h m = some (.lst ds)) : py h (n + 1) (.ref m) = (allS (ds.map (py h n))).map .list := by
  have e' : h[m]? = some (.lst ds) := e
  show (match h[m]? with | some (.lst ds) => (allS (ds.map (py h n))).map PyData.list | _ => none) = _
  rw [e']
theorem f2P_of {g : PyData → PyData → Option Bool} {x y : D} {h : Hd} {p q : PyData} {b : Bool} (e1 : py h 60 x = some p) (e2 : py h 60 y = some q) (e3 : g p q = some b) : f2P g x y h = .ok (.bl b) h := by
  unfold f2P
  rw [e1, e2]
  simp only [e3]
/-- the data of a menu's value -/
theorem Val.py {h : Hd} {x : D} (v : Val h x) : ∃ q, ∀ n, 11 ≤ n → Kf.py h n x = some q := by
  cases v with
  | flat q => obtain ⟨q, z⟩ := q; exact ⟨q, fun n hn => z h n (by omega)⟩
  | @lst m ds e k =>
    obtain ⟨qs, z⟩ := dk_all k
    refine ⟨.list qs, fun n hn => ?_⟩
    obtain ⟨j, rfl⟩ : ∃ j, n = j + 1 := ⟨n - 1, by omega⟩
    rw [py_list e, z h j (by omega)]; rfl
theorem eqF_nil {h : Hd} {a b : Nat} {ds : List D} (ea : lk h a = some (.lst ds)) (eb : lk h b = some (.lst [])) (hd : ∀ d ∈ ds, Dk 10 d) : eqF (.ref a) (.ref b) h = .ok (.bl ds.isEmpty) h ∧ neF (.ref a) (.ref b) h = .ok (.bl !ds.isEmpty) h := by
  obtain ⟨qs, z⟩ := dk_all hd
  have e1 : Kf.py h 60 (.ref a) = some (.list qs) := by rw [py_list ea, z h 59 (by omega)]; rfl
  have e2 : Kf.py h 60 (.ref b) = some (.list []) := by rw [py_list eb]; rfl
  have e3 : PyData.eqv (.list qs) (.list []) = ds.isEmpty := by
    cases ds with
    | nil => have := z h 59 (by omega); cases this; simp [PyData.eqv, PyData.eqvAll]
    | cons d ds =>
      have := z h 59 (by omega)
      cases qs with
      | nil =>
        rw [List.map_cons] at this
        cases q : Kf.py h 59 d with
        | none => rw [q] at this; simp [allS] at this
        | some y =>
          rw [q] at this
          have this : (allS (ds.map (Kf.py h 59))).map (y :: ·) = some [] := this
          cases q2 : allS (ds.map (Kf.py h 59)) with
          | none => rw [q2] at this; cases this
          | some _ => rw [q2] at this; cases this
      | cons _ _ => simp [PyData.eqv, PyData.eqvAll]
  exact ⟨f2P_of e1 e2 (by rw [e3]), f2P_of e1 e2 (by rw [e3])⟩
/-- the items of a tuple or a list -/
def seqO (h : Hd) : D → Option (List D) | .tup ds => some ds | .fls ds => some ds | .ref m => itemsO (lk h m) | _ => none
theorem allS_inv {h : Hd} {n : Nat} : ∀ {ds : List D} {qs : List PyData}, allS (ds.map (Kf.py h n)) = some qs → ∀ (i : Nat) (d : D), ds[i]? = some d → ∃ q, qs[i]? = some q ∧ Kf.py h n d = some q
  | [], _, _, i, d, e => by simp at e
  | x :: ds, qs, e, i, d, ed => by
    rw [List.map_cons] at e
    cases q : Kf.py h n x with
    | none => rw [q] at e; cases e
    | some y =>
      rw [q] at e
      have e : (allS (ds.map (Kf.py h n))).map (y :: ·) = some qs := e
      cases q2 : allS (ds.map (Kf.py h n)) with
      | none => rw [q2] at e; cases e
      | some ys =>
        rw [q2] at e
        cases e
        cases i with
        | zero => cases ed; exact ⟨y, rfl, q⟩
        | succ i => exact allS_inv q2 i d ed
theorem dk_inv {k : Nat} {ds : List D} (h0 : Dk (k + 1) (.tup ds) ∨ Dk (k + 1) (.fls ds)) : ∀ d ∈ ds, Dk k d := fun d hd => by
  have key : ∃ qs, ∀ h n, k ≤ n → allS (ds.map (Kf.py h n)) = some qs := by
    rcases h0 with ⟨q, z⟩ | ⟨q, z⟩
    · have z1 : ∀ h n, k ≤ n → (allS (ds.map (Kf.py h n))).map PyData.tuple = some q := fun h n hn => z h (n + 1) (by omega)
      cases e : allS (ds.map (Kf.py [] k)) with
      | none => have := z1 [] k (by omega); rw [e] at this; cases this
      | some qs =>
        refine ⟨qs, fun h n hn => ?_⟩
        have a := z1 [] k (by omega)
        have b := z1 h n hn
        rw [e] at a
        cases e2 : allS (ds.map (Kf.py h n)) with
        | none => rw [e2] at b; cases b
        | some _ => rw [e2] at b; cases a; cases b; rfl
    · have z1 : ∀ h n, k ≤ n → (allS (ds.map (Kf.py h n))).map PyData.list = some q := fun h n hn => z h (n + 1) (by omega)
      cases e : allS (ds.map (Kf.py [] k)) with
      | none => have := z1 [] k (by omega); rw [e] at this; cases this
      | some qs =>
        refine ⟨qs, fun h n hn => ?_⟩
        have a := z1 [] k (by omega)
        have b := z1 h n hn
        rw [e] at a
        cases e2 : allS (ds.map (Kf.py h n)) with
        | none => rw [e2] at b; cases b
        | some _ => rw [e2] at b; cases a; cases b; rfl
  obtain ⟨qs, z⟩ := key
  obtain ⟨i, hi, e⟩ := List.getElem_of_mem hd
  have ei : ds[i]? = some d := by rw [List.getElem?_eq_getElem hi, e]
  obtain ⟨q, eq, _⟩ := allS_inv (z [] k (by omega)) i d ei
  refine ⟨q, fun h n hn => ?_⟩
  obtain ⟨q', eq', e'⟩ := allS_inv (z h n hn) i d ei
  rw [eq] at eq'
  cases eq'
  exact e'
/-- a menu's value is a row of flat things, or none at all -/
inductive Row (h : Hd) : D → List D → Prop where
  | tup {ds : List D} : Row h (.tup ds) ds
  | fls {ds : List D} : Row h (.fls ds) ds
  | lst {m : Nat} {ds : List D} : lk h m = some (.lst ds) → Row h (.ref m) ds
theorem Val.row {h : Hd} {x : D} (v : Val h x) : (∃ ds, Row h x ds ∧ ∀ d ∈ ds, Dk 10 d) ∨ (isiF "list" x h = .ok (.bl false) h ∧ isiF "tuple" x h = .ok (.bl false) h ∧ isiTF ["list", "tuple"] x h = .ok (.bl false) h) := by
  cases v with
  | lst e k => exact .inl ⟨_, .lst e, k⟩
  | @flat x q =>
    cases x with
    | tup ds => exact .inl ⟨ds, .tup, fun d hd => (dk_inv (k := 9) (.inl q) d hd).up (by omega)⟩
    | fls ds => exact .inl ⟨ds, .fls, fun d hd => (dk_inv (k := 9) (.inr q) d hd).up (by omega)⟩
    | non => exact .inr ⟨by simp, by simp, by show (onSome (kitD "NoneType" ["list", "tuple"]) fun b => (Res.ok (D.bl b) h : Res D)) = _; simp [kitD, kq_NoneType_list, kq_NoneType_tuple]⟩
    | bl b => exact .inr ⟨by simp, by simp, by show (onSome (kitD "bool" ["list", "tuple"]) fun b => (Res.ok (D.bl b) h : Res D)) = _; simp [kitD, kq_bool_list, kq_bool_tuple]⟩
    | int i => exact .inr ⟨by simp, by simp, by show (onSome (kitD "int" ["list", "tuple"]) fun b => (Res.ok (D.bl b) h : Res D)) = _; simp [kitD, kq_int_list, kq_int_tuple]⟩
    | str s => exact .inr ⟨by simp, by simp, by show (onSome (kitD "str" ["list", "tuple"]) fun b => (Res.ok (D.bl b) h : Res D)) = _; simp [kitD, kq_str_list, kq_str_tuple]⟩
    | ref m => obtain ⟨q, z⟩ := q; have := z [] 10 (by omega); simp [Kf.py] at this
    | xc c a d fs => obtain ⟨q, z⟩ := q; have := z [] 10 (by omega); simp [Kf.py] at this
end Kq
end
set_option maxHeartbeats 8000000
noncomputable section
namespace Kq
open PySem PySem.Spec L2 Kf
section
variable {h : Hd} {x : D} {ds : List D}
theorem Row.app (r : Row h x ds) (l : List O) : Row (h ++ l) x ds := by
  cases r with
  | tup => exact .tup
  | fls => exact .fls
  | lst e => exact .lst (by rw [lk_append, if_pos (lk_lt e), e])
theorem Row.len (r : Row h x ds) : lenA [x] h = .ok (.int ds.length) h := by
  cases r with
  | tup => simp
  | fls => simp
  | lst e => simp [e]
theorem Row.get (r : Row h x ds) (i : Int) : getF x (.int i) h = onSome (atI ds i) fun d => .ok d h := by
  cases r with
  | tup => simp
  | fls => rfl
  | lst e => simp [e]
theorem Row.isi (r : Row h x ds) : (∃ b, isiF "list" x h = .ok (.bl b) h ∧ isiF "tuple" x h = .ok (.bl !b) h) ∧ isiTF ["list", "tuple"] x h = .ok (.bl true) h := by
  cases r with
  | tup => exact ⟨⟨false, by simp, by simp⟩, by show (onSome (kitD "tuple" ["list", "tuple"]) fun b => (Res.ok (D.bl b) h : Res D)) = _; simp [kitD, kq_tuple_list, kq_tuple_tuple]⟩
  | fls => exact ⟨⟨true, by simp, by simp⟩, by show (onSome (kitD "list" ["list", "tuple"]) fun b => (Res.ok (D.bl b) h : Res D)) = _; simp [kitD, kq_list_list, kq_list_tuple]⟩
  | @lst m ds e =>
    refine ⟨⟨true, isi_list_ref e, isi_tuple_ref e⟩, ?_⟩
    have e2 : tyD h (.ref m) = some "list" := by
      show (match lk h m with | some (.lst _) => some "list" | some (.dict _) => some "dict" | _ => none) = _
      rw [e]
    unfold isiTF
    rw [e2]
    show (onSome (kitD "list" ["list", "tuple"]) fun b => (Res.ok (D.bl b) h : Res D)) = _
    simp [kitD, kq_list_list, kq_list_tuple]
/-- a comprehension over a row -/
theorem Row.comp (r : Row h x ds) {g : SG} {t : SB} {f : SE} {env : En} {β : D → Bool} {φ : D → D} (hl : ds.length ≤ LIM) (hp : ∀ d ∈ ds, ∃ env1, g d env h = .ok env1 h ∧ t env1 h = .ok (β d) h ∧ (β d = true → f env1 h = .ok (φ d) h)) :
    ∃ it, itOf x h = some it ∧ compI it g t f env (turnsD it h) 0 0 h = .ok ((ds.filter β).map φ) h := by
  cases r with
  | tup => exact ⟨_, rfl, comp_snapP ds hl hp⟩
  | fls => exact ⟨_, rfl, comp_snapP ds hl hp⟩
  | lst e => exact ⟨_, by simp [e], comp_liveP ds e hl hp⟩
end
/-- a row of places, one behind the other -/
def incs (ks : List Int) : Bool := ((List.range (ks.length - 1)).filter fun i => match ks[i]?, ks[i + 1]? with | some a, some b => decide (b ≤ a) | _, _ => false).isEmpty
def lotOk (n : Int) (ds : List D) : Bool := (ds.filter fun d => !isP n d).isEmpty && incs (ds.map fun d => match d with | .int i => i | _ => 0)
def lotS (n : Int) (x : D) (ds : List D) : Prop := True
section
variable {h : Hd} {x : D} {ds : List D}
def lotB : SB := sNot (sTest (sFn 2 M_law_is_place [] (sCons (sVar 2) (sCons (sVar 1) sNil))))
def lotG : SB := sTest (s2 geF (s2 getF (sVar 0) (sVar 3)) (s2 getF (sVar 0) (s2 addA (sVar 3) (sC (.int 1)))))
theorem lot_bad (r : Row h x ds) (hd : ∀ d ∈ ds, Dk 10 d) (hl : ds.length < 20000) (n : Int) :
    ∃ it, itOf x h = some it ∧ compI it (gN 2) lotB (sVar 2) [some x, some (.int n), none, none] (turnsD it h) 0 0 h = .ok ((ds.filter fun d => !isP n d).map id) h :=
  r.comp (by rw [LIM_eq]; omega) fun d hdd => ⟨_, rfl, by simp [lotB, place_ex (.flat (hd d hdd)) n, guard_true], fun _ => by simp⟩
theorem isP_int {n : Int} {d : D} (e : isP n d = true) : ∃ k : Nat, d = .int k ∧ (k : Int) < n := by
  cases d with
  | int i =>
    simp [isP] at e
    exact ⟨i.toNat, by congr; omega, by omega⟩
  | _ => cases e
theorem lot_incs {ks : List Nat} (r : Row h x (ks.map kD)) (hl : ks.length < 20000) (a1 a2 : Option D) :
    compItems (gN 3) lotG (sVar 3) [some x, a1, a2, none] (rangeL 0 (ks.length - 1)) 0 h = .ok (((rangeL 0 (ks.length - 1)).filter fun d => match d with | .int i => (match ks[i.toNat]?, ks[i.toNat + 1]? with | some a, some b => decide (b ≤ a) | _, _ => false) | _ => false).map id) h := by
  refine comp_itemsP _ (by rw [rangeL_len, LIM_eq]; omega) fun d hd => ?_
  obtain ⟨k, hk, rfl⟩ := rangeL_mem hd
  have e1 : ks[k]? = some (ks[k]'(by omega)) := List.getElem?_eq_getElem (by omega)
  have e2 : ks[k + 1]? = some (ks[k + 1]'(by omega)) := List.getElem?_eq_getElem (by omega)
  generalize ks[k]'(by omega) = a at e1
  generalize ks[k + 1]'(by omega) = b at e2
  have g1 : atI (ks.map kD) (k : Int) = some (.int a) := atI_nat (by rw [List.getElem?_map, e1]; rfl)
  have g2 : atI (ks.map kD) ((k : Int) + 1) = some (.int b) := by
    have := atI_nat (k := k + 1) (ds := ks.map kD) (d := .int b) (by rw [List.getElem?_map, e2]; rfl)
    simpa using this
  refine ⟨_, rfl, ?_, fun _ => by simp⟩
  have q1 := r.get (k : Int)
  have q2 := r.get ((k : Int) + 1)
  rw [g1] at q1
  rw [g2] at q2
  simp [lotG, q1, q2, e1, e2]
  by_cases z : b ≤ a
  · rw [decide_eq_true z]
    have : ¬ (a : Int) < b := by omega
    simp
    omega
  · rw [decide_eq_false z]
    simp
    omega
end
end Kq
end
set_option maxHeartbeats 8000000
noncomputable section
namespace Kq
open PySem PySem.Spec L2 Kf
theorem islot_eq : M_law_is_lot = defM 4 (sSeq (sIf (sAnd (sNot (sTest (sIsi "list" (sVar 0)))) (sNot (sTest (sIsi "tuple" (sVar 0))))) (sRet (sC (.bl false))) sNext)
    (sSeq (sIf (sTest (s2 neF (sNew (sLc (sVal (sVar 0)) (gN 2) lotB (sVar 2) [2])) (sNew (sLst sNil)))) (sRet (sC (.bl false))) sNext)
    (sRet (s2 eqF (sNew (sLc (sRange1 (s2 (f2I yes2 fun i j => .int (i - j)) (sCall lenA (sCons (sVar 0) sNil)) (sC (.int 1)))) (gN 3) lotG (sVar 3) [3])) (sNew (sLst sNil)))))) := rfl
theorem rg1_m1 (h : Hd) : rg1 (.int (-1)) h = .ok (.snap (rangeL 0 0)) h :=
  (guard_true (-BIG ≤ (-1 : Int) ∧ (-1 : Int) < BIG) (Res.ok (ItD.snap (rangeL 0 0)) h) ⟨by decide +kernel, by decide +kernel⟩ : _)
section
variable {h : Hd} {x : D} {ds : List D}
theorem islot_no (v : isiF "list" x h = .ok (.bl false) h) (v2 : isiF "tuple" x h = .ok (.bl false) h) (n : Int) : M_law_is_lot [x, .int n] h = .ok (.bl false) h := by
  rw [islot_eq]
  simp (disch := omega) [defM_ev, startD, v, v2]
/-- a place that is none -/
theorem islot_bad (r : Row h x ds) (hd : ∀ d ∈ ds, Dk 10 d) (hl : ds.length < 20000) (n : Int) (hb : (ds.filter fun d => !isP n d) ≠ []) : ∃ h', M_law_is_lot [x, .int n] h = .ok (.bl false) h' ∧ Fr [] h h' := by
  obtain ⟨⟨b, i1, i2⟩, _⟩ := r.isi
  obtain ⟨it, e1, e2⟩ := lot_bad r hd hl n
  have hb2 : (((ds.filter fun d => !isP n d).map id).isEmpty) = false := by
    rw [List.map_id]
    cases q : ds.filter fun d => !isP n d with
    | nil => exact absurd q hb
    | cons _ _ => rfl
  have hd2 : ∀ d ∈ (ds.filter fun d => !isP n d).map id, Dk 10 d := fun d h1 => by
    rw [List.map_id] at h1
    exact hd d (List.mem_filter.mp h1).1
  generalize ((ds.filter fun d => !isP n d).map id) = es at e2 hb2 hd2
  have q := (eqF_nil (h := h ++ [O.lst es, O.lst []]) (a := h.length) (b := h.length + 1) (ds := es) (by rw [lk_append, if_neg (by omega), Nat.sub_self]; rfl) (by rw [lk_append, if_neg (by omega), Nat.add_sub_cancel_left]; rfl) hd2).2
  refine ⟨h ++ [O.lst es, O.lst []], ?_, .apps⟩
  rw [islot_eq]
  cases b <;> simp (disch := omega) [defM_ev, startD, i1, i2, e1, e2, LIM_eq, guard_true, q, hb2]
/-- a row of places -/
theorem islot_row {ks : List Nat} (r : Row h x (ks.map kD)) (hl : ks.length < 20000) {n : Int} (hk : ∀ k ∈ ks, (k : Int) < n) :
    ∃ h', M_law_is_lot [x, .int n] h = .ok (.bl (((rangeL 0 (ks.length - 1)).filter fun d => match d with | .int i => (match ks[i.toNat]?, ks[i.toNat + 1]? with | some a, some b => decide (b ≤ a) | _, _ => false) | _ => false).isEmpty)) h' ∧ Fr [] h h' := by
  obtain ⟨⟨b, i1, i2⟩, _⟩ := r.isi
  have hd : ∀ d ∈ ks.map kD, Dk 10 d := fun d hd => by
    obtain ⟨k, _, e⟩ := List.mem_map.mp hd
    subst e
    exact dk_int.up (by omega)
  obtain ⟨it, e1, e2⟩ := lot_bad r hd (by simpa using hl) n
  have hb : (ks.map kD).filter (fun d => !isP n d) = [] := by
    rw [List.filter_eq_nil_iff]
    intro d hd
    obtain ⟨k, hk2, e⟩ := List.mem_map.mp hd
    subst e
    have := hk k hk2
    simp [kD, isP, this]
  rw [hb] at e2
  have r2 : Row (h ++ [O.lst [], O.lst []]) x (ks.map kD) := r.app _
  have e3 := lot_incs r2 hl (some (.int n)) none
  generalize hes : ((rangeL 0 (ks.length - 1)).filter fun d => match d with | .int i => (match ks[i.toNat]?, ks[i.toNat + 1]? with | some a, some b => decide (b ≤ a) | _, _ => false) | _ => false) = es at e3 ⊢
  have hd2 : ∀ d ∈ es, Dk 10 d := fun d h1 => by
    rw [← hes] at h1
    exact (rangeL_dk d (List.mem_filter.mp h1).1).up (by omega)
  rw [List.map_id] at e3
  have q0 := (eqF_nil (h := h ++ [O.lst [], O.lst []]) (a := h.length) (b := h.length + 1) (ds := []) (by rw [lk_append, if_neg (by omega), Nat.sub_self]; rfl) (by rw [lk_append, if_neg (by omega), Nat.add_sub_cancel_left]; rfl) (by simp)).2
  have q := (eqF_nil (h := h ++ [O.lst [], O.lst [], O.lst es, O.lst []]) (a := h.length + 2) (b := h.length + 3) (ds := es) (by rw [lk_append, if_neg (by omega), Nat.add_sub_cancel_left]; rfl) (by rw [lk_append, if_neg (by omega), Nat.add_sub_cancel_left]; rfl) hd2).1
  refine ⟨h ++ [O.lst [], O.lst [], O.lst es, O.lst []], ?_, .apps⟩
  have ln := r2.len
  rw [List.length_map] at ln
  rw [islot_eq]
  cases ks with
  | nil =>
    have e4 : es = [] := by rw [← hes]; rfl
    subst e4
    cases b <;> simp (disch := omega) [defM_ev, startD, i1, i2, e1, e2, LIM_eq, guard_true, q0, ln, rg1_m1, rangeL, q]
  | cons k ks =>
    have hl2 : ks.length < 20000 := by simp at hl; omega
    simp only [List.length_cons, Nat.add_sub_cancel] at e3 ln
    cases b <;> simp (disch := omega) [defM_ev, startD, i1, i2, e1, e2, LIM_eq, guard_true, q0, ln, e3, q]
end
end Kq
end
set_option maxHeartbeats 8000000
noncomputable section
namespace Kq
open PySem PySem.Spec L2 Kf
/-! ### the program's disk -/
def dskO (n : Nat) (bs : List D) (ws : List (Nat × D)) (f t : D) : O := .ins "Disk" [("size", .int n), ("blocks", .tup bs), ("waiting", .tup (ws.map wD)), ("fuse", f), ("fuse_steps", t)]
/-- in [lo, hi] -/
def isIn (lo hi : Int) : D → Bool | .int i => decide (lo ≤ i) && decide (i ≤ hi) | _ => false
theorem between_ex {h : Hd} {x : D} (v : Val h x) (lo hi : Int) : M_is_between [x, .int lo, .int hi] h = .ok (.bl (isIn lo hi x)) h := by
  have w := whole_ex v
  cases hw : isW x with
  | false =>
    have : isIn lo hi x = false := by cases x <;> first | rfl | simp [isW] at hw
    simp (disch := omega) [M_is_between, defM_ev, s_is_between, startD, w, hw, this, guard_true]
  | true =>
    obtain ⟨i, rfl⟩ : ∃ i, x = .int i := by cases x <;> first | exact ⟨_, rfl⟩ | simp [isW] at hw
    by_cases g : i < lo
    · have : isIn lo hi (.int i) = false := by simp [isIn]; omega
      simp (disch := omega) [M_is_between, defM_ev, s_is_between, startD, w, hw, this, guard_true, g]
    · have : isIn lo hi (.int i) = !decide (hi < i) := by
        have : lo ≤ i := by omega
        simp [isIn, this]
        by_cases z : hi < i
        · simp [z]
        · simp [z]; omega
      simp (disch := omega) [M_is_between, defM_ev, s_is_between, startD, w, hw, this, guard_true, g]
section
variable {h : Hd} {d n : Nat} {bs : List D} {ws : List (Nat × D)} {f t x : D}
theorem need_ok (e : lk h d = some (dskO n bs ws f t)) (v : Val h x) (p : isP n x = true) : M_Disk_need_block [.ref d, x] h = .ok .non h := by
  have b := between_ex v 0 ((n : Int) - 1)
  have q : isIn 0 ((n : Int) - 1) x = true := by
    obtain ⟨k, rfl, hk⟩ := isP_int p
    simp [isIn]; omega
  unfold dskO at e
  simp (disch := omega) [M_Disk_need_block, defM_ev, s_Disk_need_block, startD, e, b, q, guard_true, List.lookup]
theorem need_bad (e : lk h d = some (dskO n bs ws f t)) (v : Val h x) (p : isP n x = false) : M_Disk_need_block [.ref d, x] h = .exc "BadNumber" [("number", x), ("what", .str "block")] h := by
  have b := between_ex v 0 ((n : Int) - 1)
  have q : isIn 0 ((n : Int) - 1) x = false := by
    cases x with
    | int i => simp [isIn, isP] at p ⊢; omega
    | _ => rfl
  unfold dskO at e
  simp (disch := omega) [M_Disk_need_block, defM_ev, s_Disk_need_block, startD, e, b, q, guard_true, List.lookup]
theorem bear_cut (e : lk h d = some (dskO n bs ws f t)) (hf : isFuse f) (z : burnt f = none) : M_Disk_bear [.ref d] h = .exc "Fallen" [("steps", t)] h := by
  have : f = .int 0 := by
    rcases hf with q | ⟨i, q, hi⟩
    · subst q; cases z
    · subst q
      by_cases g : i = 0
      · rw [g]
      · simp [burnt, g] at z
  subst this
  unfold dskO at e
  simp (disch := omega) [M_Disk_bear, defM_ev, s_Disk_bear, startD, e, guard_true, List.lookup, isNon_int]
theorem bear_ok (e : lk h d = some (dskO n bs ws f t)) (hf : isFuse f) {f' : D} (z : burnt f = some f') : ∃ h', M_Disk_bear [.ref d] h = .ok .non h' ∧ lk h' d = some (dskO n bs ws f' t) ∧ Fr [d] h h' := by
  have hd := lk_lt e
  rcases hf with q | ⟨i, q, hi⟩
  · subst q
    cases z
    refine ⟨h, ?_, e, .refl⟩
    unfold dskO at e
    simp (disch := omega) [M_Disk_bear, defM_ev, s_Disk_bear, startD, e, guard_true, List.lookup, isNon_non]
  · subst q
    by_cases g : i = 0
    · simp [burnt, g] at z
    · have : f' = .int (i - 1) := by simpa [burnt, g] using z.symm
      subst this
      refine ⟨h.set d (dskO n bs ws (.int (i - 1)) t), ?_, by rw [lk_set, if_pos rfl, if_pos hd], .set (by simp)⟩
      unfold dskO at e ⊢
      simp (disch := omega) [M_Disk_bear, defM_ev, s_Disk_bear, startD, e, guard_true, List.lookup, isNon_int, g, putD]
theorem setfuse_ok (e : lk h d = some (dskO n bs ws f t)) {x : D} (hx : isFuse x) : M_Disk_set_fuse [.ref d, x] h = .ok .non (h.set d (dskO n bs ws x x)) := by
  have hd := lk_lt e
  unfold dskO at e ⊢
  rcases hx with q | ⟨i, q, hi⟩
  · subst q
    simp (disch := omega) [M_Disk_set_fuse, defM_ev, s_Disk_set_fuse, startD, e, guard_true, List.lookup, isNon_non, putD, hd]
  · subst q
    have w := whole_ex (h := h) (x := .int i) (.flat (dk_int.up (by omega)))
    have c : M_is_count [.int i] h = .ok (.bl true) h := by
      simp (disch := omega) [M_is_count, defM_ev, s_is_count, startD, guard_true, w, isW]
      omega
    simp (disch := omega) [M_Disk_set_fuse, defM_ev, s_Disk_set_fuse, startD, e, guard_true, List.lookup, isNon_int, putD, hd, c]
end
end Kq
end
set_option maxHeartbeats 8000000
noncomputable section
namespace Kq
open PySem PySem.Spec L2 Kf
section
variable {h : Hd} {d n : Nat} {bs : List D} {ws : List (Nat × D)} {f t x : D}
/-- what is no fuse -/
def isFz : D → Bool | .non => true | .int i => decide (0 ≤ i) | _ => false
theorem setfuse_bad (e : lk h d = some (dskO n bs ws f t)) (v : Val h x) (hx : isFz x = false) : M_Disk_set_fuse [.ref d, x] h = .exc "BadNumber" [("number", x), ("what", .str "steps")] h := by
  have w := whole_ex v
  have nn : isNonD x = false := by cases x <;> first | rfl | (simp [isFz] at hx)
  have c : M_is_count [x] h = .ok (.bl false) h := by
    cases hw : isW x with
    | false => simp (disch := omega) [M_is_count, defM_ev, s_is_count, startD, guard_true, w, hw]
    | true =>
      obtain ⟨i, rfl⟩ : ∃ i, x = .int i := by cases x <;> first | exact ⟨_, rfl⟩ | simp [isW] at hw
      have : i < 0 := by simp [isFz] at hx; omega
      simp (disch := omega) [M_is_count, defM_ev, s_is_count, startD, guard_true, w, hw, this]
  unfold dskO at e
  simp (disch := omega) [M_Disk_set_fuse, defM_ev, s_Disk_set_fuse, startD, e, guard_true, List.lookup, nn, c]
theorem spoil_ok (e : lk h d = some (dskO n bs ws f t)) {k : Nat} (hk : k < n) (hn : bs.length = n) {c : D} :
    ∃ h', M_Disk_spoil [.ref d, .int k, c] h = .ok .non h' ∧ lk h' d = some (dskO n (bs.set k c) ws f t) ∧ Fr [d] h h' := by
  have hd := lk_lt e
  have nb := need_ok e (x := .int k) (.flat (dk_int.up (by omega))) (by simp [isP]; omega)
  have ix : ixN bs.length (k : Int) = some k := ixN_nat (by omega)
  refine ⟨(h ++ [O.lst (bs.set k c)]).set d (dskO n (bs.set k c) ws f t), ?_, by rw [lk_set, if_pos rfl, if_pos (by simp; omega)], Fr.trans .app (.set (by simp))⟩
  unfold dskO at e ⊢
  simp (disch := omega) [M_Disk_spoil, defM_ev, s_Disk_spoil, startD, e, guard_true, List.lookup, nb, ix, putD, hd, tabM]
theorem spoil_bad (e : lk h d = some (dskO n bs ws f t)) (v : Val h x) (p : isP n x = false) {c : D} : M_Disk_spoil [.ref d, x, c] h = .exc "BadNumber" [("number", x), ("what", .str "block")] h := by
  have nb := need_bad e v p
  unfold dskO at e
  simp (disch := omega) [M_Disk_spoil, defM_ev, s_Disk_spoil, startD, e, guard_true, List.lookup, nb, tabM]
theorem wipe_ok (e : lk h d = some (dskO n bs ws f t)) (h0 : 0 < n) (h1 : n ≤ 1000) :
    ∃ h', M_Disk_wipe [.ref d] h = .ok .non h' ∧ lk h' d = some (dskO n (List.replicate n .non) [] .non .non) ∧ Fr [d] h h' := by
  have hd := lk_lt e
  have sf := setfuse_ok (h := h.set d (dskO n (List.replicate n .non) [] f t)) (d := d) (x := .non) (by rw [lk_set, if_pos rfl, if_pos hd]) (.inl rfl)
  have mu : mulB (.tup [.non]) (.int n) h = .ok (.tup (List.replicate n .non)) h := by
    have : (List.replicate (n : Int).toNat [D.non]).flatten = List.replicate n .non := by simp
    show (guard' ([D.non] ≠ [] ∧ (1 : Int) ≤ n ∧ (n : Int) ≤ 1000 ∧ [D.non].length ≤ 1000) (.ok (.tup (List.replicate (n : Int).toNat [D.non]).flatten) h) : Res D) = _
    rw [this]
    exact guard_true _ _ ⟨by simp, by omega, by omega, by simp⟩
  rw [List.set_set] at sf
  refine ⟨h.set d (dskO n (List.replicate n .non) [] .non .non), ?_, by rw [lk_set, if_pos rfl, if_pos hd], .set (by simp)⟩
  unfold dskO at e sf ⊢
  simp at sf
  simp (disch := omega) [M_Disk_wipe, defM_ev, s_Disk_wipe, startD, e, guard_true, List.lookup, mu, putD, hd, tabM, sf, LIM_eq]
theorem write_ok (e : lk h d = some (dskO n bs ws f t)) (hf : isFuse f) {f' : D} (z : burnt f = some f') {k : Nat} (hk : k < n) (hl : ws.length < 10000) {c : D} :
    ∃ h', M_Disk_write [.ref d, .int k, c] h = .ok .non h' ∧ lk h' d = some (dskO n bs (ws ++ [(k, c)]) f' t) ∧ Fr [d] h h' := by
  have nb := need_ok e (x := .int k) (.flat (dk_int.up (by omega))) (by simp [isP]; omega)
  obtain ⟨h1, e1, e2, F1⟩ := bear_ok e hf z
  have hd := lk_lt e2
  refine ⟨h1.set d (dskO n bs (ws ++ [(k, c)]) f' t), ?_, by rw [lk_set, if_pos rfl, if_pos hd], F1.trans (.set (by simp))⟩
  unfold dskO at e e2 ⊢
  simp (disch := omega) [M_Disk_write, defM_ev, s_Disk_write, startD, e, e2, guard_true, List.lookup, nb, e1, putD, hd, tabM, LIM_eq, wD]
theorem write_cut (e : lk h d = some (dskO n bs ws f t)) (hf : isFuse f) (z : burnt f = none) {k : Nat} (hk : k < n) {c : D} : M_Disk_write [.ref d, .int k, c] h = .exc "Fallen" [("steps", t)] h := by
  have nb := need_ok e (x := .int k) (.flat (dk_int.up (by omega))) (by simp [isP]; omega)
  have b := bear_cut e hf z
  unfold dskO at e
  simp (disch := omega) [M_Disk_write, defM_ev, s_Disk_write, startD, e, guard_true, List.lookup, nb, b, tabM]
theorem write_bad (e : lk h d = some (dskO n bs ws f t)) (v : Val h x) (p : isP n x = false) {c : D} : M_Disk_write [.ref d, x, c] h = .exc "BadNumber" [("number", x), ("what", .str "block")] h := by
  have nb := need_bad e v p
  unfold dskO at e
  simp (disch := omega) [M_Disk_write, defM_ev, s_Disk_write, startD, e, guard_true, List.lookup, nb, tabM]
theorem read_bad (e : lk h d = some (dskO n bs ws f t)) (v : Val h x) (p : isP n x = false) : M_Disk_read [.ref d, x] h = .exc "BadNumber" [("number", x), ("what", .str "block")] h := by
  have nb := need_bad e v p
  unfold dskO at e
  simp (disch := omega) [M_Disk_read, defM_ev, s_Disk_read, startD, e, guard_true, List.lookup, nb, tabM]
end
end Kq
end
set_option maxHeartbeats 8000000
noncomputable section
namespace Kq
open PySem PySem.Spec L2 Kf
/-- writes, done in their order -/
def appl : List (Nat × D) → List D → List D
  | [], bs => bs
  | q :: us, bs => appl us (bs.set q.1 q.2)
theorem appl_snoc {q : Nat × D} : ∀ {us : List (Nat × D)} {bs : List D}, appl (us ++ [q]) bs = (appl us bs).set q.1 q.2
  | [], _ => rfl
  | _ :: us, bs => by
    show appl (us ++ [q]) _ = _
    rw [appl_snoc]; rfl
theorem appl_len : ∀ {us : List (Nat × D)} {bs : List D}, (appl us bs).length = bs.length
  | [], _ => rfl
  | q :: us, bs => by unfold appl; rw [appl_len]; simp
theorem done_appl {ws : List (Nat × D)} : ∀ {ks : List Nat} {bs : List D}, (∀ k ∈ ks, k < ws.length) → done ws ks bs = appl (ks.filterMap fun k => ws[k]?) bs
  | [], _, _ => rfl
  | k :: ks, bs, hk => by
    have h1 : ws[k]? = some (ws[k]'(hk k List.mem_cons_self)) := List.getElem?_eq_getElem _
    unfold done
    rw [h1, List.filterMap_cons, h1]
    exact done_appl fun x hx => hk x (List.mem_cons_of_mem _ hx)
def dowB : SS := (sAsg (sVar 4) (gSub' (sVar 2) (sVar 3) setF))
section
variable {h : Hd} {d n m : Nat} {bs : List D} {us : List (Nat × D)} {f t x : D}
theorem dow_turn (em : lk h m = some (.lst bs)) {q : Nat × D} (hq : q.1 < bs.length) (a0 a1 : Option D) :
    dowB [a0, a1, some (.ref m), some (.int q.1), some q.2] h = .ok (.nx [a0, a1, some (.ref m), some (.int q.1), some q.2]) (h.set m (.lst (bs.set q.1 q.2))) := by
  have e2 : ixN bs.length (q.1 : Int) = some q.1 := ixN_nat hq
  simp (disch := omega) [dowB, em, e2]
/-- the loop of the writes -/
theorem dow_loop (em : lk h m = some (.lst bs)) (hq : ∀ q ∈ us, q.1 < bs.length) {it : ItD} {j : Nat} (hj : us.length < j) (hn : ∀ bs' i, nextD it (h.set m (.lst bs')) i = some (us.map wD)[i]?) (a0 a1 : Option D) :
    ∃ a3 a4, loopI it (gTp 2 (gCons' (gN 3) (gCons' (gN 4) gNil'))) dowB j 0 [a0, a1, some (.ref m), none, none] h = .ok (.nx [a0, a1, some (.ref m), a3, a4]) (h.set m (.lst (appl us bs))) := by
  have hm := lk_lt em
  have same : h.set m (.lst bs) = h := by
    apply List.ext_getElem?
    intro j
    have := lk_set h m j (.lst bs)
    unfold lk at this
    rw [this]
    by_cases e : m = j
    · subst e; rw [if_pos rfl, if_pos hm]; exact em.symm
    · rw [if_neg e]
  obtain ⟨env', h', e, a3, a4, e2, e3⟩ := loop_inv (it := it) (g := gTp 2 (gCons' (gN 3) (gCons' (gN 4) gNil'))) (b := dowB) (fun i env h' => ∃ a3 a4, env = [a0, a1, some (.ref m), a3, a4] ∧ h' = h.set m (.lst (appl (us.take i) bs))) (us.map wD)
    (fun i env h' ⟨a3, a4, _, e⟩ => by rw [e]; exact hn _ i)
    (fun i env h' y hd ⟨a3, a4, e1, e2⟩ => by
      subst e1 e2
      rw [List.getElem?_map] at hd
      cases ek : us[i]? with
      | none => rw [ek] at hd; cases hd
      | some q =>
        rw [ek] at hd
        cases hd
        have hi := lt_of_get ek
        have et : us.take (i + 1) = us.take i ++ [q] := by rw [List.take_succ, ek]; rfl
        refine ⟨[a0, a1, some (.ref m), some (.int q.1), some q.2], h.set m (.lst (appl (us.take i) bs)), by simp [wD, guard_true], _, _, dow_turn (by rw [lk_set, if_pos rfl, if_pos hm]) (by rw [appl_len]; exact hq q (List.mem_of_getElem? ek)) a0 a1, _, _, rfl, ?_⟩
        rw [List.set_set, et, appl_snoc])
    j 0 _ h ⟨none, none, rfl, by rw [List.take_zero]; exact same.symm⟩ (by simpa using hj) (Nat.zero_le _)
  subst e2 e3
  rw [List.length_map, List.take_length] at e
  exact ⟨a3, a4, e⟩
theorem dow_eq : M_Disk_do_writes = defM 5 (sSeq (sAsg (sNew (sCallL listF (sCons (sFld (sVar 0) "blocks" ["Disk"]) sNil))) (gN 2))
    (sSeq (sFor (sVal (sVar 1)) (gTp 2 (gCons' (gN 3) (gCons' (gN 4) gNil'))) dowB)
    (sSeq (sSetF (sVar 0) "blocks" ["Disk"] (sCall tupF (sCons (sVar 2) sNil))) (sSetF (sVar 0) "waiting" ["Disk"] (sTup sNil))))) := rfl
theorem dow_ex {ws : List (Nat × D)} (e : lk h d = some (dskO n bs ws f t)) (r : Row h x (us.map wD)) (hq : ∀ q ∈ us, q.1 < bs.length) :
    ∃ h', M_Disk_do_writes [.ref d, x] h = .ok .non h' ∧ lk h' d = some (dskO n (appl us bs) [] f t) ∧ Fr [d] h h' := by
  have hd := lk_lt e
  have r2 := r.app [O.lst bs]
  have em : lk (h ++ [O.lst bs]) h.length = some (.lst bs) := by simp
  have hit : ∃ it, itOf x (h ++ [O.lst bs]) = some it ∧ us.length < turnsD it (h ++ [O.lst bs]) ∧ ∀ bs' i, nextD it ((h ++ [O.lst bs]).set h.length (.lst bs')) i = some (us.map wD)[i]? := by
    cases r with
    | tup => exact ⟨_, rfl, by simp [turnsD], fun _ _ => rfl⟩
    | fls => exact ⟨_, rfl, by simp [turnsD], fun _ _ => rfl⟩
    | @lst m _ el =>
      have hm := lk_lt el
      have q1 : lk (h ++ [O.lst bs]) m = some (.lst (us.map wD)) := by rw [lk_append, if_pos hm, el]
      have q2 : (h ++ [O.lst bs])[m]? = some (.lst (us.map wD)) := q1
      refine ⟨.live m, by rw [itOf_ref, q1]; rfl, by simp [turnsD, q2], fun bs' i => ?_⟩
      have : lk ((h ++ [O.lst bs]).set h.length (.lst bs')) m = some (.lst (us.map wD)) := by rw [lk_set, if_neg (by omega), q1]
      rw [nextD_live, this, nvO_lst, nD_get]
  obtain ⟨it, i1, i2, i3⟩ := hit
  obtain ⟨a3, a4, e3⟩ := dow_loop em hq i2 i3 (some (.ref d)) (some x)
  refine ⟨((h ++ [O.lst bs]).set h.length (.lst (appl us bs))).set d (dskO n (appl us bs) [] f t), ?_, by rw [lk_set, if_pos rfl, if_pos (by simp; omega)], ?_⟩
  · rw [dow_eq]
    unfold dskO at e ⊢
    have hne : ¬ h.length = d := by omega
    have e5 : lk ((h ++ [O.lst bs]).set h.length (.lst (appl us bs))) d = some (.ins "Disk" [("size", .int n), ("blocks", .tup bs), ("waiting", .tup (ws.map wD)), ("fuse", f), ("fuse_steps", t)]) := by
      rw [lk_set, if_neg hne, lk_append, if_pos hd, e]
    generalize hH : (h ++ [O.lst bs]).set h.length (.lst (appl us bs)) = H at e3 e5 ⊢
    have e6 : lk H h.length = some (.lst (appl us bs)) := by rw [← hH, lk_set, if_pos rfl, if_pos (by simp)]
    have hH2 : d < H.length := lk_lt e5
    simp (disch := omega) [defM_ev, startD, e, guard_true, List.lookup, i1, e3, e5, e6, putD, LIM_eq, hH2]
  · exact Fr.trans ⟨by simp, fun m hm _ => by rw [lk_set, if_neg (by omega), lk_append, if_pos hm]⟩ (.set (by simp))
theorem dflush_ok {ws : List (Nat × D)} (e : lk h d = some (dskO n bs ws f t)) (hf : isFuse f) {f' : D} (z : burnt f = some f') (hq : ∀ q ∈ ws, q.1 < bs.length) :
    ∃ h', M_Disk_flush [.ref d] h = .ok .non h' ∧ lk h' d = some (dskO n (appl ws bs) [] f' t) ∧ Fr [d] h h' := by
  obtain ⟨h1, e1, e2, F1⟩ := bear_ok e hf z
  obtain ⟨h2, e3, e4, F2⟩ := dow_ex (us := ws) e2 (.tup (ds := ws.map wD)) hq
  refine ⟨h2, ?_, e4, F1.trans F2⟩
  unfold dskO at e e2
  simp (disch := omega) [M_Disk_flush, defM_ev, s_Disk_flush, startD, e, e2, guard_true, List.lookup, e1, e3, tabM]
theorem dflush_cut {ws : List (Nat × D)} (e : lk h d = some (dskO n bs ws f t)) (hf : isFuse f) (z : burnt f = none) : M_Disk_flush [.ref d] h = .exc "Fallen" [("steps", t)] h := by
  have b := bear_cut e hf z
  unfold dskO at e
  simp (disch := omega) [M_Disk_flush, defM_ev, s_Disk_flush, startD, e, guard_true, List.lookup, b, tabM]
end
end Kq
end
set_option maxHeartbeats 8000000
noncomputable section
namespace Kq
open PySem PySem.Spec L2 Kf
/-- what a read of place k tells: the last write that waits, else the block -/
def lastW (k : Nat) : List (Nat × D) → Option D
  | [] => none
  | q :: r => if q.1 = k then some q.2 else lastW k r
def readB : SS := (sIf (sTest (s2 eqF (sVar 2) (sVar 1))) (sRet (sVar 3)) sNext)
theorem read_loop (a0 : Option D) (k : Nat) (h : Hd) : ∀ (us : List (Nat × D)) (a2 a3 : Option D), ∃ a2' a3', loopItems (gTp 2 (gCons' (gN 2) (gCons' (gN 3) gNil'))) readB (us.map wD) [a0, some (.int k), a2, a3] h =
    match lastW k us with | some c => .ok (.ret c) h | none => .ok (.nx [a0, some (.int k), a2', a3']) h
  | [], a2, a3 => ⟨a2, a3, rfl⟩
  | q :: us, a2, a3 => by
    obtain ⟨a2', a3', ih⟩ := read_loop a0 k h us (some (.int q.1)) (some q.2)
    refine ⟨a2', a3', ?_⟩
    rw [List.map_cons, loopItems_cons]
    by_cases g : q.1 = k
    · simp (disch := omega) [wD, guard_true, readB, g, lastW]
    · have g2 : ¬ ((q.1 : Int) = k) := by omega
      simp (disch := omega) [wD, guard_true, readB, g, g2, lastW]
      exact ih
section
variable {h : Hd} {d n k : Nat} {bs : List D} {ws : List (Nat × D)} {f t : D}
theorem dread_ok (e : lk h d = some (dskO n bs ws f t)) (hk : k < n) (hn : bs.length = n) :
    M_Disk_read [.ref d, .int k] h = .ok ((lastW k ws.reverse).getD (bs.getD k .non)) h := by
  have nb := need_ok e (x := .int k) (.flat (dk_int.up (by omega))) (by simp [isP]; omega)
  have eq : M_Disk_read = defM 4 (sSeq (sDrop (sMeth "need_block" (tabM [("Disk", 2, M_Disk_need_block, [])]) (sVar 0) (sCons (sVar 1) sNil)))
    (sSeq (sFor (sRev (sFld (sVar 0) "waiting" ["Disk"])) (gTp 2 (gCons' (gN 2) (gCons' (gN 3) gNil'))) readB) (sRet (s2 getF (sFld (sVar 0) "blocks" ["Disk"]) (sVar 1))))) := rfl
  obtain ⟨a2, a3, l⟩ := read_loop (some (.ref d)) k h ws.reverse none none
  have hb : bs[k]? = some (bs[k]'(by omega)) := List.getElem?_eq_getElem (by omega)
  have at1 : atI bs (k : Int) = some (bs[k]'(by omega)) := atI_nat hb
  have gd : bs.getD k .non = bs[k]'(by omega) := by simp [List.getD, hb]
  rw [gd]
  unfold dskO at e
  rw [eq]
  have rv : sRev (sFld (sVar 0) "waiting" ["Disk"]) [some (.ref d), some (.int k), none, none] h = .ok (.snap ((ws.reverse).map wD)) h := by
    unfold sRev
    simp (disch := omega) [e, guard_true, List.lookup]
  cases q : lastW k ws.reverse with
  | some c =>
    rw [q, List.map_reverse] at l
    simp (disch := omega) [defM_ev, startD, e, guard_true, List.lookup, nb, tabM, rv, l]
  | none =>
    rw [q, List.map_reverse] at l
    simp (disch := omega) [defM_ev, startD, e, guard_true, List.lookup, nb, tabM, rv, l, at1]
end
end Kq
end
set_option maxHeartbeats 8000000
noncomputable section
namespace Kq
open PySem PySem.Spec L2 Kf
section
variable {h : Hd} {m n : Nat} {x : D}
theorem count_ex (v : Val h x) : M_is_count [x] h = .ok (.bl (match x with | .int i => decide (0 ≤ i) | _ => false)) h := by
  have w := whole_ex v
  cases hw : isW x with
  | false => cases x <;> first | (simp (disch := omega) [M_is_count, defM_ev, s_is_count, startD, guard_true, w, hw]; done) | simp [isW] at hw
  | true =>
    obtain ⟨i, rfl⟩ : ∃ i, x = .int i := by cases x <;> first | exact ⟨_, rfl⟩ | simp [isW] at hw
    by_cases g : i < 0
    · have : ¬ 0 ≤ i := by omega
      simp (disch := omega) [M_is_count, defM_ev, s_is_count, startD, guard_true, w, hw, g, this]
    · have : 0 ≤ i := by omega
      simp (disch := omega) [M_is_count, defM_ev, s_is_count, startD, guard_true, w, hw, g, this]
def isPos : D → Bool | .int i => decide (0 < i) | _ => false
theorem init_bad (v : Val h x) (hx : isPos x = false) : M_Disk_init [.ref m, x] h = .exc "BadNumber" [("number", x), ("what", .str "size")] h := by
  have c := count_ex v
  cases x with
  | int i =>
    simp [isPos] at hx
    by_cases g : 0 ≤ i
    · have : i = 0 := by omega
      subst this
      simp (disch := omega) [M_Disk_init, defM_ev, s_Disk_init, startD, guard_true, c]
    · simp (disch := omega) [M_Disk_init, defM_ev, s_Disk_init, startD, guard_true, c, g]
  | _ => simp (disch := omega) [M_Disk_init, defM_ev, s_Disk_init, startD, guard_true, c]
end
end Kq
end
set_option maxHeartbeats 8000000
noncomputable section
namespace Kq
open PySem PySem.Spec L2 Kf
theorem sTry_exc {f : SS} {l : List Cl} {env env1 : En} {h h1 : Hd} {c : String} {fs : List (String × D)} (e : f env h = .ok (.exc c fs env1) h1) : sTry f l env h = sCls l c fs env1 h1 := by
  unfold sTry; rw [e]
theorem sTry_nx {f : SS} {l : List Cl} {env env1 : En} {h h1 : Hd} (e : f env h = .ok (.nx env1) h1) : sTry f l env h = .ok (.nx env1) h1 := by
  unfold sTry; rw [e]
theorem sCls_yes {mt : String → Option Bool} {sl : Option Nat} {f : String → Nat → Option Nat → SS} {r : List Cl} {c : String} {fs : List (String × D)} {env : En} {h : Hd} {res : Rs} (e : mt c = some true)
    (k : ∀ a d, outN sl (f c a d (inN sl (.xc c a d fs) env) h) = res) : sCls ((mt, sl, f) :: r) c fs env h = res := by
  unfold sCls; rw [e]; exact onAll_of k
theorem sCls_no {mt : String → Option Bool} {sl : Option Nat} {f : String → Nat → Option Nat → SS} {r : List Cl} {c : String} {fs : List (String × D)} {env : En} {h : Hd} (e : mt c = some false) :
    sCls ((mt, sl, f) :: r) c fs env h = sCls r c fs env h := by
  conv => lhs; unfold sCls
  rw [e]
theorem xf_ev (c : String) (a : Nat) (d : Option Nat) (g : SE) (f : String) (env : En) (h : Hd) (fs : List (String × D)) (e : g env h = .ok (.xc c a d fs) h) : sXf c a d g f env h = onSome (fs.lookup f) fun v => .ok v h := by
  unfold sXf
  rw [e, Res.bind_ok]
  exact if_pos ⟨rfl, rfl, rfl⟩
theorem eqF_same {x y : D} {h : Hd} {p : PyData} (e : Kf.py h 60 x = some p) (e2 : Kf.py h 60 y = some p) : eqF x y h = .ok (.bl true) h ∧ neF x y h = .ok (.bl false) h := by
  have q := PySem.SeqAt.eqv_refl p (py_ok e).1
  exact ⟨f2P_of e e2 (by rw [q]), f2P_of e e2 (by rw [q]; rfl)⟩
end Kq
end
set_option maxHeartbeats 8000000
noncomputable section
namespace Kq
open PySem PySem.Spec L2 Kf
def srB : SS := (sSeq (sDrop (sNewI "Disk" 2 M_Disk_init [] (sCons (sVar 0) sNil))) (sAsg (sC (.str "made")) (gN 1)))
def srS (a : Nat) (d : Option Nat) : SS := (sAsg (sTup (sCons (sXf "BadNumber" a d (sVar 2) "what") (sCons (sXf "BadNumber" a d (sVar 2) "number") (sCons (sIsi "bool" (sXf "BadNumber" a d (sVar 2) "number")) sNil)))) (gN 1))
theorem sr_eq : M_law_size_refused = defM 3 (sSeq (sAsg (sC .non) (gN 1)) (sSeq (sTry srB [((fun c => List.lookup c [("BadNumber", true), ("Fallen", false)]), (some 2), fun _ a d => srS a d)])
    (sRet (s2 eqF (sVar 1) (sTup (sCons (sC (.str "size")) (sCons (sVar 0) (sCons (sIsi "bool" (sVar 0)) sNil)))))))) := rfl
theorem sr_suite {h : Hd} {x : D} (v : Val h x) (a : Nat) (d : Option Nat) :
    srS a d [some x, some .non, some (.xc "BadNumber" a d [("number", x), ("what", .str "size")])] h = .ok (.nx [some x, some (.tup [.str "size", x, .bl (isB x)]), some (.xc "BadNumber" a d [("number", x), ("what", .str "size")])]) h := by
  have e : ∀ f, sXf "BadNumber" a d (sVar 2) f [some x, some .non, some (.xc "BadNumber" a d [("number", x), ("what", .str "size")])] h = onSome (List.lookup f [("number", x), ("what", .str "size")]) fun v => .ok v h := fun f => xf_ev _ _ _ _ _ _ _ _ (by simp)
  simp (disch := omega) [srS, e, List.lookup, isi_bool v, LIM_eq, guard_true]
theorem refused_ex {h : Hd} {x : D} (q : Dk 10 x) (hx : isPos x = false) : ∃ h', M_law_size_refused [x] h = .ok (.bl true) h' ∧ Fr [] h h' := by
  have v : Val (h ++ [O.ins "Disk" []]) x := .flat q
  have ib := init_bad (m := h.length) v hx
  have e1 : srB [some x, some .non, none] h = .ok (.exc "BadNumber" [("number", x), ("what", .str "size")] [some x, some .non, none]) (h ++ [O.ins "Disk" []]) := by
    simp (disch := omega) [srB, guard_true, ib]
  have e2 := sCls_yes (mt := fun c => List.lookup c [("BadNumber", true), ("Fallen", false)]) (sl := some 2) (f := fun _ a d => srS a d) (r := []) (c := "BadNumber") (fs := [("number", x), ("what", .str "size")]) (env := [some x, some .non, none]) (h := h ++ [O.ins "Disk" []])
    (res := .ok (.nx [some x, some (.tup [.str "size", x, .bl (isB x)]), none]) (h ++ [O.ins "Disk" []])) rfl fun a d => by
      show outN (some 2) (srS a d [some x, some .non, some (.xc "BadNumber" a d [("number", x), ("what", .str "size")])] (h ++ [O.ins "Disk" []])) = _
      rw [sr_suite v]; rfl
  have e3 := (sTry_exc (l := [((fun c => List.lookup c [("BadNumber", true), ("Fallen", false)]), (some 2), fun _ a d => srS a d)]) e1).trans e2
  obtain ⟨p, z⟩ : Dk 11 (.tup [.str "size", x, .bl (isB x)]) := dk_tup fun y hy => by
    simp at hy
    rcases hy with e | e | e <;> subst e
    · exact dk_str.up (by omega)
    · exact q
    · exact dk_bl.up (by omega)
  have e4 := (eqF_same (h := h ++ [O.ins "Disk" []]) (z _ 60 (by omega)) (z _ 60 (by omega))).1
  refine ⟨h ++ [O.ins "Disk" []], ?_, .app⟩
  rw [sr_eq]
  simp (disch := omega) [defM_ev, startD, e3, isi_bool v, LIM_eq, guard_true, e4]
end Kq
end
set_option maxHeartbeats 8000000
noncomputable section
namespace Kq
open PySem PySem.Spec L2 Kf
/-- equal lists -/
theorem eqF_lists {h : Hd} {a b : Nat} {ds : List D} (ea : lk h a = some (.lst ds)) (eb : lk h b = some (.lst ds)) (hd : ∀ d ∈ ds, Dk 10 d) : eqF (.ref a) (.ref b) h = .ok (.bl true) h ∧ neF (.ref a) (.ref b) h = .ok (.bl false) h := by
  obtain ⟨qs, z⟩ := dk_all hd
  exact eqF_same (p := .list qs) (by rw [py_list ea, z h 59 (by omega)]; rfl) (by rw [py_list eb, z h 59 (by omega)]; rfl)
theorem diskis_ex {h : Hd} {o b w d : Nat} {bs : List D} {ws : List (Nat × D)} {f t f' t' : D} (W : Own h o b w bs ws f t) (e : lk h d = some (dskO bs.length bs ws f' t')) (hb : ∀ x ∈ bs, Dk 10 x) (hw : ∀ x ∈ ws.map wD, Dk 10 x) :
    ∃ h', M_law_disk_is [.ref o, .ref d] h = .ok (.bl true) h' ∧ Fr [] h h' := by
  have ho := lk_lt W.eo
  have hbl := lk_lt W.eb
  have hwl := lk_lt W.ew
  have hd := lk_lt e
  have q1 := (eqF_lists (h := h ++ [O.lst bs]) (a := h.length) (b := b) (by simp) (by rw [lk_append, if_pos hbl, W.eb]) hb).2
  have q2 := (eqF_lists (h := h ++ [O.lst bs, O.lst (ws.map wD)]) (a := h.length + 1) (b := w) (by rw [lk_append, if_neg (by omega), Nat.add_sub_cancel_left]; rfl) (by rw [lk_append, if_pos hwl, W.ew]) hw).1
  refine ⟨h ++ [O.lst bs, O.lst (ws.map wD)], ?_, .apps⟩
  have eo := W.eo
  unfold ownO at eo
  unfold dskO at e
  simp (disch := omega) [M_law_disk_is, defM_ev, s_law_disk_is, startD, eo, e, W.eb, W.ew, guard_true, List.lookup, lk_append, ho, hd, q1, q2, if_pos]
end Kq
end
set_option maxHeartbeats 8000000
noncomputable section
namespace Kq
open PySem PySem.Spec L2 Kf
def fallC : SE := (sFn 3 M_is_between [] (sCons (sVar 2) (sCons (sC (.int 0)) (sCons (s2 (f2I yes2 fun i j => .int (i - j)) (sCall lenA (sCons (sFld (sVar 0) "waiting" ["Disk"]) sNil)) (sC (.int 1))) sNil))))
theorem blsD_map {α : Type} (β : α → Bool) : ∀ ds : List α, blsD (ds.map fun y => D.bl (β y)) = some (ds.map β)
  | [] => rfl
  | y :: ds => by
    show (blsD (ds.map fun y => D.bl (β y))).map (β y :: ·) = _
    rw [blsD_map β ds]; rfl
section
variable {h : Hd} {d n : Nat} {bs : List D} {ws : List (Nat × D)} {f t x : D} {ds : List D}
theorem fall_all1 (e : lk h d = some (dskO n bs ws f t)) (r : Row h x ds) (hd : ∀ y ∈ ds, Dk 10 y) (hl : ds.length < 20000) (a3 a4 : Option D) :
    ∃ it, itOf x h = some it ∧ compI it (gN 2) sYes fallC [some (.ref d), some x, none, a3, a4] (turnsD it h) 0 0 h = .ok (ds.map fun y => .bl (isIn 0 ((ws.length : Int) - 1) y)) h := by
  have eq : (ds.filter fun _ => true) = ds := by simp
  have := r.comp (g := gN 2) (t := sYes) (f := fallC) (env := [some (.ref d), some x, none, a3, a4]) (β := fun _ => true) (φ := fun y => .bl (isIn 0 ((ws.length : Int) - 1) y)) (by rw [LIM_eq]; omega) fun y hy => ⟨_, rfl, by simp, fun _ => by
    have b := between_ex (h := h) (.flat (hd y hy)) 0 ((ws.length : Int) - 1)
    unfold dskO at e
    simp (disch := omega) [fallC, e, guard_true, List.lookup, b]⟩
  rw [eq] at this
  exact this
theorem cut1 (ds : List D) : cutD ds (some 1) none = ds.drop 1 := by
  have h1 : HT.sIx ds.length 0 (some 1) = min 1 ds.length := HT.sIx_nat ds.length 0 1
  have h2 : HT.sIx ds.length ds.length none = ds.length := rfl
  unfold cutD
  rw [h1, h2]
  cases ds with
  | nil => rfl
  | cons y ys =>
    have : min 1 (y :: ys).length = 1 := by simp
    rw [this, List.take_of_length_le]
    simp
end
end Kq
end
set_option maxHeartbeats 8000000
noncomputable section
namespace Kq
open PySem PySem.Spec L2 Kf
/-- ascending -/
def inc : List Nat → Bool
  | a :: b :: r => decide (a < b) && inc (b :: r)
  | _ => true
/-- neighbours -/
def prs : List Nat → List D
  | a :: b :: r => .tup [kD a, kD b] :: prs (b :: r)
  | _ => []
theorem prs_get : ∀ (ks : List Nat) (i : Nat), (match (ks.map kD)[i]?, ((ks.map kD).drop 1)[i]? with | some u, some v => some (D.tup [u, v]) | _, _ => none) = (prs ks)[i]?
  | [], i => by simp [prs]
  | [a], i => by cases i <;> simp [prs]
  | a :: b :: r, 0 => by simp [prs]
  | a :: b :: r, i + 1 => by
    have := prs_get (b :: r) i
    simpa [prs] using this
theorem prs_mem : ∀ {ks : List Nat} {p : D}, p ∈ prs ks → ∃ a b : Nat, p = .tup [.int a, .int b]
  | [], p, h => by cases h
  | [a], p, h => by cases h
  | a :: b :: r, p, h => by
    rcases List.mem_cons.mp h with e | e
    · exact ⟨a, b, e⟩
    · exact prs_mem e
theorem prs_len : ∀ (ks : List Nat), (prs ks).length ≤ ks.length
  | [] => by simp [prs]
  | [a] => by simp [prs]
  | a :: b :: r => by have := prs_len (b :: r); simp [prs] at this ⊢; omega
def geP : D → Bool | .tup [.int a, .int b] => !decide (a < b) | _ => false
theorem prs_any : ∀ (ks : List Nat), ((prs ks).map geP).any id = !inc ks
  | [] => by simp [prs, inc]
  | [a] => by simp [prs, inc]
  | a :: b :: r => by
    have := prs_any (b :: r)
    simp only [prs, List.map_cons, List.any_cons, inc, this]
    simp [geP, kD]
theorem inc_at : ∀ {ks : List Nat}, inc ks = true ↔ ∀ i a b, ks[i]? = some a → ks[i + 1]? = some b → a < b
  | [] => by simp [inc]
  | [x] => by
    simp [inc]
  | x :: y :: r => by
    have ih := inc_at (ks := y :: r)
    unfold inc
    rw [Bool.and_eq_true, ih, decide_eq_true_iff]
    constructor
    · rintro ⟨h1, h2⟩ i a b ea eb
      cases i with
      | zero => simp at ea eb; subst ea eb; exact h1
      | succ i => exact h2 i a b (by simpa using ea) (by simpa using eb)
    · intro h
      exact ⟨h 0 x y rfl rfl, fun i a b ea eb => h (i + 1) a b (by simpa using ea) (by simpa using eb)⟩
theorem inc_range (ks : List Nat) : ((rangeL 0 (ks.length - 1)).filter fun d => match d with | .int i => (match ks[i.toNat]?, ks[i.toNat + 1]? with | some a, some b => decide (b ≤ a) | _, _ => false) | _ => false).isEmpty = inc ks := by
  rw [Bool.eq_iff_iff, List.isEmpty_iff, List.filter_eq_nil_iff, inc_at]
  constructor
  · intro h i a b ea eb
    have hi := lt_of_get eb
    have := h (.int i) (by unfold rangeL; simp; exact ⟨i, by omega, rfl⟩)
    simp [ea, eb] at this
    exact this
  · intro h d hd
    obtain ⟨k, hk, rfl⟩ := rangeL_mem hd
    have e1 : ks[k]? = some (ks[k]'(by omega)) := List.getElem?_eq_getElem (by omega)
    have e2 : ks[k + 1]? = some (ks[k + 1]'(by omega)) := List.getElem?_eq_getElem (by omega)
    have := h k _ _ e1 e2
    simp [e1, e2, this]
def fallZ : SE := sCallN anyN (sLc (sZip (sVar 1) (sSlA (sVar 1) (sPart (sC (.int 1))) sNoPart)) (gTp 2 (gCons' (gN 3) (gCons' (gN 4) gNil'))) sYes (s2 geF (sVar 3) (sVar 4)) [3, 4])
section
variable {h : Hd} {d n : Nat} {bs : List D} {ws : List (Nat × D)} {f t x : D} {ks : List Nat}
theorem zip_comp {y : D} {h1 : Hd} (ex : itemsD h1 x = some (ks.map kD)) (ey : itemsD h1 y = some ((ks.map kD).drop 1)) (hl : ks.length < 20000) (a0 a1 a2 : Option D) :
    compI (.zp x y) (gTp 2 (gCons' (gN 3) (gCons' (gN 4) gNil'))) sYes (s2 geF (sVar 3) (sVar 4)) [a0, a1, a2, none, none] (turnsD (.zp x y) h1) 0 0 h1 = .ok (((prs ks).map geP).map D.bl) h1 := by
  have := comp_pure (it := .zp x y) (g := gTp 2 (gCons' (gN 3) (gCons' (gN 4) gNil'))) (t := sYes) (f := s2 geF (sVar 3) (sVar 4)) (env := [a0, a1, a2, none, none]) (h := h1) (β := fun _ => true) (φ := fun p => .bl (geP p)) (prs ks) (turnsD (.zp x y) h1) 0 0
    (fun j => by
      show (match itemsD h1 x, itemsD h1 y with | some xs, some ys => some (match xs[0 + j]?, ys[0 + j]? with | some u, some v => some (D.tup [u, v]) | _, _ => none) | _, _ => none) = _
      rw [ex, ey, Nat.zero_add]
      exact congrArg some (prs_get ks j))
    (by
      have := prs_len ks
      simp [turnsD, ex]; omega)
    (by have := prs_len ks; rw [LIM_eq]; omega)
    (fun p hp => by
      obtain ⟨a, b, rfl⟩ := prs_mem hp
      exact ⟨[a0, a1, a2, some (.int a), some (.int b)], by simp [guard_true], by simp, fun _ => by simp [geP]⟩)
  rw [this, List.filter_eq_self.mpr (fun _ _ => rfl), List.map_map]
  rfl
def slc1 : SE := sSlA (sVar 1) (sPart (sC (.int 1))) sNoPart
theorem Row.slice {ds : List D} (r : Row h x ds) (a0 a2 a3 a4 : Option D) : ∃ y h1, slc1 [a0, some x, a2, a3, a4] h = .ok y h1 ∧ Fr [] h h1 ∧ itemsD h1 x = some ds ∧ itemsD h1 y = some (ds.drop 1) ∧ ∃ b, seqK h1 x = some b ∧ seqK h1 y = some b := by
  cases r with
  | tup =>
    refine ⟨.tup (ds.drop 1), h, ?_, .refl, rfl, rfl, true, rfl, rfl⟩
    unfold slc1 sSlA sPart sNoPart
    simp [cut1]
  | fls =>
    refine ⟨.ref h.length, h ++ [.lst (ds.drop 1)], ?_, .app, rfl, ?_, false, rfl, ?_⟩
    · unfold slc1 sSlA sPart sNoPart
      simp [cut1]
    · simp [itemsD]
    · simp [seqK]
  | @lst m _ e =>
    have hm := lk_lt e
    refine ⟨.ref h.length, h ++ [.lst (ds.drop 1)], ?_, .app, ?_, ?_, false, ?_, ?_⟩
    · unfold slc1 sSlA sPart sNoPart
      simp [cut1, e]
    · have : lk (h ++ [.lst (ds.drop 1)]) m = some (.lst ds) := by rw [lk_append, if_pos hm, e]
      have this2 : (h ++ [.lst (ds.drop 1)])[m]? = some (.lst ds) := this
      simp only [itemsD, this2]
    · simp [itemsD]
    · have : lk (h ++ [.lst (ds.drop 1)]) m = some (.lst ds) := by rw [lk_append, if_pos hm, e]
      have this2 : (h ++ [.lst (ds.drop 1)])[m]? = some (.lst ds) := this
      simp only [seqK, this2]
    · simp [seqK]
theorem fallZ_ex (r : Row h x (ks.map kD)) (hl : ks.length < 20000) (a0 : Option D) : ∃ h', fallZ [a0, some x, none, none, none] h = .ok (.bl (!inc ks)) h' ∧ Fr [] h h' := by
  have fin : blsD (((prs ks).map geP).map D.bl) = some ((prs ks).map geP) := by
    have := blsD_map (fun b : Bool => b) ((prs ks).map geP)
    rw [List.map_id'] at this
    exact this
  obtain ⟨y, h1, e1, F1, ix, iy, b, kx, ky⟩ := r.slice a0 none none none
  refine ⟨h1, ?_, F1⟩
  have z := zip_comp (x := x) (y := y) (h1 := h1) ix iy hl a0 (some x) none
  have ez : sZip (sVar 1) slc1 [a0, some x, none, none, none] h = .ok (.zp x y) h1 := by
    unfold sZip
    simp [e1, kx, ky, sZip.guardI, guard_true]
  unfold fallZ sCallN
  rw [ev_lc]
  rw [show sSlA (sVar 1) (sPart (sC (.int 1))) sNoPart = slc1 from rfl, ez]
  simp only [Res.bind_ok, wipeD_two, List.set_cons_succ, List.set_cons_zero]
  rw [z]
  simp only [Res.bind_ok, anyN, fin, onSome, prs_any]
end
end Kq
end
set_option maxHeartbeats 8000000
noncomputable section
namespace Kq
open PySem PySem.Spec L2 Kf
def fallA : SB := sOr (sNot (sTest (sFn 1 M_is_list [] (sCons (sVar 1) sNil)))) (sNot (sTest (sCallN allN (sLc (sVal (sVar 1)) (gN 2) sYes fallC [2]))))
def fallR : SS := (sRaise "BadNumber" ["what", "number"] (sCons (sC (.str "lot")) (sCons (sVar 1) sNil)))
def fallL : SA := (sLc (sVal (sVar 1)) (gN 2) sYes (s2 getF (sFld (sVar 0) "waiting" ["Disk"]) (sVar 2)) [2])
theorem dfall_eq : M_Disk_fall = defM 5 (sSeq (sIf fallA fallR sNext) (sSeq (sIf (sTest fallZ) fallR sNext) (sSeq (sDrop (sMeth "do_writes" (tabM [("Disk", 2, M_Disk_do_writes, [])]) (sVar 0) (sCons (sNew fallL) sNil)))
    (sDrop (sMeth "set_fuse" (tabM [("Disk", 2, M_Disk_set_fuse, [])]) (sVar 0) (sCons (sC .non) sNil)))))) := rfl
section
variable {h : Hd} {d n : Nat} {bs : List D} {ws : List (Nat × D)} {f t x : D} {ks : List Nat} {ds : List D}
theorem Row.fr {h' : Hd} (r : Row h x ds) (F : Fr [] h h') : Row h' x ds := by
  cases r with
  | tup => exact .tup
  | fls => exact .fls
  | lst e => exact .lst (F.get e (by simp))
theorem fallA_no (v : isiTF ["list", "tuple"] x h = .ok (.bl false) h) (a0 a2 a3 a4 : Option D) : fallA [a0, some x, a2, a3, a4] h = .ok true h := by
  simp (disch := omega) [fallA, guard_true, M_is_list, defM_ev, s_is_list, startD, v]
theorem fallA_row (e : lk h d = some (dskO n bs ws f t)) (r : Row h x ds) (hd : ∀ y ∈ ds, Dk 10 y) (hl : ds.length < 20000) : fallA [some (.ref d), some x, none, none, none] h = .ok (!(ds.all fun y => isIn 0 ((ws.length : Int) - 1) y)) h := by
  obtain ⟨it, e1, e2⟩ := fall_all1 e r hd hl none none
  have i := r.isi.2
  have al : allN (ds.map fun y => .bl (isIn 0 ((ws.length : Int) - 1) y)) h = .ok (.bl (ds.all fun y => isIn 0 ((ws.length : Int) - 1) y)) h := by
    unfold allN
    rw [blsD_map]
    simp [onSome, List.all_map]
  unfold fallA sCallN
  simp (disch := omega) [guard_true, M_is_list, defM_ev, s_is_list, startD, i, e1, e2, al]
theorem fallR_ex (a0 a2 a3 a4 : Option D) : fallR [a0, some x, a2, a3, a4] h = .ok (.exc "BadNumber" [("number", x), ("what", .str "lot")] [a0, some x, a2, a3, a4]) h := by
  simp [fallR]
theorem dfall_bad1 (v : isiTF ["list", "tuple"] x h = .ok (.bl false) h) : M_Disk_fall [.ref d, x] h = .exc "BadNumber" [("number", x), ("what", .str "lot")] h := by
  rw [dfall_eq]
  simp [defM_ev, startD, fallA_no v, fallR_ex]
theorem dfall_bad2 (e : lk h d = some (dskO n bs ws f t)) (r : Row h x ds) (hd : ∀ y ∈ ds, Dk 10 y) (hl : ds.length < 20000) (hb : (ds.all fun y => isIn 0 ((ws.length : Int) - 1) y) = false) : M_Disk_fall [.ref d, x] h = .exc "BadNumber" [("number", x), ("what", .str "lot")] h := by
  rw [dfall_eq]
  simp [defM_ev, startD, fallA_row e r hd hl, fallR_ex, hb]
theorem kD_dk {ks : List Nat} : ∀ y ∈ ks.map kD, Dk 10 y := fun y hy => by
  obtain ⟨k, _, rfl⟩ := List.mem_map.mp hy
  exact dk_int.up (by omega)
theorem all_places (hk : ∀ k ∈ ks, k < ws.length) : ((ks.map kD).all fun y => isIn 0 ((ws.length : Int) - 1) y) = true := by
  rw [List.all_eq_true]
  intro y hy
  obtain ⟨k, hk2, rfl⟩ := List.mem_map.mp hy
  have := hk k hk2
  simp [kD, isIn]
  omega
theorem dfall_bad3 (e : lk h d = some (dskO n bs ws f t)) (r : Row h x (ks.map kD)) (hl : ks.length < 20000) (hk : ∀ k ∈ ks, k < ws.length) (hi : inc ks = false) : ∃ h', M_Disk_fall [.ref d, x] h = .exc "BadNumber" [("number", x), ("what", .str "lot")] h' ∧ Fr [] h h' := by
  obtain ⟨h1, e1, F1⟩ := fallZ_ex r hl (some (.ref d))
  refine ⟨h1, ?_, F1⟩
  rw [dfall_eq]
  simp [defM_ev, startD, fallA_row e r kD_dk (by simpa using hl), fallR_ex, all_places hk, e1, hi]
theorem fallL_ex (e : lk h d = some (dskO n bs ws f t)) (r : Row h x (ks.map kD)) (hl : ks.length < 20000) (hk : ∀ k ∈ ks, k < ws.length) : fallL [some (.ref d), some x, none, none, none] h = .ok ((ks.filterMap fun k => ws[k]?).map wD) h := by
  have := r.comp (g := gN 2) (t := sYes) (f := s2 getF (sFld (sVar 0) "waiting" ["Disk"]) (sVar 2)) (env := [some (.ref d), some x, none, none, none]) (β := fun _ => true) (φ := fun y => match y with | .int i => (atI (ws.map wD) i).getD .non | _ => .non) (by rw [LIM_eq]; simp; omega) fun y hy => by
    obtain ⟨k, hk2, rfl⟩ := List.mem_map.mp hy
    have hkw := hk k hk2
    have e1 : atI (ws.map wD) (k : Int) = some (wD ws[k]) := atI_nat (by rw [List.getElem?_map, List.getElem?_eq_getElem hkw]; rfl)
    unfold dskO at e
    exact ⟨_, rfl, by simp, fun _ => by simp (disch := omega) [e, guard_true, List.lookup, kD, e1]⟩
  obtain ⟨it, e1, e2⟩ := this
  have eq : (((ks.map kD).filter fun _ => true).map fun y => match y with | .int i => (atI (ws.map wD) i).getD .non | _ => .non) = (ks.filterMap fun k => ws[k]?).map wD := by
    rw [List.filter_eq_self.mpr (fun _ _ => rfl)]
    clear e2 r hl e1
    induction ks with
    | nil => rfl
    | cons k ks ih =>
      have hkw := hk k List.mem_cons_self
      have e1 : atI (ws.map wD) (k : Int) = some (wD ws[k]) := atI_nat (by rw [List.getElem?_map, List.getElem?_eq_getElem hkw]; rfl)
      have ih := ih fun y hy => hk y (List.mem_cons_of_mem _ hy)
      rw [List.filterMap_cons, List.getElem?_eq_getElem hkw]
      show _ :: _ = _ :: _
      rw [ih]
      show (atI (ws.map wD) (k : Int)).getD .non :: _ = _
      rw [e1]; rfl
  rw [eq] at e2
  unfold fallL
  simp [e1, e2]
theorem dfall_ok (e : lk h d = some (dskO n bs ws f t)) (r : Row h x (ks.map kD)) (hl : ks.length < 20000) (hk : ∀ k ∈ ks, k < ws.length) (hi : inc ks = true) (hq : ∀ q ∈ ws, q.1 < bs.length) :
    ∃ h', M_Disk_fall [.ref d, x] h = .ok .non h' ∧ lk h' d = some (dskO n (done ws ks bs) [] .non .non) ∧ Fr [d] h h' := by
  obtain ⟨h1, e1, F1⟩ := fallZ_ex r hl (some (.ref d))
  have ed1 : lk h1 d = some (dskO n bs ws f t) := F1.get e (by simp)
  have L := fallL_ex ed1 (r.fr F1) hl hk
  generalize hus : (ks.filterMap fun k => ws[k]?) = us at L
  have hd := lk_lt ed1
  have ed2 : lk (h1 ++ [O.lst (us.map wD)]) d = some (dskO n bs ws f t) := by rw [lk_append, if_pos hd, ed1]
  obtain ⟨h2, e2, e3, F2⟩ := dow_ex (us := us) ed2 (x := .ref h1.length) (.lst (by simp)) (fun q hq2 => by
    rw [← hus] at hq2
    obtain ⟨k, _, e⟩ := List.mem_filterMap.mp hq2
    exact hq q (List.mem_of_getElem? e))
  have sf := setfuse_ok e3 (x := .non) (.inl rfl)
  refine ⟨h2.set d (dskO n (appl us bs) [] .non .non), ?_, ?_, ((F1.sub (by simp)).trans (Fr.trans .app F2)).trans (.set (by simp))⟩
  · rw [dfall_eq]
    have hA := fallA_row e r kD_dk (by simpa using hl)
    rw [all_places hk] at hA
    unfold dskO at ed1 ed2 e3
    simp (disch := omega) [defM_ev, startD, hA, e1, hi, L, tabM, guard_true, List.lookup, ed1, ed2, e2, e3, sf]
  · rw [lk_set, if_pos rfl, if_pos (lk_lt e3), done_appl hk, hus]
end
end Kq
end
set_option maxHeartbeats 8000000
noncomputable section
namespace Kq
open PySem PySem.Spec L2 Kf
def dueA : SS := (sAsg (sTup (sCons (s2 getF (sVar 1) (sC (.int 0))) (sCons (s2 getF (sVar 1) (sC (.int 1))) sNil))) (gTp 2 (gCons' (gN 2) (gCons' (gN 3) gNil'))))
def dueI : SS := (sIf (sAnd (sTest (s2 (memF false) (sVar 2) (sNew (sLst (sCons (sC (.str "write")) (sCons (sC (.str "read")) (sCons (sC (.str "spoil")) sNil))))))) (sNot (sTest (sFn 2 M_law_is_place [] (sCons (sVar 3) (sCons (sCall lenA (sCons (s2 getF (sVar 0) (sC (.str "blocks"))) sNil)) sNil))))))
    (sRet (sTup (sCons (sC (.str "bad")) (sCons (sC (.str "block")) (sCons (sVar 3) (sCons (sIsi "bool" (sVar 3)) sNil))))))
    sNext)
def dueS : SS := (sIf (sTest (s2 eqF (sVar 2) (sC (.str "spoil"))))
    (sSeq (sAsg (s2 getF (sVar 1) (sC (.int 2))) (gSub' (s2 getF (sVar 0) (sC (.str "blocks"))) (sVar 3) setF))
    (sRet (sTup (sCons (sC (.str "done")) (sCons (sC .non) sNil)))))
    sNext)
def dueR : SS := (sIf (sTest (s2 eqF (sVar 2) (sC (.str "read"))))
    (sSeq (sAsg (sNew (sLc (sVal (s2 getF (sVar 0) (sC (.str "waiting")))) (gN 6) (sTest (s2 eqF (s2 getF (sVar 6) (sC (.int 0))) (sVar 3))) (s2 getF (sVar 6) (sC (.int 1))) [6])) (gN 4))
    (sRet (sTup (sCons (sC (.str "done")) (sCons (sIfE (sTest (s2 neF (sVar 4) (sNew (sLst sNil)))) (s2 getF (sVar 4) (sNeg (sC (.int 1)))) (s2 getF (s2 getF (sVar 0) (sC (.str "blocks"))) (sVar 3))) sNil)))))
    sNext)
def dueW : SS := (sIf (sTest (s2 (memF false) (sVar 2) (sNew (sLst (sCons (sC (.str "write")) (sCons (sC (.str "flush")) sNil))))))
    (sSeq (sAsg (sFn 2 M_law_disk_steps [] (sCons (sVar 0) (sCons (sNew (sLst (sCons (sIfE (sTest (s2 eqF (sVar 2) (sC (.str "write")))) (sTup (sCons (sVar 3) (sCons (s2 getF (sVar 1) (sC (.int 2))) sNil))) (sC .non)) sNil))) sNil))) (gN 5))
    (sRet (sIfE (sTest (sVar 5)) (sTup (sCons (sC (.str "done")) (sCons (sC .non) sNil))) (sTup (sCons (sC (.str "cut")) (sCons (s2 getF (sVar 0) (sC (.str "told"))) sNil))))))
    sNext)
def dueU : SS := (sIf (sTest (s2 eqF (sVar 2) (sC (.str "fuse"))))
    (sSeq (sIf (sAnd (sTest (s2 notF (sVar 3) (sC .non))) (sOr (sNot (sTest (sFn 1 M_law_is_whole [] (sCons (sVar 3) sNil)))) (sTest (s2 ltF (sVar 3) (sC (.int 0))))))
    (sRet (sTup (sCons (sC (.str "bad")) (sCons (sC (.str "steps")) (sCons (sVar 3) (sCons (sIsi "bool" (sVar 3)) sNil))))))
    sNext)
    (sSeq (sAsg (sTup (sCons (sVar 3) (sCons (sVar 3) sNil))) (gTp 2 (gCons' (gSub' (sVar 0) (sC (.str "fuse")) setF) (gCons' (gSub' (sVar 0) (sC (.str "told")) setF) gNil'))))
    (sRet (sTup (sCons (sC (.str "done")) (sCons (sC .non) sNil))))))
    sNext)
def dueL : SS := (sIf (sTest (s2 eqF (sVar 2) (sC (.str "fall"))))
    (sSeq (sIf (sNot (sTest (sFn 2 M_law_is_lot [] (sCons (sVar 3) (sCons (sCall lenA (sCons (s2 getF (sVar 0) (sC (.str "waiting"))) sNil)) sNil)))))
    (sRet (sTup (sCons (sC (.str "bad")) (sCons (sC (.str "lot")) (sCons (sVar 3) (sCons (sIsi "bool" (sVar 3)) sNil))))))
    sNext)
    (sDrop (sFn 2 M_law_disk_fall [] (sCons (sVar 0) (sCons (sVar 3) sNil)))))
    sNext)
def dueV : SS := (sIf (sTest (s2 eqF (sVar 2) (sC (.str "wipe"))))
    (sAsg (sTup (sCons (s2 mulB (sNew (sLst (sCons (sC .non) sNil))) (sCall lenA (sCons (s2 getF (sVar 0) (sC (.str "blocks"))) sNil))) (sCons (sNew (sLst sNil)) sNil))) (gTp 2 (gCons' (gSub' (sVar 0) (sC (.str "blocks")) setF) (gCons' (gSub' (sVar 0) (sC (.str "waiting")) setF) gNil'))))
    sNext)
def dueE : SS := (sAsg (sTup (sCons (sC .non) (sCons (sC .non) sNil))) (gTp 2 (gCons' (gSub' (sVar 0) (sC (.str "fuse")) setF) (gCons' (gSub' (sVar 0) (sC (.str "told")) setF) gNil'))))
def dueZ : SS := (sRet (sTup (sCons (sC (.str "done")) (sCons (sC .non) sNil))))
theorem due_eq : M_law_disk_due = defM 7 (sSeq dueA (sSeq dueI (sSeq dueS (sSeq dueR (sSeq dueW (sSeq dueU (sSeq dueL (sSeq dueV (sSeq dueE dueZ))))))))) := rfl
@[simp] theorem at2_0 (a b : D) : atI [a, b] 0 = some a := id rfl
@[simp] theorem at2_1 (a b : D) : atI [a, b] 1 = some b := id rfl
@[simp] theorem at3_0 (a b c : D) : atI [a, b, c] 0 = some a := id rfl
@[simp] theorem at3_1 (a b c : D) : atI [a, b, c] 1 = some b := id rfl
@[simp] theorem at3_2 (a b c : D) : atI [a, b, c] 2 = some c := id rfl
@[simp] theorem eqF_str (s t : String) (h : Hd) : eqF (.str s) (.str t) h = .ok (.bl (decide (s = t))) h := by
  have : PyData.eqv (.str (Str.ofString s)) (.str (Str.ofString t)) = decide (s = t) := by
    show (Str.ofString s == Str.ofString t) = _
    rw [ofString_beq]
    by_cases e : s = t
    · subst e; simp
    · rw [decide_eq_false e, beq_eq_false_iff_ne.mpr e]
  exact f2P_of (p := .str (Str.ofString s)) (q := .str (Str.ofString t)) rfl rfl (by rw [this])
theorem eqv_str (s t : String) : PyData.eqv (.str (Str.ofString s)) (.str (Str.ofString t)) = decide (s = t) := by
  show (Str.ofString s == Str.ofString t) = _
  rw [ofString_beq]
  by_cases e : s = t
  · subst e; simp
  · rw [decide_eq_false e, beq_eq_false_iff_ne.mpr e]
theorem mem_strs {h : Hd} {m : Nat} {ss : List String} (e : lk h m = some (.lst (ss.map D.str))) (s : String) : memF false (.str s) (.ref m) h = .ok (.bl (ss.any fun z => decide (z = s))) h := by
  have e' : h[m]? = some (.lst (ss.map D.str)) := e
  have ep : Kf.py h 60 (.ref m) = some (.list (ss.map fun z => .str (Str.ofString z))) := by
    rw [py_list e]
    have : ∀ l : List String, allS ((l.map D.str).map (Kf.py h 59)) = some (l.map fun z => .str (Str.ofString z)) := fun l => by
      induction l with
      | nil => rfl
      | cons z r ih =>
        show (allS ((r.map D.str).map (Kf.py h 59))).map (PyData.str (Str.ofString z) :: ·) = _
        rw [ih]; rfl
    rw [this]; rfl
  have e1 : memF false (.str s) (.ref m) h = inF false (.str s) (.ref m) h := by
    simp only [memF, e']
  rw [e1]
  unfold inF
  rw [show Kf.py h 60 (.str s) = some (.str (Str.ofString s)) from rfl, ep]
  simp only [onSome, itemsP, List.any_map]
  congr 2
  simp only [Bool.false_eq_true, if_false]
  congr 1
  congr 1
  funext z
  exact eqv_str z s
/-- the state of a disk -/
structure Sd where
  bs : List D
  ws : List (Nat × D)
  f : D
  t : D
structure Good (s : Sd) : Prop where
  db : ∀ x ∈ s.bs, Dk 4 x
  dw : ∀ q ∈ s.ws, Dk 4 q.2
  hq : ∀ q ∈ s.ws, q.1 < s.bs.length
  hf : isFuse s.f
  ht : isFuse s.t
  l0 : 0 < s.bs.length
  l1 : s.bs.length < 1000
abbrev badA (w : String) (x : D) : D := .tup [.str "bad", .str w, x, .bl (isB x)]
abbrev doneA (x : D) : D := .tup [.str "done", x]
inductive Oc (h : Hd) : D → Sd → D → Sd → Prop
  | wBad {x v s} : Val h x → isP s.bs.length x = false → Oc h (.tup [.str "write", x, v]) s (badA "block" x) s
  | rBad {x s} : Val h x → isP s.bs.length x = false → Oc h (.tup [.str "read", x]) s (badA "block" x) s
  | sBad {x v s} : Val h x → isP s.bs.length x = false → Oc h (.tup [.str "spoil", x, v]) s (badA "block" x) s
  | wOk {k : Nat} {v s f'} : k < s.bs.length → burnt s.f = some f' → Dk 4 v → Oc h (.tup [.str "write", .int k, v]) s (doneA .non) { s with ws := s.ws ++ [(k, v)], f := f' }
  | wCut {k : Nat} {v s} : k < s.bs.length → burnt s.f = none → Oc h (.tup [.str "write", .int k, v]) s (.tup [.str "cut", s.t]) s
  | sOk {k : Nat} {v s} : k < s.bs.length → Dk 4 v → Oc h (.tup [.str "spoil", .int k, v]) s (doneA .non) { s with bs := s.bs.set k v }
  | rOk {k : Nat} {s} : k < s.bs.length → Oc h (.tup [.str "read", .int k]) s (doneA ((lastW k s.ws.reverse).getD (s.bs.getD k .non))) s
  | fOk {s f'} : burnt s.f = some f' → Oc h (.tup [.str "flush", .non]) s (doneA .non) { s with bs := appl s.ws s.bs, ws := [], f := f' }
  | fCut {s} : burnt s.f = none → Oc h (.tup [.str "flush", .non]) s (.tup [.str "cut", s.t]) s
  | uOk {x s} : isFuse x → Oc h (.tup [.str "fuse", x]) s (doneA .non) { s with f := x, t := x }
  | uBad {x s} : Dk 10 x → isFz x = false → Oc h (.tup [.str "fuse", x]) s (badA "steps" x) s
  | lOk {ks : List Nat} {x s} : Val h x → Row h x (ks.map kD) → ks.length < 20000 → (∀ k ∈ ks, k < s.ws.length) → inc ks = true → Oc h (.tup [.str "fall", x]) s (doneA .non) ⟨done s.ws ks s.bs, [], .non, .non⟩
  | lBad1 {x s} : Val h x → isiTF ["list", "tuple"] x h = .ok (.bl false) h → Oc h (.tup [.str "fall", x]) s (badA "lot" x) s
  | lBad2 {ds : List D} {x s} : Val h x → Row h x ds → (∀ y ∈ ds, Dk 10 y) → ds.length < 20000 → (ds.all fun y => isIn 0 ((s.ws.length : Int) - 1) y) = false → Oc h (.tup [.str "fall", x]) s (badA "lot" x) s
  | lBad3 {ks : List Nat} {x s} : Val h x → Row h x (ks.map kD) → ks.length < 20000 → (∀ k ∈ ks, k < s.ws.length) → inc ks = false → Oc h (.tup [.str "fall", x]) s (badA "lot" x) s
  | vOk {s} : Oc h (.tup [.str "wipe", .non]) s (doneA .non) ⟨List.replicate s.bs.length .non, [], .non, .non⟩
abbrev wrs : O := .lst [.str "write", .str "read", .str "spoil"]
abbrev wfl : O := .lst [.str "write", .str "flush"]
abbrev duEnv (o : Nat) (dd : D) (s : String) (x : D) : En := [some (.ref o), some dd, some (.str s), some x, none, none, none]
section
variable {h : Hd} {o b w : Nat} {s : Sd} {x v dd : D} {c : String}
theorem dueA_2 (a0 : Option D) : dueA [a0, some (.tup [.str c, x]), none, none, none, none, none] h = .ok (.nx [a0, some (.tup [.str c, x]), some (.str c), some x, none, none, none]) h := by
  simp [dueA, guard_true, LIM_eq]
theorem dueA_3 (a0 : Option D) : dueA [a0, some (.tup [.str c, x, v]), none, none, none, none, none] h = .ok (.nx [a0, some (.tup [.str c, x, v]), some (.str c), some x, none, none, none]) h := by
  simp [dueA, guard_true, LIM_eq]
theorem mem_wrs (h : Hd) (c : String) : memF false (.str c) (.ref h.length) (h ++ [wrs]) = .ok (.bl (decide ("write" = c) || (decide ("read" = c) || decide ("spoil" = c)))) (h ++ [wrs]) := by
  have := mem_strs (h := h ++ [wrs]) (m := h.length) (ss := ["write", "read", "spoil"]) (by simp) c
  simpa using this
theorem mem_wfl (h : Hd) (c : String) : memF false (.str c) (.ref h.length) (h ++ [wfl]) = .ok (.bl (decide ("write" = c) || decide ("flush" = c))) (h ++ [wfl]) := by
  have := mem_strs (h := h ++ [wfl]) (m := h.length) (ss := ["write", "flush"]) (by simp) c
  simpa using this
theorem dueI_skip (h1 : "write" ≠ c) (h2 : "read" ≠ c) (h3 : "spoil" ≠ c) : dueI (duEnv o dd c x) h = .ok (.nx (duEnv o dd c x)) (h ++ [wrs]) := by
  have := mem_wrs h c
  simp [dueI, this, h1, h2, h3, LIM_eq]
theorem dueI_ok (W : Own h o b w s.bs s.ws s.f s.t) (V : Val h x) (hc : c = "write" ∨ c = "read" ∨ c = "spoil") (hp : isP s.bs.length x = true) : dueI (duEnv o dd c x) h = .ok (.nx (duEnv o dd c x)) (h ++ [wrs]) := by
  have q := mem_wrs h c
  have hm : (decide ("write" = c) || (decide ("read" = c) || decide ("spoil" = c))) = true := by rcases hc with e | e | e <;> subst e <;> decide
  rw [hm] at q
  have W2 := W.app (l := [wrs])
  have eo := W2.eo
  unfold ownO at eo
  have pl := place_ex (V.fr (Fr.app (T := []) (o := wrs)) (by simp)) (s.bs.length : Int)
  rw [hp] at pl
  simp [dueI, q, LIM_eq, eo, W2.eb, guard_true, pl]
theorem dueI_bad (W : Own h o b w s.bs s.ws s.f s.t) (V : Val h x) (hc : c = "write" ∨ c = "read" ∨ c = "spoil") (hp : isP s.bs.length x = false) : dueI (duEnv o dd c x) h = .ok (.ret (badA "block" x)) (h ++ [wrs]) := by
  have q := mem_wrs h c
  have hm : (decide ("write" = c) || (decide ("read" = c) || decide ("spoil" = c))) = true := by rcases hc with e | e | e <;> subst e <;> decide
  rw [hm] at q
  have W2 := W.app (l := [wrs])
  have eo := W2.eo
  unfold ownO at eo
  have V2 := V.fr (Fr.app (T := []) (o := wrs)) (by simp)
  have pl := place_ex V2 (s.bs.length : Int)
  rw [hp] at pl
  simp [dueI, q, LIM_eq, eo, W2.eb, guard_true, pl, isi_bool V2]
theorem dueS_skip (h1 : c ≠ "spoil") : dueS (duEnv o dd c x) h = .ok (.nx (duEnv o dd c x)) h := by simp [dueS, h1]
theorem dueR_skip (h1 : c ≠ "read") : dueR (duEnv o dd c x) h = .ok (.nx (duEnv o dd c x)) h := by simp [dueR, h1]
theorem dueU_skip (h1 : c ≠ "fuse") : dueU (duEnv o dd c x) h = .ok (.nx (duEnv o dd c x)) h := by simp [dueU, h1]
theorem dueL_skip (h1 : c ≠ "fall") : dueL (duEnv o dd c x) h = .ok (.nx (duEnv o dd c x)) h := by simp [dueL, h1]
theorem dueV_skip (h1 : c ≠ "wipe") : dueV (duEnv o dd c x) h = .ok (.nx (duEnv o dd c x)) h := by simp [dueV, h1]
theorem dueW_skip (h1 : "write" ≠ c) (h2 : "flush" ≠ c) : dueW (duEnv o dd c x) h = .ok (.nx (duEnv o dd c x)) (h ++ [wfl]) := by
  have := mem_wfl h c
  simp [dueW, this, h1, h2, LIM_eq]
theorem dueS_on (W : Own h o b w s.bs s.ws s.f s.t) {k : Nat} (hk : k < s.bs.length) : dueS (duEnv o (.tup [.str "spoil", .int k, v]) "spoil" (.int k)) h = .ok (.ret (doneA .non)) (h.set b (.lst (s.bs.set k v))) := by
  have eo := W.eo
  unfold ownO at eo
  have ix : ixN s.bs.length (k : Int) = some k := ixN_nat hk
  simp [dueS, eo, W.eb, LIM_eq, guard_true, ix]
end
end Kq
end
set_option maxHeartbeats 8000000
noncomputable section
namespace Kq
open PySem PySem.Spec L2 Kf
theorem lastW_head (k : Nat) : ∀ l : List (Nat × D), lastW k l = (l.filter fun q => decide (q.1 = k)).head?.map (·.2)
  | [] => rfl
  | q :: l => by
    unfold lastW
    by_cases g : q.1 = k
    · simp [g]
    · rw [if_neg g, lastW_head k l]; simp [g]
theorem lastW_fs (k : Nat) (ws : List (Nat × D)) : lastW k ws.reverse = ((ws.filter fun q => decide (q.1 = k)).map (·.2)).getLast? := by
  rw [lastW_head, List.filter_reverse, List.head?_reverse, List.getLast?_map]
theorem atI_last {ds : List D} (h : ds ≠ []) : atI ds (-1) = ds.getLast? := by
  have hl : 0 < ds.length := List.length_pos_iff.mpr h
  unfold atI ixN
  rw [if_neg (by omega), if_pos (by omega), List.getLast?_eq_getElem?]
  show ds[(-1 + (ds.length : Int)).toNat]? = _
  congr 1
  omega
section
variable {h : Hd} {o b w : Nat} {s : Sd} {x v dd : D} {c : String}
def readT : SB := sTest (s2 eqF (s2 getF (sVar 6) (sC (.int 0))) (sVar 3))
def readF : SE := s2 getF (sVar 6) (sC (.int 1))
theorem read_comp {k : Nat} (ew : lk h w = some (.lst (s.ws.map wD))) (hl : s.ws.length < 10000) (a0 a1 a2 a4 a5 : Option D) :
    compI (.live w) (gN 6) readT readF [a0, a1, a2, some (.int k), a4, a5, none] (turnsD (.live w) h) 0 0 h = .ok ((s.ws.filter fun q => decide (q.1 = k)).map (·.2)) h := by
  have := comp_liveP (g := gN 6) (t := readT) (f := readF) (env := [a0, a1, a2, some (.int k), a4, a5, none]) (β := fun d => match d with | .tup [.int j, _] => decide (j = k) | _ => false) (φ := fun d => match d with | .tup [_, v] => v | _ => .non) (s.ws.map wD) ew (by rw [LIM_eq]; simp; omega) fun d hd => by
    obtain ⟨q, _, rfl⟩ := List.mem_map.mp hd
    exact ⟨_, rfl, by simp [readT, wD], fun _ => by simp [readF, wD]⟩
  rw [this]
  congr 1
  rw [List.filter_map, List.map_map]
  congr 1
  congr 1
  funext q
  simp [wD]
  omega
theorem dueR_on (W : Own h o b w s.bs s.ws s.f s.t) (G : Good s) (hl : s.ws.length < 10000) {k : Nat} (hk : k < s.bs.length) (dd : D) :
    ∃ h', dueR (duEnv o dd "read" (.int k)) h = .ok (.ret (doneA ((lastW k s.ws.reverse).getD (s.bs.getD k .non)))) h' ∧ Fr [] h h' := by
  have C := fun a => read_comp (k := k) W.ew hl (some (.ref o)) (some dd) (some (.str "read")) a none
  have hf : ∀ y ∈ (s.ws.filter fun q => decide (q.1 = k)).map (·.2), Dk 10 y := fun y hy => by
    obtain ⟨q, hq, rfl⟩ := List.mem_map.mp hy
    exact (G.dw q (List.mem_filter.mp hq).1).up (by omega)
  have lw := lastW_fs k s.ws
  generalize ((s.ws.filter fun q => decide (q.1 = k)).map (·.2)) = fs at C hf lw
  have eo := W.eo
  have ho := lk_lt W.eo
  have hb := lk_lt W.eb
  have n1 : o ≠ h.length := by omega
  have q := (eqF_nil (h := h ++ [O.lst fs, O.lst []]) (a := h.length) (b := h.length + 1) (ds := fs) (by rw [lk_append, if_neg (by omega), Nat.sub_self]; rfl) (by rw [lk_append, if_neg (by omega), Nat.add_sub_cancel_left]; rfl) hf).2
  have hbk : s.bs[k]? = some (s.bs[k]'(by omega)) := List.getElem?_eq_getElem (by omega)
  have at1 : atI s.bs (k : Int) = some (s.bs[k]'(by omega)) := atI_nat hbk
  have gd : s.bs.getD k .non = s.bs[k]'(by omega) := by simp [List.getD, hbk]
  rw [gd]
  unfold ownO at eo
  have eq : dueR = (sIf (sTest (s2 eqF (sVar 2) (sC (.str "read")))) (sSeq (sAsg (sNew (sLc (sVal (s2 getF (sVar 0) (sC (.str "waiting")))) (gN 6) readT readF [6])) (gN 4))
    (sRet (sTup (sCons (sC (.str "done")) (sCons (sIfE (sTest (s2 neF (sVar 4) (sNew (sLst sNil)))) (s2 getF (sVar 4) (sNeg (sC (.int 1)))) (s2 getF (s2 getF (sVar 0) (sC (.str "blocks"))) (sVar 3))) sNil))))) sNext) := rfl
  refine ⟨h ++ [O.lst fs, O.lst []], ?_, .apps⟩
  have A : ∀ (l : List O) (m : Nat), m < h.length → lk (h ++ l) m = lk h m := fun l m hm => by rw [lk_append, if_pos hm]
  rw [eq]
  cases hfs : fs with
  | nil =>
    subst hfs
    rw [lw]
    simp (disch := omega) [eo, W.ew, C, LIM_eq, guard_true, q, A, ho, hb, W.eb, at1]
  | cons y ys =>
    rw [← hfs]
    have hne : fs ≠ [] := by rw [hfs]; simp
    have al := atI_last hne
    have hem : fs.isEmpty = false := by rw [hfs]; rfl
    obtain ⟨z, ez⟩ : ∃ z, fs.getLast? = some z := by
      cases e : fs.getLast? with
      | none => exact absurd (List.getLast?_eq_none_iff.mp e) hne
      | some z => exact ⟨z, rfl⟩
    rw [lw, ez]
    rw [ez] at al
    have E1 : lk (h ++ [O.lst fs, O.lst []]) h.length = some (O.lst fs) := by rw [lk_append, if_neg (by omega), Nat.sub_self]; rfl
    simp (disch := omega) [eo, W.ew, C, LIM_eq, guard_true, q, hem, E1, al]
end
end Kq
end
set_option maxHeartbeats 8000000
noncomputable section
namespace Kq
open PySem PySem.Spec L2 Kf
theorem range_all {α : Type} : ∀ ws : List α, ((List.range ws.length).filterMap fun k => ws[k]?) = ws
  | [] => rfl
  | a :: l => by
    rw [List.length_cons, List.range_succ_eq_map, List.filterMap_cons, List.filterMap_map]
    show a :: _ = _
    have : (fun k => (a :: l)[k]?) ∘ Nat.succ = fun k => l[k]? := by
      funext k
      simp
    rw [this, range_all l]
theorem done_all (ws : List (Nat × D)) (bs : List D) : done ws (List.range ws.length) bs = appl ws bs := by
  rw [done_appl fun k hk => List.mem_range.mp hk, range_all]
section
variable {h : Hd} {o b w : Nat} {s : Sd} {x v dd : D} {c : String}
theorem burnt_fuse {f f' : D} (hf : isFuse f) (e : burnt f = some f') : isFuse f' := by
  rcases hf with z | ⟨i, z, hi⟩
  · subst z; cases e; exact .inl rfl
  · subst z
    by_cases g : i = 0
    · simp [burnt, g] at e
    · have : f' = .int (i - 1) := by simpa [burnt, g] using e.symm
      exact .inr ⟨i - 1, this, by omega⟩
theorem dueW_wOk (W : Own h o b w s.bs s.ws s.f s.t) (G : Good s) (hl : s.ws.length < 9999) {k : Nat} {f' : D} (e : burnt s.f = some f') :
    ∃ h' w', dueW (duEnv o (.tup [.str "write", .int k, v]) "write" (.int k)) h = .ok (.ret (doneA .non)) h' ∧ Own h' o b w' s.bs (s.ws ++ [(k, v)]) f' s.t ∧ Fr [o, b] h h' ∧ h.length ≤ w' := by
  have ho := lk_lt W.eo
  have W2 := W.app (l := [wfl, .lst [wD (k, v)]])
  obtain ⟨h', w', e1, W', F', lw⟩ := steps_write (m := h.length + 1) (q := (k, v)) W2 G.hf e (by rw [lk_append, if_neg (by omega), Nat.add_sub_cancel_left]; rfl) (by omega) (by omega)
  have q := mem_wfl h "write"
  refine ⟨h', w', ?_, W', Fr.trans .apps (F'.sub (by simp)), by simp at lw; omega⟩
  simp [wD] at e1 q
  simp (disch := omega) [dueW, q, LIM_eq, guard_true, e1]
theorem dueW_wCut (W : Own h o b w s.bs s.ws s.f s.t) (G : Good s) {k : Nat} (e : burnt s.f = none) :
    ∃ h', dueW (duEnv o (.tup [.str "write", .int k, v]) "write" (.int k)) h = .ok (.ret (.tup [.str "cut", s.t])) h' ∧ Fr [] h h' := by
  have ho := lk_lt W.eo
  have W2 := W.app (l := [wfl, .lst [wD (k, v)]])
  have e1 := steps_none (m := h.length + 1) (d := wD (k, v)) W2 G.hf e (by rw [lk_append, if_neg (by omega), Nat.add_sub_cancel_left]; rfl)
  have q := mem_wfl h "write"
  have eo := W2.eo
  unfold ownO at eo
  refine ⟨h ++ [wfl, .lst [wD (k, v)]], ?_, .apps⟩
  simp [wD] at e1 q eo
  simp (disch := omega) [dueW, q, LIM_eq, guard_true, e1, eo, wD]
theorem dueW_fOk (W : Own h o b w s.bs s.ws s.f s.t) (G : Good s) (hl : s.ws.length < 9999) {f' : D} (e : burnt s.f = some f') :
    ∃ h' w', dueW (duEnv o (.tup [.str "flush", .non]) "flush" .non) h = .ok (.ret (doneA .non)) h' ∧ Own h' o b w' (appl s.ws s.bs) [] f' s.t ∧ Fr [o, b] h h' ∧ h.length ≤ w' := by
  have ho := lk_lt W.eo
  have hb := lk_lt W.eb
  have W2 := W.app (l := [wfl, .lst [.non]])
  obtain ⟨h', w', e1, W', F', lw⟩ := steps_flush (m := h.length + 1) W2 G.hf e G.hq (by rw [lk_append, if_neg (by omega), Nat.add_sub_cancel_left]; rfl) (by omega) (by omega) (by omega)
  have q := mem_wfl h "flush"
  rw [done_all] at W'
  refine ⟨h', w', ?_, W', Fr.trans .apps (F'.sub (by simp)), by simp at lw; omega⟩
  simp at e1 q
  simp (disch := omega) [dueW, q, LIM_eq, guard_true, e1]
theorem dueW_fCut (W : Own h o b w s.bs s.ws s.f s.t) (G : Good s) (e : burnt s.f = none) :
    ∃ h', dueW (duEnv o (.tup [.str "flush", .non]) "flush" .non) h = .ok (.ret (.tup [.str "cut", s.t])) h' ∧ Fr [] h h' := by
  have ho := lk_lt W.eo
  have W2 := W.app (l := [wfl, .lst [.non]])
  have e1 := steps_none (m := h.length + 1) (d := .non) W2 G.hf e (by rw [lk_append, if_neg (by omega), Nat.add_sub_cancel_left]; rfl)
  have q := mem_wfl h "flush"
  have eo := W2.eo
  unfold ownO at eo
  refine ⟨h ++ [wfl, .lst [.non]], ?_, .apps⟩
  simp at e1 q eo
  simp (disch := omega) [dueW, q, LIM_eq, guard_true, e1, eo]
theorem dueU_ok (W : Own h o b w s.bs s.ws s.f s.t) (hx : isFuse x) (dd : D) : dueU (duEnv o dd "fuse" x) h = .ok (.ret (doneA .non)) (h.set o (ownO b w x x)) := by
  have eo := W.eo
  have ho := lk_lt W.eo
  unfold ownO at eo ⊢
  rcases hx with q | ⟨i, q, hi⟩
  · subst q
    simp (disch := omega) [dueU, eo, LIM_eq, guard_true, isNon_non, dput, dhas, ho]
  · subst q
    have w1 := wholeL_ex (h := h) (x := .int i) (.flat (dk_int.up (by omega)))
    have : ¬ i < 0 := by omega
    simp (disch := omega) [dueU, eo, LIM_eq, guard_true, isNon_int, dput, dhas, ho, w1, isW, this]
theorem dueU_bad (V : Val h x) (hx : isFz x = false) (dd : D) : dueU (duEnv o dd "fuse" x) h = .ok (.ret (badA "steps" x)) h := by
  have w1 := wholeL_ex V
  have nn : isNonD x = false := by cases x <;> first | rfl | (simp [isFz] at hx)
  cases hw : isW x with
  | false => simp (disch := omega) [dueU, LIM_eq, guard_true, nn, w1, hw, isi_bool V]
  | true =>
    obtain ⟨i, rfl⟩ : ∃ i, x = .int i := by cases x <;> first | exact ⟨_, rfl⟩ | simp [isW] at hw
    have : i < 0 := by simp [isFz] at hx; omega
    simp (disch := omega) [dueU, LIM_eq, guard_true, nn, w1, hw, isi_bool V, this, isB]
theorem dueE_ex {f t : D} (eo : lk h o = some (ownO b w f t)) (dd : D) (c : String) (x : D) : dueE (duEnv o dd c x) h = .ok (.nx (duEnv o dd c x)) (h.set o (ownO b w .non .non)) := by
  have ho := lk_lt eo
  unfold ownO at eo ⊢
  simp (disch := omega) [dueE, eo, LIM_eq, guard_true, dput, dhas, ho]
theorem dueV_on (W : Own h o b w s.bs s.ws s.f s.t) (G : Good s) (dd : D) : dueV (duEnv o dd "wipe" .non) h = .ok (.nx (duEnv o dd "wipe" .non)) ((h ++ [O.lst [.non], O.lst (List.replicate s.bs.length .non), O.lst []]).set o (ownO (h.length + 1) (h.length + 2) s.f s.t)) := by
  have eo := W.eo
  have ho := lk_lt W.eo
  have hb := lk_lt W.eb
  have l0 := G.l0
  have l1 := G.l1
  have A : ∀ (l : List O) (m : Nat), m < h.length → lk (h ++ l) m = lk h m := fun l m hm => by rw [lk_append, if_pos hm]
  unfold ownO at eo ⊢
  have mu : mulB (.ref h.length) (.int s.bs.length) (h ++ [O.lst [.non]]) = .ok (.ref (h.length + 1)) (h ++ [O.lst [.non], O.lst (List.replicate s.bs.length .non)]) := by
    have e1 : (h ++ [O.lst [D.non]])[h.length]? = some (O.lst [.non]) := by simp
    show repL (.ref h.length) (.int s.bs.length) (h ++ [O.lst [.non]]) = _
    unfold repL
    simp only [asRef, asInt, onLst, e1]
    rw [guard_true _ _ (by rw [LIM_eq]; simp; omega)]
    simp
  simp (disch := omega) [dueV, eo, LIM_eq, guard_true, dput, dhas, ho, mu, A, W.eb, ownO, lk_append, if_pos]
  rw [List.set_append_left _ _ (by simpa using ho), List.set_set]
end
end Kq
end
set_option maxHeartbeats 8000000
noncomputable section
namespace Kq
open PySem PySem.Spec L2 Kf
section
variable {h : Hd} {o b w k0 : Nat} {s : Sd} {x v dd : D} {c : String} {ks : List Nat} {ds : List D}
theorem dueL_bad (W : Own h o b w s.bs s.ws s.f s.t) (V : Val h x) {h' : Hd} (F : Fr [] h h') (e : M_law_is_lot [x, .int s.ws.length] h = .ok (.bl false) h') (dd : D) : dueL (duEnv o dd "fall" x) h = .ok (.ret (badA "lot" x)) h' := by
  have eo := W.eo
  unfold ownO at eo
  have V2 := V.fr F (by simp)
  simp (disch := omega) [dueL, eo, W.ew, LIM_eq, guard_true, e, isi_bool V2]
theorem incs_inc (ks : List Nat) {h : Hd} {x : D} (r : Row h x (ks.map kD)) (hl : ks.length < 20000) {n : Int} (hk : ∀ k ∈ ks, (k : Int) < n) : ∃ h', M_law_is_lot [x, .int n] h = .ok (.bl (inc ks)) h' ∧ Fr [] h h' := by
  obtain ⟨h', e, F⟩ := islot_row r hl hk
  exact ⟨h', by rw [← inc_range ks]; exact e, F⟩
/-- a lot that is good: behind the fall and the fuse -/
theorem dueL_ok (W : Own h o b w s.bs s.ws s.f s.t) (G : Good s) (r : Row h x (ks.map kD)) (gx : Ge k0 x) (hb0 : b < k0) (hl : ks.length < 20000) (hk : ∀ k ∈ ks, k < s.ws.length) (hi : inc ks = true) (dd : D) :
    ∃ h' w', dueL (duEnv o dd "fall" x) h = .ok (.nx (duEnv o dd "fall" x)) h' ∧ Own h' o b w' (done s.ws ks s.bs) [] s.f s.t ∧ Fr [o, b] h h' ∧ h.length ≤ w' := by
  obtain ⟨h1, e1, F1⟩ := incs_inc ks r hl (n := s.ws.length) (fun k hk2 => by have := hk k hk2; omega)
  rw [hi] at e1
  have eo1 := F1.get W.eo (by simp)
  have eb1 := F1.get W.eb (by simp)
  have ew1 := F1.get W.ew (by simp)
  have W1 : Own h1 o b w s.bs s.ws s.f s.t := ⟨eo1, eb1, ew1, W.ob, W.ow, W.bw⟩
  have r1 := r.fr F1
  have ho := lk_lt eo1
  have hbl := lk_lt eb1
  have e2 := fall_ex (lot := x) W1 G.hq ks hk (by
    cases r1 with
    | tup => exact .inl rfl
    | fls => exact .inr (.inl rfl)
    | @lst m _ em => exact .inr (.inr ⟨m, rfl, by have := gx m rfl; omega, em⟩))
  refine ⟨(h1.set b (O.lst (done s.ws ks s.bs)) ++ [O.lst []]).set o (ownO b h1.length s.f s.t), h1.length, ?_, ⟨?_, ?_, ?_, W.ob, by omega, by omega⟩, (F1.sub (by simp)).trans ?_, F1.len⟩
  rotate_left
  · rw [lk_set, if_pos rfl, if_pos (by simp; omega)]
  · rw [lk_set, if_neg W.ob, lk_append, if_pos (by simp; omega), lk_set, if_pos rfl, if_pos hbl]
  · rw [lk_set, if_neg (by omega), lk_append, if_neg (by simp)]
    simp
  · exact Fr.trans (Fr.trans (.set (by simp)) .app) (.set (by simp))
  · have eo := W.eo
    unfold ownO at eo eo1
    unfold ownO at e2
    simp (disch := omega) [dueL, eo, W.ew, LIM_eq, guard_true, e1, e2, ownO]
theorem isIn_isP (n : Nat) (y : D) : isIn 0 ((n : Int) - 1) y = isP n y := by
  cases y with
  | int i =>
    simp only [isIn, isP]
    congr 1
    by_cases g : i < (n : Int)
    · rw [decide_eq_true g, decide_eq_true (by omega)]
    · rw [decide_eq_false g, decide_eq_false (by omega)]
  | _ => rfl
/-- a row of places, read off -/
theorem row_places {n : Nat} : ∀ {ds : List D}, (ds.all fun y => isP n y) = true → ∃ ks : List Nat, ds = ks.map kD ∧ ∀ k ∈ ks, k < n
  | [], _ => ⟨[], rfl, by simp⟩
  | d :: ds, e => by
    rw [List.all_cons, Bool.and_eq_true] at e
    obtain ⟨k, e1, e2⟩ := isP_int e.1
    obtain ⟨ks, e3, e4⟩ := row_places e.2
    exact ⟨k :: ks, by rw [e1, e3]; rfl, fun x hx => by
      rcases List.mem_cons.mp hx with z | z
      · subst z; omega
      · exact e4 x z⟩
theorem Lt.row {h : Hd} {x : D} {ds : List D} (l : Lt h x) (r : Row h x ds) : ds.length < 20000 := by
  cases r with
  | tup => exact l
  | fls => exact l
  | lst e =>
    obtain ⟨ds', e', l'⟩ := l
    rw [e] at e'; cases e'
    exact l'
theorem Val.geF {h h' : Hd} {x : D} {k0 o b : Nat} (v : Val h x) (g : Ge k0 x) (ho : o < k0) (hb : b < k0) (F : Fr [o, b] h h') : Val h' x := v.fr F fun m e z => by
  have := g m e
  simp at z
  omega
theorem Row.geF {h h' : Hd} {x : D} {ds : List D} {k0 o b : Nat} (v : Row h x ds) (g : Ge k0 x) (ho : o < k0) (hb : b < k0) (F : Fr [o, b] h h') : Row h' x ds := by
  cases v with
  | tup => exact .tup
  | fls => exact .fls
  | @lst m _ e =>
    have := g m rfl
    exact .lst (F.get e (by simp; omega))
/-- all that due asks -/
structure DueQ (o b w : Nat) (dd : D) (s : Sd) (h : Hd) (r : Res D) : Prop where
  ex : ∃ (a : D) (h' : Hd) (b' w' : Nat) (s' : Sd), r = .ok a h' ∧ Own h' o b' w' s'.bs s'.ws s'.f s'.t ∧ Fr [o, b] h h' ∧ Oc h' dd s a s' ∧ (b' = b ∨ h.length ≤ b') ∧ (w' = w ∨ h.length ≤ w')
theorem due_wr (W : Own h o b w s.bs s.ws s.f s.t) (G : Good s) (hl : s.ws.length < 9999) (ho : o < k0) (hb : b < k0) (V : Val h x) (gx : Ge k0 x) (hv : Dk 4 v) : DueQ o b w (.tup [.str "write", x, v]) s h (M_law_disk_due [.ref o, .tup [.str "write", x, v]] h) := by
  cases hp : isP s.bs.length x with
  | false =>
    have e1 := dueI_bad (dd := .tup [.str "write", x, v]) W V (c := "write") (.inl rfl) hp
    exact ⟨_, _, b, w, s, by rw [due_eq]; simp [defM_ev, startD, dueA_3, e1]; rfl, W.app, .apps, .wBad (V.fr (T := []) .apps (by simp)) hp, .inl rfl, .inl rfl⟩
  | true =>
    have e1 := dueI_ok (dd := .tup [.str "write", x, v]) W V (c := "write") (.inl rfl) hp
    obtain ⟨k, rfl, hk⟩ := isP_int hp
    have hk : k < s.bs.length := by omega
    have W1 := W.app (l := [wrs])
    cases hf : burnt s.f with
    | none =>
      obtain ⟨h', e2, F'⟩ := dueW_wCut (v := v) (k := k) W1 G hf
      have W2 : Own h' o b w s.bs s.ws s.f s.t := ⟨F'.get W1.eo (by simp), F'.get W1.eb (by simp), F'.get W1.ew (by simp), W.ob, W.ow, W.bw⟩
      exact ⟨_, h', b, w, s, by rw [due_eq]; simp [defM_ev, startD, dueA_3, e1, dueS_skip, dueR_skip, e2], W2, Fr.trans .apps (F'.sub (by simp)), .wCut hk hf, .inl rfl, .inl rfl⟩
    | some f' =>
      obtain ⟨h', w', e2, W2, F', lw⟩ := dueW_wOk (v := v) (k := k) W1 G hl hf
      exact ⟨_, h', b, w', { s with ws := s.ws ++ [(k, v)], f := f' }, by rw [due_eq]; simp [defM_ev, startD, dueA_3, e1, dueS_skip, dueR_skip, e2], W2, Fr.trans .apps F', .wOk hk hf hv, .inl rfl, .inr (by simp at lw; omega)⟩
end
end Kq
end
set_option maxHeartbeats 8000000
noncomputable section
namespace Kq
open PySem PySem.Spec L2 Kf
section
variable {h : Hd} {o b w k0 : Nat} {s : Sd} {x v dd : D} {c : String} {ks : List Nat} {ds : List D}
theorem Own.fr {h' : Hd} {bs ws f t} (W : Own h o b w bs ws f t) (F : Fr [] h h') : Own h' o b w bs ws f t := ⟨F.get W.eo (by simp), F.get W.eb (by simp), F.get W.ew (by simp), W.ob, W.ow, W.bw⟩
theorem due_rd (W : Own h o b w s.bs s.ws s.f s.t) (G : Good s) (hl : s.ws.length < 9999) (V : Val h x) : DueQ o b w (.tup [.str "read", x]) s h (M_law_disk_due [.ref o, .tup [.str "read", x]] h) := by
  cases hp : isP s.bs.length x with
  | false =>
    have e1 := dueI_bad (dd := .tup [.str "read", x]) W V (c := "read") (.inr (.inl rfl)) hp
    exact ⟨_, _, b, w, s, by rw [due_eq]; simp [defM_ev, startD, dueA_2, e1]; rfl, W.app, .apps, .rBad (V.fr (T := []) .apps (by simp)) hp, .inl rfl, .inl rfl⟩
  | true =>
    have e1 := dueI_ok (dd := .tup [.str "read", x]) W V (c := "read") (.inr (.inl rfl)) hp
    obtain ⟨k, rfl, hk⟩ := isP_int hp
    have hk : k < s.bs.length := by omega
    have W1 := W.app (l := [wrs])
    obtain ⟨h', e2, F'⟩ := dueR_on W1 G (by omega) hk (.tup [.str "read", .int k])
    exact ⟨_, h', b, w, s, by rw [due_eq]; simp [defM_ev, startD, dueA_2, e1, dueS_skip, e2], W1.fr F', Fr.trans .apps (F'.sub (by simp)), .rOk hk, .inl rfl, .inl rfl⟩
theorem due_sp (W : Own h o b w s.bs s.ws s.f s.t) (G : Good s) (ho : o < k0) (hb : b < k0) (V : Val h x) (gx : Ge k0 x) (hv : Dk 4 v) : DueQ o b w (.tup [.str "spoil", x, v]) s h (M_law_disk_due [.ref o, .tup [.str "spoil", x, v]] h) := by
  cases hp : isP s.bs.length x with
  | false =>
    have e1 := dueI_bad (dd := .tup [.str "spoil", x, v]) W V (c := "spoil") (.inr (.inr rfl)) hp
    exact ⟨_, _, b, w, s, by rw [due_eq]; simp [defM_ev, startD, dueA_3, e1]; rfl, W.app, .apps, .sBad (V.fr (T := []) .apps (by simp)) hp, .inl rfl, .inl rfl⟩
  | true =>
    have e1 := dueI_ok (dd := .tup [.str "spoil", x, v]) W V (c := "spoil") (.inr (.inr rfl)) hp
    obtain ⟨k, rfl, hk⟩ := isP_int hp
    have hk : k < s.bs.length := by omega
    have W1 := W.app (l := [wrs])
    have hbl := lk_lt W1.eb
    have e2 := dueS_on (v := v) W1 hk
    refine ⟨_, _, b, w, { s with bs := s.bs.set k v }, by rw [due_eq]; simp [defM_ev, startD, dueA_3, e1, e2]; rfl, ⟨?_, ?_, ?_, W.ob, W.ow, W.bw⟩, Fr.trans .apps (.set (by simp)), .sOk hk hv, .inl rfl, .inl rfl⟩
    · rw [lk_set, if_neg W.ob.symm, W1.eo]
    · rw [lk_set, if_pos rfl, if_pos hbl]
    · rw [lk_set, if_neg W.bw, W1.ew]
theorem due_fl (W : Own h o b w s.bs s.ws s.f s.t) (G : Good s) (hl : s.ws.length < 9999) : DueQ o b w (.tup [.str "flush", .non]) s h (M_law_disk_due [.ref o, .tup [.str "flush", .non]] h) := by
  have e1 := dueI_skip (h := h) (o := o) (dd := .tup [.str "flush", .non]) (x := .non) (c := "flush") (by decide) (by decide) (by decide)
  have W1 := W.app (l := [wrs])
  cases hf : burnt s.f with
  | none =>
    obtain ⟨h', e2, F'⟩ := dueW_fCut W1 G hf
    exact ⟨_, h', b, w, s, by rw [due_eq]; simp [defM_ev, startD, dueA_2, e1, dueS_skip, dueR_skip, e2], W1.fr F', Fr.trans .apps (F'.sub (by simp)), .fCut hf, .inl rfl, .inl rfl⟩
  | some f' =>
    obtain ⟨h', w', e2, W2, F', lw⟩ := dueW_fOk W1 G hl hf
    exact ⟨_, h', b, w', { s with bs := appl s.ws s.bs, ws := [], f := f' }, by rw [due_eq]; simp [defM_ev, startD, dueA_2, e1, dueS_skip, dueR_skip, e2], W2, Fr.trans .apps F', .fOk hf, .inl rfl, .inr (by simp at lw; omega)⟩
theorem due_fu (W : Own h o b w s.bs s.ws s.f s.t) (G : Good s) (hx : Dk 10 x) : DueQ o b w (.tup [.str "fuse", x]) s h (M_law_disk_due [.ref o, .tup [.str "fuse", x]] h) := by
  have e1 := dueI_skip (h := h) (o := o) (dd := .tup [.str "fuse", x]) (x := x) (c := "fuse") (by decide) (by decide) (by decide)
  have e2 := dueW_skip (h := h ++ [wrs]) (o := o) (dd := .tup [.str "fuse", x]) (x := x) (c := "fuse") (by decide) (by decide)
  have W1 := (W.app (l := [wrs])).app (l := [wfl])
  have F1 : Fr [o, b] h (h ++ [wrs] ++ [wfl]) := Fr.trans .apps .apps
  generalize hh1 : h ++ [wrs] ++ [wfl] = h1 at W1 e2 F1
  cases hz : isFz x with
  | false =>
    have e3 := dueU_bad (h := h1) (o := o) (.flat hx) hz (.tup [.str "fuse", x])
    exact ⟨_, _, b, w, s, by rw [due_eq]; simp [defM_ev, startD, dueA_2, e1, dueS_skip, dueR_skip, e2, e3], W1, F1, .uBad hx hz, .inl rfl, .inl rfl⟩
  | true =>
    have hf : isFuse x := by
      cases x with
      | non => exact .inl rfl
      | int i => exact .inr ⟨i, rfl, by simpa [isFz] using hz⟩
      | _ => cases hz
    have e3 := dueU_ok W1 hf (.tup [.str "fuse", x])
    exact ⟨_, _, b, w, { s with f := x, t := x }, by rw [due_eq]; simp [defM_ev, startD, dueA_2, e1, dueS_skip, dueR_skip, e2, e3], W1.fuse, F1.trans (.set (by simp)), .uOk hf, .inl rfl, .inl rfl⟩
theorem due_wi (W : Own h o b w s.bs s.ws s.f s.t) (G : Good s) : DueQ o b w (.tup [.str "wipe", .non]) s h (M_law_disk_due [.ref o, .tup [.str "wipe", .non]] h) := by
  have e1 := dueI_skip (h := h) (o := o) (dd := .tup [.str "wipe", .non]) (x := .non) (c := "wipe") (by decide) (by decide) (by decide)
  have e2 := dueW_skip (h := h ++ [wrs]) (o := o) (dd := .tup [.str "wipe", .non]) (x := .non) (c := "wipe") (by decide) (by decide)
  have W1 := (W.app (l := [wrs])).app (l := [wfl])
  have e3 := dueV_on W1 G (.tup [.str "wipe", .non])
  have ho := lk_lt W1.eo
  have ho0 := lk_lt W.eo
  generalize hh1 : h ++ [wrs] ++ [wfl] = h1 at W1 e3 ho e2
  have eo2 : lk ((h1 ++ [O.lst [.non], O.lst (List.replicate s.bs.length .non), O.lst []]).set o (ownO (h1.length + 1) (h1.length + 2) s.f s.t)) o = some (ownO (h1.length + 1) (h1.length + 2) s.f s.t) := by
    rw [lk_set, if_pos rfl, if_pos (by simp; omega)]
  have e4 := dueE_ex eo2 (.tup [.str "wipe", .non]) "wipe" .non
  have hl1 : h.length ≤ h1.length := by rw [← hh1]; simp
  refine ⟨doneA .non, ((h1 ++ [O.lst [.non], O.lst (List.replicate s.bs.length .non), O.lst []]).set o (ownO (h1.length + 1) (h1.length + 2) s.f s.t)).set o (ownO (h1.length + 1) (h1.length + 2) .non .non), h1.length + 1, h1.length + 2, ⟨List.replicate s.bs.length .non, [], .non, .non⟩, ?_, ⟨?_, ?_, ?_, by omega, by omega, by omega⟩, ?_, .vOk, .inr (by omega), .inr (by omega)⟩
  · rw [due_eq]
    simp [defM_ev, startD, dueA_2, e1, dueS_skip, dueR_skip, dueU_skip, dueL_skip, e2, e3]
    rw [List.set_set] at e4
    simp [e4, dueZ, LIM_eq]
  · rw [lk_set, if_pos rfl, if_pos (by simp; omega)]
  · rw [lk_set, if_neg (by omega), lk_set, if_neg (by omega), lk_append, if_neg (by omega), Nat.add_sub_cancel_left]; rfl
  · rw [lk_set, if_neg (by omega), lk_set, if_neg (by omega), lk_append, if_neg (by omega), Nat.add_sub_cancel_left]; rfl
  · rw [← hh1]
    exact Fr.trans (Fr.trans (Fr.trans (Fr.trans .apps .apps) .apps) (.set (by simp))) (.set (by simp))
theorem due_fa (W : Own h o b w s.bs s.ws s.f s.t) (G : Good s) (ho : o < k0) (hb : b < k0) (V : Val h x) (gx : Ge k0 x) (lx : Lt h x) : DueQ o b w (.tup [.str "fall", x]) s h (M_law_disk_due [.ref o, .tup [.str "fall", x]] h) := by
  have e1 := dueI_skip (h := h) (o := o) (dd := .tup [.str "fall", x]) (x := x) (c := "fall") (by decide) (by decide) (by decide)
  have e2 := dueW_skip (h := h ++ [wrs]) (o := o) (dd := .tup [.str "fall", x]) (x := x) (c := "fall") (by decide) (by decide)
  have W1 := (W.app (l := [wrs])).app (l := [wfl])
  have F1 : Fr [] h (h ++ [wrs] ++ [wfl]) := Fr.trans .apps .apps
  have V1 := V.fr F1 (by simp)
  generalize hh1 : h ++ [wrs] ++ [wfl] = h1 at W1 e2 F1 V1
  have bad : ∀ h', M_law_is_lot [x, .int s.ws.length] h1 = .ok (.bl false) h' → Fr [] h1 h' → Oc h' (.tup [.str "fall", x]) s (badA "lot" x) s → DueQ o b w (.tup [.str "fall", x]) s h (M_law_disk_due [.ref o, .tup [.str "fall", x]] h) := fun h' e3 F' oc => by
    have e4 := dueL_bad W1 V1 F' e3 (.tup [.str "fall", x])
    exact ⟨_, h', b, w, s, by rw [due_eq]; simp [defM_ev, startD, dueA_2, e1, dueS_skip, dueR_skip, dueU_skip, e2, e4], W1.fr F', (F1.trans F').sub (by simp), oc, .inl rfl, .inl rfl⟩
  rcases V.row with ⟨ds, r, hd⟩ | ⟨n1, n2, n3⟩
  · have hl := lx.row r
    have r1 := r.fr F1
    by_cases hb1 : (ds.filter fun d => !isP s.ws.length d) = []
    · have hall : (ds.all fun y => isP s.ws.length y) = true := by
        rw [List.all_eq_true]
        intro y hy
        have := List.filter_eq_nil_iff.mp hb1 y hy
        simpa using this
      obtain ⟨ks, rfl, hk⟩ := row_places hall
      rw [List.length_map] at hl
      cases hi : inc ks with
      | false =>
        obtain ⟨h', e3, F'⟩ := incs_inc ks r1 hl (n := s.ws.length) (fun k hk2 => by have := hk k hk2; omega)
        rw [hi] at e3
        exact bad h' e3 F' (.lBad3 (V1.fr F' (by simp)) (r1.fr F') hl hk hi)
      | true =>
        obtain ⟨h', w', e3, W', F', lw⟩ := dueL_ok W1 G r1 gx hb hl hk hi (.tup [.str "fall", x])
        have e4 := dueE_ex W'.eo (.tup [.str "fall", x]) "fall" x
        have F3 : Fr [o, b] h' (h'.set o (ownO b w' .non .non)) := .set (by simp)
        exact ⟨doneA .non, h'.set o (ownO b w' .non .non), b, w', ⟨done s.ws ks s.bs, [], .non, .non⟩, by rw [due_eq]; simp [defM_ev, startD, dueA_2, e1, dueS_skip, dueR_skip, dueU_skip, dueV_skip, e2, e3, e4, dueZ, LIM_eq], W'.fuse, ((F1.sub (by simp)).trans F').trans F3, .lOk ((V1.geF gx ho hb F').geF gx ho hb F3) ((r1.geF gx ho hb F').geF gx ho hb F3) hl hk hi, .inl rfl, .inr (by have := F1.len; omega)⟩
    · obtain ⟨h', e3, F'⟩ := islot_bad r1 hd hl s.ws.length hb1
      refine bad h' e3 F' (.lBad2 (V1.fr F' (by simp)) (r1.fr F') hd hl ?_)
      cases q : (ds.all fun y => isIn 0 ((s.ws.length : Int) - 1) y) with
      | false => rfl
      | true =>
        refine absurd (List.filter_eq_nil_iff.mpr fun y hy => ?_) hb1
        have := List.all_eq_true.mp q y hy
        rw [isIn_isP] at this
        simp [this]
  · have V1' := V1.row
    have : isiF "list" x h1 = .ok (.bl false) h1 ∧ isiF "tuple" x h1 = .ok (.bl false) h1 ∧ isiTF ["list", "tuple"] x h1 = .ok (.bl false) h1 := by
      rcases V1' with ⟨ds, r, _⟩ | q
      · cases r with
        | tup => rw [isi_list_tup] at n1; rw [isi_tuple_tup] at n2; cases n2
        | fls => rw [isi_list_fls] at n1; cases n1
        | lst e =>
          cases V with
          | flat q => obtain ⟨q, z⟩ := q; have := z [] 10 (by omega); simp [Kf.py] at this
          | lst e2 _ => rw [isi_list_ref e2] at n1; cases n1
      · exact q
    exact bad h1 (islot_no this.1 this.2.1 _) .refl (.lBad1 V1 this.2.2)
theorem due_ex (W : Own h o b w s.bs s.ws s.f s.t) (G : Good s) (hl : s.ws.length < 9999) (ho : o < k0) (hb : b < k0) (D : IsDeed k0 h dd) : DueQ o b w dd s h (M_law_disk_due [.ref o, dd] h) := by
  cases D with
  | read v g => exact due_rd W G hl v
  | spoil v g q => exact due_sp W G ho hb v g q
  | write v g q => exact due_wr W G hl ho hb v g q
  | flush => exact due_fl W G hl
  | fuse q => exact due_fu W G q
  | wipe => exact due_wi W G
  | fall v g l => exact due_fa W G ho hb v g l
end
end Kq
end
set_option maxHeartbeats 8000000
noncomputable section
namespace Kq
open PySem PySem.Spec L2 Kf
def toldA : SS := (sPar [2, 3, 4] (sCons (sC .non) (sCons (s2 getF (sVar 1) (sC (.int 0))) (sCons (s2 getF (sVar 1) (sC (.int 1))) sNil))))
def toldC : SS := (sAsg (sIfE (sTest (sIsi "list" (sVar 4))) (sNew (sCallL listF (sCons (sVar 4) sNil))) (sVar 4)) (gN 5))
def toldB : SS := (sIf (sTest (s2 eqF (sVar 3) (sC (.str "write"))))
    (sAsg (sTup (sCons (sC (.str "done")) (sCons (sMeth "write" (tabM [("Disk", 3, M_Disk_write, [])]) (sVar 0) (sCons (sVar 5) (sCons (s2 getF (sVar 1) (sC (.int 2))) sNil))) sNil))) (gN 2))
    (sIf (sTest (s2 eqF (sVar 3) (sC (.str "read"))))
    (sAsg (sTup (sCons (sC (.str "done")) (sCons (sMeth "read" (tabM [("Disk", 2, M_Disk_read, [])]) (sVar 0) (sCons (sVar 5) sNil)) sNil))) (gN 2))
    (sIf (sTest (s2 eqF (sVar 3) (sC (.str "flush"))))
    (sAsg (sTup (sCons (sC (.str "done")) (sCons (sMeth "flush" (tabM [("Disk", 1, M_Disk_flush, [])]) (sVar 0) sNil) sNil))) (gN 2))
    (sIf (sTest (s2 eqF (sVar 3) (sC (.str "fuse"))))
    (sAsg (sTup (sCons (sC (.str "done")) (sCons (sMeth "set_fuse" (tabM [("Disk", 2, M_Disk_set_fuse, [])]) (sVar 0) (sCons (sVar 5) sNil)) sNil))) (gN 2))
    (sIf (sTest (s2 eqF (sVar 3) (sC (.str "spoil"))))
    (sAsg (sTup (sCons (sC (.str "done")) (sCons (sMeth "spoil" (tabM [("Disk", 3, M_Disk_spoil, [])]) (sVar 0) (sCons (sVar 5) (sCons (s2 getF (sVar 1) (sC (.int 2))) sNil))) sNil))) (gN 2))
    (sIf (sTest (s2 eqF (sVar 3) (sC (.str "fall"))))
    (sAsg (sTup (sCons (sC (.str "done")) (sCons (sMeth "fall" (tabM [("Disk", 2, M_Disk_fall, [])]) (sVar 0) (sCons (sVar 5) sNil)) sNil))) (gN 2))
    (sAsg (sTup (sCons (sC (.str "done")) (sCons (sMeth "wipe" (tabM [("Disk", 1, M_Disk_wipe, [])]) (sVar 0) sNil) sNil))) (gN 2))))))))
def suBad (a : Nat) (d : Option Nat) : SS := (sAsg (sTup (sCons (sC (.str "bad")) (sCons (sXf "BadNumber" a d (sVar 6) "what") (sCons (sXf "BadNumber" a d (sVar 6) "number") (sCons (sIsi "bool" (sXf "BadNumber" a d (sVar 6) "number")) sNil))))) (gN 2))
def suCut (a : Nat) (d : Option Nat) : SS := (sAsg (sTup (sCons (sC (.str "cut")) (sCons (sXf "Fallen" a d (sVar 6) "steps") sNil))) (gN 2))
def toldT : SS := sTry toldB [((fun c => List.lookup c [("BadNumber", true), ("Fallen", false)]), (some 6), fun _ a d => suBad a d), ((fun c => List.lookup c [("BadNumber", false), ("Fallen", true)]), (some 6), fun _ a d => suCut a d)]
def toldR : SS := (sRet (sIfE (sTest (s2 eqF (sVar 5) (sVar 4))) (sVar 2) (sTup (sCons (sC (.str "changed")) (sCons (sVar 5) sNil)))))
theorem told_eq : M_law_disk_told = defM 7 (sSeq toldA (sSeq toldC (sSeq toldT toldR))) := rfl
/-- a passed thing and its copy -/
inductive Cp (h : Hd) : D → D → Prop
  | same {x} : (∀ ds, x ≠ .fls ds) → (∀ m, x ≠ .ref m) → Cp h x x
  | lst {x m ds} : Row h x ds → (∀ es, x ≠ .tup es) → lk h m = some (.lst ds) → (∀ y ∈ ds, Dk 10 y) → Cp h x (.ref m)
section
variable {h h' : Hd} {x y : D} {d n : Nat} {s : Sd}
theorem Cp.fr {T : List Nat} (c : Cp h x y) (F : Fr T h h') (hT : ∀ m o, lk h m = some (.lst o) → m ∉ T) : Cp h' x y := by
  cases c with
  | same a b => exact .same a b
  | lst r a e q =>
    refine .lst ?_ a (F.get e (hT _ _ e)) q
    cases r with
    | tup => exact .tup
    | fls => exact .fls
    | lst e => exact .lst (F.get e (hT _ _ e))
theorem Cp.val (c : Cp h x y) (v : Val h x) : Val h y := by
  cases c with
  | same a b => exact v
  | lst r a e q => exact .lst e q
theorem Cp.row {ds : List D} (c : Cp h x y) (r : Row h x ds) : Row h y ds := by
  cases c with
  | same a b => exact r
  | lst r' a e q =>
    have : ∀ es, Row h x es → es = ds := fun es re => by
      cases re <;> cases r <;> simp_all
    rw [← this _ r']
    exact .lst e
theorem Cp.isP (c : Cp h x y) : isP n y = isP n x := by
  cases c with
  | same a b => rfl
  | lst r a e q => cases r <;> rfl
theorem Cp.isB (c : Cp h x y) : Kq.isB y = Kq.isB x := by
  cases c with
  | same a b => rfl
  | lst r a e q => cases r <;> rfl
theorem Cp.isFz (c : Cp h x y) : Kq.isFz y = Kq.isFz x := by
  cases c with
  | same a b => rfl
  | lst r a e q => cases r <;> rfl
theorem Cp.int (c : Cp h x y) {i : Int} (e : x = .int i) : y = .int i := by
  subst e
  cases c with
  | same a b => rfl
  | lst r a e q => cases r
theorem Cp.non (c : Cp h x y) (e : x = .non) : y = .non := by
  subst e
  cases c with
  | same a b => rfl
  | lst r a e q => cases r
theorem Cp.isi (c : Cp h x y) (e : isiTF ["list", "tuple"] x h = .ok (.bl false) h) : isiTF ["list", "tuple"] y h = .ok (.bl false) h := by
  cases c with
  | same a b => exact e
  | lst r a e1 q =>
    have := r.isi.2
    rw [e] at this
    cases this
theorem Cp.py (c : Cp h x y) (v : Val h x) : ∃ p, ∀ n, 12 ≤ n → Kf.py h n x = some p ∧ Kf.py h n y = some p := by
  cases c with
  | same a b =>
    obtain ⟨q, z⟩ := v.py
    exact ⟨q, fun n hn => ⟨z n (by omega), z n (by omega)⟩⟩
  | @lst m ds r a e q =>
    obtain ⟨qs, z⟩ := dk_all q
    refine ⟨.list qs, fun n hn => ?_⟩
    obtain ⟨j, rfl⟩ : ∃ j, n = j + 1 := ⟨n - 1, by omega⟩
    refine ⟨?_, by rw [py_list e, z h j (by omega)]; rfl⟩
    cases r with
    | tup => exact absurd rfl (a _)
    | fls => show (allS (ds.map (Kf.py h j))).map PyData.list = _; rw [z h j (by omega)]; rfl
    | lst e1 => rw [py_list e1, z h j (by omega)]; rfl
theorem toldC_ex (v : Val h x) (a0 a1 a2 a3 a6 : Option D) : ∃ y h', toldC [a0, a1, a2, a3, some x, none, a6] h = .ok (.nx [a0, a1, a2, a3, some x, some y, a6]) h' ∧ Cp h' x y ∧ Fr [] h h' := by
  rcases v.cases' with e | ⟨b, e⟩ | ⟨b, e⟩ | ⟨b, e⟩ | ⟨b, e⟩ | ⟨b, e⟩ | ⟨m, ds, e, e2, q⟩
  · subst e; exact ⟨_, h, by simp [toldC], .same (fun _ => D.noConfusion) (fun _ => D.noConfusion), .refl⟩
  · subst e; exact ⟨_, h, by simp [toldC], .same (fun _ => D.noConfusion) (fun _ => D.noConfusion), .refl⟩
  · subst e; exact ⟨_, h, by simp [toldC], .same (fun _ => D.noConfusion) (fun _ => D.noConfusion), .refl⟩
  · subst e; exact ⟨_, h, by simp [toldC], .same (fun _ => D.noConfusion) (fun _ => D.noConfusion), .refl⟩
  · subst e; exact ⟨_, h, by simp [toldC], .same (fun _ => D.noConfusion) (fun _ => D.noConfusion), .refl⟩
  · subst e
    refine ⟨.ref h.length, h ++ [.lst b], by simp [toldC], .lst .fls (fun _ => D.noConfusion) (by simp) (fun y hy => ?_), .app⟩
    cases v with
    | flat q => exact (dk_inv (k := 9) (.inr q) y hy).up (by omega)
  · subst e
    have hm := lk_lt e2
    exact ⟨.ref h.length, h ++ [.lst ds], by simp [toldC, isi_list_ref e2, e2], .lst (.lst (by rw [lk_append, if_pos hm, e2])) (fun _ => D.noConfusion) (by simp) q, .app⟩
theorem suBad_ex (v : Val h y) (a : Nat) (dd : Option Nat) (w : String) (a0 a1 a2 a3 a4 a5 : Option D) :
    suBad a dd [a0, a1, a2, a3, a4, a5, some (.xc "BadNumber" a dd [("number", y), ("what", .str w)])] h = .ok (.nx [a0, a1, some (badA w y), a3, a4, a5, some (.xc "BadNumber" a dd [("number", y), ("what", .str w)])]) h := by
  have e : ∀ f, sXf "BadNumber" a dd (sVar 6) f [a0, a1, a2, a3, a4, a5, some (.xc "BadNumber" a dd [("number", y), ("what", .str w)])] h = onSome (List.lookup f [("number", y), ("what", .str w)]) fun v => .ok v h := fun f => xf_ev _ _ _ _ _ _ _ _ (by simp)
  simp (disch := omega) [suBad, e, List.lookup, isi_bool v, LIM_eq, guard_true]
theorem suCut_ex (t : D) (a : Nat) (dd : Option Nat) (a0 a1 a2 a3 a4 a5 : Option D) :
    suCut a dd [a0, a1, a2, a3, a4, a5, some (.xc "Fallen" a dd [("steps", t)])] h = .ok (.nx [a0, a1, some (.tup [.str "cut", t]), a3, a4, a5, some (.xc "Fallen" a dd [("steps", t)])]) h := by
  have e : ∀ f, sXf "Fallen" a dd (sVar 6) f [a0, a1, a2, a3, a4, a5, some (.xc "Fallen" a dd [("steps", t)])] h = onSome (List.lookup f [("steps", t)]) fun v => .ok v h := fun f => xf_ev _ _ _ _ _ _ _ _ (by simp)
  simp (disch := omega) [suCut, e, List.lookup, LIM_eq, guard_true]
theorem toldT_ok {env env1 : En} (e : toldB env h = .ok (.nx env1) h') : toldT env h = .ok (.nx env1) h' := sTry_nx e
theorem toldT_bad {a0 a1 a2 a3 a4 a5 : Option D} {w : String} (v : Val h' y) (e : toldB [a0, a1, a2, a3, a4, a5, none] h = .ok (.exc "BadNumber" [("number", y), ("what", .str w)] [a0, a1, a2, a3, a4, a5, none]) h') :
    toldT [a0, a1, a2, a3, a4, a5, none] h = .ok (.nx [a0, a1, some (badA w y), a3, a4, a5, none]) h' := by
  refine (sTry_exc e).trans (sCls_yes rfl fun a dd => ?_)
  show outN (some 6) (suBad a dd [a0, a1, a2, a3, a4, a5, some (.xc "BadNumber" a dd [("number", y), ("what", .str w)])] h') = _
  rw [suBad_ex v]; rfl
theorem toldT_cut {a0 a1 a2 a3 a4 a5 : Option D} {t : D} (e : toldB [a0, a1, a2, a3, a4, a5, none] h = .ok (.exc "Fallen" [("steps", t)] [a0, a1, a2, a3, a4, a5, none]) h') :
    toldT [a0, a1, a2, a3, a4, a5, none] h = .ok (.nx [a0, a1, some (.tup [.str "cut", t]), a3, a4, a5, none]) h' := by
  refine (sTry_exc e).trans ((sCls_no rfl).trans (sCls_yes rfl fun a dd => ?_))
  show outN (some 6) (suCut a dd [a0, a1, a2, a3, a4, a5, some (.xc "Fallen" a dd [("steps", t)])] h') = _
  rw [suCut_ex]; rfl
theorem toldR_ex (c : Cp h x y) (v : Val h x) (a0 a1 a3 a6 : Option D) (t : D) : toldR [a0, a1, some t, a3, some x, some y, a6] h = .ok (.ret t) h := by
  obtain ⟨p, z⟩ := c.py v
  have e := (eqF_same (z 60 (by omega)).2 (z 60 (by omega)).1).1
  simp [toldR, e]
end
end Kq
end
set_option maxHeartbeats 8000000
noncomputable section
namespace Kq
open PySem PySem.Spec L2 Kf
/-- answers alike -/
def Like (h : Hd) (a' a : D) : Prop := ∃ p, Kf.py h 60 a' = some p ∧ Kf.py h 60 a = some p
theorem Like.dk {h : Hd} {a : D} {k : Nat} (q : Dk k a) (hk : k ≤ 60) : Like h a a := by
  obtain ⟨p, z⟩ := q
  exact ⟨p, z h 60 hk, z h 60 hk⟩
theorem Like.bad {h : Hd} {x y : D} {w : String} (c : Cp h x y) (v : Val h x) : Like h (badA w y) (badA w x) := by
  obtain ⟨p, z⟩ := c.py v
  have := z 59 (by omega)
  refine ⟨.tuple [.str (Str.ofString "bad"), .str (Str.ofString w), p, .bool (isB x)], ?_, ?_⟩
  · show (allS ([D.str "bad", .str w, y, .bl (isB y)].map (Kf.py h 59))).map PyData.tuple = _
    rw [List.map_cons, List.map_cons, List.map_cons, this.2, c.isB]; rfl
  · show (allS ([D.str "bad", .str w, x, .bl (isB x)].map (Kf.py h 59))).map PyData.tuple = _
    rw [List.map_cons, List.map_cons, List.map_cons, this.1]; rfl
structure ToldQ (d : Nat) (n : Nat) (s' : Sd) (a : D) (h : Hd) (r : Res D) : Prop where
  ex : ∃ (a' : D) (h' : Hd), r = .ok a' h' ∧ lk h' d = some (dskO n s'.bs s'.ws s'.f s'.t) ∧ Fr [d] h h' ∧ Like h' a' a
abbrev tdEnv (d : Nat) (dd : D) (c : String) (x y : D) : En := [some (.ref d), some dd, some .non, some (.str c), some x, some y, none]
section
variable {h : Hd} {x v y dd a : D} {d n : Nat} {s s' : Sd} {c : String}
theorem toldA_2 (a0 : Option D) : toldA [a0, some (.tup [.str c, x]), none, none, none, none, none] h = .ok (.nx [a0, some (.tup [.str c, x]), some .non, some (.str c), some x, none, none]) h := by
  simp [toldA]
theorem toldA_3 (a0 : Option D) : toldA [a0, some (.tup [.str c, x, v]), none, none, none, none, none] h = .ok (.nx [a0, some (.tup [.str c, x, v]), some .non, some (.str c), some x, none, none]) h := by
  simp [toldA]
/-- the whole from the try -/
theorem told_of {h1 h2 : Hd} {t : D} (eA : toldA [some (.ref d), some dd, none, none, none, none, none] h = .ok (.nx [some (.ref d), some dd, some .non, some (.str c), some x, none, none]) h) (eC : toldC [some (.ref d), some dd, some .non, some (.str c), some x, none, none] h = .ok (.nx (tdEnv d dd c x y)) h1)
    (eT : toldT (tdEnv d dd c x y) h1 = .ok (.nx [some (.ref d), some dd, some t, some (.str c), some x, some y, none]) h2) (cp : Cp h2 x y) (v : Val h2 x) : M_law_disk_told [.ref d, dd] h = .ok t h2 := by
  rw [told_eq]
  simp [defM_ev, startD, eA, eC, eT, toldR_ex cp v]
theorem told_bad (hh : n = s.bs.length) (eA : toldA [some (.ref d), some dd, none, none, none, none, none] h = .ok (.nx [some (.ref d), some dd, some .non, some (.str c), some x, none, none]) h) (e : lk h d = some (dskO n s.bs s.ws s.f s.t)) (v : Val h x) (w : String)
    (k : ∀ h1 y, lk h1 d = some (dskO n s.bs s.ws s.f s.t) → Cp h1 x y → Val h1 y → Fr [] h h1 → ∃ h2, toldB (tdEnv d dd c x y) h1 = .ok (.exc "BadNumber" [("number", y), ("what", .str w)] (tdEnv d dd c x y)) h2 ∧ Fr [] h1 h2) : ToldQ d n s (badA w x) h (M_law_disk_told [.ref d, dd] h) := by
  obtain ⟨y, h1, eC, cp, F1⟩ := toldC_ex (h := h) v (some (.ref d)) (some dd) (some .non) (some (.str c)) none
  have v1 := v.fr F1 (by simp)
  obtain ⟨h2, e2, F2⟩ := k h1 y (F1.get e (by simp)) cp (cp.val v1) F1
  have v2 := v1.fr F2 (by simp)
  have cp2 := cp.fr F2 (by simp)
  exact ⟨_, h2, told_of eA eC (toldT_bad (cp2.val v2) e2) cp2 v2, (F1.trans F2).get e (by simp), (F1.trans F2).sub (by simp), .bad cp2 v2⟩
theorem told_cut (ht : isFuse s.t) (eA : toldA [some (.ref d), some dd, none, none, none, none, none] h = .ok (.nx [some (.ref d), some dd, some .non, some (.str c), some x, none, none]) h) (e : lk h d = some (dskO n s.bs s.ws s.f s.t)) (v : Val h x)
    (k : ∀ h1 y, lk h1 d = some (dskO n s.bs s.ws s.f s.t) → Cp h1 x y → toldB (tdEnv d dd c x y) h1 = .ok (.exc "Fallen" [("steps", s.t)] (tdEnv d dd c x y)) h1) : ToldQ d n s (.tup [.str "cut", s.t]) h (M_law_disk_told [.ref d, dd] h) := by
  obtain ⟨y, h1, eC, cp, F1⟩ := toldC_ex (h := h) v (some (.ref d)) (some dd) (some .non) (some (.str c)) none
  have v1 := v.fr F1 (by simp)
  have e2 := k h1 y (F1.get e (by simp)) cp
  refine ⟨_, h1, told_of eA eC (toldT_cut e2) cp v1, F1.get e (by simp), F1.sub (by simp), .dk (k := 11) (dk_tup fun z hz => ?_) (by omega)⟩
  simp at hz
  rcases hz with e | e
  · subst e; exact dk_str.up (by omega)
  · subst e
    rcases ht with q | ⟨i, q, _⟩
    · rw [q]; exact dk_non.up (by omega)
    · rw [q]; exact dk_int.up (by omega)
theorem told_good {r : D} (hr : Dk 10 r) (eA : toldA [some (.ref d), some dd, none, none, none, none, none] h = .ok (.nx [some (.ref d), some dd, some .non, some (.str c), some x, none, none]) h) (e : lk h d = some (dskO n s.bs s.ws s.f s.t)) (v : Val h x)
    (k : ∀ h1 y, lk h1 d = some (dskO n s.bs s.ws s.f s.t) → Cp h1 x y → Val h1 y → Fr [] h h1 → ∃ h2, toldB (tdEnv d dd c x y) h1 = .ok (.nx [some (.ref d), some dd, some (doneA r), some (.str c), some x, some y, none]) h2 ∧ lk h2 d = some (dskO n s'.bs s'.ws s'.f s'.t) ∧ Fr [d] h1 h2) :
    ToldQ d n s' (doneA r) h (M_law_disk_told [.ref d, dd] h) := by
  obtain ⟨y, h1, eC, cp, F1⟩ := toldC_ex (h := h) v (some (.ref d)) (some dd) (some .non) (some (.str c)) none
  have v1 := v.fr F1 (by simp)
  have ed := F1.get e (by simp)
  obtain ⟨h2, e2, e3, F2⟩ := k h1 y ed cp (cp.val v1) F1
  have nd : ∀ m o, lk h1 m = some (.lst o) → m ∉ [d] := fun m o em z => by
    simp at z; subst z
    rw [ed] at em; cases em
  have v2 := v1.fr F2 (fun m em => by
    subst em
    cases v1 with
    | flat q => obtain ⟨q, z⟩ := q; have := z [] 10 (by omega); simp [Kf.py] at this
    | lst e _ => exact nd _ _ e)
  have cp2 := cp.fr F2 nd
  refine ⟨_, h2, told_of eA eC (toldT_ok e2) cp2 v2, e3, (F1.sub (by simp)).trans F2, .dk (k := 11) (dk_tup fun z hz => ?_) (by omega)⟩
  simp at hz
  rcases hz with e | e
  · subst e; exact dk_str.up (by omega)
  · subst e; exact hr
end
end Kq
end
set_option maxHeartbeats 8000000
noncomputable section
namespace Kq
open PySem PySem.Spec L2 Kf
section
variable {h : Hd} {x v y dd a : D} {d n : Nat} {s s' : Sd} {c : String}
theorem val_int {h : Hd} {i : Int} : Val h (.int i) := .flat (dk_int.up (by omega))
theorem val_non {h : Hd} : Val h .non := .flat (dk_non.up (by omega))
theorem lastW_mem {k : Nat} : ∀ {us : List (Nat × D)} {c : D}, lastW k us = some c → ∃ q ∈ us, q.2 = c
  | [], _, e => by cases e
  | q :: us, c, e => by
    unfold lastW at e
    by_cases g : q.1 = k
    · rw [if_pos g] at e; cases e; exact ⟨q, List.mem_cons_self, rfl⟩
    · rw [if_neg g] at e
      obtain ⟨q', hq, e'⟩ := lastW_mem e
      exact ⟨q', List.mem_cons_of_mem _ hq, e'⟩
theorem Row.len2 {ds es : List D} (r : Row h x ds) (r' : Row h x es) : ds = es := by cases r <;> cases r' <;> simp_all
theorem told_ex (O : Oc h dd s a s') (G : Good s) (hl : s.ws.length < 9999) (e : lk h d = some (dskO s.bs.length s.bs s.ws s.f s.t)) : ToldQ d s.bs.length s' a h (M_law_disk_told [.ref d, dd] h) := by
  cases O with
  | @wBad _ v _ V hp =>
    refine told_bad rfl (toldA_3 _) e V "block" fun h1 y e1 cp v1 F => ⟨h1, ?_, .refl⟩
    have b := write_bad (c := v) e1 v1 (by rw [cp.isP]; exact hp)
    unfold dskO at e1
    simp (disch := omega) [toldB, e1, guard_true, List.lookup, tabM, b]
  | rBad V hp =>
    refine told_bad rfl (toldA_2 _) e V "block" fun h1 y e1 cp v1 F => ⟨h1, ?_, .refl⟩
    have b := read_bad e1 v1 (by rw [cp.isP]; exact hp)
    unfold dskO at e1
    simp (disch := omega) [toldB, e1, guard_true, List.lookup, tabM, b]
  | @sBad _ v _ V hp =>
    refine told_bad rfl (toldA_3 _) e V "block" fun h1 y e1 cp v1 F => ⟨h1, ?_, .refl⟩
    have b := spoil_bad (c := v) e1 v1 (by rw [cp.isP]; exact hp)
    unfold dskO at e1
    simp (disch := omega) [toldB, e1, guard_true, List.lookup, tabM, b]
  | uBad q hz =>
    refine told_bad rfl (toldA_2 _) e (.flat q) "steps" fun h1 y e1 cp v1 F => ⟨h1, ?_, .refl⟩
    have b := setfuse_bad e1 v1 (by rw [cp.isFz]; exact hz)
    unfold dskO at e1
    simp (disch := omega) [toldB, e1, guard_true, List.lookup, tabM, b]
  | lBad1 V q =>
    refine told_bad rfl (toldA_2 _) e V "lot" fun h1 y e1 cp v1 F => ⟨h1, ?_, .refl⟩
    have q1 : isiTF ["list", "tuple"] y h1 = .ok (.bl false) h1 := by
      have v0 := V.fr F (by simp)
      refine cp.isi ?_
      rcases v0.row with ⟨ds, r, _⟩ | z
      · have := V.row
        rcases this with ⟨ds, r, _⟩ | z
        · have := r.isi.2; rw [q] at this; cases this
        · cases V with
          | lst e2 _ => have := (Row.lst e2).isi.2; rw [q] at this; cases this
          | flat _ =>
            cases r with
            | tup => have := (Row.tup (h := h) (ds := ds)).isi.2; rw [q] at this; cases this
            | fls => have := (Row.fls (h := h) (ds := ds)).isi.2; rw [q] at this; cases this
            | lst e2 => rename_i qq; obtain ⟨p, z⟩ := qq; have := z [] 10 (by omega); simp [Kf.py] at this
      · exact z.2.2
    have b := dfall_bad1 (d := d) q1
    unfold dskO at e1
    simp (disch := omega) [toldB, e1, guard_true, List.lookup, tabM, b]
  | lBad2 V r hd hl2 hb =>
    refine told_bad rfl (toldA_2 _) e V "lot" fun h1 y e1 cp v1 F => ⟨h1, ?_, .refl⟩
    have b := dfall_bad2 e1 (cp.row (r.fr F)) hd hl2 hb
    unfold dskO at e1
    simp (disch := omega) [toldB, e1, guard_true, List.lookup, tabM, b]
  | lBad3 V r hl2 hk hi =>
    refine told_bad rfl (toldA_2 _) e V "lot" fun h1 y e1 cp v1 F => ?_
    obtain ⟨h2, b, F2⟩ := dfall_bad3 e1 (cp.row (r.fr F)) hl2 hk hi
    refine ⟨h2, ?_, F2⟩
    unfold dskO at e1
    simp (disch := omega) [toldB, e1, guard_true, List.lookup, tabM, b]
  | @wCut _ v _ hk hf =>
    refine told_cut G.ht (toldA_3 _) e val_int fun h1 y e1 cp => ?_
    rw [cp.int rfl]
    have b := write_cut (c := v) e1 G.hf hf hk
    unfold dskO at e1
    simp (disch := omega) [toldB, e1, guard_true, List.lookup, tabM, b]
  | fCut hf =>
    refine told_cut G.ht (toldA_2 _) e val_non fun h1 y e1 cp => ?_
    rw [cp.non rfl]
    have b := dflush_cut e1 G.hf hf
    unfold dskO at e1
    simp (disch := omega) [toldB, e1, guard_true, List.lookup, tabM, b]
  | @wOk _ v _ _ hk hf hv =>
    refine told_good (dk_non.up (by omega)) (toldA_3 _) e val_int fun h1 y e1 cp v1 F => ?_
    rw [cp.int rfl]
    obtain ⟨h2, b, e2, F2⟩ := write_ok (c := v) e1 G.hf hf hk (by omega)
    refine ⟨h2, ?_, e2, F2⟩
    unfold dskO at e1
    simp (disch := omega) [toldB, e1, guard_true, List.lookup, tabM, b, LIM_eq]
  | @sOk _ v _ hk hv =>
    refine told_good (dk_non.up (by omega)) (toldA_3 _) e val_int fun h1 y e1 cp v1 F => ?_
    rw [cp.int rfl]
    obtain ⟨h2, b, e2, F2⟩ := spoil_ok (c := v) e1 hk rfl
    refine ⟨h2, ?_, e2, F2⟩
    unfold dskO at e1
    simp (disch := omega) [toldB, e1, guard_true, List.lookup, tabM, b, LIM_eq]
  | @rOk k _ hk =>
    refine told_good ?_ (toldA_2 _) e val_int fun h1 y e1 cp v1 F => ?_
    · cases q : lastW k s.ws.reverse with
      | some c =>
        obtain ⟨q2, hq, rfl⟩ := lastW_mem q
        exact (G.dw q2 (by simpa using hq)).up (by omega)
      | none =>
        show Dk 10 (s.bs.getD k .non)
        rw [List.getD_eq_getElem?_getD, List.getElem?_eq_getElem hk]
        exact (G.db _ (List.getElem_mem _)).up (by omega)
    rw [cp.int rfl]
    have b := dread_ok e1 hk rfl
    refine ⟨h1, ?_, e1, .refl⟩
    unfold dskO at e1
    simp (disch := omega) [toldB, e1, guard_true, List.lookup, tabM, b, LIM_eq]
  | fOk hf =>
    refine told_good (dk_non.up (by omega)) (toldA_2 _) e val_non fun h1 y e1 cp v1 F => ?_
    rw [cp.non rfl]
    obtain ⟨h2, b, e2, F2⟩ := dflush_ok e1 G.hf hf G.hq
    refine ⟨h2, ?_, e2, F2⟩
    unfold dskO at e1
    simp (disch := omega) [toldB, e1, guard_true, List.lookup, tabM, b, LIM_eq]
  | @uOk x _ hx =>
    have hx2 := hx
    refine told_good (dk_non.up (by omega)) (toldA_2 _) e (by rcases hx with z | ⟨i, z, _⟩ <;> subst z <;> first | exact val_non | exact val_int) fun h1 y e1 cp v1 F => ?_
    have ey : y = x := by
      rcases hx with z | ⟨i, z, _⟩
      · rw [cp.non z, z]
      · rw [cp.int z, z]
    subst ey
    have b := setfuse_ok e1 hx2
    refine ⟨_, ?_, by rw [lk_set, if_pos rfl, if_pos (lk_lt e1)], .set (by simp)⟩
    unfold dskO at e1 b
    simp (disch := omega) [toldB, e1, guard_true, List.lookup, tabM, b, LIM_eq]
    rfl
  | vOk =>
    refine told_good (dk_non.up (by omega)) (toldA_2 _) e val_non fun h1 y e1 cp v1 F => ?_
    rw [cp.non rfl]
    obtain ⟨h2, b, e2, F2⟩ := wipe_ok e1 G.l0 (by have := G.l1; omega)
    refine ⟨h2, ?_, e2, F2⟩
    unfold dskO at e1
    simp (disch := omega) [toldB, e1, guard_true, List.lookup, tabM, b, LIM_eq]
  | lOk V r hl2 hk hi =>
    refine told_good (dk_non.up (by omega)) (toldA_2 _) e V fun h1 y e1 cp v1 F => ?_
    obtain ⟨h2, b, e2, F2⟩ := dfall_ok e1 (cp.row (r.fr F)) hl2 hk hi G.hq
    refine ⟨h2, ?_, e2, F2⟩
    unfold dskO at e1
    simp (disch := omega) [toldB, e1, guard_true, List.lookup, tabM, b, LIM_eq]
end
end Kq
end
set_option maxHeartbeats 8000000
noncomputable section
namespace Kq
open PySem PySem.Spec L2 Kf
theorem done_mem {P : D → Prop} {ws : List (Nat × D)} (hw : ∀ q ∈ ws, P q.2) : ∀ {ks : List Nat} {bs : List D}, (∀ x ∈ bs, P x) → ∀ x ∈ done ws ks bs, P x
  | [], _, hb => hb
  | k :: ks, bs, hb => by
    unfold done
    refine done_mem hw ?_
    cases e : ws[k]? with
    | none => exact hb
    | some q =>
      intro x hx
      rcases List.mem_or_eq_of_mem_set hx with z | z
      · exact hb x z
      · rw [z]; exact hw q (List.mem_of_getElem? e)
theorem oc_good {h : Hd} {dd a : D} {s s' : Sd} (O : Oc h dd s a s') (G : Good s) : Good s' ∧ s'.bs.length = s.bs.length ∧ s'.ws.length ≤ s.ws.length + 1 := by
  cases O with
  | wBad V hp => exact ⟨G, rfl, by omega⟩
  | rBad V hp => exact ⟨G, rfl, by omega⟩
  | sBad V hp => exact ⟨G, rfl, by omega⟩
  | uBad V hp => exact ⟨G, rfl, by omega⟩
  | lBad1 V hp => exact ⟨G, rfl, by omega⟩
  | lBad2 => exact ⟨G, rfl, by omega⟩
  | lBad3 => exact ⟨G, rfl, by omega⟩
  | wCut => exact ⟨G, rfl, by omega⟩
  | fCut => exact ⟨G, rfl, by omega⟩
  | rOk => exact ⟨G, rfl, by omega⟩
  | @wOk k v _ f' hk hf hv =>
    refine ⟨⟨G.db, fun q hq => ?_, fun q hq => ?_, burnt_fuse G.hf hf, G.ht, G.l0, G.l1⟩, rfl, by simp⟩
    · rcases List.mem_append.mp hq with z | z
      · exact G.dw q z
      · simp at z; subst z; exact hv
    · rcases List.mem_append.mp hq with z | z
      · exact G.hq q z
      · simp at z; subst z; exact hk
  | @sOk k v _ hk hv =>
    refine ⟨⟨fun x hx => ?_, G.dw, fun q hq => by simpa using G.hq q hq, G.hf, G.ht, by simpa using G.l0, by simpa using G.l1⟩, by simp, by simp⟩
    rcases List.mem_or_eq_of_mem_set hx with z | z
    · exact G.db x z
    · rw [z]; exact hv
  | fOk hf =>
    refine ⟨⟨fun x hx => ?_, by simp, by simp, burnt_fuse G.hf hf, G.ht, by simp only [appl_len]; exact G.l0, by simp only [appl_len]; exact G.l1⟩, by simp only [appl_len], by simp⟩
    rw [← done_all] at hx
    exact done_mem G.dw G.db x hx
  | uOk hx => exact ⟨⟨G.db, G.dw, G.hq, hx, hx, G.l0, G.l1⟩, rfl, by simp⟩
  | lOk V r hl hk hi =>
    refine ⟨⟨fun x hx => done_mem G.dw G.db x hx, by simp, by simp, .inl rfl, .inl rfl, by simp only [done_len]; exact G.l0, by simp only [done_len]; exact G.l1⟩, by simp only [done_len], by simp⟩
  | vOk =>
    refine ⟨⟨fun x hx => ?_, by simp, by simp, .inl rfl, .inl rfl, by simpa using G.l0, by simpa using G.l1⟩, by simp, by simp⟩
    rw [(List.mem_replicate.mp hx).2]
    exact dk_non.up (by omega)
def nw (n : Nat) : Sd := ⟨List.replicate n .non, [], .non, .non⟩
theorem good_nw {n : Nat} (h0 : 0 < n) (h1 : n < 1000) : Good (nw n) :=
  ⟨fun x hx => by rw [(List.mem_replicate.mp hx).2]; exact dk_non.up (by omega), by simp [nw], by simp [nw], .inl rfl, .inl rfl, by simpa [nw] using h0, by simpa [nw] using h1⟩
theorem init_ok {h : Hd} {m n : Nat} (e : lk h m = some (.ins "Disk" [])) (h0 : 0 < n) (h1 : n ≤ 1000) : M_Disk_init [.ref m, .int n] h = .ok .non (h.set m (dskO n (List.replicate n .non) [] .non .non)) := by
  have c := count_ex (h := h) (x := .int n) val_int
  have hm := lk_lt e
  have g1 : (0 : Int) ≤ n := by omega
  have g2 : ¬ (n = 0) := by omega
  have mu : ∀ h', mulB (.tup [.non]) (.int n) h' = .ok (.tup (List.replicate n .non)) h' := fun h' => by
    have : (List.replicate (n : Int).toNat [D.non]).flatten = List.replicate n .non := by simp
    show (guard' ([D.non] ≠ [] ∧ (1 : Int) ≤ n ∧ (n : Int) ≤ 1000 ∧ [D.non].length ≤ 1000) (.ok (.tup (List.replicate (n : Int).toNat [D.non]).flatten) h') : Res D) = _
    rw [this]
    exact guard_true _ _ ⟨by simp, by omega, by omega, by simp⟩
  unfold dskO
  simp (disch := omega) [M_Disk_init, defM_ev, s_Disk_init, startD, guard_true, c, g1, g2, e, mu, putD, hm, LIM_eq]
theorem new_ok {h : Hd} {n : Nat} (h0 : 0 < n) (h1 : n ≤ 1000) : M_law_disk_new [.int n] h = .ok (.ref (h.length + 3)) (h ++ [.lst [.non], .lst (List.replicate n .non), .lst [], .dict [(.str "blocks", .ref (h.length + 1)), (.str "waiting", .ref (h.length + 2)), (.str "fuse", .non)]]) := by
  have mu : mulB (.ref h.length) (.int n) (h ++ [O.lst [.non]]) = .ok (.ref (h.length + 1)) (h ++ [O.lst [.non], O.lst (List.replicate n .non)]) := by
    have e1 : (h ++ [O.lst [D.non]])[h.length]? = some (O.lst [.non]) := by simp
    show repL (.ref h.length) (.int n) (h ++ [O.lst [.non]]) = _
    unfold repL
    simp only [asRef, asInt, onLst, e1]
    rw [guard_true _ _ (by rw [LIM_eq]; simp; omega)]
    simp
  simp (disch := omega) [M_law_disk_new, defM_ev, s_law_disk_new, startD, guard_true, mu, LIM_eq, dmerge, dput, dhas, keyD]
end Kq
end
set_option maxHeartbeats 8000000
noncomputable section
namespace Kq
open PySem PySem.Spec L2 Kf
def lapA : SS := (sAsg (sFn 2 M_law_pick [] (sCons (sVar 1) (sCons (sNew (sLst (sCons (sC (.int 1)) (sCons (sC (.int 2)) (sCons (s2 addA (sC (.int 1)) (sFn 2 M_law_draw [] (sCons (sVar 1) (sCons (sC (.int 12)) sNil)))) sNil))))) sNil))) (gN 5))
def lapB : SS := (sSeq (sAsg (sFn 1 M_law_disk_new [] (sCons (sVar 5) sNil)) (gN 6))
    (sSeq (sAsg (sC .non) (gSub' (sVar 6) (sC (.str "told")) setF))
    (sSeq (sDrop (sAppend (sVar 2) (sVar 6)))
    (sDrop (sAppend (sVar 3) (sNewI "Disk" 2 M_Disk_init [] (sCons (sVar 5) sNil)))))))
section
variable {h : Hd} {p c n A B : Nat} {os ds : List D} {a0 a4 a5 a6 : Option D} {r : En}
theorem lapA_ex (P : IsPen h p c n) (hn : n < 900000) (a2 a3 : Option D) : ∃ (sz : Nat) (h' : Hd), lapA (a0 :: some (.ref p) :: a2 :: a3 :: a4 :: a5 :: r) h = .ok (.nx (a0 :: some (.ref p) :: a2 :: a3 :: a4 :: some (.int sz) :: r)) h' ∧ 0 < sz ∧ sz < 20 ∧ IsPen h' p c (n + 2) ∧ Fr [p] h h' := by
  obtain ⟨x, h1, e1, x0, x1, P1, F1⟩ := drawF P (by omega) (many := 12) (by omega) (by omega)
  obtain ⟨d, h2, e2, hd, P2, F2⟩ := pickF (h := h1 ++ [.lst [.int 1, .int 2, .int (1 + x)]]) (m := h1.length) ((Fr.app (T := [])).pen P1 (by simp) (by simp)) (by omega) (ds := [.int 1, .int 2, .int (1 + x)]) (by simp) (by have := P1.lt; omega) (by simp) (by simp)
  obtain ⟨sz, rfl, s0, s1⟩ : ∃ sz : Nat, d = .int sz ∧ 0 < sz ∧ sz < 20 := by
    simp at hd
    rcases hd with e | e | e <;> subst e
    · exact ⟨1, rfl, by omega, by omega⟩
    · exact ⟨2, rfl, by omega, by omega⟩
    · exact ⟨(1 + x).toNat, by congr; omega, by omega, by omega⟩
  refine ⟨sz, h2, ?_, s0, s1, P2, F1.trans (Fr.trans .app F2)⟩
  simp (disch := omega) [lapA, guard_true, e1, LIM_eq, e2]
theorem lapB_ex {sz : Nat} (h0 : 0 < sz) (h1 : sz < 20) (eA : lk h A = some (.lst os)) (eB : lk h B = some (.lst ds)) (hAB : A ≠ B) (l1 : os.length < 100) (l2 : ds.length < 100) (a1 : Option D) :
    ∃ (o b w d : Nat) (h' : Hd), lapB (a0 :: a1 :: some (.ref A) :: some (.ref B) :: a4 :: some (.int sz) :: a6 :: r) h = .ok (.nx (a0 :: a1 :: some (.ref A) :: some (.ref B) :: a4 :: some (.int sz) :: some (.ref o) :: r)) h' ∧
      Own h' o b w (nw sz).bs (nw sz).ws (nw sz).f (nw sz).t ∧ lk h' d = some (dskO sz (nw sz).bs (nw sz).ws (nw sz).f (nw sz).t) ∧ lk h' A = some (.lst (os ++ [.ref o])) ∧ lk h' B = some (.lst (ds ++ [.ref d])) ∧ Fr [A, B] h h' ∧ h.length ≤ o ∧ h.length ≤ b ∧ h.length ≤ w ∧ h.length ≤ d ∧ d < h'.length := by
  have hA := lk_lt eA
  have hB := lk_lt eB
  have e1 := new_ok (h := h) (n := sz) h0 (by omega)
  generalize hl : ([.lst [.non], .lst (List.replicate sz .non), .lst [], .dict [(.str "blocks", .ref (h.length + 1)), (.str "waiting", .ref (h.length + 2)), (.str "fuse", .non)]] : List O) = l at e1
  have ll : l.length = 4 := by rw [← hl]; rfl
  have g3 : lk (h ++ l) (h.length + 3) = some (.dict [(.str "blocks", .ref (h.length + 1)), (.str "waiting", .ref (h.length + 2)), (.str "fuse", .non)]) := by rw [lk_append, if_neg (by omega), Nat.add_sub_cancel_left, ← hl]; rfl
  have g1 : lk (h ++ l) (h.length + 1) = some (.lst (List.replicate sz .non)) := by rw [lk_append, if_neg (by omega), Nat.add_sub_cancel_left, ← hl]; rfl
  have g2 : lk (h ++ l) (h.length + 2) = some (.lst []) := by rw [lk_append, if_neg (by omega), Nat.add_sub_cancel_left, ← hl]; rfl
  have gA : lk (h ++ l) A = some (.lst os) := by rw [lk_append, if_pos hA, eA]
  have gB : lk (h ++ l) B = some (.lst ds) := by rw [lk_append, if_pos hB, eB]
  have F1 : Fr [A, B] h (h ++ l) := .apps
  have hH : (h ++ l).length = h.length + 4 := by rw [List.length_append, ll]
  generalize h ++ l = H at e1 g1 g2 g3 gA gB F1 hH
  -- told
  have W2 : Own (H.set (h.length + 3) (ownO (h.length + 1) (h.length + 2) .non .non)) (h.length + 3) (h.length + 1) (h.length + 2) (List.replicate sz .non) [] .non .non :=
    ⟨by rw [lk_set, if_pos rfl, if_pos (by omega)], by rw [lk_set, if_neg (by omega), g1], by rw [lk_set, if_neg (by omega), g2]; rfl, by omega, by omega, by omega⟩
  have kA : lk (H.set (h.length + 3) (ownO (h.length + 1) (h.length + 2) .non .non)) A = some (.lst os) := by rw [lk_set, if_neg (by omega), gA]
  have kB : lk (H.set (h.length + 3) (ownO (h.length + 1) (h.length + 2) .non .non)) B = some (.lst ds) := by rw [lk_set, if_neg (by omega), gB]
  have F2 : Fr [A, B] h (H.set (h.length + 3) (ownO (h.length + 1) (h.length + 2) .non .non)) := ⟨by simp; omega, fun m hm hT => by rw [lk_set, if_neg (by omega), F1.at_ m hm hT]⟩
  have hH2 : (H.set (h.length + 3) (ownO (h.length + 1) (h.length + 2) .non .non)).length = h.length + 4 := by simp [hH]
  generalize hH1 : H.set (h.length + 3) (ownO (h.length + 1) (h.length + 2) .non .non) = H1 at W2 kA kB F2 hH2
  have tld : H.set (h.length + 3) (.dict [(.str "blocks", .ref (h.length + 1)), (.str "waiting", .ref (h.length + 2)), (.str "fuse", .non), (.str "told", .non)]) = H1 := hH1
  -- the lists
  have W3 : Own (H1.set A (.lst (os ++ [.ref (h.length + 3)]))) (h.length + 3) (h.length + 1) (h.length + 2) (List.replicate sz .non) [] .non .non :=
    ⟨by rw [lk_set, if_neg (by omega), W2.eo], by rw [lk_set, if_neg (by omega), W2.eb], by rw [lk_set, if_neg (by omega), W2.ew], by omega, by omega, by omega⟩
  have mA : lk (H1.set A (.lst (os ++ [.ref (h.length + 3)]))) A = some (.lst (os ++ [.ref (h.length + 3)])) := by rw [lk_set, if_pos rfl, if_pos (by omega)]
  have mB : lk (H1.set A (.lst (os ++ [.ref (h.length + 3)]))) B = some (.lst ds) := by rw [lk_set, if_neg hAB, kB]
  have F3 : Fr [A, B] h (H1.set A (.lst (os ++ [.ref (h.length + 3)]))) := F2.trans (.set (by simp))
  have hH3 : (H1.set A (.lst (os ++ [.ref (h.length + 3)]))).length = h.length + 4 := by simp [hH2]
  generalize hH2' : H1.set A (.lst (os ++ [.ref (h.length + 3)])) = H2 at W3 mA mB F3 hH3
  have ini := init_ok (h := H2 ++ [.ins "Disk" []]) (m := H2.length) (n := sz) (by simp) h0 (by omega)
  have se : (H2 ++ [O.ins "Disk" []]).set H2.length (dskO sz (List.replicate sz .non) [] .non .non) = H2 ++ [dskO sz (List.replicate sz .non) [] .non .non] := by
    rw [List.set_append_right _ _ (Nat.le_refl _), Nat.sub_self]; rfl
  rw [se] at ini
  refine ⟨h.length + 3, h.length + 1, h.length + 2, h.length + 4, (H2 ++ [dskO sz (List.replicate sz .non) [] .non .non]).set B (.lst (ds ++ [.ref (h.length + 4)])), ?_, ⟨?_, ?_, ?_, by omega, by omega, by omega⟩, ?_, ?_, ?_, F3.trans (Fr.trans .app (.set (by simp))), by omega, by omega, by omega, by omega, by simp [hH3]⟩
  · have B2 : lk (H2 ++ [dskO sz (List.replicate sz .non) [] .non .non]) B = some (.lst ds) := by rw [lk_append, if_pos (lk_lt mB), mB]
    rw [hH3] at ini
    have hB4 : B < h.length + 4 := by omega
    simp (disch := omega) [lapB, guard_true, e1, g3, LIM_eq, dput, dhas, tld, kA, hH2', mB, ini, hH3, B2, hB4]
  · rw [lk_set, if_neg (by omega), lk_append, if_pos (by omega), W3.eo]; rfl
  · rw [lk_set, if_neg (by omega), lk_append, if_pos (by omega), W3.eb]; rfl
  · rw [lk_set, if_neg (by omega), lk_append, if_pos (by omega), W3.ew]; rfl
  · rw [lk_set, if_neg (by omega), lk_append, if_neg (by omega), hH3, Nat.sub_self]; rfl
  · rw [lk_set, if_neg hAB.symm, lk_append, if_pos (by omega), mA]
  · rw [lk_set, if_pos rfl, if_pos (by simp; omega)]
end
end Kq
end
set_option maxHeartbeats 8000000
noncomputable section
namespace Kq
open PySem PySem.Spec L2 Kf
structure Side (h : Hd) (o b w d : Nat) (s : Sd) (i : Nat) : Prop where
  W : Own h o b w s.bs s.ws s.f s.t
  e : lk h d = some (dskO s.bs.length s.bs s.ws s.f s.t)
  G : Good s
  l : s.ws.length ≤ i
section
variable {h h' : Hd} {o b w d p c n i m o2 b2 w2 d2 A B : Nat} {s s2 : Sd} {x : D} {T : List Nat}
theorem Side.fr (S : Side h o b w d s i) (F : Fr T h h') (h1 : o ∉ T) (h2 : b ∉ T) (h3 : w ∉ T) (h4 : d ∉ T) : Side h' o b w d s i :=
  ⟨⟨F.get S.W.eo h1, F.get S.W.eb h2, F.get S.W.ew h3, S.W.ob, S.W.ow, S.W.bw⟩, F.get S.e h4, S.G, S.l⟩
theorem Side.up (S : Side h o b w d s i) : Side h o b w d s (i + 1) := ⟨S.W, S.e, S.G, Nat.le_succ_of_le S.l⟩
theorem IsPen.notL (P : IsPen h p c n) {ds : List D} (e : lk h m = some (.lst ds)) : m ≠ p := fun z => by
  subst z
  obtain ⟨_, _, _, _, _, e2, _⟩ := P.ex
  rw [e] at e2; cases e2
theorem IsPen.notI (P : IsPen h p c n) {k : String} {fs : List (String × D)} (e : lk h m = some (.ins k fs)) : m ≠ p := fun z => by
  subst z
  obtain ⟨_, _, _, _, _, e2, _⟩ := P.ex
  rw [e] at e2; cases e2
theorem IsPen.notO (P : IsPen h p c n) {f t : D} (e : lk h m = some (ownO b w f t)) : m ≠ p := fun z => by
  subst z
  obtain ⟨_, _, _, _, _, e2, _⟩ := P.ex
  rw [e] at e2
  unfold ownO penO at e2
  simp at e2
theorem IsPen.cells (P : IsPen h p c n) : ∃ ds, lk h c = some (.lst ds) := by
  obtain ⟨cells, _, _, _, _, _, e2, _⟩ := P.ex
  exact ⟨_, e2⟩
theorem ne_of_lk {a b : Nat} {x y : O} (e1 : lk h a = some x) (e2 : lk h b = some y) (hn : x ≠ y) : a ≠ b := fun z => by
  subst z
  rw [e1] at e2
  exact hn (Option.some.inj e2)
structure Away (c A B b b2 w2 : Nat) : Prop where
  xc : b ≠ c
  xa : b ≠ A
  xb : b ≠ B
  bb : b ≠ b2
  bw : b ≠ w2
theorem turn_side {as bs : List D} (S : Side h o b w d s i) (S2 : Side h o2 b2 w2 d2 s2 i) (P : IsPen h p c n) (hn : n < 600000) (eA : lk h A = some (.lst as)) (eB : lk h B = some (.lst bs)) (X : Away c A B b b2 w2) (X2 : Away c A B b2 b w) (oo : o ≠ o2) (dd : d ≠ d2) (k : Int) (hi : i < 9000) :
    ∃ (q : D) (h1 : Hd) (a : D) (h2 : Hd) (a' : D) (h3 : Hd) (b' w' : Nat) (s' : Sd) (n' : Nat), M_law_disk_deed [.ref p, .ref o, .int k] h = .ok q h1 ∧ M_law_disk_due [.ref o, q] h1 = .ok a h2 ∧ M_law_disk_told [.ref d, q] h2 = .ok a' h3 ∧ neF a' a h3 = .ok (.bl false) h3 ∧
      Side h3 o b' w' d s' (i + 1) ∧ Side h3 o2 b2 w2 d2 s2 (i + 1) ∧ IsPen h3 p c n' ∧ n' ≤ n + i + 20 ∧ lk h1 A = some (.lst as) ∧ lk h2 B = some (.lst bs) ∧ lk h3 A = some (.lst as) ∧ lk h3 B = some (.lst bs) ∧ Away c A B b' b2 w2 ∧ Away c A B b2 b' w' := by
  have nP := fun {m ds} (e : lk h m = some (.lst ds)) => P.notL e
  obtain ⟨q, h1, n1, e1, F1, P1, hn1, D1⟩ := deed_ex (k := k) P (by omega) S.W.eo S.W.eb S.W.ew (P.notO S.W.eo) (nP S.W.eb) (nP S.W.ew) S.G.l0 (by have := S.G.l1; omega) (by have := S.l; simp; omega)
  rw [List.length_map] at hn1
  have ho := lk_lt S.W.eo
  have hb := lk_lt S.W.eb
  have s1 := S.fr F1 (by simpa using P.notO S.W.eo) (by simpa using nP S.W.eb) (by simpa using nP S.W.ew) (by simpa using P.notI S.e)
  have s21 := S2.fr F1 (by simpa using P.notO S2.W.eo) (by simpa using nP S2.W.eb) (by simpa using nP S2.W.ew) (by simpa using P.notI S2.e)
  have eA1 := F1.get eA (by simpa using nP eA)
  have eB1 := F1.get eB (by simpa using nP eB)
  obtain ⟨a, h2, b', w', s', e2, W2, F2, O2, hb', hw'⟩ := (due_ex s1.W s1.G (by have := s1.l; omega) ho hb D1).ex
  obtain ⟨cs, ec⟩ := P1.cells
  have nO := s1.W.eo
  have nl : ∀ {m ds}, lk h1 m = some (.lst ds) → m ≠ o := fun e => ne_of_lk e nO (by unfold ownO; simp)
  have ni : ∀ {m k fs}, lk h1 m = some (.ins k fs) → m ≠ o ∧ m ≠ b := fun e => ⟨ne_of_lk e nO (by unfold ownO; simp), ne_of_lk e s1.W.eb (by simp)⟩
  have P2 : IsPen h2 p c n1 := F2.pen P1 (by simp; exact ⟨fun z => P1.notO nO z.symm, fun z => P1.notL s1.W.eb z.symm⟩) (by simp; exact ⟨nl ec, X.xc.symm⟩)
  have eA2 := F2.get eA1 (by simp; exact ⟨nl eA1, X.xa.symm⟩)
  have eB2 := F2.get eB1 (by simp; exact ⟨nl eB1, X.xb.symm⟩)
  have s22 := s21.fr F2 (by simp; exact ⟨oo.symm, ne_of_lk s21.W.eo s1.W.eb (by unfold ownO; simp)⟩) (by simp; exact ⟨nl s21.W.eb, X.bb.symm⟩) (by simp; exact ⟨nl s21.W.ew, X.bw.symm⟩) (by simp; exact ni s21.e)
  have ed2 := F2.get s1.e (by simp; exact ni s1.e)
  obtain ⟨a', h3, e3, ed3, F3, L3⟩ := (told_ex O2 s1.G (by have := s1.l; omega) ed2).ex
  obtain ⟨G3, l3, l4⟩ := oc_good O2 s1.G
  have nd : ∀ {m x}, lk h2 m = some x → (∀ fs, x ≠ .ins "Disk" fs) → m ≠ d := fun e hx => ne_of_lk e ed2 (hx _)
  have P3 : IsPen h3 p c n1 := by
    obtain ⟨cs2, ec2⟩ := P2.cells
    refine F3.pen P2 (by simp; exact fun z => P2.notI ed2 z.symm) (by simp; exact nd ec2 (by simp))
  have s33 := s22.fr F3 (by simp; exact nd s22.W.eo (by unfold ownO; simp)) (by simp; exact nd s22.W.eb (by simp)) (by simp; exact nd s22.W.ew (by simp)) (by simp; exact dd.symm)
  obtain ⟨py, y1, y2⟩ := L3
  have lA := lk_lt eA1
  have lB := lk_lt eB1
  have lc := lk_lt ec
  have lb2 := lk_lt s21.W.eb
  have lw2 := lk_lt s21.W.ew
  refine ⟨q, h1, a, h2, a', h3, b', w', s', n1, e1, e2, e3, (eqF_same y1 y2).2, ⟨⟨?_, ?_, ?_, W2.ob, W2.ow, W2.bw⟩, ?_, G3, by have := s1.l; omega⟩, s33.up, P3, by have := S.l; omega, eA1, eB2, F3.get eA2 (by simp; exact nd eA2 (by simp)), F3.get eB2 (by simp; exact nd eB2 (by simp)), ?_, ?_⟩
  · exact F3.get W2.eo (by simp; exact nd W2.eo (by unfold ownO; simp))
  · exact F3.get W2.eb (by simp; exact nd W2.eb (by simp))
  · exact F3.get W2.ew (by simp; exact nd W2.ew (by simp))
  · rw [l3]; exact ed3
  · rcases hb' with z | z
    · subst z; exact X
    · exact ⟨by omega, by omega, by omega, by omega, by omega⟩
  · have q1 : b2 ≠ b' := by rcases hb' with z | z; · subst z; exact X2.bb
                            · omega
    have q2 : b2 ≠ w' := by rcases hw' with z | z; · subst z; exact X2.bw
                            · omega
    exact ⟨X2.xc, X2.xa, X2.xb, q1, q2⟩
end
end Kq
end
set_option maxHeartbeats 8000000
noncomputable section
namespace Kq
open PySem PySem.Spec L2 Kf
def lawP : SS := (sAsg (sFn 1 M_law_pen [] (sCons (sVar 0) sNil)) (gN 1))
def lawR : SS := (sIf (sNot (sTest (sFn 1 M_law_size_refused [] (sCons (sFn 2 M_law_pick [] (sCons (sVar 1) (sCons (sNew (sLst (sCons (sC (.int 0)) (sCons (sNeg (sC (.int 1))) (sCons (sC .non) (sCons (sC (.bl true)) (sCons (sC (.str "3")) (sCons (sTup (sCons (sC (.int 3)) sNil)) (sCons (sNeg (s2 powF (sC (.int 10)) (sC (.int 30)))) sNil))))))))) sNil))) sNil))))
    (sRet (sC (.bl false)))
    sNext)
def lawD : SS := (sAsg (sFn 2 M_law_draw [] (sCons (sVar 1) (sCons (sC (.int 2)) sNil))) (gN 8))
def lawE : SS := (sSeq (sAsg (sFn 3 M_law_disk_deed [] (sCons (sVar 1) (sCons (s2 getF (sVar 2) (sVar 8)) (sCons (sVar 7) sNil)))) (gN 9))
    (sSeq (sAsg (sFn 2 M_law_disk_due [] (sCons (s2 getF (sVar 2) (sVar 8)) (sCons (sVar 9) sNil))) (gN 10))
    (sSeq (sIf (sTest (s2 neF (sFn 2 M_law_disk_told [] (sCons (s2 getF (sVar 3) (sVar 8)) (sCons (sVar 9) sNil))) (sVar 10)))
    (sRet (sC (.bl false)))
    sNext)
    (sIf (sOr (sNot (sTest (sFn 2 M_law_disk_is [] (sCons (s2 getF (sVar 2) (sC (.int 0))) (sCons (s2 getF (sVar 3) (sC (.int 0))) sNil))))) (sNot (sTest (sFn 2 M_law_disk_is [] (sCons (s2 getF (sVar 2) (sC (.int 1))) (sCons (s2 getF (sVar 3) (sC (.int 1))) sNil))))))
    (sRet (sC (.bl false)))
    sNext))))
def lawZ : SI := sRange1 (s2 addA (sC (.int 24)) (sCall lenA (sCons (sVar 0) sNil)))
theorem law_eq : M_law = defM 11 (sSeq lawP (sSeq lawR (sSeq (sPar [2, 3] (sCons (sNew (sLst sNil)) (sCons (sNew (sLst sNil)) sNil))) (sSeq (sFor (sRange1 (sC (.int 2))) (gN 4) (sSeq lapA lapB)) (sSeq (sFor lawZ (gN 7) (sSeq lawD lawE)) (sRet (sC (.bl true)))))))) := rfl
section
variable {h : Hd} {p c n A B o0 o1 d0 d1 i : Nat}
structure MI (p c A B o0 o1 d0 d1 : Nat) (i : Nat) (h : Hd) : Prop where
  ex : ∃ (n b0 w0 b1 w1 : Nat) (s0 s1 : Sd), IsPen h p c n ∧ n ≤ 100 + i * 200 ∧ Side h o0 b0 w0 d0 s0 i ∧ Side h o1 b1 w1 d1 s1 i ∧ Away c A B b0 b1 w1 ∧ Away c A B b1 b0 w0
  oo : o0 ≠ o1
  dd : d0 ≠ d1
  eA : lk h A = some (.lst [.ref o0, .ref o1])
  eB : lk h B = some (.lst [.ref d0, .ref d1])
theorem side_is {o b w d : Nat} {s : Sd} (S : Side h o b w d s i) : ∃ h', M_law_disk_is [.ref o, .ref d] h = .ok (.bl true) h' ∧ Fr [] h h' :=
  diskis_ex S.W S.e (fun x hx => (S.G.db x hx).up (by omega)) fun x hx => by
    obtain ⟨q, hq, rfl⟩ := List.mem_map.mp hx
    exact (dk_tup (k := 4) fun y hy => by
      simp at hy
      rcases hy with e | e <;> subst e
      · exact dk_int.up (by omega)
      · exact S.G.dw q hq).up (by omega)
theorem turn_ex (M : MI p c A B o0 o1 d0 d1 i h) (hi : i < 150) (a0 a4 a5 a6 a8 a9 a10 : Option D) : ∃ (h' : Hd) (a8' a9' a10' : Option D),
    (sSeq lawD lawE) [a0, some (.ref p), some (.ref A), some (.ref B), a4, a5, a6, some (.int i), a8, a9, a10] h = .ok (.nx [a0, some (.ref p), some (.ref A), some (.ref B), a4, a5, a6, some (.int i), a8', a9', a10']) h' ∧ MI p c A B o0 o1 d0 d1 (i + 1) h' := by
  obtain ⟨n, b0, w0, b1, w1, s0, s1, P, hn, S0, S1, X0, X1⟩ := M.ex
  obtain ⟨r, h1, e1, r0, r1, P1, F1⟩ := drawF P (by omega) (many := 2) (by omega) (by omega)
  have S01 := S0.fr F1 (by simpa using P.notO S0.W.eo) (by simpa using P.notL S0.W.eb) (by simpa using P.notL S0.W.ew) (by simpa using P.notI S0.e)
  have S11 := S1.fr F1 (by simpa using P.notO S1.W.eo) (by simpa using P.notL S1.W.eb) (by simpa using P.notL S1.W.ew) (by simpa using P.notI S1.e)
  have eA1 := F1.get M.eA (by simpa using P.notL M.eA)
  have eB1 := F1.get M.eB (by simpa using P.notL M.eB)
  have hr : r = 0 ∨ r = 1 := by omega
  rcases hr with rfl | rfl
  · obtain ⟨q, h2, a, h3, a', h4, b', w', s', n', e2, e3, e4, e5, T0, T1, P4, hn4, A2, B3, A4, B4, Y0, Y1⟩ := turn_side S01 S11 P1 (by omega) eA1 eB1 X0 X1 M.oo M.dd i (by omega)
    obtain ⟨h5, e6, F5⟩ := side_is T0
    have T05 := T0.fr F5 (by simp) (by simp) (by simp) (by simp)
    have T15 := T1.fr F5 (by simp) (by simp) (by simp) (by simp)
    obtain ⟨h6, e7, F6⟩ := side_is T15
    have A5 := F5.get A4 (by simp)
    have B5 := F5.get B4 (by simp)
    refine ⟨h6, some (.int 0), some q, some a, ?_, ⟨⟨n', b', w', b1, w1, s', s1, F6.pen (F5.pen P4 (by simp) (by simp)) (by simp) (by simp), by omega, T05.fr F6 (by simp) (by simp) (by simp) (by simp), T15.fr F6 (by simp) (by simp) (by simp) (by simp), Y0, Y1⟩, M.oo, M.dd, F6.get A5 (by simp), F6.get B5 (by simp)⟩⟩
    simp (disch := omega) [lawD, lawE, guard_true, e1, eA1, e2, A2, e3, B3, e4, e5, A4, B4, e6, A5, B5, e7]
  · obtain ⟨q, h2, a, h3, a', h4, b', w', s', n', e2, e3, e4, e5, T1, T0, P4, hn4, A2, B3, A4, B4, Y1, Y0⟩ := turn_side S11 S01 P1 (by omega) eA1 eB1 X1 X0 M.oo.symm M.dd.symm i (by omega)
    obtain ⟨h5, e6, F5⟩ := side_is T0
    have T05 := T0.fr F5 (by simp) (by simp) (by simp) (by simp)
    have T15 := T1.fr F5 (by simp) (by simp) (by simp) (by simp)
    obtain ⟨h6, e7, F6⟩ := side_is T15
    have A5 := F5.get A4 (by simp)
    have B5 := F5.get B4 (by simp)
    refine ⟨h6, some (.int 1), some q, some a, ?_, ⟨⟨n', b0, w0, b', w', s0, s', F6.pen (F5.pen P4 (by simp) (by simp)) (by simp) (by simp), by omega, T05.fr F6 (by simp) (by simp) (by simp) (by simp), T15.fr F6 (by simp) (by simp) (by simp) (by simp), Y0, Y1⟩, M.oo, M.dd, F6.get A5 (by simp), F6.get B5 (by simp)⟩⟩
    simp (disch := omega) [lawD, lawE, guard_true, e1, eA1, e2, A2, e3, B3, e4, e5, A4, B4, e6, A5, B5, e7]
theorem lawR_ex (P : IsPen h p c n) (hn : n < 1000) (a0 a2 a3 : Option D) (r : En) : ∃ h', lawR (a0 :: some (.ref p) :: r) h = .ok (.nx (a0 :: some (.ref p) :: r)) h' ∧ IsPen h' p c (n + 1) ∧ Fr [p] h h' := by
  obtain ⟨d, h1, e1, hd, P1, F1⟩ := pickF (h := h ++ [.lst [.int 0, .int (-1), .non, .bl true, .str "3", .tup [.int 3], .int (-1000000000000000000000000000000)]]) (m := h.length) ((Fr.app (T := [])).pen P (by simp) (by simp)) (by omega) (ds := [.int 0, .int (-1), .non, .bl true, .str "3", .tup [.int 3], .int (-1000000000000000000000000000000)]) (by simp) (by have := P.lt; omega) (by simp) (by simp)
  have hd2 : Dk 10 d ∧ isPos d = false := by
    simp at hd
    rcases hd with e | e | e | e | e | e | e <;> subst e
    · exact ⟨dk_int.up (by omega), rfl⟩
    · exact ⟨dk_int.up (by omega), rfl⟩
    · exact ⟨dk_non.up (by omega), rfl⟩
    · exact ⟨dk_bl.up (by omega), rfl⟩
    · exact ⟨dk_str.up (by omega), rfl⟩
    · exact ⟨(dk_one _ dk_int).up (by omega), rfl⟩
    · exact ⟨dk_int.up (by omega), rfl⟩
  obtain ⟨h2, e2, F2⟩ := refused_ex (h := h1) hd2.1 hd2.2
  refine ⟨h2, ?_, F2.pen P1 (by simp) (by simp), (Fr.trans .app F1).trans (F2.sub (by simp))⟩
  simp (disch := omega) [lawR, guard_true, e1, e2, LIM_eq]
theorem law_sp (ns : List Int) (hl : ns.length ≤ 63) : ∃ h', M_law [.fls (ns.map D.int)] [] = .ok (.bl true) h' := by
  obtain ⟨h1, e1, P1, l1⟩ := pen_ex ns
  obtain ⟨h2, e2, P2, F2⟩ := lawR_ex P1 (by omega) (some (.fls (ns.map D.int))) none none [none, none, none, none, none, none, none, none, none]
  have L2' : h1.length ≤ h2.length := F2.len
  have hp2 := P2.lt
  have hc2 := P2.ltc
  -- the two lists
  have P3 : IsPen (h2 ++ [O.lst [], O.lst []]) 1 0 1 := (Fr.apps (T := [])).pen P2 (by simp) (by simp)
  have A3 : lk (h2 ++ [O.lst [], O.lst []]) h2.length = some (.lst []) := by rw [lk_append, if_neg (by omega), Nat.sub_self]; rfl
  have B3 : lk (h2 ++ [O.lst [], O.lst []]) (h2.length + 1) = some (.lst []) := by rw [lk_append, if_neg (by omega), Nat.add_sub_cancel_left]; rfl
  have H3 : (h2 ++ [O.lst [], O.lst []]).length = h2.length + 2 := by simp
  generalize hh3 : h2 ++ [O.lst [], O.lst []] = h3 at P3 A3 B3 H3
  have n1 : h2.length ≠ 1 := by omega
  have n2 : h2.length + 1 ≠ 1 := by omega
  generalize hA : h2.length = A at A3 B3 H3 n1 n2 L2' hp2 hc2
  -- first lap
  obtain ⟨z0, h4, e4, z01, z02, P4, F4⟩ := lapA_ex (a0 := some (.fls (ns.map D.int))) (a4 := some (.int 0)) (a5 := none) (r := [none, none, none, none, none]) P3 (by omega) (some (.ref A)) (some (.ref (A + 1)))
  have A4 := F4.get A3 (by simpa using n1)
  have B4 := F4.get B3 (by simp; omega)
  obtain ⟨o0, b0, w0, d0, h5, e5, W0, E0, A5, B5, F5, x1, x2, x3, x4, x5⟩ := lapB_ex (a0 := some (.fls (ns.map D.int))) (a4 := some (.int 0)) (a6 := none) (r := [none, none, none, none]) z01 z02 A4 B4 (by omega) (by simp) (by simp) (some (.ref 1))
  have P5 := F5.pen P4 (by simp; omega) (by simp; omega)
  -- second lap
  obtain ⟨z1, h6, e6, z11, z12, P6, F6⟩ := lapA_ex (a0 := some (.fls (ns.map D.int))) (a4 := some (.int 1)) (a5 := some (.int z0)) (r := [some (.ref o0), none, none, none, none]) P5 (by omega) (some (.ref A)) (some (.ref (A + 1)))
  have l6 := F6.len
  have l4 := F4.len
  have A6 := F6.get A5 (by simpa using n1)
  have B6 := F6.get B5 (by simp; omega)
  have S0 : Side h5 o0 b0 w0 d0 (nw z0) 0 := ⟨W0, by simpa [nw] using E0, good_nw z01 (by omega), by simp [nw]⟩
  have S06 := S0.fr F6 (by simpa using P5.notO S0.W.eo) (by simpa using P5.notL S0.W.eb) (by simpa using P5.notL S0.W.ew) (by simpa using P5.notI S0.e)
  have q1 := lk_lt S06.W.eo
  have q2 := lk_lt S06.W.eb
  have q3 := lk_lt S06.W.ew
  have q4 := lk_lt S06.e
  obtain ⟨o1, b1, w1, d1, h7, e7, W1, E1, A7, B7, F7, y1, y2, y3, y4, y5⟩ := lapB_ex (a0 := some (.fls (ns.map D.int))) (a4 := some (.int 1)) (a6 := some (.ref o0)) (r := [none, none, none, none]) z11 z12 A6 B6 (by omega) (by simp) (by simp) (some (.ref 1))
  have P7 := F7.pen P6 (by simp; omega) (by simp; omega)
  have S17 : Side h7 o1 b1 w1 d1 (nw z1) 0 := ⟨W1, by simpa [nw] using E1, good_nw z11 (by omega), by simp [nw]⟩
  have S07 := S06.fr F7 (by simp; omega) (by simp; omega) (by simp; omega) (by simp; omega)
  have M7 : MI 1 0 A (A + 1) o0 o1 d0 d1 0 h7 := ⟨⟨5, b0, w0, b1, w1, nw z0, nw z1, P7, by omega, S07, S17, ⟨by omega, by omega, by omega, by omega, by omega⟩, ⟨by omega, by omega, by omega, by omega, by omega⟩⟩, by omega, by omega, by simpa using A7, by simpa using B7⟩
  -- the turns
  have hN : (24 + (ns.length : Int)).toNat = 24 + ns.length := by omega
  obtain ⟨env', h8, e8, a7, a8, a9, a10, e9, M8⟩ := loop_inv (it := .snap (rangeL 0 (24 + ns.length))) (g := gN 7) (b := sSeq lawD lawE) (fun i env h => ∃ a7 a8 a9 a10, env = [some (.fls (ns.map D.int)), some (.ref 1), some (.ref A), some (.ref (A + 1)), some (.int 1), some (.int z1), some (.ref o1), a7, a8, a9, a10] ∧ MI 1 0 A (A + 1) o0 o1 d0 d1 i h) (rangeL 0 (24 + ns.length))
    (fun i env h _ => rfl)
    (fun i env h d hd ⟨a7, a8, a9, a10, e, M⟩ => by
      subst e
      have hi := lt_of_get hd
      rw [rangeL_len] at hi
      have ed : d = .int i := by
        unfold rangeL at hd
        rw [List.getElem?_map, List.getElem?_range hi] at hd
        cases hd
        simp
      subst ed
      obtain ⟨h', a8', a9', a10', e', M'⟩ := turn_ex M (by omega) (some (.fls (ns.map D.int))) (some (.int 1)) (some (.int z1)) (some (.ref o1)) a8 a9 a10
      exact ⟨_, _, rfl, _, _, e', _, _, _, _, rfl, M'⟩)
    (turnsD (.snap (rangeL 0 (24 + ns.length))) h7) 0 _ h7 ⟨none, none, none, none, rfl, M7⟩ (by simp [turnsD]) (Nat.zero_le _)
  subst e9
  refine ⟨h8, ?_⟩
  have hz : lawZ [some (.fls (ns.map D.int)), some (.ref 1), some (.ref A), some (.ref (A + 1)), some (.int 1), some (.int z1), some (.ref o1), none, none, none, none] h7 = .ok (.snap (rangeL 0 (24 + ns.length))) h7 := by
    simp (disch := omega) [lawZ, hN]
  have hP : lawP [some (.fls (ns.map D.int)), none, none, none, none, none, none, none, none, none, none] [] = .ok (.nx [some (.fls (ns.map D.int)), some (.ref 1), none, none, none, none, none, none, none, none, none]) h1 := by
    simp (disch := omega) [lawP, guard_true, e1]
  have rg2 : rangeL 0 2 = [.int 0, .int 1] := rfl
  rw [law_eq]
  simp (disch := omega) [defM_ev, startD, hP, e2, LIM_eq, hh3, hA, rg2, loopItems_cons, e4, e5, e6, e7, hz, e8]
end
end Kq
end
set_option maxHeartbeats 8000000
noncomputable section
namespace Kq
open PySem PySem.Spec L2 Kf
/-! ### the head, printed by head.py -/
abbrev st_BadNumber_init : Stmt := inClass (topS 2) 0
theorem sc_BadNumber_init : FnScope ["self", "what", "number"] ["self", "what", "number"] (defScope st_BadNumber_init) := ⟨rfl, rfl, rfl, by decide +kernel, rfl, by decide +kernel, by decide +kernel⟩
abbrev st_Fallen_init : Stmt := inClass (topS 3) 0
theorem sc_Fallen_init : FnScope ["self", "steps"] ["self", "steps"] (defScope st_Fallen_init) := ⟨rfl, rfl, rfl, by decide +kernel, rfl, by decide +kernel, by decide +kernel⟩
theorem exm_mk {K : PySem.W.Frag} {C : Addr} {t : Value} {r : Bool} (e1 : PySem.W.subIn K (.ref C) (.type "BaseException") = some true) (e2 : PySem.W.isClsIn K C = true) (e3 : PySem.W.typeIn K (.ref C) = some (.type "type")) (e4 : PySem.W.subIn K t (.ref C) = some r) : PySem.W.exmOne K t (.ref C) = some r := by
  have e2' : (PySem.W.clsIn K C).isSome = true := e2
  have h1 : (PySem.W.subIn K (.ref C) (.type "BaseException") == some true) = true := by rw [e1]; rfl
  have h2 : ((PySem.W.clsIn K C).isSome && PySem.W.typeIn K (.ref C) == some (.type "type")) = true := by rw [e2', e3]; decide
  unfold PySem.W.exmOne
  rw [if_pos h1]
  show (if ((PySem.W.clsIn K C).isSome && PySem.W.typeIn K (.ref C) == some (.type "type")) = true then PySem.W.subIn K t (.ref C) else none) = _
  rw [if_pos h2, e4]
def spL (K : PySem.W.Frag) (M : FA) : Sp := fun vs H Q E => ∀ cA : CA, spOf K cA 1 M vs H Q E
theorem all_mk {l : PySem.W.OpenLaw} {w : World} {K : PySem.W.Frag} {h : Heap} {mg : Str → Option Value} {fa : Addr} (X : K.In h) (NG : h.Ns mainGlobals mg) (hfa : mg "law" = some (.ref fa))
    {C_Disk C_BadNumber C_Fallen : Addr}
    {f_law_pen f_is_whole f_is_count f_Disk_init f_law_size_refused f_law_draw f_law_pick f_law_disk_new f_law_kp_lot f_law_disk_deed f_law_disk_fall f_law_disk_steps f_law_is_whole f_law_is_place f_law_is_lot f_law_disk_due f_is_between f_Disk_need_block f_Disk_bear f_Disk_write f_Disk_read f_Disk_do_writes f_Disk_flush f_Disk_set_fuse f_Disk_spoil f_is_list f_Disk_fall f_Disk_wipe f_law_disk_told f_law_disk_is f_law : Addr}
    {nm_BadNumber q_BadNumber : Str} {N_BadNumber : Addr} {bs_BadNumber bm_BadNumber : List Value} {sn_BadNumber : List Str} {sub_BadNumber : List Value} {ab_BadNumber : Bool} {col_BadNumber : Option Bool} {dd_BadNumber : Option Addr} {m0_BadNumber m1_BadNumber m2_BadNumber m3_BadNumber m5_BadNumber : Option Value}
    {f_BadNumber_init : Addr}
    {od_BadNumber_init an_BadNumber_init : Option Addr} {sl_BadNumber_init : Array (Option Value)} {oc_BadNumber_init kV_BadNumber_init dc_BadNumber_init pm_BadNumber_init cd_BadNumber_init ct_BadNumber_init : Value}
    {nm_Fallen q_Fallen : Str} {N_Fallen : Addr} {bs_Fallen bm_Fallen : List Value} {sn_Fallen : List Str} {sub_Fallen : List Value} {ab_Fallen : Bool} {col_Fallen : Option Bool} {dd_Fallen : Option Addr} {m0_Fallen m1_Fallen m2_Fallen m3_Fallen m5_Fallen : Option Value}
    {f_Fallen_init : Addr}
    {od_Fallen_init an_Fallen_init : Option Addr} {sl_Fallen_init : Array (Option Value)} {oc_Fallen_init kV_Fallen_init dc_Fallen_init pm_Fallen_init cd_Fallen_init ct_Fallen_init : Value}
    {od_law_pen an_law_pen : Option Addr} {sl_law_pen : Array (Option Value)} {oc_law_pen kV_law_pen dc_law_pen pm_law_pen cd_law_pen ct_law_pen : Value}
    {od_is_whole an_is_whole : Option Addr} {sl_is_whole : Array (Option Value)} {oc_is_whole kV_is_whole dc_is_whole pm_is_whole cd_is_whole ct_is_whole : Value}
    {od_is_count an_is_count : Option Addr} {sl_is_count : Array (Option Value)} {oc_is_count kV_is_count dc_is_count pm_is_count cd_is_count ct_is_count : Value}
    {od_Disk_init an_Disk_init : Option Addr} {sl_Disk_init : Array (Option Value)} {oc_Disk_init kV_Disk_init dc_Disk_init pm_Disk_init cd_Disk_init ct_Disk_init : Value}
    {od_law_size_refused an_law_size_refused : Option Addr} {sl_law_size_refused : Array (Option Value)} {oc_law_size_refused kV_law_size_refused dc_law_size_refused pm_law_size_refused cd_law_size_refused ct_law_size_refused : Value}
    {od_law_draw an_law_draw : Option Addr} {sl_law_draw : Array (Option Value)} {oc_law_draw kV_law_draw dc_law_draw pm_law_draw cd_law_draw ct_law_draw : Value}
    {od_law_pick an_law_pick : Option Addr} {sl_law_pick : Array (Option Value)} {oc_law_pick kV_law_pick dc_law_pick pm_law_pick cd_law_pick ct_law_pick : Value}
    {od_law_disk_new an_law_disk_new : Option Addr} {sl_law_disk_new : Array (Option Value)} {oc_law_disk_new kV_law_disk_new dc_law_disk_new pm_law_disk_new cd_law_disk_new ct_law_disk_new : Value}
    {od_law_kp_lot an_law_kp_lot : Option Addr} {sl_law_kp_lot : Array (Option Value)} {oc_law_kp_lot kV_law_kp_lot dc_law_kp_lot pm_law_kp_lot cd_law_kp_lot ct_law_kp_lot : Value}
    {od_law_disk_deed an_law_disk_deed : Option Addr} {sl_law_disk_deed : Array (Option Value)} {oc_law_disk_deed kV_law_disk_deed dc_law_disk_deed pm_law_disk_deed cd_law_disk_deed ct_law_disk_deed : Value}
    {od_law_disk_fall an_law_disk_fall : Option Addr} {sl_law_disk_fall : Array (Option Value)} {oc_law_disk_fall kV_law_disk_fall dc_law_disk_fall pm_law_disk_fall cd_law_disk_fall ct_law_disk_fall : Value}
    {od_law_disk_steps an_law_disk_steps : Option Addr} {sl_law_disk_steps : Array (Option Value)} {oc_law_disk_steps kV_law_disk_steps dc_law_disk_steps pm_law_disk_steps cd_law_disk_steps ct_law_disk_steps : Value}
    {od_law_is_whole an_law_is_whole : Option Addr} {sl_law_is_whole : Array (Option Value)} {oc_law_is_whole kV_law_is_whole dc_law_is_whole pm_law_is_whole cd_law_is_whole ct_law_is_whole : Value}
    {od_law_is_place an_law_is_place : Option Addr} {sl_law_is_place : Array (Option Value)} {oc_law_is_place kV_law_is_place dc_law_is_place pm_law_is_place cd_law_is_place ct_law_is_place : Value}
    {od_law_is_lot an_law_is_lot : Option Addr} {sl_law_is_lot : Array (Option Value)} {oc_law_is_lot kV_law_is_lot dc_law_is_lot pm_law_is_lot cd_law_is_lot ct_law_is_lot : Value}
    {od_law_disk_due an_law_disk_due : Option Addr} {sl_law_disk_due : Array (Option Value)} {oc_law_disk_due kV_law_disk_due dc_law_disk_due pm_law_disk_due cd_law_disk_due ct_law_disk_due : Value}
    {od_is_between an_is_between : Option Addr} {sl_is_between : Array (Option Value)} {oc_is_between kV_is_between dc_is_between pm_is_between cd_is_between ct_is_between : Value}
    {od_Disk_need_block an_Disk_need_block : Option Addr} {sl_Disk_need_block : Array (Option Value)} {oc_Disk_need_block kV_Disk_need_block dc_Disk_need_block pm_Disk_need_block cd_Disk_need_block ct_Disk_need_block : Value}
    {od_Disk_bear an_Disk_bear : Option Addr} {sl_Disk_bear : Array (Option Value)} {oc_Disk_bear kV_Disk_bear dc_Disk_bear pm_Disk_bear cd_Disk_bear ct_Disk_bear : Value}
    {od_Disk_write an_Disk_write : Option Addr} {sl_Disk_write : Array (Option Value)} {oc_Disk_write kV_Disk_write dc_Disk_write pm_Disk_write cd_Disk_write ct_Disk_write : Value}
    {od_Disk_read an_Disk_read : Option Addr} {sl_Disk_read : Array (Option Value)} {oc_Disk_read kV_Disk_read dc_Disk_read pm_Disk_read cd_Disk_read ct_Disk_read : Value}
    {od_Disk_do_writes an_Disk_do_writes : Option Addr} {sl_Disk_do_writes : Array (Option Value)} {oc_Disk_do_writes kV_Disk_do_writes dc_Disk_do_writes pm_Disk_do_writes cd_Disk_do_writes ct_Disk_do_writes : Value}
    {od_Disk_flush an_Disk_flush : Option Addr} {sl_Disk_flush : Array (Option Value)} {oc_Disk_flush kV_Disk_flush dc_Disk_flush pm_Disk_flush cd_Disk_flush ct_Disk_flush : Value}
    {od_Disk_set_fuse an_Disk_set_fuse : Option Addr} {sl_Disk_set_fuse : Array (Option Value)} {oc_Disk_set_fuse kV_Disk_set_fuse dc_Disk_set_fuse pm_Disk_set_fuse cd_Disk_set_fuse ct_Disk_set_fuse : Value}
    {od_Disk_spoil an_Disk_spoil : Option Addr} {sl_Disk_spoil : Array (Option Value)} {oc_Disk_spoil kV_Disk_spoil dc_Disk_spoil pm_Disk_spoil cd_Disk_spoil ct_Disk_spoil : Value}
    {od_is_list an_is_list : Option Addr} {sl_is_list : Array (Option Value)} {oc_is_list kV_is_list dc_is_list pm_is_list cd_is_list ct_is_list : Value}
    {od_Disk_fall an_Disk_fall : Option Addr} {sl_Disk_fall : Array (Option Value)} {oc_Disk_fall kV_Disk_fall dc_Disk_fall pm_Disk_fall cd_Disk_fall ct_Disk_fall : Value}
    {od_Disk_wipe an_Disk_wipe : Option Addr} {sl_Disk_wipe : Array (Option Value)} {oc_Disk_wipe kV_Disk_wipe dc_Disk_wipe pm_Disk_wipe cd_Disk_wipe ct_Disk_wipe : Value}
    {od_law_disk_told an_law_disk_told : Option Addr} {sl_law_disk_told : Array (Option Value)} {oc_law_disk_told kV_law_disk_told dc_law_disk_told pm_law_disk_told cd_law_disk_told ct_law_disk_told : Value}
    {od_law_disk_is an_law_disk_is : Option Addr} {sl_law_disk_is : Array (Option Value)} {oc_law_disk_is kV_law_disk_is dc_law_disk_is pm_law_disk_is cd_law_disk_is ct_law_disk_is : Value}
    {od_law an_law : Option Addr} {sl_law : Array (Option Value)} {oc_law kV_law dc_law pm_law cd_law ct_law : Value}
    (aC_Disk : PySem.W.nsIn K mainGlobals "Disk" = some (some (.ref C_Disk)))
    (aC_BadNumber : PySem.W.nsIn K mainGlobals "BadNumber" = some (some (.ref C_BadNumber)))
    (aC_Fallen : PySem.W.nsIn K mainGlobals "Fallen" = some (some (.ref C_Fallen)))
    (pg_Disk : PySem.W.plainGet K C_Disk Str.empty = true)
    (hd_Disk : PySem.W.hasDictIn K C_Disk = true)
    (po_Disk : PySem.W.plainOver K C_Disk = true)
    (sa_Disk : PySem.W.findIn K (.ref C_Disk) "__setattr__" = some (some (.builtin "object.__setattr__")))
    (mk_Disk : PySem.W.makesIn K C_Disk = true)
    (kc_Disk : PySem.W.keepIn K (.ref C_Disk) = true)
    (n_Disk_blocks : PySem.W.findIn K (.ref C_Disk) "blocks" = some none)
    (n_Disk_fuse : PySem.W.findIn K (.ref C_Disk) "fuse" = some none)
    (n_Disk_fuse_steps : PySem.W.findIn K (.ref C_Disk) "fuse_steps" = some none)
    (n_Disk_size : PySem.W.findIn K (.ref C_Disk) "size" = some none)
    (n_Disk_waiting : PySem.W.findIn K (.ref C_Disk) "waiting" = some none)
    (x_BadNumber : K.lookup C_BadNumber = some (excClassObj nm_BadNumber q_BadNumber C_BadNumber N_BadNumber bs_BadNumber bm_BadNumber true sn_BadNumber sub_BadNumber ab_BadNumber col_BadNumber dd_BadNumber m0_BadNumber m1_BadNumber m2_BadNumber m3_BadNumber m5_BadNumber "ValueError.__new__"))
    (r_BadNumber : PySem.HandSPX.refsVE bm_BadNumber = true)
    (sa_BadNumber : PySem.W.findIn K (.ref C_BadNumber) "__setattr__" = some (some (.builtin "object.__setattr__")))
    (kc_BadNumber : PySem.W.keepIn K (.ref C_BadNumber) = true)
    (a_BadNumber_init : PySem.W.findIn K (.ref C_BadNumber) "__init__" = some (some (.ref f_BadNumber_init)))
    (l_BadNumber_init : K.lookup f_BadNumber_init = some ⟨oc_BadNumber_init, od_BadNumber_init, .func (PySem.W.fnOf "__init__" "BadNumber.__init__" (defArgs st_BadNumber_init) (defBody st_BadNumber_init) (defScope st_BadNumber_init) .none kV_BadNumber_init dc_BadNumber_init pm_BadNumber_init an_BadNumber_init cd_BadNumber_init ct_BadNumber_init), sl_BadNumber_init⟩)
    (c_BadNumber_init : PySem.W.codeIn K cd_BadNumber_init "BadNumber.__init__" = true)
    (k_BadNumber_init : PySem.W.keepIn K (.ref f_BadNumber_init) = true)
    (t_BadNumber_init : PySem.W.typeIn K (.ref f_BadNumber_init) = some (.type "function"))
    (n_BadNumber_what : PySem.W.findIn K (.ref C_BadNumber) "what" = some none)
    (n_BadNumber_number : PySem.W.findIn K (.ref C_BadNumber) "number" = some none)
    (e_BadNumber : PySem.W.subIn K (.ref C_BadNumber) (.type "BaseException") = some true)
    (ty_BadNumber : PySem.W.typeIn K (.ref C_BadNumber) = some (.type "type"))
    (ic_BadNumber : PySem.W.isClsIn K C_BadNumber = true)
    (ga_BadNumber : PySem.W.findIn K (.ref C_BadNumber) "__getattribute__" = some (some (.builtin "BaseException.__getattribute__")))
    (gg_BadNumber : PySem.W.findIn K (.ref C_BadNumber) "__getattr__" = some none)
    (hd_BadNumber : PySem.W.hasDictIn K C_BadNumber = true)
    (x_Fallen : K.lookup C_Fallen = some (excClassObj nm_Fallen q_Fallen C_Fallen N_Fallen bs_Fallen bm_Fallen true sn_Fallen sub_Fallen ab_Fallen col_Fallen dd_Fallen m0_Fallen m1_Fallen m2_Fallen m3_Fallen m5_Fallen "ValueError.__new__"))
    (r_Fallen : PySem.HandSPX.refsVE bm_Fallen = true)
    (sa_Fallen : PySem.W.findIn K (.ref C_Fallen) "__setattr__" = some (some (.builtin "object.__setattr__")))
    (kc_Fallen : PySem.W.keepIn K (.ref C_Fallen) = true)
    (a_Fallen_init : PySem.W.findIn K (.ref C_Fallen) "__init__" = some (some (.ref f_Fallen_init)))
    (l_Fallen_init : K.lookup f_Fallen_init = some ⟨oc_Fallen_init, od_Fallen_init, .func (PySem.W.fnOf "__init__" "Fallen.__init__" (defArgs st_Fallen_init) (defBody st_Fallen_init) (defScope st_Fallen_init) .none kV_Fallen_init dc_Fallen_init pm_Fallen_init an_Fallen_init cd_Fallen_init ct_Fallen_init), sl_Fallen_init⟩)
    (c_Fallen_init : PySem.W.codeIn K cd_Fallen_init "Fallen.__init__" = true)
    (k_Fallen_init : PySem.W.keepIn K (.ref f_Fallen_init) = true)
    (t_Fallen_init : PySem.W.typeIn K (.ref f_Fallen_init) = some (.type "function"))
    (n_Fallen_steps : PySem.W.findIn K (.ref C_Fallen) "steps" = some none)
    (e_Fallen : PySem.W.subIn K (.ref C_Fallen) (.type "BaseException") = some true)
    (ty_Fallen : PySem.W.typeIn K (.ref C_Fallen) = some (.type "type"))
    (ic_Fallen : PySem.W.isClsIn K C_Fallen = true)
    (ga_Fallen : PySem.W.findIn K (.ref C_Fallen) "__getattribute__" = some (some (.builtin "BaseException.__getattribute__")))
    (gg_Fallen : PySem.W.findIn K (.ref C_Fallen) "__getattr__" = some none)
    (hd_Fallen : PySem.W.hasDictIn K C_Fallen = true)
    (s_BadNumber_BadNumber : PySem.W.subIn K (.ref C_BadNumber) (.ref C_BadNumber) = some true)
    (s_Fallen_BadNumber : PySem.W.subIn K (.ref C_Fallen) (.ref C_BadNumber) = some false)
    (s_BadNumber_Fallen : PySem.W.subIn K (.ref C_BadNumber) (.ref C_Fallen) = some false)
    (s_Fallen_Fallen : PySem.W.subIn K (.ref C_Fallen) (.ref C_Fallen) = some true)
    (a_law_pen : PySem.W.nsIn K mainGlobals "_law_pen" = some (some (.ref f_law_pen)))
    (l_law_pen : K.lookup f_law_pen = some ⟨oc_law_pen, od_law_pen, .func (PySem.W.fnOf "_law_pen" "_law_pen" (defArgs st_law_pen) (defBody st_law_pen) (defScope st_law_pen) .none kV_law_pen dc_law_pen pm_law_pen an_law_pen cd_law_pen ct_law_pen), sl_law_pen⟩)
    (c_law_pen : PySem.W.codeIn K cd_law_pen "_law_pen" = true)
    (k_law_pen : PySem.W.keepIn K (.ref f_law_pen) = true)
    (a_is_whole : PySem.W.nsIn K mainGlobals "is_whole" = some (some (.ref f_is_whole)))
    (l_is_whole : K.lookup f_is_whole = some ⟨oc_is_whole, od_is_whole, .func (PySem.W.fnOf "is_whole" "is_whole" (defArgs st_is_whole) (defBody st_is_whole) (defScope st_is_whole) .none kV_is_whole dc_is_whole pm_is_whole an_is_whole cd_is_whole ct_is_whole), sl_is_whole⟩)
    (c_is_whole : PySem.W.codeIn K cd_is_whole "is_whole" = true)
    (k_is_whole : PySem.W.keepIn K (.ref f_is_whole) = true)
    (a_is_count : PySem.W.nsIn K mainGlobals "is_count" = some (some (.ref f_is_count)))
    (l_is_count : K.lookup f_is_count = some ⟨oc_is_count, od_is_count, .func (PySem.W.fnOf "is_count" "is_count" (defArgs st_is_count) (defBody st_is_count) (defScope st_is_count) .none kV_is_count dc_is_count pm_is_count an_is_count cd_is_count ct_is_count), sl_is_count⟩)
    (c_is_count : PySem.W.codeIn K cd_is_count "is_count" = true)
    (k_is_count : PySem.W.keepIn K (.ref f_is_count) = true)
    (a_Disk_init : PySem.W.findIn K (.ref C_Disk) "__init__" = some (some (.ref f_Disk_init)))
    (l_Disk_init : K.lookup f_Disk_init = some ⟨oc_Disk_init, od_Disk_init, .func (PySem.W.fnOf "__init__" "Disk.__init__" (defArgs st_Disk_init) (defBody st_Disk_init) (defScope st_Disk_init) .none kV_Disk_init dc_Disk_init pm_Disk_init an_Disk_init cd_Disk_init ct_Disk_init), sl_Disk_init⟩)
    (c_Disk_init : PySem.W.codeIn K cd_Disk_init "Disk.__init__" = true)
    (k_Disk_init : PySem.W.keepIn K (.ref f_Disk_init) = true)
    (i_Disk_init : PySem.W.isFn K (.ref f_Disk_init) = true)
    (a_law_size_refused : PySem.W.nsIn K mainGlobals "_law_size_refused" = some (some (.ref f_law_size_refused)))
    (l_law_size_refused : K.lookup f_law_size_refused = some ⟨oc_law_size_refused, od_law_size_refused, .func (PySem.W.fnOf "_law_size_refused" "_law_size_refused" (defArgs st_law_size_refused) (defBody st_law_size_refused) (defScope st_law_size_refused) .none kV_law_size_refused dc_law_size_refused pm_law_size_refused an_law_size_refused cd_law_size_refused ct_law_size_refused), sl_law_size_refused⟩)
    (c_law_size_refused : PySem.W.codeIn K cd_law_size_refused "_law_size_refused" = true)
    (k_law_size_refused : PySem.W.keepIn K (.ref f_law_size_refused) = true)
    (a_law_draw : PySem.W.nsIn K mainGlobals "_law_draw" = some (some (.ref f_law_draw)))
    (l_law_draw : K.lookup f_law_draw = some ⟨oc_law_draw, od_law_draw, .func (PySem.W.fnOf "_law_draw" "_law_draw" (defArgs st_law_draw) (defBody st_law_draw) (defScope st_law_draw) .none kV_law_draw dc_law_draw pm_law_draw an_law_draw cd_law_draw ct_law_draw), sl_law_draw⟩)
    (c_law_draw : PySem.W.codeIn K cd_law_draw "_law_draw" = true)
    (k_law_draw : PySem.W.keepIn K (.ref f_law_draw) = true)
    (a_law_pick : PySem.W.nsIn K mainGlobals "_law_pick" = some (some (.ref f_law_pick)))
    (l_law_pick : K.lookup f_law_pick = some ⟨oc_law_pick, od_law_pick, .func (PySem.W.fnOf "_law_pick" "_law_pick" (defArgs st_law_pick) (defBody st_law_pick) (defScope st_law_pick) .none kV_law_pick dc_law_pick pm_law_pick an_law_pick cd_law_pick ct_law_pick), sl_law_pick⟩)
    (c_law_pick : PySem.W.codeIn K cd_law_pick "_law_pick" = true)
    (k_law_pick : PySem.W.keepIn K (.ref f_law_pick) = true)
    (a_law_disk_new : PySem.W.nsIn K mainGlobals "_law_disk_new" = some (some (.ref f_law_disk_new)))
    (l_law_disk_new : K.lookup f_law_disk_new = some ⟨oc_law_disk_new, od_law_disk_new, .func (PySem.W.fnOf "_law_disk_new" "_law_disk_new" (defArgs st_law_disk_new) (defBody st_law_disk_new) (defScope st_law_disk_new) .none kV_law_disk_new dc_law_disk_new pm_law_disk_new an_law_disk_new cd_law_disk_new ct_law_disk_new), sl_law_disk_new⟩)
    (c_law_disk_new : PySem.W.codeIn K cd_law_disk_new "_law_disk_new" = true)
    (k_law_disk_new : PySem.W.keepIn K (.ref f_law_disk_new) = true)
    (a_law_kp_lot : PySem.W.nsIn K mainGlobals "_law_kp_lot" = some (some (.ref f_law_kp_lot)))
    (l_law_kp_lot : K.lookup f_law_kp_lot = some ⟨oc_law_kp_lot, od_law_kp_lot, .func (PySem.W.fnOf "_law_kp_lot" "_law_kp_lot" (defArgs st_law_kp_lot) (defBody st_law_kp_lot) (defScope st_law_kp_lot) .none kV_law_kp_lot dc_law_kp_lot pm_law_kp_lot an_law_kp_lot cd_law_kp_lot ct_law_kp_lot), sl_law_kp_lot⟩)
    (c_law_kp_lot : PySem.W.codeIn K cd_law_kp_lot "_law_kp_lot" = true)
    (k_law_kp_lot : PySem.W.keepIn K (.ref f_law_kp_lot) = true)
    (a_law_disk_deed : PySem.W.nsIn K mainGlobals "_law_disk_deed" = some (some (.ref f_law_disk_deed)))
    (l_law_disk_deed : K.lookup f_law_disk_deed = some ⟨oc_law_disk_deed, od_law_disk_deed, .func (PySem.W.fnOf "_law_disk_deed" "_law_disk_deed" (defArgs st_law_disk_deed) (defBody st_law_disk_deed) (defScope st_law_disk_deed) .none kV_law_disk_deed dc_law_disk_deed pm_law_disk_deed an_law_disk_deed cd_law_disk_deed ct_law_disk_deed), sl_law_disk_deed⟩)
    (c_law_disk_deed : PySem.W.codeIn K cd_law_disk_deed "_law_disk_deed" = true)
    (k_law_disk_deed : PySem.W.keepIn K (.ref f_law_disk_deed) = true)
    (a_law_disk_fall : PySem.W.nsIn K mainGlobals "_law_disk_fall" = some (some (.ref f_law_disk_fall)))
    (l_law_disk_fall : K.lookup f_law_disk_fall = some ⟨oc_law_disk_fall, od_law_disk_fall, .func (PySem.W.fnOf "_law_disk_fall" "_law_disk_fall" (defArgs st_law_disk_fall) (defBody st_law_disk_fall) (defScope st_law_disk_fall) .none kV_law_disk_fall dc_law_disk_fall pm_law_disk_fall an_law_disk_fall cd_law_disk_fall ct_law_disk_fall), sl_law_disk_fall⟩)
    (c_law_disk_fall : PySem.W.codeIn K cd_law_disk_fall "_law_disk_fall" = true)
    (k_law_disk_fall : PySem.W.keepIn K (.ref f_law_disk_fall) = true)
    (a_law_disk_steps : PySem.W.nsIn K mainGlobals "_law_disk_steps" = some (some (.ref f_law_disk_steps)))
    (l_law_disk_steps : K.lookup f_law_disk_steps = some ⟨oc_law_disk_steps, od_law_disk_steps, .func (PySem.W.fnOf "_law_disk_steps" "_law_disk_steps" (defArgs st_law_disk_steps) (defBody st_law_disk_steps) (defScope st_law_disk_steps) .none kV_law_disk_steps dc_law_disk_steps pm_law_disk_steps an_law_disk_steps cd_law_disk_steps ct_law_disk_steps), sl_law_disk_steps⟩)
    (c_law_disk_steps : PySem.W.codeIn K cd_law_disk_steps "_law_disk_steps" = true)
    (k_law_disk_steps : PySem.W.keepIn K (.ref f_law_disk_steps) = true)
    (a_law_is_whole : PySem.W.nsIn K mainGlobals "_law_is_whole" = some (some (.ref f_law_is_whole)))
    (l_law_is_whole : K.lookup f_law_is_whole = some ⟨oc_law_is_whole, od_law_is_whole, .func (PySem.W.fnOf "_law_is_whole" "_law_is_whole" (defArgs st_law_is_whole) (defBody st_law_is_whole) (defScope st_law_is_whole) .none kV_law_is_whole dc_law_is_whole pm_law_is_whole an_law_is_whole cd_law_is_whole ct_law_is_whole), sl_law_is_whole⟩)
    (c_law_is_whole : PySem.W.codeIn K cd_law_is_whole "_law_is_whole" = true)
    (k_law_is_whole : PySem.W.keepIn K (.ref f_law_is_whole) = true)
    (a_law_is_place : PySem.W.nsIn K mainGlobals "_law_is_place" = some (some (.ref f_law_is_place)))
    (l_law_is_place : K.lookup f_law_is_place = some ⟨oc_law_is_place, od_law_is_place, .func (PySem.W.fnOf "_law_is_place" "_law_is_place" (defArgs st_law_is_place) (defBody st_law_is_place) (defScope st_law_is_place) .none kV_law_is_place dc_law_is_place pm_law_is_place an_law_is_place cd_law_is_place ct_law_is_place), sl_law_is_place⟩)
    (c_law_is_place : PySem.W.codeIn K cd_law_is_place "_law_is_place" = true)
    (k_law_is_place : PySem.W.keepIn K (.ref f_law_is_place) = true)
    (a_law_is_lot : PySem.W.nsIn K mainGlobals "_law_is_lot" = some (some (.ref f_law_is_lot)))
    (l_law_is_lot : K.lookup f_law_is_lot = some ⟨oc_law_is_lot, od_law_is_lot, .func (PySem.W.fnOf "_law_is_lot" "_law_is_lot" (defArgs st_law_is_lot) (defBody st_law_is_lot) (defScope st_law_is_lot) .none kV_law_is_lot dc_law_is_lot pm_law_is_lot an_law_is_lot cd_law_is_lot ct_law_is_lot), sl_law_is_lot⟩)
    (c_law_is_lot : PySem.W.codeIn K cd_law_is_lot "_law_is_lot" = true)
    (k_law_is_lot : PySem.W.keepIn K (.ref f_law_is_lot) = true)
    (a_law_disk_due : PySem.W.nsIn K mainGlobals "_law_disk_due" = some (some (.ref f_law_disk_due)))
    (l_law_disk_due : K.lookup f_law_disk_due = some ⟨oc_law_disk_due, od_law_disk_due, .func (PySem.W.fnOf "_law_disk_due" "_law_disk_due" (defArgs st_law_disk_due) (defBody st_law_disk_due) (defScope st_law_disk_due) .none kV_law_disk_due dc_law_disk_due pm_law_disk_due an_law_disk_due cd_law_disk_due ct_law_disk_due), sl_law_disk_due⟩)
    (c_law_disk_due : PySem.W.codeIn K cd_law_disk_due "_law_disk_due" = true)
    (k_law_disk_due : PySem.W.keepIn K (.ref f_law_disk_due) = true)
    (a_is_between : PySem.W.nsIn K mainGlobals "is_between" = some (some (.ref f_is_between)))
    (l_is_between : K.lookup f_is_between = some ⟨oc_is_between, od_is_between, .func (PySem.W.fnOf "is_between" "is_between" (defArgs st_is_between) (defBody st_is_between) (defScope st_is_between) .none kV_is_between dc_is_between pm_is_between an_is_between cd_is_between ct_is_between), sl_is_between⟩)
    (c_is_between : PySem.W.codeIn K cd_is_between "is_between" = true)
    (k_is_between : PySem.W.keepIn K (.ref f_is_between) = true)
    (a_Disk_need_block : PySem.W.findIn K (.ref C_Disk) "need_block" = some (some (.ref f_Disk_need_block)))
    (l_Disk_need_block : K.lookup f_Disk_need_block = some ⟨oc_Disk_need_block, od_Disk_need_block, .func (PySem.W.fnOf "need_block" "Disk.need_block" (defArgs st_Disk_need_block) (defBody st_Disk_need_block) (defScope st_Disk_need_block) .none kV_Disk_need_block dc_Disk_need_block pm_Disk_need_block an_Disk_need_block cd_Disk_need_block ct_Disk_need_block), sl_Disk_need_block⟩)
    (c_Disk_need_block : PySem.W.codeIn K cd_Disk_need_block "Disk.need_block" = true)
    (k_Disk_need_block : PySem.W.keepIn K (.ref f_Disk_need_block) = true)
    (i_Disk_need_block : PySem.W.isFn K (.ref f_Disk_need_block) = true)
    (a_Disk_bear : PySem.W.findIn K (.ref C_Disk) "bear" = some (some (.ref f_Disk_bear)))
    (l_Disk_bear : K.lookup f_Disk_bear = some ⟨oc_Disk_bear, od_Disk_bear, .func (PySem.W.fnOf "bear" "Disk.bear" (defArgs st_Disk_bear) (defBody st_Disk_bear) (defScope st_Disk_bear) .none kV_Disk_bear dc_Disk_bear pm_Disk_bear an_Disk_bear cd_Disk_bear ct_Disk_bear), sl_Disk_bear⟩)
    (c_Disk_bear : PySem.W.codeIn K cd_Disk_bear "Disk.bear" = true)
    (k_Disk_bear : PySem.W.keepIn K (.ref f_Disk_bear) = true)
    (i_Disk_bear : PySem.W.isFn K (.ref f_Disk_bear) = true)
    (a_Disk_write : PySem.W.findIn K (.ref C_Disk) "write" = some (some (.ref f_Disk_write)))
    (l_Disk_write : K.lookup f_Disk_write = some ⟨oc_Disk_write, od_Disk_write, .func (PySem.W.fnOf "write" "Disk.write" (defArgs st_Disk_write) (defBody st_Disk_write) (defScope st_Disk_write) .none kV_Disk_write dc_Disk_write pm_Disk_write an_Disk_write cd_Disk_write ct_Disk_write), sl_Disk_write⟩)
    (c_Disk_write : PySem.W.codeIn K cd_Disk_write "Disk.write" = true)
    (k_Disk_write : PySem.W.keepIn K (.ref f_Disk_write) = true)
    (i_Disk_write : PySem.W.isFn K (.ref f_Disk_write) = true)
    (a_Disk_read : PySem.W.findIn K (.ref C_Disk) "read" = some (some (.ref f_Disk_read)))
    (l_Disk_read : K.lookup f_Disk_read = some ⟨oc_Disk_read, od_Disk_read, .func (PySem.W.fnOf "read" "Disk.read" (defArgs st_Disk_read) (defBody st_Disk_read) (defScope st_Disk_read) .none kV_Disk_read dc_Disk_read pm_Disk_read an_Disk_read cd_Disk_read ct_Disk_read), sl_Disk_read⟩)
    (c_Disk_read : PySem.W.codeIn K cd_Disk_read "Disk.read" = true)
    (k_Disk_read : PySem.W.keepIn K (.ref f_Disk_read) = true)
    (i_Disk_read : PySem.W.isFn K (.ref f_Disk_read) = true)
    (a_Disk_do_writes : PySem.W.findIn K (.ref C_Disk) "do_writes" = some (some (.ref f_Disk_do_writes)))
    (l_Disk_do_writes : K.lookup f_Disk_do_writes = some ⟨oc_Disk_do_writes, od_Disk_do_writes, .func (PySem.W.fnOf "do_writes" "Disk.do_writes" (defArgs st_Disk_do_writes) (defBody st_Disk_do_writes) (defScope st_Disk_do_writes) .none kV_Disk_do_writes dc_Disk_do_writes pm_Disk_do_writes an_Disk_do_writes cd_Disk_do_writes ct_Disk_do_writes), sl_Disk_do_writes⟩)
    (c_Disk_do_writes : PySem.W.codeIn K cd_Disk_do_writes "Disk.do_writes" = true)
    (k_Disk_do_writes : PySem.W.keepIn K (.ref f_Disk_do_writes) = true)
    (i_Disk_do_writes : PySem.W.isFn K (.ref f_Disk_do_writes) = true)
    (a_Disk_flush : PySem.W.findIn K (.ref C_Disk) "flush" = some (some (.ref f_Disk_flush)))
    (l_Disk_flush : K.lookup f_Disk_flush = some ⟨oc_Disk_flush, od_Disk_flush, .func (PySem.W.fnOf "flush" "Disk.flush" (defArgs st_Disk_flush) (defBody st_Disk_flush) (defScope st_Disk_flush) .none kV_Disk_flush dc_Disk_flush pm_Disk_flush an_Disk_flush cd_Disk_flush ct_Disk_flush), sl_Disk_flush⟩)
    (c_Disk_flush : PySem.W.codeIn K cd_Disk_flush "Disk.flush" = true)
    (k_Disk_flush : PySem.W.keepIn K (.ref f_Disk_flush) = true)
    (i_Disk_flush : PySem.W.isFn K (.ref f_Disk_flush) = true)
    (a_Disk_set_fuse : PySem.W.findIn K (.ref C_Disk) "set_fuse" = some (some (.ref f_Disk_set_fuse)))
    (l_Disk_set_fuse : K.lookup f_Disk_set_fuse = some ⟨oc_Disk_set_fuse, od_Disk_set_fuse, .func (PySem.W.fnOf "set_fuse" "Disk.set_fuse" (defArgs st_Disk_set_fuse) (defBody st_Disk_set_fuse) (defScope st_Disk_set_fuse) .none kV_Disk_set_fuse dc_Disk_set_fuse pm_Disk_set_fuse an_Disk_set_fuse cd_Disk_set_fuse ct_Disk_set_fuse), sl_Disk_set_fuse⟩)
    (c_Disk_set_fuse : PySem.W.codeIn K cd_Disk_set_fuse "Disk.set_fuse" = true)
    (k_Disk_set_fuse : PySem.W.keepIn K (.ref f_Disk_set_fuse) = true)
    (i_Disk_set_fuse : PySem.W.isFn K (.ref f_Disk_set_fuse) = true)
    (a_Disk_spoil : PySem.W.findIn K (.ref C_Disk) "spoil" = some (some (.ref f_Disk_spoil)))
    (l_Disk_spoil : K.lookup f_Disk_spoil = some ⟨oc_Disk_spoil, od_Disk_spoil, .func (PySem.W.fnOf "spoil" "Disk.spoil" (defArgs st_Disk_spoil) (defBody st_Disk_spoil) (defScope st_Disk_spoil) .none kV_Disk_spoil dc_Disk_spoil pm_Disk_spoil an_Disk_spoil cd_Disk_spoil ct_Disk_spoil), sl_Disk_spoil⟩)
    (c_Disk_spoil : PySem.W.codeIn K cd_Disk_spoil "Disk.spoil" = true)
    (k_Disk_spoil : PySem.W.keepIn K (.ref f_Disk_spoil) = true)
    (i_Disk_spoil : PySem.W.isFn K (.ref f_Disk_spoil) = true)
    (a_is_list : PySem.W.nsIn K mainGlobals "is_list" = some (some (.ref f_is_list)))
    (l_is_list : K.lookup f_is_list = some ⟨oc_is_list, od_is_list, .func (PySem.W.fnOf "is_list" "is_list" (defArgs st_is_list) (defBody st_is_list) (defScope st_is_list) .none kV_is_list dc_is_list pm_is_list an_is_list cd_is_list ct_is_list), sl_is_list⟩)
    (c_is_list : PySem.W.codeIn K cd_is_list "is_list" = true)
    (k_is_list : PySem.W.keepIn K (.ref f_is_list) = true)
    (a_Disk_fall : PySem.W.findIn K (.ref C_Disk) "fall" = some (some (.ref f_Disk_fall)))
    (l_Disk_fall : K.lookup f_Disk_fall = some ⟨oc_Disk_fall, od_Disk_fall, .func (PySem.W.fnOf "fall" "Disk.fall" (defArgs st_Disk_fall) (defBody st_Disk_fall) (defScope st_Disk_fall) .none kV_Disk_fall dc_Disk_fall pm_Disk_fall an_Disk_fall cd_Disk_fall ct_Disk_fall), sl_Disk_fall⟩)
    (c_Disk_fall : PySem.W.codeIn K cd_Disk_fall "Disk.fall" = true)
    (k_Disk_fall : PySem.W.keepIn K (.ref f_Disk_fall) = true)
    (i_Disk_fall : PySem.W.isFn K (.ref f_Disk_fall) = true)
    (a_Disk_wipe : PySem.W.findIn K (.ref C_Disk) "wipe" = some (some (.ref f_Disk_wipe)))
    (l_Disk_wipe : K.lookup f_Disk_wipe = some ⟨oc_Disk_wipe, od_Disk_wipe, .func (PySem.W.fnOf "wipe" "Disk.wipe" (defArgs st_Disk_wipe) (defBody st_Disk_wipe) (defScope st_Disk_wipe) .none kV_Disk_wipe dc_Disk_wipe pm_Disk_wipe an_Disk_wipe cd_Disk_wipe ct_Disk_wipe), sl_Disk_wipe⟩)
    (c_Disk_wipe : PySem.W.codeIn K cd_Disk_wipe "Disk.wipe" = true)
    (k_Disk_wipe : PySem.W.keepIn K (.ref f_Disk_wipe) = true)
    (i_Disk_wipe : PySem.W.isFn K (.ref f_Disk_wipe) = true)
    (a_law_disk_told : PySem.W.nsIn K mainGlobals "_law_disk_told" = some (some (.ref f_law_disk_told)))
    (l_law_disk_told : K.lookup f_law_disk_told = some ⟨oc_law_disk_told, od_law_disk_told, .func (PySem.W.fnOf "_law_disk_told" "_law_disk_told" (defArgs st_law_disk_told) (defBody st_law_disk_told) (defScope st_law_disk_told) .none kV_law_disk_told dc_law_disk_told pm_law_disk_told an_law_disk_told cd_law_disk_told ct_law_disk_told), sl_law_disk_told⟩)
    (c_law_disk_told : PySem.W.codeIn K cd_law_disk_told "_law_disk_told" = true)
    (k_law_disk_told : PySem.W.keepIn K (.ref f_law_disk_told) = true)
    (a_law_disk_is : PySem.W.nsIn K mainGlobals "_law_disk_is" = some (some (.ref f_law_disk_is)))
    (l_law_disk_is : K.lookup f_law_disk_is = some ⟨oc_law_disk_is, od_law_disk_is, .func (PySem.W.fnOf "_law_disk_is" "_law_disk_is" (defArgs st_law_disk_is) (defBody st_law_disk_is) (defScope st_law_disk_is) .none kV_law_disk_is dc_law_disk_is pm_law_disk_is an_law_disk_is cd_law_disk_is ct_law_disk_is), sl_law_disk_is⟩)
    (c_law_disk_is : PySem.W.codeIn K cd_law_disk_is "_law_disk_is" = true)
    (k_law_disk_is : PySem.W.keepIn K (.ref f_law_disk_is) = true)
    (a_law : PySem.W.nsIn K mainGlobals "law" = some (some (.ref f_law)))
    (l_law : K.lookup f_law = some ⟨oc_law, od_law, .func (PySem.W.fnOf "law" "law" (defArgs st_law) (defBody st_law) (defScope st_law) .none kV_law dc_law pm_law an_law cd_law ct_law), sl_law⟩)
    (c_law : PySem.W.codeIn K cd_law "law" = true)
    (k_law : PySem.W.keepIn K (.ref f_law) = true)
    (z_int : PySem.W.nsIn K mainGlobals "int" = some none)
    (z_list : PySem.W.nsIn K mainGlobals "list" = some none)
    (z_bool : PySem.W.nsIn K mainGlobals "bool" = some none)
    (z_isinstance : PySem.W.nsIn K mainGlobals "isinstance" = some none)
    (z_len : PySem.W.nsIn K mainGlobals "len" = some none)
    (z_range : PySem.W.nsIn K mainGlobals "range" = some none)
    (z_tuple : PySem.W.nsIn K mainGlobals "tuple" = some none)
    (z_reversed : PySem.W.nsIn K mainGlobals "reversed" = some none)
    (z_all : PySem.W.nsIn K mainGlobals "all" = some none)
    (z_any : PySem.W.nsIn K mainGlobals "any" = some none)
    (z_zip : PySem.W.nsIn K mainGlobals "zip" = some none)
    : ∃ fd : FuncData, (∀ (s : Shared) (v : Value), BindsTo s fd ⟨[v], []⟩ [("_law_script", v)]) ∧ ∀ base : Heap, K.In base → base.Ns mainGlobals mg → FnOk l.prog w K mg base (L2.CX l.prog w) 6 fa fd ["_law_script"] (spL K M_law) := by
  have e := hfa.symm.trans (PySem.W.mg_of X NG a_law)
  cases e
  refine ⟨PySem.W.fnOf "law" "law" (defArgs st_law) (defBody st_law) (defScope st_law) .none kV_law dc_law pm_law an_law cd_law ct_law, fun s v => .of_eq rfl, fun base hb hn => ?_⟩
  obtain ⟨cA, q_diskC, q_badnumberC, q_fallenC⟩ : ∃ cA : CA, cA "Disk" = C_Disk ∧ cA "BadNumber" = C_BadNumber ∧ cA "Fallen" = C_Fallen := ⟨fun c => if c = "Disk" then C_Disk else if c = "BadNumber" then C_BadNumber else if c = "Fallen" then C_Fallen else 0, by simp, by simp, by simp⟩
  let GG : Gx := ⟨l.prog, w, K, mg, base, cA⟩
  subst q_diskC
  subst q_badnumberC
  subst q_fallenC
  have b_int : GG.mg "int" = none := PySem.W.mg_none_of X NG z_int
  have b_list : GG.mg "list" = none := PySem.W.mg_none_of X NG z_list
  have b_bool : GG.mg "bool" = none := PySem.W.mg_none_of X NG z_bool
  have b_isinstance : GG.mg "isinstance" = none := PySem.W.mg_none_of X NG z_isinstance
  have b_len : GG.mg "len" = none := PySem.W.mg_none_of X NG z_len
  have b_range : GG.mg "range" = none := PySem.W.mg_none_of X NG z_range
  have b_tuple : GG.mg "tuple" = none := PySem.W.mg_none_of X NG z_tuple
  have b_reversed : GG.mg "reversed" = none := PySem.W.mg_none_of X NG z_reversed
  have b_all : GG.mg "all" = none := PySem.W.mg_none_of X NG z_all
  have b_any : GG.mg "any" = none := PySem.W.mg_none_of X NG z_any
  have b_zip : GG.mg "zip" = none := PySem.W.mg_none_of X NG z_zip
  have cl_Disk : Cls GG.K (GG.cA "Disk") := ⟨pg_Disk, hd_Disk, po_Disk, sa_Disk⟩
  have fl_blocks : FldG GG "blocks" ["Disk"] := by
    intro c hc
    simp only [List.mem_cons, List.not_mem_nil, or_false] at hc
    subst hc
    exact ⟨cl_Disk, n_Disk_blocks⟩
  have fl_fuse : FldG GG "fuse" ["Disk"] := by
    intro c hc
    simp only [List.mem_cons, List.not_mem_nil, or_false] at hc
    subst hc
    exact ⟨cl_Disk, n_Disk_fuse⟩
  have fl_fuse_steps : FldG GG "fuse_steps" ["Disk"] := by
    intro c hc
    simp only [List.mem_cons, List.not_mem_nil, or_false] at hc
    subst hc
    exact ⟨cl_Disk, n_Disk_fuse_steps⟩
  have fl_size : FldG GG "size" ["Disk"] := by
    intro c hc
    simp only [List.mem_cons, List.not_mem_nil, or_false] at hc
    subst hc
    exact ⟨cl_Disk, n_Disk_size⟩
  have fl_waiting : FldG GG "waiting" ["Disk"] := by
    intro c hc
    simp only [List.mem_cons, List.not_mem_nil, or_false] at hc
    subst hc
    exact ⟨cl_Disk, n_Disk_waiting⟩
  have ox_BadNumber : OexC GG.K (GG.cA "BadNumber") := ⟨⟨_, _, _, _, _, _, _, _, _, _, _, _, _, _, _, x_BadNumber, r_BadNumber⟩, sa_BadNumber, e_BadNumber, ty_BadNumber, kc_BadNumber⟩
  have F_BadNumber_init := fun_mk (st := st_BadNumber_init) l_BadNumber_init c_BadNumber_init k_BadNumber_init
  have x_BadNumber : CE GG "BadNumber" "BadNumber" 1 ["what", "number"] := ⟨PySem.W.mg_of X NG aC_BadNumber, ox_BadNumber, f_BadNumber_init, _, _, a_BadNumber_init, t_BadNumber_init, x_init2 (f1 := "what") (f2 := "number") ox_BadNumber F_BadNumber_init sc_BadNumber_init rfl rfl n_BadNumber_what n_BadNumber_number (fun cdv A outer s H E => pss_cons (ps_ost (pv 0) (pv 1)) (pss_one (ps_ost (pv 0) (pv 2)))), F_BadNumber_init.binds fun _ _ _ _ _ _ us hl => match us, hl with | [_, _, _], _ => rfl⟩
  have ox_Fallen : OexC GG.K (GG.cA "Fallen") := ⟨⟨_, _, _, _, _, _, _, _, _, _, _, _, _, _, _, x_Fallen, r_Fallen⟩, sa_Fallen, e_Fallen, ty_Fallen, kc_Fallen⟩
  have F_Fallen_init := fun_mk (st := st_Fallen_init) l_Fallen_init c_Fallen_init k_Fallen_init
  have x_Fallen : CE GG "Fallen" "Fallen" 1 ["steps"] := ⟨PySem.W.mg_of X NG aC_Fallen, ox_Fallen, f_Fallen_init, _, _, a_Fallen_init, t_Fallen_init, x_init1 (f1 := "steps") ox_Fallen F_Fallen_init sc_Fallen_init rfl rfl n_Fallen_steps (fun cdv A outer s H E => pss_one (ps_ost (pv 0) (pv 1))), F_Fallen_init.binds fun _ _ _ _ _ _ us hl => match us, hl with | [_, _], _ => rfl⟩
  have xf_BadNumber_number : XFG GG "BadNumber" "number" := ⟨⟨ga_BadNumber, gg_BadNumber, e_BadNumber, hd_BadNumber⟩, n_BadNumber_number⟩
  have xf_BadNumber_what : XFG GG "BadNumber" "what" := ⟨⟨ga_BadNumber, gg_BadNumber, e_BadNumber, hd_BadNumber⟩, n_BadNumber_what⟩
  have xf_Fallen_steps : XFG GG "Fallen" "steps" := ⟨⟨ga_Fallen, gg_Fallen, e_Fallen, hd_Fallen⟩, n_Fallen_steps⟩
  have h_BadNumber : CH GG "BadNumber" (.ref (GG.cA "BadNumber")) [("BadNumber", true), ("Fallen", false)] := ⟨⟨by decide, .inl (PySem.W.mg_of X NG aC_BadNumber)⟩, fun c r e => by
    simp only [List.lookup_cons] at e
    split at e
    · rename_i q; rw [eq_of_beq q]; cases e; exact exm_mk e_BadNumber ic_BadNumber ty_BadNumber s_BadNumber_BadNumber
    · split at e
      · rename_i q; rw [eq_of_beq q]; cases e; exact exm_mk e_BadNumber ic_BadNumber ty_BadNumber s_Fallen_BadNumber
      · cases e⟩
  have h_Fallen : CH GG "Fallen" (.ref (GG.cA "Fallen")) [("BadNumber", false), ("Fallen", true)] := ⟨⟨by decide, .inl (PySem.W.mg_of X NG aC_Fallen)⟩, fun c r e => by
    simp only [List.lookup_cons] at e
    split at e
    · rename_i q; rw [eq_of_beq q]; cases e; exact exm_mk e_Fallen ic_Fallen ty_Fallen s_BadNumber_Fallen
    · split at e
      · rename_i q; rw [eq_of_beq q]; cases e; exact exm_mk e_Fallen ic_Fallen ty_Fallen s_Fallen_Fallen
      · cases e⟩
  have F_law_pen := fun_mk (st := st_law_pen) l_law_pen c_law_pen k_law_pen
  have o_law_pen := ok_law_pen (G := GG) F_law_pen b_int b_list
  have d_c_law_pen_0 : CF GG "_law_pen" 1 1 M_law_pen [] := ⟨f_law_pen, _, _, [], [], PySem.W.mg_of X NG a_law_pen, k_law_pen, o_law_pen, F_law_pen.binds fun _ _ _ _ _ _ us hl => match us, hl with | [_], _ => rfl, .nil, fun _ _ _ => .nil⟩
  have F_is_whole := fun_mk (st := st_is_whole) l_is_whole c_is_whole k_is_whole
  have o_is_whole := ok_is_whole (G := GG) F_is_whole b_bool b_int b_isinstance
  have d_c_is_whole_0 : CF GG "is_whole" 1 1 M_is_whole [] := ⟨f_is_whole, _, _, [], [], PySem.W.mg_of X NG a_is_whole, k_is_whole, o_is_whole, F_is_whole.binds fun _ _ _ _ _ _ us hl => match us, hl with | [_], _ => rfl, .nil, fun _ _ _ => .nil⟩
  have F_is_count := fun_mk (st := st_is_count) l_is_count c_is_count k_is_count
  have o_is_count := ok_is_count (G := GG) F_is_count d_c_is_whole_0
  have d_c_is_count_0 : CF GG "is_count" 2 1 M_is_count [] := ⟨f_is_count, _, _, [], [], PySem.W.mg_of X NG a_is_count, k_is_count, o_is_count, F_is_count.binds fun _ _ _ _ _ _ us hl => match us, hl with | [_], _ => rfl, .nil, fun _ _ _ => .nil⟩
  have F_Disk_init := fun_mk (st := st_Disk_init) l_Disk_init c_Disk_init k_Disk_init
  have o_Disk_init := ok_Disk_init (G := GG) F_Disk_init fl_blocks fl_fuse fl_fuse_steps fl_size fl_waiting x_BadNumber d_c_is_count_0
  have d_c_Disk_init_0 : CM GG "Disk" "Disk" 3 2 M_Disk_init [] := ⟨f_Disk_init, _, _, [], [], PySem.W.mg_of X NG aC_Disk, ⟨mk_Disk, a_Disk_init, i_Disk_init, kc_Disk⟩, o_Disk_init, F_Disk_init.binds fun _ _ _ _ _ _ us hl => match us, hl with | [_, _], _ => rfl, .nil, fun _ _ _ => .nil⟩
  have F_law_size_refused := fun_mk (st := st_law_size_refused) l_law_size_refused c_law_size_refused k_law_size_refused
  have o_law_size_refused := ok_law_size_refused (G := GG) F_law_size_refused b_bool b_isinstance h_BadNumber xf_BadNumber_number xf_BadNumber_what d_c_Disk_init_0
  have d_c_law_size_refused_0 : CF GG "_law_size_refused" 5 1 M_law_size_refused [] := ⟨f_law_size_refused, _, _, [], [], PySem.W.mg_of X NG a_law_size_refused, k_law_size_refused, o_law_size_refused, F_law_size_refused.binds fun _ _ _ _ _ _ us hl => match us, hl with | [_], _ => rfl, .nil, fun _ _ _ => .nil⟩
  have F_law_draw := fun_mk (st := st_law_draw) l_law_draw c_law_draw k_law_draw
  have o_law_draw := ok_law_draw (G := GG) F_law_draw b_int b_len
  have d_c_law_draw_0 : CF GG "_law_draw" 1 2 M_law_draw [] := ⟨f_law_draw, _, _, [], [], PySem.W.mg_of X NG a_law_draw, k_law_draw, o_law_draw, F_law_draw.binds fun _ _ _ _ _ _ us hl => match us, hl with | [_, _], _ => rfl, .nil, fun _ _ _ => .nil⟩
  have F_law_pick := fun_mk (st := st_law_pick) l_law_pick c_law_pick k_law_pick
  have o_law_pick := ok_law_pick (G := GG) F_law_pick b_len d_c_law_draw_0
  have d_c_law_pick_0 : CF GG "_law_pick" 2 2 M_law_pick [] := ⟨f_law_pick, _, _, [], [], PySem.W.mg_of X NG a_law_pick, k_law_pick, o_law_pick, F_law_pick.binds fun _ _ _ _ _ _ us hl => match us, hl with | [_, _], _ => rfl, .nil, fun _ _ _ => .nil⟩
  have F_law_disk_new := fun_mk (st := st_law_disk_new) l_law_disk_new c_law_disk_new k_law_disk_new
  have o_law_disk_new := ok_law_disk_new (G := GG) F_law_disk_new 
  have d_c_law_disk_new_0 : CF GG "_law_disk_new" 1 1 M_law_disk_new [] := ⟨f_law_disk_new, _, _, [], [], PySem.W.mg_of X NG a_law_disk_new, k_law_disk_new, o_law_disk_new, F_law_disk_new.binds fun _ _ _ _ _ _ us hl => match us, hl with | [_], _ => rfl, .nil, fun _ _ _ => .nil⟩
  have F_law_kp_lot := fun_mk (st := st_law_kp_lot) l_law_kp_lot c_law_kp_lot k_law_kp_lot
  have o_law_kp_lot := ok_law_kp_lot (G := GG) F_law_kp_lot b_list b_range d_c_law_draw_0
  have d_c_law_kp_lot_0 : CF GG "_law_kp_lot" 2 2 M_law_kp_lot [] := ⟨f_law_kp_lot, _, _, [], [], PySem.W.mg_of X NG a_law_kp_lot, k_law_kp_lot, o_law_kp_lot, F_law_kp_lot.binds fun _ _ _ _ _ _ us hl => match us, hl with | [_, _], _ => rfl, .nil, fun _ _ _ => .nil⟩
  have F_law_disk_deed := fun_mk (st := st_law_disk_deed) l_law_disk_deed c_law_disk_deed k_law_disk_deed
  have o_law_disk_deed := ok_law_disk_deed (G := GG) F_law_disk_deed b_len b_tuple d_c_law_draw_0 d_c_law_pick_0 d_c_law_kp_lot_0
  have d_c_law_disk_deed_0 : CF GG "_law_disk_deed" 3 3 M_law_disk_deed [] := ⟨f_law_disk_deed, _, _, [], [], PySem.W.mg_of X NG a_law_disk_deed, k_law_disk_deed, o_law_disk_deed, F_law_disk_deed.binds fun _ _ _ _ _ _ us hl => match us, hl with | [_, _, _], _ => rfl, .nil, fun _ _ _ => .nil⟩
  have F_law_disk_fall := fun_mk (st := st_law_disk_fall) l_law_disk_fall c_law_disk_fall k_law_disk_fall
  have o_law_disk_fall := ok_law_disk_fall (G := GG) F_law_disk_fall 
  have d_c_law_disk_fall_0 : CF GG "_law_disk_fall" 1 2 M_law_disk_fall [] := ⟨f_law_disk_fall, _, _, [], [], PySem.W.mg_of X NG a_law_disk_fall, k_law_disk_fall, o_law_disk_fall, F_law_disk_fall.binds fun _ _ _ _ _ _ us hl => match us, hl with | [_, _], _ => rfl, .nil, fun _ _ _ => .nil⟩
  have F_law_disk_steps := fun_mk (st := st_law_disk_steps) l_law_disk_steps c_law_disk_steps k_law_disk_steps
  have o_law_disk_steps := ok_law_disk_steps (G := GG) F_law_disk_steps b_len b_list b_range d_c_law_disk_fall_0
  have d_c_law_disk_steps_0 : CF GG "_law_disk_steps" 2 2 M_law_disk_steps [] := ⟨f_law_disk_steps, _, _, [], [], PySem.W.mg_of X NG a_law_disk_steps, k_law_disk_steps, o_law_disk_steps, F_law_disk_steps.binds fun _ _ _ _ _ _ us hl => match us, hl with | [_, _], _ => rfl, .nil, fun _ _ _ => .nil⟩
  have F_law_is_whole := fun_mk (st := st_law_is_whole) l_law_is_whole c_law_is_whole k_law_is_whole
  have o_law_is_whole := ok_law_is_whole (G := GG) F_law_is_whole b_bool b_int b_isinstance
  have d_c_law_is_whole_0 : CF GG "_law_is_whole" 1 1 M_law_is_whole [] := ⟨f_law_is_whole, _, _, [], [], PySem.W.mg_of X NG a_law_is_whole, k_law_is_whole, o_law_is_whole, F_law_is_whole.binds fun _ _ _ _ _ _ us hl => match us, hl with | [_], _ => rfl, .nil, fun _ _ _ => .nil⟩
  have F_law_is_place := fun_mk (st := st_law_is_place) l_law_is_place c_law_is_place k_law_is_place
  have o_law_is_place := ok_law_is_place (G := GG) F_law_is_place d_c_law_is_whole_0
  have d_c_law_is_place_0 : CF GG "_law_is_place" 2 2 M_law_is_place [] := ⟨f_law_is_place, _, _, [], [], PySem.W.mg_of X NG a_law_is_place, k_law_is_place, o_law_is_place, F_law_is_place.binds fun _ _ _ _ _ _ us hl => match us, hl with | [_, _], _ => rfl, .nil, fun _ _ _ => .nil⟩
  have F_law_is_lot := fun_mk (st := st_law_is_lot) l_law_is_lot c_law_is_lot k_law_is_lot
  have o_law_is_lot := ok_law_is_lot (G := GG) F_law_is_lot b_isinstance b_len b_list b_range b_tuple d_c_law_is_place_0
  have d_c_law_is_lot_0 : CF GG "_law_is_lot" 3 2 M_law_is_lot [] := ⟨f_law_is_lot, _, _, [], [], PySem.W.mg_of X NG a_law_is_lot, k_law_is_lot, o_law_is_lot, F_law_is_lot.binds fun _ _ _ _ _ _ us hl => match us, hl with | [_, _], _ => rfl, .nil, fun _ _ _ => .nil⟩
  have F_law_disk_due := fun_mk (st := st_law_disk_due) l_law_disk_due c_law_disk_due k_law_disk_due
  have o_law_disk_due := ok_law_disk_due (G := GG) F_law_disk_due b_bool b_isinstance b_len d_c_law_is_place_0 d_c_law_disk_steps_0 d_c_law_is_whole_0 d_c_law_is_lot_0 d_c_law_disk_fall_0
  have d_c_law_disk_due_0 : CF GG "_law_disk_due" 4 2 M_law_disk_due [] := ⟨f_law_disk_due, _, _, [], [], PySem.W.mg_of X NG a_law_disk_due, k_law_disk_due, o_law_disk_due, F_law_disk_due.binds fun _ _ _ _ _ _ us hl => match us, hl with | [_, _], _ => rfl, .nil, fun _ _ _ => .nil⟩
  have F_is_between := fun_mk (st := st_is_between) l_is_between c_is_between k_is_between
  have o_is_between := ok_is_between (G := GG) F_is_between d_c_is_whole_0
  have d_c_is_between_0 : CF GG "is_between" 2 3 M_is_between [] := ⟨f_is_between, _, _, [], [], PySem.W.mg_of X NG a_is_between, k_is_between, o_is_between, F_is_between.binds fun _ _ _ _ _ _ us hl => match us, hl with | [_, _, _], _ => rfl, .nil, fun _ _ _ => .nil⟩
  have F_Disk_need_block := fun_mk (st := st_Disk_need_block) l_Disk_need_block c_Disk_need_block k_Disk_need_block
  have o_Disk_need_block := ok_Disk_need_block (G := GG) F_Disk_need_block fl_size x_BadNumber d_c_is_between_0
  have d_c_Disk_need_block_0 : CMeth GG "need_block" "Disk" 3 2 M_Disk_need_block [] := ⟨f_Disk_need_block, _, _, [], [], cl_Disk, ⟨a_Disk_need_block, i_Disk_need_block, k_Disk_need_block⟩, o_Disk_need_block, F_Disk_need_block.binds fun _ _ _ _ _ _ us hl => match us, hl with | [_, _], _ => rfl, .nil, fun _ _ _ => .nil⟩
  have F_Disk_bear := fun_mk (st := st_Disk_bear) l_Disk_bear c_Disk_bear k_Disk_bear
  have o_Disk_bear := ok_Disk_bear (G := GG) F_Disk_bear fl_fuse fl_fuse_steps x_Fallen
  have d_c_Disk_bear_0 : CMeth GG "bear" "Disk" 3 1 M_Disk_bear [] := ⟨f_Disk_bear, _, _, [], [], cl_Disk, ⟨a_Disk_bear, i_Disk_bear, k_Disk_bear⟩, o_Disk_bear, F_Disk_bear.binds fun _ _ _ _ _ _ us hl => match us, hl with | [_], _ => rfl, .nil, fun _ _ _ => .nil⟩
  have F_Disk_write := fun_mk (st := st_Disk_write) l_Disk_write c_Disk_write k_Disk_write
  have o_Disk_write := ok_Disk_write (G := GG) F_Disk_write fl_waiting d_c_Disk_need_block_0 d_c_Disk_bear_0
  have d_c_Disk_write_0 : CMeth GG "write" "Disk" 4 3 M_Disk_write [] := ⟨f_Disk_write, _, _, [], [], cl_Disk, ⟨a_Disk_write, i_Disk_write, k_Disk_write⟩, o_Disk_write, F_Disk_write.binds fun _ _ _ _ _ _ us hl => match us, hl with | [_, _, _], _ => rfl, .nil, fun _ _ _ => .nil⟩
  have F_Disk_read := fun_mk (st := st_Disk_read) l_Disk_read c_Disk_read k_Disk_read
  have o_Disk_read := ok_Disk_read (G := GG) F_Disk_read b_reversed fl_blocks fl_waiting d_c_Disk_need_block_0
  have d_c_Disk_read_0 : CMeth GG "read" "Disk" 4 2 M_Disk_read [] := ⟨f_Disk_read, _, _, [], [], cl_Disk, ⟨a_Disk_read, i_Disk_read, k_Disk_read⟩, o_Disk_read, F_Disk_read.binds fun _ _ _ _ _ _ us hl => match us, hl with | [_, _], _ => rfl, .nil, fun _ _ _ => .nil⟩
  have F_Disk_do_writes := fun_mk (st := st_Disk_do_writes) l_Disk_do_writes c_Disk_do_writes k_Disk_do_writes
  have o_Disk_do_writes := ok_Disk_do_writes (G := GG) F_Disk_do_writes b_list b_tuple fl_blocks fl_waiting
  have d_c_Disk_do_writes_0 : CMeth GG "do_writes" "Disk" 1 2 M_Disk_do_writes [] := ⟨f_Disk_do_writes, _, _, [], [], cl_Disk, ⟨a_Disk_do_writes, i_Disk_do_writes, k_Disk_do_writes⟩, o_Disk_do_writes, F_Disk_do_writes.binds fun _ _ _ _ _ _ us hl => match us, hl with | [_, _], _ => rfl, .nil, fun _ _ _ => .nil⟩
  have F_Disk_flush := fun_mk (st := st_Disk_flush) l_Disk_flush c_Disk_flush k_Disk_flush
  have o_Disk_flush := ok_Disk_flush (G := GG) F_Disk_flush fl_waiting d_c_Disk_bear_0 d_c_Disk_do_writes_0
  have d_c_Disk_flush_0 : CMeth GG "flush" "Disk" 4 1 M_Disk_flush [] := ⟨f_Disk_flush, _, _, [], [], cl_Disk, ⟨a_Disk_flush, i_Disk_flush, k_Disk_flush⟩, o_Disk_flush, F_Disk_flush.binds fun _ _ _ _ _ _ us hl => match us, hl with | [_], _ => rfl, .nil, fun _ _ _ => .nil⟩
  have F_Disk_set_fuse := fun_mk (st := st_Disk_set_fuse) l_Disk_set_fuse c_Disk_set_fuse k_Disk_set_fuse
  have o_Disk_set_fuse := ok_Disk_set_fuse (G := GG) F_Disk_set_fuse fl_fuse fl_fuse_steps x_BadNumber d_c_is_count_0
  have d_c_Disk_set_fuse_0 : CMeth GG "set_fuse" "Disk" 3 2 M_Disk_set_fuse [] := ⟨f_Disk_set_fuse, _, _, [], [], cl_Disk, ⟨a_Disk_set_fuse, i_Disk_set_fuse, k_Disk_set_fuse⟩, o_Disk_set_fuse, F_Disk_set_fuse.binds fun _ _ _ _ _ _ us hl => match us, hl with | [_, _], _ => rfl, .nil, fun _ _ _ => .nil⟩
  have F_Disk_spoil := fun_mk (st := st_Disk_spoil) l_Disk_spoil c_Disk_spoil k_Disk_spoil
  have o_Disk_spoil := ok_Disk_spoil (G := GG) F_Disk_spoil b_list b_tuple fl_blocks d_c_Disk_need_block_0
  have d_c_Disk_spoil_0 : CMeth GG "spoil" "Disk" 4 3 M_Disk_spoil [] := ⟨f_Disk_spoil, _, _, [], [], cl_Disk, ⟨a_Disk_spoil, i_Disk_spoil, k_Disk_spoil⟩, o_Disk_spoil, F_Disk_spoil.binds fun _ _ _ _ _ _ us hl => match us, hl with | [_, _, _], _ => rfl, .nil, fun _ _ _ => .nil⟩
  have F_is_list := fun_mk (st := st_is_list) l_is_list c_is_list k_is_list
  have o_is_list := ok_is_list (G := GG) F_is_list b_isinstance b_list b_tuple
  have d_c_is_list_0 : CF GG "is_list" 1 1 M_is_list [] := ⟨f_is_list, _, _, [], [], PySem.W.mg_of X NG a_is_list, k_is_list, o_is_list, F_is_list.binds fun _ _ _ _ _ _ us hl => match us, hl with | [_], _ => rfl, .nil, fun _ _ _ => .nil⟩
  have F_Disk_fall := fun_mk (st := st_Disk_fall) l_Disk_fall c_Disk_fall k_Disk_fall
  have o_Disk_fall := ok_Disk_fall (G := GG) F_Disk_fall b_all b_any b_len b_zip fl_waiting x_BadNumber d_c_is_list_0 d_c_is_between_0 d_c_Disk_do_writes_0 d_c_Disk_set_fuse_0
  have d_c_Disk_fall_0 : CMeth GG "fall" "Disk" 4 2 M_Disk_fall [] := ⟨f_Disk_fall, _, _, [], [], cl_Disk, ⟨a_Disk_fall, i_Disk_fall, k_Disk_fall⟩, o_Disk_fall, F_Disk_fall.binds fun _ _ _ _ _ _ us hl => match us, hl with | [_, _], _ => rfl, .nil, fun _ _ _ => .nil⟩
  have F_Disk_wipe := fun_mk (st := st_Disk_wipe) l_Disk_wipe c_Disk_wipe k_Disk_wipe
  have o_Disk_wipe := ok_Disk_wipe (G := GG) F_Disk_wipe fl_blocks fl_size fl_waiting d_c_Disk_set_fuse_0
  have d_c_Disk_wipe_0 : CMeth GG "wipe" "Disk" 4 1 M_Disk_wipe [] := ⟨f_Disk_wipe, _, _, [], [], cl_Disk, ⟨a_Disk_wipe, i_Disk_wipe, k_Disk_wipe⟩, o_Disk_wipe, F_Disk_wipe.binds fun _ _ _ _ _ _ us hl => match us, hl with | [_], _ => rfl, .nil, fun _ _ _ => .nil⟩
  have F_law_disk_told := fun_mk (st := st_law_disk_told) l_law_disk_told c_law_disk_told k_law_disk_told
  have o_law_disk_told := ok_law_disk_told (G := GG) F_law_disk_told b_bool b_isinstance b_list h_BadNumber h_Fallen xf_BadNumber_number xf_BadNumber_what xf_Fallen_steps d_c_Disk_write_0 d_c_Disk_read_0 d_c_Disk_flush_0 d_c_Disk_set_fuse_0 d_c_Disk_spoil_0 d_c_Disk_fall_0 d_c_Disk_wipe_0
  have d_c_law_disk_told_0 : CF GG "_law_disk_told" 5 2 M_law_disk_told [] := ⟨f_law_disk_told, _, _, [], [], PySem.W.mg_of X NG a_law_disk_told, k_law_disk_told, o_law_disk_told, F_law_disk_told.binds fun _ _ _ _ _ _ us hl => match us, hl with | [_, _], _ => rfl, .nil, fun _ _ _ => .nil⟩
  have F_law_disk_is := fun_mk (st := st_law_disk_is) l_law_disk_is c_law_disk_is k_law_disk_is
  have o_law_disk_is := ok_law_disk_is (G := GG) F_law_disk_is b_isinstance b_len b_list b_tuple fl_blocks fl_size fl_waiting
  have d_c_law_disk_is_0 : CF GG "_law_disk_is" 1 2 M_law_disk_is [] := ⟨f_law_disk_is, _, _, [], [], PySem.W.mg_of X NG a_law_disk_is, k_law_disk_is, o_law_disk_is, F_law_disk_is.binds fun _ _ _ _ _ _ us hl => match us, hl with | [_, _], _ => rfl, .nil, fun _ _ _ => .nil⟩
  have F_law := fun_mk (st := st_law) l_law c_law k_law
  have o_law := ok_law (G := GG) F_law b_len b_range d_c_law_pen_0 d_c_law_size_refused_0 d_c_law_pick_0 d_c_law_draw_0 d_c_law_disk_new_0 d_c_Disk_init_0 d_c_law_disk_deed_0 d_c_law_disk_due_0 d_c_law_disk_told_0 d_c_law_disk_is_0
  exact o_law.imp fun vs H Q E z => z cA
theorem walk {l : PySem.W.OpenLaw} {q : Program} {loose : List Str} {XP : (Str → Option Value) → Heap → Prop} {YP : World → Heap → Prop} {d : DefRec} {K : Params → PySem.W.Frag} (hn : l.most = some 63) (hdf : d.params.defaults = []) (hY : ∀ (w : World) (h : Heap), YP w h → (K w.params).In h)
    (F : ∀ (w : World) (mg : Str → Option Value) (fa : Addr) (h : Heap), (K w.params).In h → h.Ns mainGlobals mg → mg d.name = some (.ref fa) → ∃ fd : FuncData, (∀ (s : Shared) (v : Value), BindsTo s fd ⟨[v], []⟩ [("_law_script", v)]) ∧ ∀ base : Heap, (K w.params).In base → base.Ns mainGlobals mg → FnOk l.prog w (K w.params) mg base (L2.CX l.prog w) 6 fa fd ["_law_script"] (spL (K w.params) M_law)) :
    PySem.W.WalkO q loose XP YP l.row.toRowW d [] (fun f vs => PySem.call f vs) :=
  L2.walk_of (n := 63) (k := 6) (x := "_law_script") (CX := fun w => L2.CX l.prog w) (sp := fun w => spL (K w.params) M_law) hn (by decide) hdf ⟨rfl, by decide, by decide⟩ hY F (fun _ H a ns hl hO hS cA => Kf.law_sp law_sp H a ns hl hO hS) fun _ _ _ _ _ z => by
    obtain ⟨_, _, _, _, _, _, _, _, _, _, _, _, z⟩ := z
    exact z
end Kq
end
section
open PySem PySem.W PyProof.Rows in
set_option maxRecDepth 100000 in
set_option maxHeartbeats 0 in
theorem PySem.Challenge.cw_keptfiles_k04_whole_disks_holds : PySem.Challenge.rw_keptfiles_k04_whole_disks.Holds := by
  w_on; o_law; k_head; (case hw => w_witness2)
  k_fill
  refine Kq.walk (l := PySem.Challenge.rw_keptfiles_k04_whole_disks) rfl rfl (fun w h Y => PySem.W.kIn_of Y) ?F
  case F =>
    intro w mg fa h KX NG hmg
    refine' Kq.all_mk KX NG hmg ?aC_Disk ?aC_BadNumber ?aC_Fallen ?pg_Disk ?hd_Disk ?po_Disk ?sa_Disk ?mk_Disk ?kc_Disk ?n_Disk_blocks ?n_Disk_fuse ?n_Disk_fuse_steps ?n_Disk_size ?n_Disk_waiting ?x_BadNumber ?r_BadNumber ?sa_BadNumber ?kc_BadNumber ?a_BadNumber_init ?l_BadNumber_init ?c_BadNumber_init ?k_BadNumber_init ?t_BadNumber_init ?n_BadNumber_what ?n_BadNumber_number ?e_BadNumber ?ty_BadNumber ?ic_BadNumber ?ga_BadNumber ?gg_BadNumber ?hd_BadNumber ?x_Fallen ?r_Fallen ?sa_Fallen ?kc_Fallen ?a_Fallen_init ?l_Fallen_init ?c_Fallen_init ?k_Fallen_init ?t_Fallen_init ?n_Fallen_steps ?e_Fallen ?ty_Fallen ?ic_Fallen ?ga_Fallen ?gg_Fallen ?hd_Fallen ?s_BadNumber_BadNumber ?s_Fallen_BadNumber ?s_BadNumber_Fallen ?s_Fallen_Fallen ?a_law_pen ?l_law_pen ?c_law_pen ?k_law_pen ?a_is_whole ?l_is_whole ?c_is_whole ?k_is_whole ?a_is_count ?l_is_count ?c_is_count ?k_is_count ?a_Disk_init ?l_Disk_init ?c_Disk_init ?k_Disk_init ?i_Disk_init ?a_law_size_refused ?l_law_size_refused ?c_law_size_refused ?k_law_size_refused ?a_law_draw ?l_law_draw ?c_law_draw ?k_law_draw ?a_law_pick ?l_law_pick ?c_law_pick ?k_law_pick ?a_law_disk_new ?l_law_disk_new ?c_law_disk_new ?k_law_disk_new ?a_law_kp_lot ?l_law_kp_lot ?c_law_kp_lot ?k_law_kp_lot ?a_law_disk_deed ?l_law_disk_deed ?c_law_disk_deed ?k_law_disk_deed ?a_law_disk_fall ?l_law_disk_fall ?c_law_disk_fall ?k_law_disk_fall ?a_law_disk_steps ?l_law_disk_steps ?c_law_disk_steps ?k_law_disk_steps ?a_law_is_whole ?l_law_is_whole ?c_law_is_whole ?k_law_is_whole ?a_law_is_place ?l_law_is_place ?c_law_is_place ?k_law_is_place ?a_law_is_lot ?l_law_is_lot ?c_law_is_lot ?k_law_is_lot ?a_law_disk_due ?l_law_disk_due ?c_law_disk_due ?k_law_disk_due ?a_is_between ?l_is_between ?c_is_between ?k_is_between ?a_Disk_need_block ?l_Disk_need_block ?c_Disk_need_block ?k_Disk_need_block ?i_Disk_need_block ?a_Disk_bear ?l_Disk_bear ?c_Disk_bear ?k_Disk_bear ?i_Disk_bear ?a_Disk_write ?l_Disk_write ?c_Disk_write ?k_Disk_write ?i_Disk_write ?a_Disk_read ?l_Disk_read ?c_Disk_read ?k_Disk_read ?i_Disk_read ?a_Disk_do_writes ?l_Disk_do_writes ?c_Disk_do_writes ?k_Disk_do_writes ?i_Disk_do_writes ?a_Disk_flush ?l_Disk_flush ?c_Disk_flush ?k_Disk_flush ?i_Disk_flush ?a_Disk_set_fuse ?l_Disk_set_fuse ?c_Disk_set_fuse ?k_Disk_set_fuse ?i_Disk_set_fuse ?a_Disk_spoil ?l_Disk_spoil ?c_Disk_spoil ?k_Disk_spoil ?i_Disk_spoil ?a_is_list ?l_is_list ?c_is_list ?k_is_list ?a_Disk_fall ?l_Disk_fall ?c_Disk_fall ?k_Disk_fall ?i_Disk_fall ?a_Disk_wipe ?l_Disk_wipe ?c_Disk_wipe ?k_Disk_wipe ?i_Disk_wipe ?a_law_disk_told ?l_law_disk_told ?c_law_disk_told ?k_law_disk_told ?a_law_disk_is ?l_law_disk_is ?c_law_disk_is ?k_law_disk_is ?a_law ?l_law ?c_law ?k_law ?z_int ?z_list ?z_bool ?z_isinstance ?z_len ?z_range ?z_tuple ?z_reversed ?z_all ?z_any ?z_zip
    (case aC_Disk => k_is)
    (case aC_BadNumber => k_is)
    (case aC_Fallen => k_is)
    (case pg_Disk => k_is)
    (case hd_Disk => k_is)
    (case po_Disk => k_is)
    (case sa_Disk => k_is)
    (case mk_Disk => k_is)
    (case kc_Disk => k_is)
    (case n_Disk_blocks => k_is)
    (case n_Disk_fuse => k_is)
    (case n_Disk_fuse_steps => k_is)
    (case n_Disk_size => k_is)
    (case n_Disk_waiting => k_is)
    (case x_BadNumber => k_is)
    (case r_BadNumber => decide +kernel)
    (case sa_BadNumber => k_is)
    (case kc_BadNumber => k_is)
    (case a_BadNumber_init => k_is)
    (case l_BadNumber_init => k_is)
    (case c_BadNumber_init => k_is)
    (case k_BadNumber_init => k_is)
    (case t_BadNumber_init => k_is)
    (case n_BadNumber_what => k_is)
    (case n_BadNumber_number => k_is)
    (case e_BadNumber => k_is)
    (case ty_BadNumber => k_is)
    (case ic_BadNumber => k_is)
    (case ga_BadNumber => k_is)
    (case gg_BadNumber => k_is)
    (case hd_BadNumber => k_is)
    (case x_Fallen => k_is)
    (case r_Fallen => decide +kernel)
    (case sa_Fallen => k_is)
    (case kc_Fallen => k_is)
    (case a_Fallen_init => k_is)
    (case l_Fallen_init => k_is)
    (case c_Fallen_init => k_is)
    (case k_Fallen_init => k_is)
    (case t_Fallen_init => k_is)
    (case n_Fallen_steps => k_is)
    (case e_Fallen => k_is)
    (case ty_Fallen => k_is)
    (case ic_Fallen => k_is)
    (case ga_Fallen => k_is)
    (case gg_Fallen => k_is)
    (case hd_Fallen => k_is)
    (case s_BadNumber_BadNumber => k_is)
    (case s_Fallen_BadNumber => k_is)
    (case s_BadNumber_Fallen => k_is)
    (case s_Fallen_Fallen => k_is)
    (case a_law_pen => k_is)
    (case l_law_pen => k_is)
    (case c_law_pen => k_is)
    (case k_law_pen => k_is)
    (case a_is_whole => k_is)
    (case l_is_whole => k_is)
    (case c_is_whole => k_is)
    (case k_is_whole => k_is)
    (case a_is_count => k_is)
    (case l_is_count => k_is)
    (case c_is_count => k_is)
    (case k_is_count => k_is)
    (case a_Disk_init => k_is)
    (case l_Disk_init => k_is)
    (case c_Disk_init => k_is)
    (case k_Disk_init => k_is)
    (case i_Disk_init => k_is)
    (case a_law_size_refused => k_is)
    (case l_law_size_refused => k_is)
    (case c_law_size_refused => k_is)
    (case k_law_size_refused => k_is)
    (case a_law_draw => k_is)
    (case l_law_draw => k_is)
    (case c_law_draw => k_is)
    (case k_law_draw => k_is)
    (case a_law_pick => k_is)
    (case l_law_pick => k_is)
    (case c_law_pick => k_is)
    (case k_law_pick => k_is)
    (case a_law_disk_new => k_is)
    (case l_law_disk_new => k_is)
    (case c_law_disk_new => k_is)
    (case k_law_disk_new => k_is)
    (case a_law_kp_lot => k_is)
    (case l_law_kp_lot => k_is)
    (case c_law_kp_lot => k_is)
    (case k_law_kp_lot => k_is)
    (case a_law_disk_deed => k_is)
    (case l_law_disk_deed => k_is)
    (case c_law_disk_deed => k_is)
    (case k_law_disk_deed => k_is)
    (case a_law_disk_fall => k_is)
    (case l_law_disk_fall => k_is)
    (case c_law_disk_fall => k_is)
    (case k_law_disk_fall => k_is)
    (case a_law_disk_steps => k_is)
    (case l_law_disk_steps => k_is)
    (case c_law_disk_steps => k_is)
    (case k_law_disk_steps => k_is)
    (case a_law_is_whole => k_is)
    (case l_law_is_whole => k_is)
    (case c_law_is_whole => k_is)
    (case k_law_is_whole => k_is)
    (case a_law_is_place => k_is)
    (case l_law_is_place => k_is)
    (case c_law_is_place => k_is)
    (case k_law_is_place => k_is)
    (case a_law_is_lot => k_is)
    (case l_law_is_lot => k_is)
    (case c_law_is_lot => k_is)
    (case k_law_is_lot => k_is)
    (case a_law_disk_due => k_is)
    (case l_law_disk_due => k_is)
    (case c_law_disk_due => k_is)
    (case k_law_disk_due => k_is)
    (case a_is_between => k_is)
    (case l_is_between => k_is)
    (case c_is_between => k_is)
    (case k_is_between => k_is)
    (case a_Disk_need_block => k_is)
    (case l_Disk_need_block => k_is)
    (case c_Disk_need_block => k_is)
    (case k_Disk_need_block => k_is)
    (case i_Disk_need_block => k_is)
    (case a_Disk_bear => k_is)
    (case l_Disk_bear => k_is)
    (case c_Disk_bear => k_is)
    (case k_Disk_bear => k_is)
    (case i_Disk_bear => k_is)
    (case a_Disk_write => k_is)
    (case l_Disk_write => k_is)
    (case c_Disk_write => k_is)
    (case k_Disk_write => k_is)
    (case i_Disk_write => k_is)
    (case a_Disk_read => k_is)
    (case l_Disk_read => k_is)
    (case c_Disk_read => k_is)
    (case k_Disk_read => k_is)
    (case i_Disk_read => k_is)
    (case a_Disk_do_writes => k_is)
    (case l_Disk_do_writes => k_is)
    (case c_Disk_do_writes => k_is)
    (case k_Disk_do_writes => k_is)
    (case i_Disk_do_writes => k_is)
    (case a_Disk_flush => k_is)
    (case l_Disk_flush => k_is)
    (case c_Disk_flush => k_is)
    (case k_Disk_flush => k_is)
    (case i_Disk_flush => k_is)
    (case a_Disk_set_fuse => k_is)
    (case l_Disk_set_fuse => k_is)
    (case c_Disk_set_fuse => k_is)
    (case k_Disk_set_fuse => k_is)
    (case i_Disk_set_fuse => k_is)
    (case a_Disk_spoil => k_is)
    (case l_Disk_spoil => k_is)
    (case c_Disk_spoil => k_is)
    (case k_Disk_spoil => k_is)
    (case i_Disk_spoil => k_is)
    (case a_is_list => k_is)
    (case l_is_list => k_is)
    (case c_is_list => k_is)
    (case k_is_list => k_is)
    (case a_Disk_fall => k_is)
    (case l_Disk_fall => k_is)
    (case c_Disk_fall => k_is)
    (case k_Disk_fall => k_is)
    (case i_Disk_fall => k_is)
    (case a_Disk_wipe => k_is)
    (case l_Disk_wipe => k_is)
    (case c_Disk_wipe => k_is)
    (case k_Disk_wipe => k_is)
    (case i_Disk_wipe => k_is)
    (case a_law_disk_told => k_is)
    (case l_law_disk_told => k_is)
    (case c_law_disk_told => k_is)
    (case k_law_disk_told => k_is)
    (case a_law_disk_is => k_is)
    (case l_law_disk_is => k_is)
    (case c_law_disk_is => k_is)
    (case k_law_disk_is => k_is)
    (case a_law => k_is)
    (case l_law => k_is)
    (case c_law => k_is)
    (case k_law => k_is)
    (case z_int => k_is)
    (case z_list => k_is)
    (case z_bool => k_is)
    (case z_isinstance => k_is)
    (case z_len => k_is)
    (case z_range => k_is)
    (case z_tuple => k_is)
    (case z_reversed => k_is)
    (case z_all => k_is)
    (case z_any => k_is)
    (case z_zip => k_is)
end
