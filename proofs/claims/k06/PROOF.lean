import PyProof.Rows.All
import HandS.ForMost
import HandS.Exc
import HandS.TryOnly
import HandS.TryMany
import HandS.ExcOwn
import HandS.ExcInit
import HandS.ExcField
import HandS.CallSlots
import HandS.IsInst
import HandS.Walk
import HandS.Wide
import HandS.TupAny
import HandS.TupMul
import HandS.Zip
import HandS.Conv
import HandS.EndBits
import HandS.RaiseMore
import KE.GoesZip
import KE.GoesEnum
import KE.GoesMore
import HandS.Lambda
import HandS.EndTab
import HandS.ExcIs
import HandS.Deep
import HandS.RevRange
import KE.GoesSet
import HandS.Strs
import HandS.Style
import HandS.Star
import KE.KTupSum
import HandS.Defaults
import HandS.MakeKwOnly
import HandS.TupLen
import KE.KTryMore
import KE.KExcIs
import PyProof.ReprLen
import PyProof.FitsInt
import PySem.Challenge.RW_pedalrounds_k06_whole_faults_of_lengths
set_option Elab.async false
set_option linter.all false
set_option maxRecDepth 100000
set_option maxHeartbeats 2000000
/-! A layer of data over the hand layer: what a def computes is said by a plain function on data, the heap is out of sight. -/
namespace Dl
open PySem L2

/-! ### values, results -/
/-- what a name or an expression holds: data; the n-th object of the changing world; a list that a slot owns; a caught exception -/
inductive Val where
  | d (x : PyData)
  | ref (n : Nat)
  | own (xs : List PyData)
  | exc (c : Nat) (fs : List PyData)
  | ownd (t : Bool) (ks : List (List Int)) (ds : List PyData)
abbrev Rho := List (Option Val)
inductive Res (S α : Type) where
  | ok (a : α) (s : S)
  | exc (c : Nat) (fs : List PyData) (s : S)
  | stuck
def Res.bind {S α β : Type} : Res S α → (α → S → Res S β) → Res S β
  | .ok a s, f => f a s
  | .exc c fs s, _ => .exc c fs s
  | .stuck, _ => .stuck

/-- the changing part of the heap: its objects, their handles -/
structure Mw where
  h : Hp
  ad : Nat → Option Addr
/-- a kind of world: its states, how a state lies in the heap; the classes of errors: where they stand, their fields -/
structure Uni where
  S : Type
  R : S → Mw → Prop
  cl : Nat → Option (Addr × List Str)

/-! ### data in the heap -/
def kD : Key → PyData
  | .inl i => .int i
  | .inr x => .str x
mutual
inductive Rp (K : PySem.W.Frag) (I : Hp) : V → PyData → Prop
  | non : Rp K I .non .none
  | bl (b : Bool) : Rp K I (.bl b) (.bool b)
  | int (i : Int) : Rp K I (.int i) (.int i)
  | str (x : Str) : Rp K I (.str x) (.str x)
  | lst {a : Addr} {xs : List V} {ds : List PyData} : I a = some (.lst xs) → RpAll K I xs ds → Rp K I (.ref a) (.list ds)
  | tup {a : Addr} {xs : List V} {ds : List PyData} : SqT K I a xs → RpAll K I xs ds → Rp K I (.ref a) (.tuple ds)
  | dct {a : Addr} {ks : List Key} {xs : List V} {ds : List PyData} : I a = some (.dK (ks.zip xs)) → ks.length = xs.length → RpAll K I xs ds → Rp K I (.ref a) (.dict ((ks.map kD).zip ds))
inductive RpAll (K : PySem.W.Frag) (I : Hp) : List V → List PyData → Prop
  | nil : RpAll K I [] []
  | cons {x : V} {xs : List V} {d : PyData} {ds : List PyData} : Rp K I x d → RpAll K I xs ds → RpAll K I (x :: xs) (d :: ds)
end
theorem sqL_mono {K : PySem.W.Frag} {I J : Hp} {a : Addr} {xs : List V} (e : Same I J) (h : SqL K I a xs) : SqL K J a xs := e.seq h
theorem sqT_mono {K : PySem.W.Frag} {I J : Hp} {a : Addr} {xs : List V} (e : Same I J) (h : SqT K I a xs) : SqT K J a xs := by
  rcases h with (h | ⟨o, h⟩) | h
  · exact .inl (.inl (e _ _ h))
  · exact .inl (.inr ⟨o, e _ _ h⟩)
  · exact .inr h
mutual
theorem Rp.mono {K : PySem.W.Frag} {I J : Hp} (e : Same I J) : ∀ {x : V} {d : PyData}, Rp K I x d → Rp K J x d
  | _, _, .non => .non
  | _, _, .bl b => .bl b
  | _, _, .int i => .int i
  | _, _, .str x => .str x
  | _, _, .lst h r => .lst (e _ _ h) (RpAll.mono e r)
  | _, _, .tup h r => .tup (sqT_mono e h) (RpAll.mono e r)
  | _, _, .dct h l r => .dct (e _ _ h) l (RpAll.mono e r)
theorem RpAll.mono {K : PySem.W.Frag} {I J : Hp} (e : Same I J) : ∀ {xs : List V} {ds : List PyData}, RpAll K I xs ds → RpAll K J xs ds
  | _, _, .nil => .nil
  | _, _, .cons h r => .cons (Rp.mono e h) (RpAll.mono e r)
end

/-! ### how the heap goes on -/
structure Grow (I : Hp) (M : Mw) (H : Hp) (I' : Hp) (M' : Mw) (H' : Hp) : Prop where
  i : Same I I'
  ni : ∀ a, H a ≠ none → I' a ≠ none → I a ≠ none
  nm : ∀ a, H a ≠ none → M'.h a ≠ none → M.h a ≠ none
  kp : ∀ a o, H a = some o → M.h a = none → H' a = some o
  th : ∀ a, H a ≠ none → H' a ≠ none
  ad : ∀ n a, M.ad n = some a → M'.ad n = some a
structure Ok (I : Hp) (M : Mw) (H : Hp) : Prop where
  ih : Same I H
  mh : Same M.h H
  dj : ∀ a, I a ≠ none → M.h a = none
theorem Grow.refl (I : Hp) (M : Mw) (H : Hp) : Grow I M H I M H := ⟨Same.refl I, fun _ _ h => h, fun _ _ h => h, fun _ _ h _ => h, fun _ h => h, fun _ _ h => h⟩
theorem ne_none_of {α : Type} {o : Option α} {x : α} (h : o = some x) : o ≠ none := by rw [h]; exact fun z => nomatch z
theorem some_of_ne {α : Type} {o : Option α} (h : o ≠ none) : ∃ x, o = some x := by
  cases o with
  | none => exact absurd rfl h
  | some x => exact ⟨x, rfl⟩
theorem Grow.trans {I I1 I2 : Hp} {M M1 M2 : Mw} {H H1 H2 : Hp} (a : Grow I M H I1 M1 H1) (b : Grow I1 M1 H1 I2 M2 H2) : Grow I M H I2 M2 H2 where
  i := a.i.trans b.i
  ni := fun x h z => a.ni x h (b.ni x (a.th x h) z)
  nm := fun x h z => a.nm x h (b.nm x (a.th x h) z)
  kp := fun x o h m => by
    have h1 := a.kp x o h m
    refine b.kp x o h1 ?_
    cases z : M1.h x with
    | none => rfl
    | some u => exact absurd m (a.nm x (ne_none_of h) (ne_none_of z))
  th := fun x h => b.th x (a.th x h)
  ad := fun n x h => b.ad n x (a.ad n x h)
/-- a new unchanging object -/
theorem Grow.alloc {I : Hp} {M : Mw} {H : Hp} {p : Addr} {o : HO} (k : Ok I M H) (h : H p = none) : Grow I M H (upd I p o) M (upd H p o) ∧ Ok (upd I p o) M (upd H p o) := by
  have ip : I p = none := k.ih.free h
  have mp : M.h p = none := k.mh.free h
  refine ⟨⟨fun a u e => ?_, fun a e z => ?_, fun _ _ z => z, fun a u e _ => ?_, fun a e z => ?_, fun _ _ z => z⟩, ⟨fun a u e => ?_, fun a u e => ?_, fun a e => ?_⟩⟩
  · rw [upd_ne (ne_of_none e ip)]; exact e
  · by_cases ha : a = p
    · subst ha; exact absurd h e
    · rw [upd_ne ha] at z; exact z
  · rw [upd_ne (ne_of_none e h)]; exact e
  · by_cases ha : a = p
    · subst ha; rw [upd_same] at z; cases z
    · rw [upd_ne ha] at z; exact e z
  · by_cases ha : a = p
    · subst ha; rw [upd_same] at e ⊢; exact e
    · rw [upd_ne ha] at e ⊢; exact k.ih a u e
  · rw [upd_ne (fun z => by rw [z, mp] at e; cases e)]; exact k.mh a u e
  · by_cases ha : a = p
    · subst ha; exact mp
    · rw [upd_ne ha] at e; exact k.dj a e
/-- a new object that a slot will own -/
theorem Grow.allocO {I : Hp} {M : Mw} {H : Hp} {p : Addr} {o : HO} (k : Ok I M H) (h : H p = none) : Grow I M H I M (upd H p o) ∧ Ok I M (upd H p o) := by
  have ip : I p = none := k.ih.free h
  have mp : M.h p = none := k.mh.free h
  refine ⟨⟨Same.refl I, fun _ _ z => z, fun _ _ z => z, fun a u e _ => ?_, fun a e z => ?_, fun _ _ z => z⟩, ⟨fun a u e => ?_, fun a u e => ?_, k.dj⟩⟩
  · rw [upd_ne (ne_of_none e h)]; exact e
  · by_cases ha : a = p
    · subst ha; rw [upd_same] at z; cases z
    · rw [upd_ne ha] at z; exact e z
  · rw [upd_ne (fun z => by rw [z, ip] at e; cases e)]; exact k.ih a u e
  · rw [upd_ne (fun z => by rw [z, mp] at e; cases e)]; exact k.mh a u e

/-! ### a value in the heap -/
/-- a dict of a slot's own: its keys are ints, or tuples of ints -/
def dHO (t : Bool) (ks : List (List Int)) (vs : List V) : HO := if t then .dT ((ks.map fun k => k.map Sum.inl).zip vs) else .dK ((ks.map fun k => Sum.inl (k.headD 0)).zip vs)
theorem dHO_lst {t : Bool} {ks : List (List Int)} {vs us : List V} (h : some (dHO t ks vs) = some (HO.lst us)) : False := by
  cases t <;> simp [dHO] at h
def VR (K : PySem.W.Frag) (I : Hp) (M : Mw) (H : Hp) (x : V) : Val → Prop
  | .d d => Rp K I x d
  | .ref n => ∃ a, M.ad n = some a ∧ x = .ref a
  | .own ds => ∃ p vs, x = .ref p ∧ H p = some (.lst vs) ∧ I p = none ∧ M.h p = none ∧ RpAll K I vs ds
  | .exc _ _ => ∃ a, x = .ref a
  | .ownd t ks ds => ∃ p vs, x = .ref p ∧ H p = some (dHO t ks vs) ∧ I p = none ∧ M.h p = none ∧ ks.length = vs.length ∧ RpAll K I vs ds
theorem VR.grow {K : PySem.W.Frag} {I I' : Hp} {M M' : Mw} {H H' : Hp} {x : V} (g : Grow I M H I' M' H') : ∀ {v : Val}, VR K I M H x v → VR K I' M' H' x v
  | .d _, h => Rp.mono g.i h
  | .ref _, ⟨a, h, e⟩ => ⟨a, g.ad _ _ h, e⟩
  | .own _, ⟨p, vs, e, h, i, m, r⟩ => by
    refine ⟨p, vs, e, g.kp _ _ h m, ?_, ?_, r.mono g.i⟩
    · cases z : I' p with
      | none => rfl
      | some u => exact absurd i (g.ni p (ne_none_of h) (ne_none_of z))
    · cases z : M'.h p with
      | none => rfl
      | some u => exact absurd m (g.nm p (ne_none_of h) (ne_none_of z))
  | .exc _ _, h => h
  | .ownd _ _ _, ⟨p, vs, e, h, i, m, l, r⟩ => by
    refine ⟨p, vs, e, g.kp _ _ h m, ?_, ?_, l, r.mono g.i⟩
    · cases z : I' p with
      | none => rfl
      | some u => exact absurd i (g.ni p (ne_none_of h) (ne_none_of z))
    · cases z : M'.h p with
      | none => rfl
      | some u => exact absurd m (g.nm p (ne_none_of h) (ne_none_of z))
inductive VRs (K : PySem.W.Frag) (I : Hp) (M : Mw) (H : Hp) : List V → List Val → Prop
  | nil : VRs K I M H [] []
  | cons {x : V} {xs : List V} {v : Val} {vs : List Val} : VR K I M H x v → VRs K I M H xs vs → VRs K I M H (x :: xs) (v :: vs)
theorem VRs.grow {K : PySem.W.Frag} {I I' : Hp} {M M' : Mw} {H H' : Hp} (g : Grow I M H I' M' H') : ∀ {xs : List V} {vs : List Val}, VRs K I M H xs vs → VRs K I' M' H' xs vs
  | _, _, .nil => .nil
  | _, _, .cons h r => .cons (h.grow g) (VRs.grow g r)

/-! ### the slots -/
structure Base where
  I : Hp
  M : Mw
  H : Hp
structure Fit (U : Uni) (K : PySem.W.Frag) (Z : Base) (σ : L2.St) (ρ : Rho) (st : U.S) (I : Hp) (M : Mw) (H : Hp) : Prop where
  g : Grow Z.I Z.M Z.H I M H
  ok : Ok I M H
  rs : U.R st M
  len : ρ.length = σ.length
  env : ∀ (i : Nat) v, ρ[i]? = some (some v) → ∃ x, σ[i]? = some (some x) ∧ VR K I M H x v
  new : ∀ (i : Nat) ds p, ρ[i]? = some (some (.own ds)) → σ[i]? = some (some (.ref p)) → Z.H p = none
  sep : ∀ (i j : Nat) ds es p, ρ[i]? = some (some (.own ds)) → ρ[j]? = some (some (.own es)) → σ[i]? = some (some (.ref p)) → σ[j]? = some (some (.ref p)) → i = j
  newd : ∀ (i : Nat) t ks ds p, ρ[i]? = some (some (.ownd t ks ds)) → σ[i]? = some (some (.ref p)) → Z.H p = none
  sepd : ∀ (i j : Nat) t ks ds t' ks' es p, ρ[i]? = some (some (.ownd t ks ds)) → ρ[j]? = some (some (.ownd t' ks' es)) → σ[i]? = some (some (.ref p)) → σ[j]? = some (some (.ref p)) → i = j
theorem Fit.grow {U : Uni} {K : PySem.W.Frag} {Z : Base} {σ : L2.St} {ρ : Rho} {st st' : U.S} {I I' : Hp} {M M' : Mw} {H H' : Hp} (f : Fit U K Z σ ρ st I M H) (g : Grow I M H I' M' H') (k : Ok I' M' H') (r : U.R st' M') : Fit U K Z σ ρ st' I' M' H' :=
  ⟨f.g.trans g, k, r, f.len, fun i v e => let ⟨x, h, q⟩ := f.env i v e; ⟨x, h, q.grow g⟩, f.new, f.sep, f.newd, f.sepd⟩

/-! ### what is wanted behind an expression -/
/-- an exception of the c-th class, its fields -/
def XR (U : Uni) (K : PySem.W.Frag) (I : Hp) (c : Nat) (fs : List PyData) (cls : Value) (d : Option Addr) : Prop :=
  ∃ C nms dd vs, U.cl c = some (C, nms) ∧ cls = .ref C ∧ d = some dd ∧ I dd = some (.xd (nms.zip vs)) ∧ nms.length = vs.length ∧ RpAll K I vs fs
def Post (U : Uni) (K : PySem.W.Frag) {α β : Type} (rel : Hp → Mw → Hp → β → α → Prop) (r : Res U.S α) (I : Hp) (M : Mw) (H : Hp) (Q : β → Hp → Prop) (E : XK) : Prop :=
  match r with
  | .ok a st => ∀ x I' M' H', Grow I M H I' M' H' → Ok I' M' H' → U.R st M' → rel I' M' H' x a → Q x H'
  | .exc c fs st => ∀ cls d I' M' H', Grow I M H I' M' H' → Ok I' M' H' → U.R st M' → XR U K I' c fs cls d → E cls d H'
  | .stuck => False
section
variable {U : Uni} {K : PySem.W.Frag} {α β γ δ : Type} {rel : Hp → Mw → Hp → β → α → Prop} {rel' : Hp → Mw → Hp → δ → γ → Prop} {I I1 : Hp} {M M1 : Mw} {H H1 : Hp} {E : XK}
theorem Post.shift {r : Res U.S α} {Q : β → Hp → Prop} (g : Grow I M H I1 M1 H1) (h : Post U K rel r I M H Q E) : Post U K rel r I1 M1 H1 Q E := by
  cases r with
  | ok a st => exact fun x I' M' H' g' k r q => h x I' M' H' (g.trans g') k r q
  | exc c fs st => exact fun cls d I' M' H' g' k r q => h cls d I' M' H' (g.trans g') k r q
  | stuck => exact h
theorem Post.mono {r : Res U.S α} {Q Q' : β → Hp → Prop} (h : Post U K rel r I M H Q E) (m : ∀ x H', Q x H' → Q' x H') : Post U K rel r I M H Q' E := by
  cases r with
  | ok a st => exact fun x I' M' H' g k r q => m _ _ (h x I' M' H' g k r q)
  | exc c fs st => exact h
  | stuck => exact h
/-- what is known behind a part -/
def Mid (U : Uni) (K : PySem.W.Frag) {α β γ δ : Type} (rel : Hp → Mw → Hp → β → α → Prop) (rel' : Hp → Mw → Hp → δ → γ → Prop) (f : α → U.S → Res U.S γ) (I : Hp) (M : Mw) (H : Hp) (Q : δ → Hp → Prop) (E : XK) (x : β) (H1 : Hp) : Prop :=
  ∃ a st1 I1 M1, Grow I M H I1 M1 H1 ∧ Ok I1 M1 H1 ∧ U.R st1 M1 ∧ rel I1 M1 H1 x a ∧ Post U K rel' (f a st1) I1 M1 H1 Q E
theorem Post.bind {r : Res U.S α} {f : α → U.S → Res U.S γ} {Q : δ → Hp → Prop} (h : Post U K rel' (r.bind f) I M H Q E) : Post U K rel r I M H (Mid U K rel rel' f I M H Q E) E := by
  cases r with
  | ok a st => exact fun x I' M' H' g k r q => ⟨a, st, I', M', g, k, r, q, Post.shift g h⟩
  | exc c fs st => exact h
  | stuck => exact h
end

/-! ### readings -/
abbrev rTest : Hp → Mw → Hp → Bool → Bool → Prop := fun _ _ _ x a => x = a
def tG (U : Uni) (K : PySem.W.Frag) (W : WX) {α β : Type} (rel : Hp → Mw → Hp → β → α → Prop) (F : Rho → U.S → Res U.S α) : L2.St → Hp → (β → Hp → Prop) → Prop :=
  fun σ H Q => ∃ Z ρ st I M, Fit U K Z σ ρ st I M H ∧ Post U K rel (F ρ st) I M H Q (fun cls d H' => W cls d σ H')
abbrev tE (U : Uni) (K : PySem.W.Frag) (W : WX) (F : Rho → U.S → Res U.S Val) : TE := tG U K W (VR K) F
abbrev tB (U : Uni) (K : PySem.W.Frag) (W : WX) (F : Rho → U.S → Res U.S Bool) : TT := tG U K W rTest F
abbrev tAs (U : Uni) (K : PySem.W.Frag) (W : WX) (F : Rho → U.S → Res U.S (List Val)) : TA := tG U K W (VRs K) F
def PEd (U : Uni) (X : Cx) (W : WX) (e : Expr) (F : Rho → U.S → Res U.S Val) : Prop := PE X e (tE U X.K W F)
def PTd (U : Uni) (X : Cx) (W : WX) (e : Expr) (F : Rho → U.S → Res U.S Bool) : Prop := PT X e (tB U X.K W F)
def PWd (U : Uni) (X : Cx) (W : WX) (e : Expr) (F : Rho → U.S → Res U.S Bool) : Prop := PW X e (tB U X.K W F)
def PAd (U : Uni) (X : Cx) (W : WX) (es : List Expr) (F : Rho → U.S → Res U.S (List Val)) : Prop := PA X es (tAs U X.K W F)
theorem pe_imp {X : Cx} {e : Expr} {t t' : TE} (h : PE X e t) (m : ∀ σ H Q, t' σ H Q → t σ H Q) : PE X e t' := ⟨fun pins s σ H Q I q => h.run pins s σ H Q I (m σ H Q q)⟩
theorem pt_imp {X : Cx} {e : Expr} {t t' : TT} (h : PT X e t) (m : ∀ σ H Q, t' σ H Q → t σ H Q) : PT X e t' := ⟨fun pins s σ H Q I q => h.run pins s σ H Q I (m σ H Q q)⟩
theorem pw_imp {X : Cx} {e : Expr} {t t' : TT} (h : PW X e t) (m : ∀ σ H Q, t' σ H Q → t σ H Q) : PW X e t' := ⟨fun wh pins s σ H Q I q => h.run wh pins s σ H Q I (m σ H Q q)⟩
theorem pa_imp {X : Cx} {es : List Expr} {t t' : TA} (h : PA X es t) (m : ∀ σ H Q, t' σ H Q → t σ H Q) : PA X es t' := ⟨fun pos pins s σ H Q I q => h.run pos pins s σ H Q I (m σ H Q q)⟩

section
variable {U : Uni} {K : PySem.W.Frag} {W : WX} {α β γ δ : Type} {rel : Hp → Mw → Hp → β → α → Prop} {rel' : Hp → Mw → Hp → δ → γ → Prop}
/-- the first part of a reading: go on at the part's end -/
theorem tG.bind {F : Rho → U.S → Res U.S α} {f : Rho → α → U.S → Res U.S γ} {σ : L2.St} {H : Hp} {Q : δ → Hp → Prop} {R : β → Hp → Prop} (h : tG U K W rel' (fun ρ st => (F ρ st).bind (f ρ)) σ H Q)
    (m : ∀ Z ρ st1 x a I1 M1 H1, Fit U K Z σ ρ st1 I1 M1 H1 → rel I1 M1 H1 x a → Post U K rel' (f ρ a st1) I1 M1 H1 Q (fun cls d H' => W cls d σ H') → R x H1) : tG U K W rel F σ H R := by
  obtain ⟨Z, ρ, st, I, M, ft, ps⟩ := h
  refine ⟨Z, ρ, st, I, M, ft, (Post.bind (rel := rel) ps).mono fun x H1 ⟨a, st1, I1, M1, g, k, r, q, ps1⟩ => ?_⟩
  exact m Z ρ st1 x a I1 M1 H1 (ft.grow g k r) q ps1
/-- a further part -/
theorem Post.next {F : Rho → U.S → Res U.S α} {f : α → U.S → Res U.S γ} {Z : Base} {σ : L2.St} {ρ : Rho} {st : U.S} {I : Hp} {M : Mw} {H : Hp} {Q : δ → Hp → Prop} {R : β → Hp → Prop} (ft : Fit U K Z σ ρ st I M H)
    (h : Post U K rel' ((F ρ st).bind f) I M H Q (fun cls d H' => W cls d σ H'))
    (m : ∀ st1 x a I1 M1 H1, Grow I M H I1 M1 H1 → Fit U K Z σ ρ st1 I1 M1 H1 → rel I1 M1 H1 x a → Post U K rel' (f a st1) I1 M1 H1 Q (fun cls d H' => W cls d σ H') → R x H1) : tG U K W rel F σ H R :=
  ⟨Z, ρ, st, I, M, ft, (Post.bind (rel := rel) h).mono fun x H1 ⟨a, st1, I1, M1, g, k, r, q, ps1⟩ => m st1 x a I1 M1 H1 g (ft.grow g k r) q ps1⟩
/-- the end of a reading that is an ok -/
theorem Post.fin {α β : Type} {rel : Hp → Mw → Hp → β → α → Prop} {a : α} {x : β} {st : U.S} {I : Hp} {M : Mw} {H : Hp} {Q : β → Hp → Prop} {E : XK} (h : Post U K rel (.ok a st) I M H Q E) (k : Ok I M H) (r : U.R st M) (q : rel I M H x a) : Q x H :=
  h x I M H (Grow.refl I M H) k r q
end
end Dl
set_option maxRecDepth 100000
set_option maxHeartbeats 2000000
namespace Dl
open PySem L2
/-- a choice that no computing decides (so that big bounds are never computed) -/
noncomputable def cif {α : Sort _} (c : Prop) (a b : α) : α := @ite α c (Classical.propDecidable c) a b
theorem cif_pos {α : Sort _} {c : Prop} {a b : α} (h : c) : cif c a b = a := if_pos h
theorem cif_neg {α : Sort _} {c : Prop} {a b : α} (h : ¬ c) : cif c a b = b := if_neg h
theorem opt_cif {α : Type} {c : Prop} {x w : α} (h : cif c (some x) none = some w) : c ∧ x = w := by
  by_cases hc : c
  · rw [cif_pos hc] at h; exact ⟨hc, Option.some.inj h⟩
  · rw [cif_neg hc] at h; cases h
def smallI (n : Int) : Prop := -(2 ^ 62) ≤ n ∧ n < 2 ^ 62
theorem smallI_of {n : Int} (h1 : -1000000000 ≤ n) (h2 : n ≤ 1000000000) : smallI n := by unfold smallI; omega
/-! ### names, constants -/
section
variable {S : Type}
def eVar (i : Nat) : Rho → S → Res S Val := fun ρ st => match ρ[i]? with
  | some (some v) => .ok v st
  | _ => .stuck
def eC (d : PyData) : Rho → S → Res S Val := fun _ st => .ok (.d d) st
def lift (o : Option PyData) (st : S) : Res S Val := match o with
  | some d => .ok (.d d) st
  | none => .stuck
def liftB (o : Option Bool) (st : S) : Res S Bool := match o with
  | some b => .ok b st
  | none => .stuck
def eOp (f : Val → Val → Option PyData) (a b : Rho → S → Res S Val) : Rho → S → Res S Val := fun ρ st => (a ρ st).bind fun x st1 => (b ρ st1).bind fun y st2 => lift (f x y) st2
def eUn (f : Val → Option PyData) (a : Rho → S → Res S Val) : Rho → S → Res S Val := fun ρ st => (a ρ st).bind fun x st1 => lift (f x) st1
def eCmp (f : Val → Val → Option Bool) (a b : Rho → S → Res S Val) : Rho → S → Res S Bool := fun ρ st => (a ρ st).bind fun x st1 => (b ρ st1).bind fun y st2 => liftB (f x y) st2
def eB (t : Rho → S → Res S Bool) : Rho → S → Res S Val := fun ρ st => (t ρ st).bind fun b st1 => .ok (.d (.bool b)) st1
/-- a value that is True or False, as a test -/
def tVal (a : Rho → S → Res S Val) : Rho → S → Res S Bool := fun ρ st => (a ρ st).bind fun x st1 => match x with
  | .d (.bool b) => .ok b st1
  | _ => .stuck
def tAnd' (a b : Rho → S → Res S Bool) : Rho → S → Res S Bool := fun ρ st => (a ρ st).bind fun x st1 => if x = true then b ρ st1 else .ok false st1
def tOr' (a b : Rho → S → Res S Bool) : Rho → S → Res S Bool := fun ρ st => (a ρ st).bind fun x st1 => if x = true then .ok true st1 else b ρ st1
def tNot' (a : Rho → S → Res S Bool) : Rho → S → Res S Bool := fun ρ st => (a ρ st).bind fun x st1 => .ok (!x) st1
def eIf (t : Rho → S → Res S Bool) (a b : Rho → S → Res S Val) : Rho → S → Res S Val := fun ρ st => (t ρ st).bind fun x st1 => if x = true then a ρ st1 else b ρ st1
def aNil : Rho → S → Res S (List Val) := fun _ st => .ok [] st
def aCons (a : Rho → S → Res S Val) (r : Rho → S → Res S (List Val)) : Rho → S → Res S (List Val) := fun ρ st => (a ρ st).bind fun x st1 => (r ρ st1).bind fun xs st2 => .ok (x :: xs) st2
/-- data of values, all of them data -/
def datas : List Val → Option (List PyData)
  | [] => some []
  | .d x :: r => (datas r).map (x :: ·)
  | _ :: _ => none
def eTup (a : Rho → S → Res S (List Val)) : Rho → S → Res S Val := fun ρ st => (a ρ st).bind fun xs st1 => lift ((datas xs).bind fun ds => if ds.length ≤ 1000000 then some (.tuple ds) else none) st1
def eLst (a : Rho → S → Res S (List Val)) : Rho → S → Res S Val := fun ρ st => (a ρ st).bind fun xs st1 => lift ((datas xs).bind fun ds => if ds.length ≤ 1000000 then some (.list ds) else none) st1
end

theorem sz {n : Nat} (h : n ≤ 1000000) : n ≤ sizeLine := Nat.le_trans h (by decide)
theorem szl {n : Nat} (h : n < 1000000) : n < sizeLine := Nat.lt_of_lt_of_le h (by decide)
theorem VRs.datas {K : PySem.W.Frag} {I : Hp} {M : Mw} {H : Hp} {xs : List V} {vs : List Val} {ds : List PyData} (h : VRs K I M H xs vs) (e : datas vs = some ds) : RpAll K I xs ds := by
  induction h generalizing ds with
  | nil => cases e; exact .nil
  | @cons x xs v vs hx _ ih =>
    cases v with
    | d y =>
      have e : (Dl.datas vs).map (y :: ·) = some ds := e
      cases z : Dl.datas vs with
      | none => rw [z] at e; cases e
      | some es =>
        rw [z] at e
        cases e
        exact .cons hx (ih z)
    | ref n => exact nomatch e
    | own n => exact nomatch e
    | exc n m => exact nomatch e
    | ownd a b c => exact nomatch e
theorem RpAll.len {K : PySem.W.Frag} {I : Hp} : ∀ {xs : List V} {ds : List PyData}, RpAll K I xs ds → xs.length = ds.length
  | _, _, .nil => rfl
  | _, _, .cons _ r => by rw [List.length_cons, List.length_cons, r.len]

section
variable {U : Uni} {X : Cx} {W : WX} {a b c : Expr} {Fa Fb Fc : Rho → U.S → Res U.S Val} {T1 T2 : Rho → U.S → Res U.S Bool} {pos : Pos}
theorem Post.okE {K : PySem.W.Frag} {v : Val} {x : V} {st : U.S} {I : Hp} {M : Mw} {H : Hp} {Q : VK} {E : XK} (h : Post U K (VR K) (.ok v st) I M H Q E) (k : Ok I M H) (r : U.R st M) (q : VR K I M H x v) : Q x H := h x I M H (Grow.refl I M H) k r q
theorem Post.liftE {K : PySem.W.Frag} {o : Option PyData} {st : U.S} {I : Hp} {M : Mw} {H : Hp} {Q : VK} {E : XK} (h : Post U K (VR K) (lift o st) I M H Q E) (r : U.R st M) :
    ∃ w, o = some w ∧ ∀ z I' H', Grow I M H I' M H' → Ok I' M H' → Rp K I' z w → Q z H' := by
  cases o with
  | none => exact False.elim h
  | some w => exact ⟨w, rfl, fun z I' H' g k q => h z I' M H' g k r q⟩
theorem ped_var (i : Nat) {x : Str} (hN : X.N[i]? = some x := by rfl) (hv : Vis X.env.scope x := by first | exact Or.inl rfl | exact Or.inr (Or.inl rfl) | exact Or.inr (Or.inr rfl)) (hd : (x == ("__debug__" : Str)) = false := by decide) (hcd : (x == ("__classdict__" : Str)) = false := by decide) :
    PEd U X W (.Name x pos) (eVar i) := by
  refine pe_imp (pe_var hN hv hd hcd) fun σ H Q ⟨Z, ρ, st, I, M, ft, ps⟩ => ?_
  unfold eVar at ps
  cases e : ρ[i]? with
  | none => rw [e] at ps; exact False.elim ps
  | some o =>
    rw [e] at ps
    cases o with
    | none => exact False.elim ps
    | some v =>
      obtain ⟨y, hy, q⟩ := ft.env i v e
      exact ⟨y, hy, Post.okE ps ft.ok ft.rs q⟩
theorem ped_c {v : V} {d : PyData} (h : PE X a (tC v)) (r : ∀ I, Rp X.K I v d) : PEd U X W a (eC d) :=
  pe_imp h fun σ H Q ⟨Z, ρ, st, I, M, ft, ps⟩ => Post.okE ps ft.ok ft.rs (r I)

/-! ### two-place operations -/
def Op2D (K : PySem.W.Frag) (r : R2) (f : Val → Val → Option PyData) : Prop := ∀ (x y : V) (u v : Val) (w : PyData) (I : Hp) (M : Mw) (H : Hp) (Q : VK), Ok I M H → VR K I M H x u → VR K I M H y v → f u v = some w →
  (∀ z I' H', Grow I M H I' M H' → Ok I' M H' → Rp K I' z w → Q z H') → r x y H Q
theorem op_read {r : R2} {f : Val → Val → Option PyData} (hd : Op2D X.K r f) (σ : L2.St) (H : Hp) (Q : VK) (h : tE U X.K W (eOp f Fa Fb) σ H Q) : tOp r (tE U X.K W Fa) (tE U X.K W Fb) σ H Q := by
  refine tG.bind h fun Z ρ st1 x u I1 M1 H1 ft hx ps => ?_
  refine Post.next ft ps fun st2 y v I2 M2 H2 g ft2 hy ps2 => ?_
  obtain ⟨w, e, q⟩ := Post.liftE ps2 ft2.rs
  exact hd x y u v w I2 M2 H2 Q ft2.ok (VR.grow g hx) hy e q
theorem ped_op {op : Operator} {r : R2} {f : Val → Val → Option PyData} (ho : OpR X (binaryOp op) r) (hd : Op2D X.K r f) (ha : PEd U X W a Fa) (hb : PEd U X W b Fb) : PEd U X W (.BinOp a op b pos) (eOp f Fa Fb) :=
  pe_imp (pe_op ho ha hb) (op_read hd)
def Un1D (K : PySem.W.Frag) (r : V → Hp → VK → Prop) (f : Val → Option PyData) : Prop := ∀ (x : V) (u : Val) (w : PyData) (I : Hp) (M : Mw) (H : Hp) (Q : VK), Ok I M H → VR K I M H x u → f u = some w →
  (∀ z I' H', Grow I M H I' M H' → Ok I' M H' → Rp K I' z w → Q z H') → r x H Q
theorem ped_un {op : UnaryOp} {r : V → Hp → VK → Prop} {f : Val → Option PyData} (ho : UnR X (unaryOp op) r) (hd : Un1D X.K r f) (ha : PEd U X W a Fa) : PEd U X W (.UnaryOp op a pos) (eUn f Fa) := by
  refine pe_imp (pe_un ho ha) fun σ H Q h => ?_
  refine tG.bind h fun Z ρ st1 x u I1 M1 H1 ft hx ps => ?_
  obtain ⟨w, e, q⟩ := Post.liftE ps ft.rs
  exact hd x u w I1 M1 H1 Q ft.ok hx e q
/-- a comparison -/
def Cmp2D (K : PySem.W.Frag) (r : R2) (f : Val → Val → Option Bool) : Prop := ∀ (x y : V) (u v : Val) (w : Bool) (I : Hp) (M : Mw) (H : Hp) (Q : VK), Ok I M H → VR K I M H x u → VR K I M H y v → f u v = some w → Q (.bl w) H → r x y H Q
theorem Post.liftB {K : PySem.W.Frag} {o : Option Bool} {st : U.S} {I : Hp} {M : Mw} {H : Hp} {Q : Bool → Hp → Prop} {E : XK} (h : Post U K rTest (liftB o st) I M H Q E) (k : Ok I M H) (r : U.R st M) : ∃ w, o = some w ∧ Q w H := by
  cases o with
  | none => exact False.elim h
  | some w => exact ⟨w, rfl, h w I M H (Grow.refl I M H) k r rfl⟩
theorem ptd_cmp {op : CmpOp} {r : R2} {f : Val → Val → Option Bool} (ho : OpR X (compareOp op) r) (hd : Cmp2D X.K r f) (ha : PEd U X W a Fa) (hb : PEd U X W b Fb) (hm : behindInMarks op b = false) : PTd U X W (.Compare a [op] [b] pos) (eCmp f Fa Fb) := by
  refine pt_imp (pt_cmpR ho ha hb hm) fun σ H Q h => ?_
  refine tG.bind h fun Z ρ st1 x u I1 M1 H1 ft hx ps => ?_
  refine Post.next ft ps fun st2 y v I2 M2 H2 g ft2 hy ps2 => ?_
  obtain ⟨w, e, q⟩ := Post.liftB ps2 ft2.ok ft2.rs
  exact hd x y u v w I2 M2 H2 _ ft2.ok (VR.grow g hx) hy e ⟨w, rfl, q⟩
theorem Post.boolE {K : PySem.W.Frag} {b : Bool} {st : U.S} {I : Hp} {M : Mw} {H : Hp} {Q : VK} {E : XK} (h : Post U K (VR K) (.ok (.d (.bool b)) st) I M H Q E) (k : Ok I M H) (r : U.R st M) : Q (.bl b) H := Post.okE h k r (show Rp K I (.bl b) (.bool b) from .bl b)
theorem ped_cmp {op : CmpOp} {r : R2} {f : Val → Val → Option Bool} (ho : OpR X (compareOp op) r) (hd : Cmp2D X.K r f) (ha : PEd U X W a Fa) (hb : PEd U X W b Fb) (hm : behindInMarks op b = false) : PEd U X W (.Compare a [op] [b] pos) (eB (eCmp f Fa Fb)) := by
  refine pe_imp (pe_cmpR ho ha hb hm) fun σ H Q h => ?_
  have h' : tE U X.K W (fun ρ st => (Fa ρ st).bind fun x st1 => ((Fb ρ st1).bind fun y st2 => (Dl.liftB (f x y) st2).bind fun b st3 => .ok (.d (.bool b)) st3)) σ H Q := by
    obtain ⟨Z, ρ, st, I, M, ft, ps⟩ := h
    refine ⟨Z, ρ, st, I, M, ft, ?_⟩
    have e : eB (eCmp f Fa Fb) ρ st = (Fa ρ st).bind fun x st1 => ((Fb ρ st1).bind fun y st2 => (Dl.liftB (f x y) st2).bind fun b st3 => .ok (.d (.bool b)) st3) := by
      unfold eB eCmp
      cases Fa ρ st with
      | ok x st1 =>
        show ((Fb ρ st1).bind _).bind _ = (Fb ρ st1).bind _
        cases Fb ρ st1 <;> rfl
      | exc _ _ _ => rfl
      | stuck => rfl
    rw [e] at ps
    exact ps
  refine tG.bind h' fun Z ρ st1 x u I1 M1 H1 ft hx ps => ?_
  refine Post.next ft ps fun st2 y v I2 M2 H2 g ft2 hy ps2 => ?_
  cases e : f u v with
  | none => rw [e] at ps2; exact False.elim ps2
  | some w =>
    rw [e] at ps2
    exact hd x y u v w I2 M2 H2 _ ft2.ok (VR.grow g hx) hy e (Post.boolE ps2 ft2.ok ft2.rs)
end
end Dl
set_option maxRecDepth 100000
set_option maxHeartbeats 2000000
namespace Dl
open PySem L2
section
variable {S : Type}
def eAnd' (a b : Rho → S → Res S Val) : Rho → S → Res S Val := fun ρ st => (a ρ st).bind fun x st1 => match x with
  | .d (.bool c) => if c = true then b ρ st1 else .ok (.d (.bool false)) st1
  | _ => .stuck
def eOr' (a b : Rho → S → Res S Val) : Rho → S → Res S Val := fun ρ st => (a ρ st).bind fun x st1 => match x with
  | .d (.bool c) => if c = true then .ok (.d (.bool true)) st1 else b ρ st1
  | _ => .stuck
def vNot : Val → Option PyData
  | .d (.bool c) => some (.bool (!c))
  | _ => none
/-- a op b op' c -/
def eChain (f g : Val → Val → Option Bool) (a b c : Rho → S → Res S Val) : Rho → S → Res S Bool := fun ρ st => (a ρ st).bind fun x st1 => (b ρ st1).bind fun y st2 => match f x y with
  | some true => (c ρ st2).bind fun z st3 => liftB (g y z) st3
  | some false => .ok false st2
  | none => .stuck
def eCall (f : List Val → Option PyData) (a : Rho → S → Res S (List Val)) : Rho → S → Res S Val := fun ρ st => (a ρ st).bind fun xs st1 => lift (f xs) st1
end
theorem Rp.bool_inv {K : PySem.W.Frag} {I : Hp} {x : V} {b : Bool} (h : Rp K I x (.bool b)) : x = .bl b := by cases h; rfl
theorem Rp.int_inv {K : PySem.W.Frag} {I : Hp} {x : V} {b : Int} (h : Rp K I x (.int b)) : x = .int b := by cases h; rfl
theorem Rp.str_inv {K : PySem.W.Frag} {I : Hp} {x : V} {b : Str} (h : Rp K I x (.str b)) : x = .str b := by cases h; rfl
theorem Rp.non_inv {K : PySem.W.Frag} {I : Hp} {x : V} (h : Rp K I x .none) : x = .non := by cases h; rfl
section
variable {U : Uni} {X : Cx} {W : WX} {a b c : Expr} {rest : List Expr} {Fa Fb Fc : Rho → U.S → Res U.S Val} {T1 T2 : Rho → U.S → Res U.S Bool} {A : Rho → U.S → Res U.S (List Val)} {pos : Pos}
theorem ptd_val {e : Expr} {F : Rho → U.S → Res U.S Val} (h : PEd U X W e F) (he : ∀ whole, isTrue e X.env whole = (do let v ← whole; standAt e.pos; holding [v] (truthy v)) := by intro _; rfl) : PTd U X W e (tVal F) := by
  refine pt_imp (pt_val h he) fun σ H Q h => ?_
  refine tG.bind h fun Z ρ st1 x u I1 M1 H1 ft hx ps => ?_
  match u, hx, ps with
  | .d (.bool b), hx, ps => exact ⟨b, Rp.bool_inv hx, ps b I1 M1 H1 (Grow.refl _ _ _) ft.ok ft.rs rfl⟩
theorem ptd_w {e : Expr} {T : Rho → U.S → Res U.S Bool} (h : PWd U X W e T) : PTd U X W e T := PW.pt h
theorem pwd_and1 (ha : PTd U X W a T1) : PWd U X W (.BoolOp .And [a] pos) T1 := pw_and1 ha
theorem pwd_or1 (ha : PTd U X W a T1) : PWd U X W (.BoolOp .Or [a] pos) T1 := pw_or1 ha
theorem pwd_and (ha : PTd U X W a T1) (hb : PWd U X W (.BoolOp .And (b :: rest) pos) T2) : PWd U X W (.BoolOp .And (a :: b :: rest) pos) (tAnd' T1 T2) := by
  refine pw_imp (pw_and ha hb) fun σ H Q h => ?_
  refine tG.bind h fun Z ρ st1 x u I1 M1 H1 ft hx ps => ?_
  have hx : x = u := hx
  subst hx
  cases x with
  | true => exact ⟨Z, ρ, st1, I1, M1, ft, ps⟩
  | false => exact ps false I1 M1 H1 (Grow.refl _ _ _) ft.ok ft.rs rfl
theorem pwd_or (ha : PTd U X W a T1) (hb : PWd U X W (.BoolOp .Or (b :: rest) pos) T2) : PWd U X W (.BoolOp .Or (a :: b :: rest) pos) (tOr' T1 T2) := by
  refine pw_imp (pw_or ha hb) fun σ H Q h => ?_
  refine tG.bind h fun Z ρ st1 x u I1 M1 H1 ft hx ps => ?_
  have hx : x = u := hx
  subst hx
  cases x with
  | true => exact ps true I1 M1 H1 (Grow.refl _ _ _) ft.ok ft.rs rfl
  | false => exact ⟨Z, ρ, st1, I1, M1, ft, ps⟩
theorem ptd_not (ha : PTd U X W a T1) : PTd U X W (.UnaryOp .Not a pos) (tNot' T1) := by
  refine pt_imp (pt_not ha) fun σ H Q h => ?_
  refine tG.bind h fun Z ρ st1 x u I1 M1 H1 ft hx ps => ?_
  have hx : x = u := hx
  subst hx
  exact ps (!x) I1 M1 H1 (Grow.refl _ _ _) ft.ok ft.rs rfl
theorem ped_one {op} (ha : PEd U X W a Fa) : PEd U X W (.BoolOp op [a] pos) Fa := pe_one ha
theorem ped_and (ha : PEd U X W a Fa) (hb : PEd U X W (.BoolOp .And (b :: rest) pos) Fb) : PEd U X W (.BoolOp .And (a :: b :: rest) pos) (eAnd' Fa Fb) := by
  refine pe_imp (pe_and ha hb) fun σ H Q h => ?_
  refine tG.bind h fun Z ρ st1 x u I1 M1 H1 ft hx ps => ?_
  match u, hx, ps with
  | .d (.bool true), hx, ps => exact ⟨true, Rp.bool_inv hx, ⟨Z, ρ, st1, I1, M1, ft, ps⟩⟩
  | .d (.bool false), hx, ps => exact ⟨false, Rp.bool_inv hx, Post.boolE ps ft.ok ft.rs⟩
theorem ped_or (ha : PEd U X W a Fa) (hb : PEd U X W (.BoolOp .Or (b :: rest) pos) Fb) : PEd U X W (.BoolOp .Or (a :: b :: rest) pos) (eOr' Fa Fb) := by
  refine pe_imp (pe_or ha hb) fun σ H Q h => ?_
  refine tG.bind h fun Z ρ st1 x u I1 M1 H1 ft hx ps => ?_
  match u, hx, ps with
  | .d (.bool true), hx, ps => exact ⟨true, Rp.bool_inv hx, Post.boolE ps ft.ok ft.rs⟩
  | .d (.bool false), hx, ps => exact ⟨false, Rp.bool_inv hx, ⟨Z, ρ, st1, I1, M1, ft, ps⟩⟩
theorem ped_not (ha : PEd U X W a Fa) : PEd U X W (.UnaryOp .Not a pos) (eUn vNot Fa) := by
  refine pe_imp (pe_not ha) fun σ H Q h => ?_
  refine tG.bind h fun Z ρ st1 x u I1 M1 H1 ft hx ps => ?_
  match u, hx, ps with
  | .d (.bool c), hx, ps => exact ⟨c, Rp.bool_inv hx, Post.boolE ps ft.ok ft.rs⟩
theorem ped_if {t : Expr} (hc : PTd U X W t T1) (ha : PEd U X W a Fa) (hb : PEd U X W b Fb) : PEd U X W (.IfExp t a b pos) (eIf T1 Fa Fb) := by
  refine pe_imp (pe_ifExp hc ha hb) fun σ H Q h => ?_
  refine tG.bind h fun Z ρ st1 x u I1 M1 H1 ft hx ps => ?_
  have hx : x = u := hx
  subst hx
  cases x with
  | true => exact ⟨Z, ρ, st1, I1, M1, ft, ps⟩
  | false => exact ⟨Z, ρ, st1, I1, M1, ft, ps⟩
theorem chain_read {r r' : R2} {f g : Val → Val → Option Bool} (hf : Cmp2D X.K r f) (hg : Cmp2D X.K r' g) (σ : L2.St) (H : Hp) (Q : VK) (h : tB U X.K W (eChain f g Fa Fb Fc) σ H fun k H' => Q (.bl k) H') :
    tChain r r' (tE U X.K W Fa) (tE U X.K W Fb) (tE U X.K W Fc) σ H Q := by
  refine tG.bind h fun Z ρ st1 x u I1 M1 H1 ft hx ps => ?_
  refine Post.next ft ps fun st2 y v I2 M2 H2 g2 ft2 hy ps2 => ?_
  cases e : f u v with
  | none => simp only [e] at ps2; exact False.elim ps2
  | some w =>
    refine hf x y u v w I2 M2 H2 _ ft2.ok (VR.grow g2 hx) hy e ⟨w, rfl, ?_⟩
    cases w with
    | false =>
      simp only [e] at ps2
      exact ps2 false I2 M2 H2 (Grow.refl _ _ _) ft2.ok ft2.rs rfl
    | true =>
      simp only [e] at ps2
      refine Post.next ft2 ps2 fun st3 z q I3 M3 H3 g3 ft3 hz ps3 => ?_
      obtain ⟨w, e', q'⟩ := Post.liftB ps3 ft3.ok ft3.rs
      exact hg y z v q w I3 M3 H3 _ ft3.ok (VR.grow g3 hy) hz e' q'
theorem ptd_chain {op op' : CmpOp} {r r' : R2} {f g : Val → Val → Option Bool} (ho : OpR X (compareOp op) r) (hf : Cmp2D X.K r f) (ho' : OpR X (compareOp op') r') (hg : Cmp2D X.K r' g) (ha : PEd U X W a Fa) (hb : PEd U X W b Fb) (hc : PEd U X W c Fc)
    (hm : lastMarks [op, op'] [b, c] = false := by with_unfolding_all rfl) : PTd U X W (.Compare a [op, op'] [b, c] pos) (eChain f g Fa Fb Fc) :=
  pt_imp (pt_chain ho ho' ha hb hc hm) fun σ H Q h => by
    obtain ⟨Z, ρ, st, I, M, ft, ps⟩ := h
    exact chain_read hf hg σ H _ ⟨Z, ρ, st, I, M, ft, ps.mono fun k H' q => ⟨k, rfl, q⟩⟩
theorem ped_chain {op op' : CmpOp} {r r' : R2} {f g : Val → Val → Option Bool} (ho : OpR X (compareOp op) r) (hf : Cmp2D X.K r f) (ho' : OpR X (compareOp op') r') (hg : Cmp2D X.K r' g) (ha : PEd U X W a Fa) (hb : PEd U X W b Fb) (hc : PEd U X W c Fc)
    (hm : lastMarks [op, op'] [b, c] = false := by with_unfolding_all rfl) : PEd U X W (.Compare a [op, op'] [b, c] pos) (eB (eChain f g Fa Fb Fc)) := by
  refine pe_imp (pe_chain ho ho' ha hb hc hm) fun σ H Q h => chain_read hf hg σ H _ ?_
  refine tG.bind h fun Z ρ st1 x u I1 M1 H1 ft hx ps => ?_
  have hx : x = u := hx
  subst hx
  exact Post.boolE ps ft.ok ft.rs
/-! ### arguments, displays, built-ins -/
theorem pad_nil : PAd U X W [] aNil := pa_imp pa_nil fun σ H Q ⟨Z, ρ, st, I, M, ft, ps⟩ => ps [] I M H (Grow.refl _ _ _) ft.ok ft.rs .nil
theorem pad_cons {e : Expr} {es : List Expr} {F : Rho → U.S → Res U.S Val} (ha : PEd U X W e F) (hr : PAd U X W es A) (hs : starEach (e :: es) X.env = (false, eval e X.env) :: starEach es X.env := by rfl) : PAd U X W (e :: es) (aCons F A) := by
  refine pa_imp (pa_cons ha hr hs) fun σ H Q h => ?_
  refine tG.bind h fun Z ρ st1 x u I1 M1 H1 ft hx ps => ?_
  refine Post.next ft ps fun st2 xs vs I2 M2 H2 g ft2 hy ps2 => ?_
  exact ps2 (x :: xs) I2 M2 H2 (Grow.refl _ _ _) ft2.ok ft2.rs (.cons (VR.grow g hx) hy)
theorem new_tup {K : PySem.W.Frag} {I : Hp} {M : Mw} {H : Hp} {xs : List V} {ds : List PyData} {Q : VK} {p : Addr} (k : Ok I M H) (r : RpAll K I xs ds) (hp : H p = none) (q : ∀ z I' H', Grow I M H I' M H' → Ok I' M H' → Rp K I' z (.tuple ds) → Q z H') : Q (.ref p) (upd H p (.tup xs)) := by
  obtain ⟨g, k'⟩ := Grow.alloc (o := .tup xs) k hp
  exact q _ _ _ g k' (.tup (SqT.of upd_same) (r.mono g.i))
theorem new_lst {K : PySem.W.Frag} {I : Hp} {M : Mw} {H : Hp} {xs : List V} {ds : List PyData} {Q : VK} {p : Addr} (k : Ok I M H) (r : RpAll K I xs ds) (hp : H p = none) (q : ∀ z I' H', Grow I M H I' M H' → Ok I' M H' → Rp K I' z (.list ds) → Q z H') : Q (.ref p) (upd H p (.lst xs)) := by
  obtain ⟨g, k'⟩ := Grow.alloc (o := .lst xs) k hp
  exact q _ _ _ g k' (.lst upd_same (r.mono g.i))
theorem ped_tup {es : List Expr} {x1} (h : PAd U X W es A) : PEd U X W (.Tuple es x1 pos) (eTup A) := by
  refine pe_imp (pe_tup h) fun σ H Q h => ?_
  refine tG.bind h fun Z ρ st1 xs vs I1 M1 H1 ft hx ps => ?_
  obtain ⟨w, e, q⟩ := Post.liftE ps ft.rs
  cases z : datas vs with
  | none => rw [z] at e; cases e
  | some ds =>
    rw [z] at e
    have r := VRs.datas hx z
    by_cases hl : ds.length ≤ 1000000
    · have e2 : some (PyData.tuple ds) = some w := by rw [← e]; exact (if_pos hl).symm
      cases e2
      exact ⟨sz (r.len ▸ hl), fun p hp => new_tup ft.ok r hp q⟩
    · have e2 : (none : Option PyData) = some w := by rw [← e]; exact (if_neg hl).symm
      cases e2
theorem ped_lst {es : List Expr} (h : PAd U X W es A) : PEd U X W (.List es pos) (eLst A) := by
  refine pe_imp (pe_lst h) fun σ H Q h => ?_
  refine tG.bind h fun Z ρ st1 xs vs I1 M1 H1 ft hx ps => ?_
  obtain ⟨w, e, q⟩ := Post.liftE ps ft.rs
  cases z : datas vs with
  | none => rw [z] at e; cases e
  | some ds =>
    rw [z] at e
    have r := VRs.datas hx z
    by_cases hl : ds.length ≤ 1000000
    · have e2 : some (PyData.list ds) = some w := by rw [← e]; exact (if_pos hl).symm
      cases e2
      exact ⟨sz (r.len ▸ hl), fun p hp => new_lst ft.ok r hp q⟩
    · have e2 : (none : Option PyData) = some w := by rw [← e]; exact (if_neg hl).symm
      cases e2
def CallD (K : PySem.W.Frag) (r : List V → Hp → VK → Prop) (f : List Val → Option PyData) : Prop := ∀ (xs : List V) (vs : List Val) (w : PyData) (I : Hp) (M : Mw) (H : Hp) (Q : VK), Ok I M H → VRs K I M H xs vs → f vs = some w →
  (∀ z I' H', Grow I M H I' M H' → Ok I' M H' → Rp K I' z w → Q z H') → r xs H Q
theorem call_read {r : List V → Hp → VK → Prop} {f : List Val → Option PyData} (hd : CallD X.K r f) (σ : L2.St) (H : Hp) (Q : VK) (h : tE U X.K W (eCall f A) σ H Q) : tCB r (tAs U X.K W A) σ H Q := by
  refine tG.bind h fun Z ρ st1 xs vs I1 M1 H1 ft hx ps => ?_
  obtain ⟨w, e, q⟩ := Post.liftE ps ft.rs
  exact hd xs vs w I1 M1 H1 Q ft.ok hx e q
theorem ped_callB {x : Str} {p : Pos} {e : Expr} {es : List Expr} {id : String} {r : List V → Hp → VK → Prop} {f : List Val → Option PyData} (hc : CallR X (.builtin id) r) (hd : CallD X.K r f) (hg : Gl X x) (hm : X.mg x = none) (hv : bootBuiltins x = some (.builtin id)) (ha : PAd U X W (e :: es) A)
    (hn : x ≠ "__name__" := by decide) (hdb : (x == ("__debug__" : Str)) = false := by decide) (he : starEach (e :: es) X.env = (false, eval e X.env) :: starEach es X.env := by rfl) (hpl : (backTo pos (starEach es X.env)).any (·.1) = false := by rfl) :
    PEd U X W (.Call (.Name x p) (e :: es) [] pos) (eCall f A) := pe_imp (pe_callB hc hg hm hv ha hn hdb he hpl) (call_read hd)
theorem ped_callTy {x : Str} {p : Pos} {e : Expr} {es : List Expr} {id : String} {r : List V → Hp → VK → Prop} {f : List Val → Option PyData} (hc : CallR X (.type id) r) (hd : CallD X.K r f) (hg : Gl X x) (hm : X.mg x = none) (hv : bootBuiltins x = some (.type id)) (ha : PAd U X W (e :: es) A)
    (hn : x ≠ "__name__" := by decide) (hdb : (x == ("__debug__" : Str)) = false := by decide) (he : starEach (e :: es) X.env = (false, eval e X.env) :: starEach es X.env := by rfl) (hpl : (backTo pos (starEach es X.env)).any (·.1) = false := by rfl) :
    PEd U X W (.Call (.Name x p) (e :: es) [] pos) (eCall f A) := pe_imp (pe_callTy hc hg hm hv ha hn hdb he hpl) (call_read hd)
end
end Dl
set_option maxRecDepth 100000
set_option maxHeartbeats 2000000
namespace Dl
open PySem L2
/-! ### lists and tuples among the values -/
def lstOf : Val → Option (List PyData)
  | .d (.list xs) => some xs
  | .own xs => some xs
  | _ => none
def seqOf : Val → Option (List PyData)
  | .d (.list xs) => some xs
  | .d (.tuple xs) => some xs
  | .own xs => some xs
  | _ => none
def datOf : Val → Option PyData
  | .d x => some x
  | .own xs => some (.list xs)
  | _ => none
section
variable {K : PySem.W.Frag} {I : Hp} {M : Mw} {H : Hp} {x : V} {u : Val} {ds : List PyData}
theorem VR.lst (k : Ok I M H) (h : VR K I M H x u) (e : lstOf u = some ds) : ∃ p vs, x = .ref p ∧ H p = some (.lst vs) ∧ RpAll K I vs ds := by
  match u, h, e with
  | .d (.list xs), h, e =>
    cases e
    cases h with
    | lst a r => exact ⟨_, _, rfl, k.ih _ _ a, r⟩
  | .own xs, ⟨p, vs, e1, h1, _, _, r⟩, e =>
    cases e
    exact ⟨p, vs, e1, h1, r⟩
theorem VR.tup (k : Ok I M H) (h : VR K I M H x (.d (.tuple ds))) : ∃ p vs, x = .ref p ∧ SqT K H p vs ∧ RpAll K I vs ds := by
  cases h with
  | tup a r => exact ⟨_, _, rfl, sqT_mono k.ih a, r⟩
theorem VR.seq (k : Ok I M H) (h : VR K I M H x u) (e : seqOf u = some ds) : ∃ p vs, x = .ref p ∧ (SqL K H p vs ∨ SqT K H p vs) ∧ RpAll K I vs ds := by
  match u, h, e with
  | .d (.list xs), h, e =>
    obtain ⟨p, vs, h1, h2, h3⟩ := VR.lst k h e
    exact ⟨p, vs, h1, .inl (SqL.of h2), h3⟩
  | .own xs, h, e =>
    obtain ⟨p, vs, h1, h2, h3⟩ := VR.lst k h e
    exact ⟨p, vs, h1, .inl (SqL.of h2), h3⟩
  | .d (.tuple xs), h, e =>
    cases e
    obtain ⟨p, vs, h1, h2, h3⟩ := VR.tup k h
    exact ⟨p, vs, h1, .inr h2, h3⟩
theorem RpAll.append : ∀ {xs ys : List V} {ds es : List PyData}, RpAll K I xs ds → RpAll K I ys es → RpAll K I (xs ++ ys) (ds ++ es)
  | _, _, _, _, .nil, s => s
  | _, _, _, _, .cons h r, s => .cons h (RpAll.append r s)
theorem RpAll.drop : ∀ (n : Nat) {xs : List V} {ds : List PyData}, RpAll K I xs ds → RpAll K I (xs.drop n) (ds.drop n)
  | 0, _, _, r => r
  | _ + 1, _, _, .nil => .nil
  | n + 1, _, _, .cons _ r => RpAll.drop n r
theorem RpAll.take : ∀ (n : Nat) {xs : List V} {ds : List PyData}, RpAll K I xs ds → RpAll K I (xs.take n) (ds.take n)
  | 0, _, _, _ => .nil
  | _ + 1, _, _, .nil => .nil
  | n + 1, _, _, .cons h r => .cons h (RpAll.take n r)
theorem RpAll.get : ∀ {xs : List V} {ds : List PyData} {i : Nat} {d : PyData}, RpAll K I xs ds → ds[i]? = some d → ∃ x, xs[i]? = some x ∧ Rp K I x d
  | _, _, _, _, .nil, e => by simp at e
  | _, _, 0, _, .cons h _, e => by simp at e; subst e; exact ⟨_, rfl, h⟩
  | _, _, i + 1, d, .cons _ r, e => by
    obtain ⟨x, h1, h2⟩ := RpAll.get (i := i) (d := d) r (by simpa using e)
    exact ⟨x, by simpa using h1, h2⟩
theorem RpAll.rep {xs : List V} {ds : List PyData} (h : RpAll K I xs ds) : ∀ n : Nat, RpAll K I (List.replicate n xs).flatten (List.replicate n ds).flatten
  | 0 => .nil
  | n + 1 => by
    rw [List.replicate_succ, List.replicate_succ, List.flatten_cons, List.flatten_cons]
    exact h.append (RpAll.rep h n)
theorem RpAll.atI {xs : List V} {ds : List PyData} {i : Int} {d : PyData} (r : RpAll K I xs ds) (e : atI ds i = some d) : ∃ x, atI xs i = some x ∧ Rp K I x d := by
  unfold L2.atI at e ⊢
  rw [r.len]
  cases z : ixN ds.length i with
  | none => rw [z] at e; cases e
  | some j =>
    rw [z] at e
    exact r.get (i := j) e
theorem RpAll.ints : ∀ {xs : List V} {ns : List Int}, RpAll K I xs (ns.map PyData.int) → xs = ns.map V.int
  | _, [], .nil => rfl
  | _, n :: ns, .cons h r => by
    cases h
    rw [List.map_cons, RpAll.ints r]
theorem RpAll.bools : ∀ {xs : List V} {ns : List Bool}, RpAll K I xs (ns.map PyData.bool) → xs = ns.map V.bl
  | _, [], .nil => rfl
  | _, n :: ns, .cons h r => by
    cases h
    rw [List.map_cons, RpAll.bools r]
theorem RpAll.ofInts : ∀ (ns : List Int), RpAll K I (ns.map V.int) (ns.map PyData.int)
  | [] => .nil
  | n :: ns => .cons (.int n) (RpAll.ofInts ns)
mutual
theorem Rp.dp (e : Same I H) : ∀ {x : V} {d : PyData}, Rp K I x d → d.canLay0 = true → Dp K H x d
  | _, _, .non, _ => .non
  | _, _, .bl b, _ => .bl b
  | _, _, .int i, _ => .int i
  | _, _, .str x, _ => .str x
  | _, _, .lst h r, c => .lst (SqL.of (e _ _ h)) (RpAll.dp e r (by simpa [PyData.canLay0] using c))
  | _, _, .tup h r, c => .tup (sqT_mono e h) (RpAll.dp e r (by simpa [PyData.canLay0] using c))
  | _, _, .dct h l r, c => by simp [PyData.canLay0] at c
theorem RpAll.dp (e : Same I H) : ∀ {xs : List V} {ds : List PyData}, RpAll K I xs ds → PyData.canLayAll0 ds = true → DpAll K H xs ds
  | _, _, .nil, _ => .nil
  | _, _, .cons (d := d) (ds := ds) h r, c => by
    have c' : d.canLay0 = true ∧ PyData.canLayAll0 ds = true := by simpa [PyData.canLayAll0] using c
    exact .cons (Rp.dp e h c'.1) (RpAll.dp e r c'.2)
end
theorem VR.dp (k : Ok I M H) (h : VR K I M H x u) {d : PyData} (e : datOf u = some d) (c : d.canLay0 = true) : Dp K H x d := by
  match u, h, e with
  | .d y, h, e =>
    cases e
    exact Rp.dp k.ih h c
  | .own xs, ⟨p, vs, e1, h1, _, _, r⟩, e =>
    cases e
    subst e1
    exact .lst (SqL.of h1) (RpAll.dp k.ih r (by simpa [PyData.canLay0] using c))
end

/-! ### operators -/
def vAdd : Val → Val → Option PyData
  | .d (.int i), .d (.int j) => some (.int (i + j))
  | .d (.str i), .d (.str j) => if i.length + j.length ≤ 1000000 then some (.str (i ++ j)) else none
  | .d (.tuple a), .d (.tuple b) => if a.length + b.length ≤ 1000000 then some (.tuple (a ++ b)) else none
  | .d (.list a), .d (.list b) => if a.length + b.length ≤ 1000000 then some (.list (a ++ b)) else none
  | .own a, .d (.list b) => if a.length + b.length ≤ 1000000 then some (.list (a ++ b)) else none
  | .d (.list a), .own b => if a.length + b.length ≤ 1000000 then some (.list (a ++ b)) else none
  | .own a, .own b => if a.length + b.length ≤ 1000000 then some (.list (a ++ b)) else none
  | _, _ => none
def vSub : Val → Val → Option PyData
  | .d (.int i), .d (.int j) => some (.int (i - j))
  | _, _ => none
def vFdiv : Val → Val → Option PyData
  | .d (.int i), .d (.int j) => if 0 < j ∧ j.natAbs.log2 < 9000 then some (.int (i / j)) else if j ≠ 0 ∧ j.natAbs < 1073741824 then some (.int (i.fdiv j)) else none
  | _, _ => none
def vMod : Val → Val → Option PyData
  | .d (.int i), .d (.int j) => if 0 < j then some (.int (i % j)) else if j ≠ 0 then some (.int (i.fmod j)) else none
  | _, _ => none
noncomputable def vPow : Val → Val → Option PyData
  | .d (.int i), .d (.int j) => cif (0 ≤ j ∧ j ≤ 1000000 ∧ i.natAbs < 2 ^ 64) (some (.int (i ^ j.toNat))) none
  | _, _ => none
def vNeg : Val → Option PyData
  | .d (.int i) => some (.int (-i))
  | _ => none
def vLt : Val → Val → Option Bool
  | .d (.int i), .d (.int j) => some (decide (i < j))
  | _, _ => none
def vLe : Val → Val → Option Bool
  | .d (.int i), .d (.int j) => some (decide (i ≤ j))
  | _, _ => none
def vGt : Val → Val → Option Bool
  | .d (.int i), .d (.int j) => some (decide (j < i))
  | _, _ => none
def vGe : Val → Val → Option Bool
  | .d (.int i), .d (.int j) => some (decide (j ≤ i))
  | _, _ => none
def okD (d : PyData) : Bool := SeqAt.shaped d
instance (xs : List PyData) : Decidable (xs = []) := match xs with
  | [] => isTrue rfl
  | _ :: _ => isFalse (fun h => nomatch h)
def vEqD (u v : Val) : Option Bool := (datOf u).bind fun d => (datOf v).bind fun e => if okD d && okD e then some (PyData.eqv d e) else none
def vEq : Val → Val → Option Bool
  | .d (.str a), .d (.str b) => some (decide (a = b))
  | .d (.tuple xs), .d (.tuple []) => some (decide (xs = []))
  | u, v => vEqD u v
def vNe (u v : Val) : Option Bool := (vEq u v).map (!·)
def vIsN : Val → Option Bool
  | .d .none => some true
  | .exc _ _ => none
  | _ => some false
def vIsNot (v : Val) : Option Bool := (vIsN v).map (!·)

theorem opt_if {α : Type} {c : Prop} [Decidable c] {x w : α} (h : (if c then some x else none) = some w) : c ∧ x = w := by
  by_cases hc : c
  · rw [if_pos hc] at h; exact ⟨hc, Option.some.inj h⟩
  · rw [if_neg hc] at h; cases h
section
variable {X : Cx} {K : PySem.W.Frag}
theorem cat_lst {x y : V} {u v : Val} {a b : List PyData} {I : Hp} {M : Mw} {H : Hp} {Q : VK} (k : Ok I M H) (hx : VR K I M H x u) (hy : VR K I M H y v) (ea : lstOf u = some a) (eb : lstOf v = some b) (hl : a.length + b.length ≤ 1000000)
    (q : ∀ z I' H', Grow I M H I' M H' → Ok I' M H' → Rp K I' z (.list (a ++ b)) → Q z H') : rCat x y H Q := by
  obtain ⟨p, xs, rfl, h1, r1⟩ := VR.lst k hx ea
  obtain ⟨p', ys, rfl, h2, r2⟩ := VR.lst k hy eb
  exact ⟨p, p', xs, ys, rfl, rfl, h1, h2, sz (by rw [r1.len, r2.len]; exact hl), fun l hp => new_lst k (r1.append r2) hp q⟩
def rAddD (K : PySem.W.Frag) : R2 := fun x y H Q => rI0 (fun i j => .int (i + j)) x y H Q ∨ (∃ i j, x = .str i ∧ y = .str j ∧ i.length + j.length ≤ sizeLine ∧ Q (.str (i ++ j)) H) ∨ rCatA K x y H Q ∨ rCat x y H Q
theorem op_addD : OpR X (binaryOp .Add) (rAddD X.K) := OpR.or op_add (OpR.or op_add_str (OpR.or op_catA op_cat))
theorem d_add : Op2D K (rAddD K) vAdd := by
  intro x y u v w I M H Q k hx hy e q
  unfold vAdd at e
  split at e
  · cases e
    exact .inl ⟨_, _, Rp.int_inv hx, Rp.int_inv hy, q _ I H (Grow.refl _ _ _) k (.int _)⟩
  · obtain ⟨hl, rfl⟩ := opt_if e
    exact .inr (.inl ⟨_, _, Rp.str_inv hx, Rp.str_inv hy, sz hl, q _ I H (Grow.refl _ _ _) k (.str _)⟩)
  · obtain ⟨hl, rfl⟩ := opt_if e
    obtain ⟨p, xs, rfl, h1, r1⟩ := VR.tup k hx
    obtain ⟨p', ys, rfl, h2, r2⟩ := VR.tup k hy
    refine .inr (.inr (.inl ⟨p, p', xs, ys, rfl, rfl, h1, h2, sz (by rw [r1.len, r2.len]; exact hl), fun z => ?_, fun _ z => ?_, fun _ _ l hp => new_tup k (r1.append r2) hp q⟩))
    · subst z
      cases r1
      exact q _ I H (Grow.refl _ _ _) k hy
    · subst z
      cases r2
      rw [List.append_nil] at q
      exact q _ I H (Grow.refl _ _ _) k hx
  · obtain ⟨hl, rfl⟩ := opt_if e
    exact .inr (.inr (.inr (cat_lst k hx hy rfl rfl hl q)))
  · obtain ⟨hl, rfl⟩ := opt_if e
    exact .inr (.inr (.inr (cat_lst k hx hy rfl rfl hl q)))
  · obtain ⟨hl, rfl⟩ := opt_if e
    exact .inr (.inr (.inr (cat_lst k hx hy rfl rfl hl q)))
  · obtain ⟨hl, rfl⟩ := opt_if e
    exact .inr (.inr (.inr (cat_lst k hx hy rfl rfl hl q)))
  · cases e
theorem d_sub : Op2D K (rI0 fun i j => .int (i - j)) vSub := by
  intro x y u v w I M H Q k hx hy e q
  unfold vSub at e
  split at e
  · cases e
    exact ⟨_, _, Rp.int_inv hx, Rp.int_inv hy, q _ I H (Grow.refl _ _ _) k (.int _)⟩
  · cases e
def rFdivD : R2 := fun x y H Q => rI CDivW (fun i j => .int (i / j)) x y H Q ∨ rI CDivN (fun i j => .int (i.fdiv j)) x y H Q
theorem op_fdivD : OpR X (binaryOp .FloorDiv) rFdivD := OpR.or op_fdivW op_fdivN
theorem d_fdiv : Op2D K rFdivD vFdiv := by
  intro x y u v w I M H Q k hx hy e q
  unfold vFdiv at e
  split at e
  · split at e
    · rename_i hc
      cases e
      exact .inl ⟨_, _, Rp.int_inv hx, Rp.int_inv hy, hc, q _ I H (Grow.refl _ _ _) k (.int _)⟩
    · obtain ⟨hc, rfl⟩ := opt_if e
      exact .inr ⟨_, _, Rp.int_inv hx, Rp.int_inv hy, hc, q _ I H (Grow.refl _ _ _) k (.int _)⟩
  · cases e
def rModD : R2 := fun x y H Q => rI (fun _ j => 0 < j) (fun i j => .int (i % j)) x y H Q ∨ rI (fun _ j => j ≠ 0) (fun i j => .int (i.fmod j)) x y H Q
theorem op_modD : OpR X (binaryOp .Mod) rModD := OpR.or op_mod op_modN
theorem d_mod : Op2D K rModD vMod := by
  intro x y u v w I M H Q k hx hy e q
  unfold vMod at e
  split at e
  · split at e
    · rename_i hc
      cases e
      exact .inl ⟨_, _, Rp.int_inv hx, Rp.int_inv hy, hc, q _ I H (Grow.refl _ _ _) k (.int _)⟩
    · obtain ⟨hc, rfl⟩ := opt_if e
      exact .inr ⟨_, _, Rp.int_inv hx, Rp.int_inv hy, hc, q _ I H (Grow.refl _ _ _) k (.int _)⟩
  · cases e
theorem d_pow : Op2D K (rI CPow fun i j => .int (i ^ j.toNat)) vPow := by
  intro x y u v w I M H Q k hx hy e q
  unfold vPow at e
  split at e
  · obtain ⟨hc, rfl⟩ := opt_cif e
    exact ⟨_, _, Rp.int_inv hx, Rp.int_inv hy, hc, q _ I H (Grow.refl _ _ _) k (.int _)⟩
  · cases e
theorem d_neg : Un1D K (rU fun i => .int (-i)) vNeg := by
  intro x u w I M H Q k hx e q
  unfold vNeg at e
  split at e
  · cases e
    exact ⟨_, Rp.int_inv hx, q _ I H (Grow.refl _ _ _) k (.int _)⟩
  · cases e
theorem d_lt : Cmp2D K (rI0 fun i j => .bl (decide (i < j))) vLt := by
  intro x y u v w I M H Q k hx hy e q
  unfold vLt at e
  split at e
  · cases e
    exact ⟨_, _, Rp.int_inv hx, Rp.int_inv hy, q⟩
  · cases e
theorem d_le : Cmp2D K (rI0 fun i j => .bl (decide (i ≤ j))) vLe := by
  intro x y u v w I M H Q k hx hy e q
  unfold vLe at e
  split at e
  · cases e
    exact ⟨_, _, Rp.int_inv hx, Rp.int_inv hy, q⟩
  · cases e
theorem d_gt : Cmp2D K (rI0 fun i j => .bl (decide (j < i))) vGt := by
  intro x y u v w I M H Q k hx hy e q
  unfold vGt at e
  split at e
  · cases e
    exact ⟨_, _, Rp.int_inv hx, Rp.int_inv hy, q⟩
  · cases e
theorem d_ge : Cmp2D K (rI0 fun i j => .bl (decide (j ≤ i))) vGe := by
  intro x y u v w I M H Q k hx hy e q
  unfold vGe at e
  split at e
  · cases e
    exact ⟨_, _, Rp.int_inv hx, Rp.int_inv hy, q⟩
  · cases e
theorem vEq_some {u v : Val} {w : Bool} (e : vEqD u v = some w) : ∃ d e, datOf u = some d ∧ datOf v = some e ∧ SeqAt.shaped d = true ∧ SeqAt.shaped e = true ∧ PyData.eqv d e = w := by
  unfold vEqD at e
  cases h1 : datOf u with
  | none => rw [h1] at e; cases e
  | some d =>
    cases h2 : datOf v with
    | none => rw [h1, h2] at e; cases e
    | some f =>
      rw [h1, h2] at e
      have e' : (if (okD d && okD f) = true then some (PyData.eqv d f) else none) = some w := e
      obtain ⟨hc, rfl⟩ := opt_if e'
      rw [Bool.and_eq_true] at hc
      exact ⟨d, f, rfl, rfl, hc.1, hc.2, rfl⟩
def rEqT (K : PySem.W.Frag) (n : Bool) : R2 := fun x y H Q => ∃ a b xs, x = .ref a ∧ y = .ref b ∧ SqT K H a xs ∧ SqT K H b [] ∧ Q (.bl (n != xs.isEmpty)) H
theorem op_eqT (hu : X.A.units + 64 < cLine) : OpR X (compareOp .Eq) (rEqT X.K false) := by
  intro pins s σ H x y v u Q I rx ry h
  obtain ⟨a, b, xs, rfl, rfl, h1, h2, q⟩ := h
  cases rx
  cases ry
  obtain ⟨its, r, p, _⟩ := I.tuple h1
  obtain ⟨its2, r2, p2, _⟩ := I.tuple h2
  cases r2
  refine SeqAt.eq_tupleAt (e := fun _ => true) p p2 (by omega) (fun j h1 h2 => absurd h2 (by simp)) ⟨.bl _, H, I, ?_, q⟩
  have e : ((List.range (min its.toArray.size ([] : List Value).toArray.size)).all (fun _ => true) && its.toArray.size == ([] : List Value).toArray.size) = (false != xs.isEmpty) := by
    cases r with
    | nil => rfl
    | cons _ _ => simp
  rw [e]
  rfl
theorem op_neT (hu : X.A.units + 64 < cLine) : OpR X (compareOp .NotEq) (rEqT X.K true) := by
  intro pins s σ H x y v u Q I rx ry h
  obtain ⟨a, b, xs, rfl, rfl, h1, h2, q⟩ := h
  cases rx
  cases ry
  obtain ⟨its, r, p, _⟩ := I.tuple h1
  obtain ⟨its2, r2, p2, _⟩ := I.tuple h2
  cases r2
  refine SeqAt.RcNeAt.tuples (e := fun _ => true) p p2 (by omega) (fun j h1 h2 => absurd h2 (by simp)) _ _ _ _ ⟨.bl _, H, I, ?_, q⟩
  have e : (!((List.range (min its.toArray.size ([] : List Value).toArray.size)).all (fun _ => true) && its.toArray.size == ([] : List Value).toArray.size)) = (true != xs.isEmpty) := by
    cases r with
    | nil => rfl
    | cons _ _ => simp
  rw [e]
  rfl
def rEqE (K : PySem.W.Frag) : R2 := fun x y H Q => rEq x y H Q ∨ rEqT K false x y H Q ∨ rEqD K x y H Q
def rNeE (K : PySem.W.Frag) : R2 := fun x y H Q => rNe x y H Q ∨ rEqT K true x y H Q ∨ rNeD K x y H Q
theorem op_eqE (hu : X.A.units + 64 < cLine) : OpR X (compareOp .Eq) (rEqE X.K) := OpR.or op_eq (OpR.or (op_eqT hu) (op_eqD hu))
theorem op_neE (hu : X.A.units + 64 < cLine) : OpR X (compareOp .NotEq) (rNeE X.K) := OpR.or op_ne (OpR.or (op_neT hu) (op_neD hu))
theorem emp_len {K : PySem.W.Frag} {I : Hp} {vs : List V} {ds : List PyData} (r : RpAll K I vs ds) : vs.isEmpty = decide (ds = []) := by cases r <;> rfl
theorem dec_str (a b : Str) : decide (V.str a = V.str b) = decide (a = b) := by
  by_cases h : a = b
  · subst h; rw [decide_eq_true rfl, decide_eq_true rfl]
  · rw [decide_eq_false h, decide_eq_false (fun z => h (V.str.inj z))]
theorem d_eq : Cmp2D K (rEqE K) vEq := by
  intro x y u v w I M H Q k hx hy e q
  unfold vEq at e
  split at e
  · cases e
    cases Rp.str_inv hx
    cases Rp.str_inv hy
    exact .inl ⟨rfl, by rw [dec_str]; exact q⟩
  · cases e
    obtain ⟨p, vs, rfl, h1, r⟩ := VR.tup k hx
    obtain ⟨p', vs', rfl, h2, r2⟩ := VR.tup k hy
    cases r2
    exact .inr (.inl ⟨p, p', vs, rfl, rfl, h1, h2, by rw [emp_len r]; simpa using q⟩)
  · obtain ⟨d, f, h1, h2, s1, s2, rfl⟩ := vEq_some e
    refine .inr (.inr ?_)
    exact ⟨d, f, hx.dp k h1 (SeqAt.canLay_of_shaped s1), hy.dp k h2 (SeqAt.canLay_of_shaped s2), s1, s2, q⟩
theorem d_ne : Cmp2D K (rNeE K) vNe := by
  intro x y u v w I M H Q k hx hy e q
  unfold vNe at e
  cases z : vEq u v with
  | none => rw [z] at e; cases e
  | some b =>
    rw [z] at e
    cases e
    unfold vEq at z
    split at z
    · cases z
      cases Rp.str_inv hx
      cases Rp.str_inv hy
      exact .inl ⟨rfl, by rw [dec_str]; exact q⟩
    · cases z
      obtain ⟨p, vs, rfl, h1, r⟩ := VR.tup k hx
      obtain ⟨p', vs', rfl, h2, r2⟩ := VR.tup k hy
      cases r2
      exact .inr (.inl ⟨p, p', vs, rfl, rfl, h1, h2, by rw [emp_len r]; simpa using q⟩)
    · obtain ⟨d, f, h1, h2, s1, s2, rfl⟩ := vEq_some z
      refine .inr (.inr ?_)
      exact ⟨d, f, hx.dp k h1 (SeqAt.canLay_of_shaped s1), hy.dp k h2 (SeqAt.canLay_of_shaped s2), s1, s2, q⟩
end
end Dl
set_option maxRecDepth 100000
set_option maxHeartbeats 4000000
namespace Dl
open PySem L2 PyProof.Rows
/-! ### tuple * int, few times -/
theorem mulT_same (l : Addr) (items : Array Value) (n : Nat) (dd : Option Addr) (sl : Array (Option Value)) (x : Int) (u : Tok) (hx : (decide (x < -(2 ^ 63)) || decide (x ≥ 2 ^ 63)) = false) (he : (items.isEmpty || x == 1) = true) :
    Meets (Builtin.«tuple.__mul__» ⟨[.ref l, .int x u], []⟩) (fun _ R s => s.heap.get? l = some { cls := .type "tuple", dict := dd, data := .seq items n, slots := sl } ∧ R (.ok (.ret (Value.ref l))) s) :=
  .of_wp fun prog w A R s h => by
    obtain ⟨hp, g, d, tk, os⟩ := s
    obtain ⟨hl, h⟩ := h
    have f1 := AutoSeq1.idx_int
    wp_walk using AutoSeq1.wpAny_loadPart' hl
    repeat (first
      | (refine wpAny_ite_false (decide_eq_false (by rw [hx]; exact Bool.false_ne_true)) ?_; wp_walk using AutoSeq1.wpAny_loadPart' hl)
      | (refine wpAny_ite_true (decide_eq_true he) ?_; wp_walk using AutoSeq1.wpAny_loadPart' hl))
    exact ⟨_, rfl, h⟩
theorem mulT_none (l : Addr) (items : Array Value) (n : Nat) (dd : Option Addr) (sl : Array (Option Value)) (x : Int) (u : Tok) (hx : (decide (x < -(2 ^ 63)) || decide (x ≥ 2 ^ 63)) = false) (he : (items.isEmpty || x == 1) = false) (h0 : (decide (x ≤ 0) || items.isEmpty) = true) :
    Meets (Builtin.«tuple.__mul__» ⟨[.ref l, .int x u], []⟩) (fun _ R s => s.heap.get? l = some { cls := .type "tuple", dict := dd, data := .seq items n, slots := sl } ∧
      R (.ok (.ret (Value.ref s.heap.objs.size))) { s with heap := s.heap.push { cls := Value.type "tuple", data := Data.seq #[] }, toks := s.toks }) :=
  .of_wp fun prog w A R s h => by
    obtain ⟨hp, g, d, tk, os⟩ := s
    obtain ⟨hl, h⟩ := h
    have f1 := AutoSeq1.idx_int
    wp_walk using AutoSeq1.wpAny_loadPart' hl
    repeat (first
      | (refine wpAny_ite_false (decide_eq_false (by rw [hx]; exact Bool.false_ne_true)) ?_; wp_walk using AutoSeq1.wpAny_loadPart' hl)
      | (refine wpAny_ite_false (decide_eq_false (by rw [he]; exact Bool.false_ne_true)) ?_; wp_walk using AutoSeq1.wpAny_loadPart' hl)
      | (refine wpAny_ite_true (decide_eq_true h0) ?_; wp_walk using AutoSeq1.wpAny_loadPart' hl))
    exact ⟨_, rfl, h⟩
def rRepT0 (K : PySem.W.Frag) : R2 := fun x y H Q => ∃ l k xs, x = .ref l ∧ y = .int k ∧ SqT K H l xs ∧ -(2 ^ 63) ≤ k ∧ k < 2 ^ 63 ∧
  (((xs = [] ∨ k = 1) ∧ Q (.ref l) H) ∨ (xs ≠ [] ∧ k ≤ 0 ∧ ∀ p, H p = none → Q (.ref p) (upd H p (.tup []))))
theorem op_repT0 {X : Cx} : OpR X (binaryOp .Mult) (rRepT0 X.K) := by
  intro pins s σ H x y v u Q I rx ry h
  obtain ⟨l, k, xs, rfl, rfl, hT, hlo, hhi, h⟩ := h
  cases rx
  obtain ⟨t, rfl⟩ := ry
  obtain ⟨its, r, ⟨⟨cls, dd, data, sl⟩, ho, hc, n, hd⟩, hs⟩ := I.tuple hT
  simp only at hc hd
  subst hc hd
  have hin : (decide (k < -(2 ^ 63)) || decide (k ≥ 2 ^ 63)) = false := by
    rw [decide_eq_false (by omega), decide_eq_false (by omega), Bool.or_false]
  rcases h with ⟨hs1, q⟩ | ⟨hne, h0, q⟩
  · have he : (its.toArray.isEmpty || k == 1) = true := by
      rcases hs1 with z | z
      · subst z
        cases r
        rfl
      · rw [z]; simp
    refine wpAny_binaryOp_repeat_ref (T := "tuple") (U := "int") (by decide) ⟨_, ho, rfl⟩ (fun s' => typeIs_int s' k t) noFill_tuple_mul F.fills_int_mul F.slot_int_rmul repeat_tuple F.slot_int_index.lookup ?_
    refine call_meets F.slot_int_rmul (typeIs_int s k t) F.entry_int_rmul (F.args_int_rmul_2 _ _) (int_rmul_tuple k t l its.toArray n dd sl) ⟨ho, rfl, ⟨_, ho, rfl⟩, ?_⟩
    exact call_meets F.slot_tuple_mul ⟨_, ho, rfl⟩ F.entry_tuple_mul (F.args_tuple_mul_2 _ _) (mulT_same l its.toArray n dd sl k t hin he) ⟨ho, ⟨.ref l, H, I, rfl, q⟩⟩
  · have hn : its.toArray.isEmpty = false := by
      cases its with
      | nil => cases r; exact absurd rfl hne
      | cons a b => rfl
    have he : (its.toArray.isEmpty || k == 1) = false := by
      rw [hn, Bool.false_or]
      exact beq_eq_false_iff_ne.mpr (by omega)
    have hz : (decide (k ≤ 0) || its.toArray.isEmpty) = true := by rw [decide_eq_true h0, Bool.true_or]
    refine wpAny_binaryOp_repeat_ref (T := "tuple") (U := "int") (by decide) ⟨_, ho, rfl⟩ (fun s' => typeIs_int s' k t) noFill_tuple_mul F.fills_int_mul F.slot_int_rmul repeat_tuple F.slot_int_index.lookup ?_
    refine call_meets F.slot_int_rmul (typeIs_int s k t) F.entry_int_rmul (F.args_int_rmul_2 _ _) (int_rmul_tuple k t l its.toArray n dd sl) ⟨ho, rfl, ⟨_, ho, rfl⟩, ?_⟩
    refine call_meets F.slot_tuple_mul ⟨_, ho, rfl⟩ F.entry_tuple_mul (F.args_tuple_mul_2 _ _) (mulT_none l its.toArray n dd sl k t hin he hz) ⟨ho, ?_⟩
    refine ⟨.ref s.heap.objs.size, _, I.laid (t' := s.toks) (o := .tup []) (fun b ob q => Heap.get?_push_of_some _ q) (Nat.le_refl _) ?_, rfl, q _ (I.hok.fresh (Nat.le_refl _))⟩
    exact ⟨Nat.zero_le _, [], .nil, IsTup.new _ _⟩

/-! ### tuple * int, more often -/
def rRepW (K : PySem.W.Frag) : R2 := fun x y H Q => ∃ l k xs, x = .ref l ∧ y = .int k ∧ SqT K H l xs ∧ xs ≠ [] ∧ 2 ≤ k ∧ k.toNat * xs.length ≤ 1000000 ∧ ∀ p, H p = none → Q (.ref p) (upd H p (.tup (List.replicate k.toNat xs).flatten))
theorem op_repW {X : Cx} : OpR X (binaryOp .Mult) (rRepW X.K) := by
  intro pins s σ H x y v u Q I rx ry h
  obtain ⟨l, k, xs, rfl, rfl, hT, hne, h1, hz, q⟩ := h
  cases rx
  obtain ⟨t, rfl⟩ := ry
  obtain ⟨its, r, ⟨⟨cls, dd, data, sl⟩, ho, hc, n, hd⟩, hs⟩ := I.tuple hT
  simp only at hc hd
  subst hc hd
  have hl := r.length
  have hz' : k.toNat * its.length ≤ 1000000 := by rw [← hl]; exact hz
  have hp : 1 ≤ its.length := by
    cases its with
    | nil => cases r; exact absurd rfl hne
    | cons a b => simp
  have hn : its.toArray.isEmpty = false := by
    cases its with
    | nil => simp at hp
    | cons a b => rfl
  have hkle : k.toNat ≤ 1000000 := Nat.le_trans (Nat.le_mul_of_pos_right _ (by omega)) hz'
  have hmI : ((its.toArray.size : Nat) : Int) * k ≤ 1000000 := by
    rw [List.size_toArray]
    have : ((its.length : Nat) : Int) * k = ((k.toNat * its.length : Nat) : Int) := by
      rw [Int.natCast_mul, Int.mul_comm, Int.toNat_of_nonneg (by omega)]
    omega
  have fl : (List.replicate k.toNat its).flatten.length ≤ sizeLine := by
    rw [PyProof.Rows.lm_len_rep_flat]
    exact sz hz'
  have hin : (decide (k < -(2 ^ 63)) || decide (k ≥ 2 ^ 63)) = false := by
    rw [decide_eq_false (by omega), decide_eq_false (by omega), Bool.or_false]
  have he : (its.toArray.isEmpty || k == 1) = false := by
    rw [hn, Bool.false_or]
    exact beq_eq_false_iff_ne.mpr (by omega)
  have h0 : (decide (k ≤ 0) || its.toArray.isEmpty) = false := by
    rw [hn, decide_eq_false (by omega)]; rfl
  have hmany : Builtin.Tuple.tupleTooMany (((its.toArray.size : Nat) : Int) * k) = false := by
    unfold Builtin.Tuple.tupleTooMany
    exact decide_eq_false (by rw [sizeLine_eq]; omega)
  refine wpAny_binaryOp_repeat_ref (T := "tuple") (U := "int") (by decide) ⟨_, ho, rfl⟩ (fun s' => typeIs_int s' k t) noFill_tuple_mul F.fills_int_mul F.slot_int_rmul repeat_tuple F.slot_int_index.lookup ?_
  refine call_meets F.slot_int_rmul (typeIs_int s k t) F.entry_int_rmul (F.args_int_rmul_2 _ _) (int_rmul_tuple k t l its.toArray n dd sl) ⟨ho, rfl, ⟨_, ho, rfl⟩, ?_⟩
  refine call_meets F.slot_tuple_mul ⟨_, ho, rfl⟩ F.entry_tuple_mul (F.args_tuple_mul_2 _ _) (tuple_mulW l its.toArray n dd sl k t hin he h0 (by omega) hmany (by rw [size_rep, List.size_toArray]; exact fl)) ⟨ho, ?_⟩
  rw [size_rep]
  refine ⟨.ref s.heap.objs.size, _, I.laid (t' := s.toks) (o := .tup (List.replicate k.toNat xs).flatten) (fun b ob q => Heap.get?_push_of_some _ q) (Nat.le_refl _) ?_, rfl, q _ (I.hok.fresh (Nat.le_refl _))⟩
  refine ⟨?_, _, r.rep k.toNat, IsTup.new _ _⟩
  rw [PyProof.Rows.lm_len_rep_flat]
  exact sz hz

/-! ### the product -/
noncomputable def vMul : Val → Val → Option PyData
  | .d (.int i), .d (.int j) => cif (i.natAbs.log2 + j.natAbs.log2 < 1000000) (some (.int (i * j))) none
  | .d (.tuple a), .d (.int k) => cif (-1000 ≤ k ∧ k ≤ 1000 ∧ a.length ≤ 1000) (some (.tuple (List.replicate k.toNat a).flatten)) (cif (1 ≤ k ∧ k ≤ 1000000 ∧ k.toNat * a.length ≤ 1000000) (some (.tuple (List.replicate k.toNat a).flatten)) none)
  | .d (.list a), .d (.int k) => cif (-1000000 ≤ k ∧ k ≤ 1000000 ∧ a.length * k.toNat ≤ 1000000) (some (.list (List.replicate k.toNat a).flatten)) none
  | .own a, .d (.int k) => cif (-1000000 ≤ k ∧ k ≤ 1000000 ∧ a.length * k.toNat ≤ 1000000) (some (.list (List.replicate k.toNat a).flatten)) none
  | _, _ => none
def rMulD (K : PySem.W.Frag) : R2 := fun x y H Q => rI CMulW (fun i j => .int (i * j)) x y H Q ∨ rRepT K x y H Q ∨ rRepT0 K x y H Q ∨ rRep x y H Q ∨ rRepW K x y H Q
theorem op_mulD {X : Cx} : OpR X (binaryOp .Mult) (rMulD X.K) := OpR.or op_mulW (OpR.or op_repT (OpR.or op_repT0 (OpR.or op_rep op_repW)))
theorem rep_one {α : Type} (a : List α) : (List.replicate (1 : Int).toNat a).flatten = a := by
  show (List.replicate 1 a).flatten = a
  simp
theorem rep_nil {α : Type} : ∀ n : Nat, (List.replicate n ([] : List α)).flatten = []
  | 0 => rfl
  | n + 1 => by rw [List.replicate_succ, List.flatten_cons, rep_nil n]; rfl
theorem rep_lst {K : PySem.W.Frag} {x y : V} {u : Val} {a : List PyData} {kk : Int} {I : Hp} {M : Mw} {H : Hp} {Q : VK} (k : Ok I M H) (hx : VR K I M H x u) (hy : VR K I M H y (.d (.int kk))) (ea : lstOf u = some a)
    (hl : -1000000 ≤ kk ∧ kk ≤ 1000000 ∧ a.length * kk.toNat ≤ 1000000)
    (q : ∀ z I' H', Grow I M H I' M H' → Ok I' M H' → Rp K I' z (.list (List.replicate kk.toNat a).flatten) → Q z H') : rRep x y H Q := by
  obtain ⟨p, xs, rfl, h1, r1⟩ := VR.lst k hx ea
  exact ⟨p, kk, xs, rfl, Rp.int_inv hy, h1, by omega, by omega, sz (by rw [r1.len]; exact hl.2.2), fun l hp => new_lst k (r1.rep _) hp q⟩
theorem d_mul {K : PySem.W.Frag} : Op2D K (rMulD K) vMul := by
  intro x y u v w I M H Q k hx hy e q
  unfold vMul at e
  split at e
  · obtain ⟨hc, rfl⟩ := opt_cif e
    exact .inl ⟨_, _, Rp.int_inv hx, Rp.int_inv hy, hc, q _ I H (Grow.refl _ _ _) k (.int _)⟩
  · rename_i a kk
    by_cases hold : -1000 ≤ kk ∧ kk ≤ 1000 ∧ a.length ≤ 1000
    case neg =>
      rw [cif_neg hold] at e
      obtain ⟨⟨h2, h3, hl2⟩, rfl⟩ := opt_cif e
      have hxx := hx
      obtain ⟨p, xs, rfl, h1, r1⟩ := VR.tup k hx
      by_cases hz : xs = []
      · subst hz
        cases r1
        rw [rep_nil] at q
        exact .inr (.inr (.inl ⟨p, kk, [], rfl, Rp.int_inv hy, h1, by omega, by omega, .inl ⟨.inl rfl, q _ I H (Grow.refl _ _ _) k hxx⟩⟩))
      · by_cases hk1 : kk = 1
        · subst hk1
          rw [rep_one] at q
          exact .inr (.inr (.inl ⟨p, 1, xs, rfl, Rp.int_inv hy, h1, by omega, by omega, .inl ⟨.inr rfl, q _ I H (Grow.refl _ _ _) k hxx⟩⟩))
        · exact .inr (.inr (.inr (.inr ⟨p, kk, xs, rfl, Rp.int_inv hy, h1, hz, by omega, by rw [r1.len]; exact hl2, fun l hp => new_tup k (r1.rep _) hp q⟩)))
    rw [cif_pos hold] at e
    cases e
    obtain ⟨hlo, hhi, hl⟩ := hold
    have hxx := hx
    obtain ⟨p, xs, rfl, h1, r1⟩ := VR.tup k hx
    by_cases hz : xs = []
    · subst hz
      cases r1
      rw [rep_nil] at q
      exact .inr (.inr (.inl ⟨p, kk, [], rfl, Rp.int_inv hy, h1, by omega, by omega, .inl ⟨.inl rfl, q _ I H (Grow.refl _ _ _) k hxx⟩⟩))
    · by_cases hk : kk = 1
      · subst hk
        rw [rep_one] at q
        exact .inr (.inr (.inl ⟨p, 1, xs, rfl, Rp.int_inv hy, h1, by omega, by omega, .inl ⟨.inr rfl, q _ I H (Grow.refl _ _ _) k hxx⟩⟩))
      · by_cases h0 : kk ≤ 0
        · have e0 : kk.toNat = 0 := by omega
          rw [e0] at q
          exact .inr (.inr (.inl ⟨p, kk, xs, rfl, Rp.int_inv hy, h1, by omega, by omega, .inr ⟨hz, h0, fun l hp => new_tup k .nil hp q⟩⟩))
        · exact .inr (.inl ⟨p, kk, xs, rfl, Rp.int_inv hy, h1, hz, by omega, hhi, by rw [r1.len]; exact hl, fun l hp => new_tup k (r1.rep _) hp q⟩)
  · obtain ⟨hc, rfl⟩ := opt_cif e
    exact .inr (.inr (.inr (.inl (rep_lst k hx hy rfl hc q))))
  · obtain ⟨hc, rfl⟩ := opt_cif e
    exact .inr (.inr (.inr (.inl (rep_lst k hx hy rfl hc q))))
  · cases e
end Dl
set_option maxRecDepth 100000
set_option maxHeartbeats 4000000
namespace Dl
open PySem L2
/-! ### is None -/
section
variable {S : Type}
def tIs (f : Val → Option Bool) (a : Rho → S → Res S Val) : Rho → S → Res S Bool := fun ρ st => (a ρ st).bind fun x st1 => liftB (f x) st1
end
theorem VR.isN {K : PySem.W.Frag} {I : Hp} {M : Mw} {H : Hp} {x : V} {u : Val} {b : Bool} (h : VR K I M H x u) (e : vIsN u = some b) : decide (x = .non) = b := by
  match u, h, e with
  | .d .none, h, e => cases e; rw [Rp.non_inv h]; rfl
  | .d (.bool c), h, e => cases e; rw [Rp.bool_inv h]; rfl
  | .d (.int c), h, e => cases e; rw [Rp.int_inv h]; rfl
  | .d (.str c), h, e => cases e; rw [Rp.str_inv h]; rfl
  | .d (.list c), h, e => cases e; cases h; rfl
  | .d (.tuple c), h, e => cases e; cases h; rfl
  | .d (.dict c), h, e => cases e; cases h; rfl
  | .ref n, ⟨a, _, z⟩, e => cases e; rw [z]; rfl
  | .own xs, ⟨p, vs, z, _⟩, e => cases e; rw [z]; rfl
  | .ownd a b c, ⟨p, vs, z, _⟩, e => cases e; rw [z]; rfl
section
variable {U : Uni} {X : Cx} {W : WX} {a b c : Expr} {Fa Fb Fc : Rho → U.S → Res U.S Val} {A : Rho → U.S → Res U.S (List Val)} {pos : Pos}
theorem ptd_isN {j p} (ha : PEd U X W a Fa) : PTd U X W (.Compare a [.Is] [.Constant .none j p] pos) (tIs vIsN Fa) := by
  refine pt_imp (pt_cmp (pc_isN ha)) fun σ H Q h => ?_
  refine tG.bind h fun Z ρ st1 x u I1 M1 H1 ft hx ps => ?_
  obtain ⟨w, e, q⟩ := Post.liftB ps ft.ok ft.rs
  exact ⟨w, by rw [VR.isN hx e], q⟩
theorem ptd_notN {j p} (ha : PEd U X W a Fa) : PTd U X W (.Compare a [.IsNot] [.Constant .none j p] pos) (tIs vIsNot Fa) := by
  refine pt_imp (pt_cmp (pc_notN ha)) fun σ H Q h => ?_
  refine tG.bind h fun Z ρ st1 x u I1 M1 H1 ft hx ps => ?_
  obtain ⟨w, e, q⟩ := Post.liftB ps ft.ok ft.rs
  unfold vIsNot at e
  cases z : vIsN u with
  | none => rw [z] at e; cases e
  | some c =>
    rw [z] at e
    cases e
    exact ⟨!c, by rw [VR.isN hx z], q⟩
theorem ped_isN {j p} (ha : PEd U X W a Fa) : PEd U X W (.Compare a [.Is] [.Constant .none j p] pos) (eB (tIs vIsN Fa)) := by
  refine pe_imp (pe_cmp (pc_isN ha)) fun σ H Q h => ?_
  obtain ⟨Z, ρ, st, I, M, ft, ps⟩ := h
  refine ⟨Z, ρ, st, I, M, ft, ?_⟩
  unfold eB tIs at ps
  cases e : Fa ρ st with
  | stuck => rw [e] at ps; exact ps
  | exc c fs st1 => rw [e] at ps; exact ps
  | ok v st1 =>
    intro x I' M' H' g k r hx
    rw [e] at ps
    have ps : Post U X.K (VR X.K) ((liftB (vIsN v) st1).bind fun b st1 => .ok (.d (.bool b)) st1) I M H Q fun cls d H' => W cls d σ H' := ps
    cases z : vIsN v with
    | none => rw [z] at ps; exact False.elim ps
    | some b =>
      rw [z] at ps
      exact ps (.bl (decide (x = .non))) I' M' H' g k r (by rw [VR.isN hx z]; exact .bl b)
end

/-! ### built-ins on values -/
theorem VRs.one {K : PySem.W.Frag} {I : Hp} {M : Mw} {H : Hp} {xs : List V} {v : Val} (h : VRs K I M H xs [v]) : ∃ x, xs = [x] ∧ VR K I M H x v := by
  cases h with
  | cons a r => cases r; exact ⟨_, rfl, a⟩
theorem VRs.two {K : PySem.W.Frag} {I : Hp} {M : Mw} {H : Hp} {xs : List V} {v w : Val} (h : VRs K I M H xs [v, w]) : ∃ x y, xs = [x, y] ∧ VR K I M H x v ∧ VR K I M H y w := by
  cases h with
  | cons a r =>
    cases r with
    | cons b r => cases r; exact ⟨_, _, rfl, a, b⟩
def bLen : List Val → Option PyData
  | [.d (.str z)] => if z.length ≤ 1000000 then some (.int z.length) else none
  | [u] => (seqOf u).map fun ds => .int ds.length
  | _ => none
def bInt : List Val → Option PyData
  | [.d (.int i)] => some (.int i)
  | [.d (.bool b)] => some (.int (if b then 1 else 0))
  | _ => none
def bAbs : List Val → Option PyData
  | [.d (.int i)] => some (.int (if i < 0 then -i else i))
  | _ => none
def bMin : List Val → Option PyData
  | [.d (.int i), .d (.int j)] => some (.int (if j < i then j else i))
  | _ => none
def bMax : List Val → Option PyData
  | [.d (.int i), .d (.int j)] => some (.int (if j > i then j else i))
  | _ => none
def allInts : List PyData → Option (List Int)
  | [] => some []
  | .int i :: r => (allInts r).map (i :: ·)
  | _ :: _ => none
def allBools : List PyData → Option (List Bool)
  | [] => some []
  | .bool i :: r => (allBools r).map (i :: ·)
  | _ :: _ => none
def bSum : List Val → Option PyData
  | [u] => (lstOf u).bind fun ds => (allInts ds).map fun ns => .int ns.sum
  | _ => none
def bAll : List Val → Option PyData
  | [u] => (lstOf u).bind fun ds => (allBools ds).map fun bs => .bool (bs.all id)
  | _ => none
def bAny : List Val → Option PyData
  | [u] => (lstOf u).bind fun ds => (allBools ds).map fun bs => .bool (bs.any id)
  | _ => none
def bTuple : List Val → Option PyData
  | [u] => (seqOf u).map .tuple
  | _ => none
def bList : List Val → Option PyData
  | [u] => (seqOf u).map .list
  | _ => none
theorem allInts_eq : ∀ {ds : List PyData} {ns : List Int}, allInts ds = some ns → ds = ns.map PyData.int
  | [], _, e => by cases e; rfl
  | .int i :: r, ns, e => by
    unfold allInts at e
    cases z : allInts r with
    | none => rw [z] at e; cases e
    | some ms => rw [z] at e; cases e; rw [List.map_cons, ← allInts_eq z]
theorem allInts_map (ns : List Int) : allInts (ns.map PyData.int) = some ns := by
  induction ns with
  | nil => rfl
  | cons n ns ih => rw [List.map_cons]; unfold allInts; rw [ih]; rfl
theorem allBools_eq : ∀ {ds : List PyData} {ns : List Bool}, allBools ds = some ns → ds = ns.map PyData.bool
  | [], _, e => by cases e; rfl
  | .bool i :: r, ns, e => by
    unfold allBools at e
    cases z : allBools r with
    | none => rw [z] at e; cases e
    | some ms => rw [z] at e; cases e; rw [List.map_cons, ← allBools_eq z]
theorem allBools_map (ns : List Bool) : allBools (ns.map PyData.bool) = some ns := by
  induction ns with
  | nil => rfl
  | cons n ns ih => rw [List.map_cons]; unfold allBools; rw [ih]; rfl
theorem map_some {α β : Type} {o : Option α} {f : α → β} {w : β} (h : o.map f = some w) : ∃ a, o = some a ∧ f a = w := by
  cases o with
  | none => cases h
  | some a => exact ⟨a, rfl, Option.some.inj h⟩
theorem bind_some {α β : Type} {o : Option α} {f : α → Option β} {w : β} (h : o.bind f = some w) : ∃ a, o = some a ∧ f a = some w := by
  cases o with
  | none => cases h
  | some a => exact ⟨a, rfl, h⟩
section
variable {X : Cx} {K : PySem.W.Frag}
def rLenD (K : PySem.W.Frag) : List V → Hp → VK → Prop := fun xs H Q => (∃ p ys, xs = [.ref p] ∧ (SqL K H p ys ∨ SqT K H p ys) ∧ Q (.int ys.length) H) ∨ ∃ z, xs = [.str z] ∧ z.length ≤ sizeLine ∧ Q (.int z.length) H
theorem call_lenD : CallR X (.builtin "len") (rLenD X.K) := CallR.or call_len_seq call_len_str
theorem d_len : CallD K (rLenD K) bLen := by
  intro xs vs w I M H Q k hs e q
  unfold bLen at e
  split at e
  · obtain ⟨x, rfl, hx⟩ := VRs.one hs
    obtain ⟨hc, rfl⟩ := opt_if e
    exact .inr ⟨_, by rw [Rp.str_inv hx], sz hc, q _ I H (Grow.refl _ _ _) k (.int _)⟩
  · obtain ⟨x, rfl, hx⟩ := VRs.one hs
    obtain ⟨ds, e1, rfl⟩ := map_some e
    obtain ⟨p, ys, rfl, h1, r⟩ := VR.seq k hx e1
    exact .inl ⟨p, ys, rfl, h1, q _ I H (Grow.refl _ _ _) k (by rw [r.len]; exact .int _)⟩
  · cases e
theorem d_int : CallD K (fun xs H Q => (∃ i, xs = [.int i] ∧ Q (.int i) H) ∨ ∃ k, xs = [.bl k] ∧ Q (.int (if k then 1 else 0)) H) bInt := by
  intro xs vs w I M H Q k hs e q
  unfold bInt at e
  split at e
  · obtain ⟨x, rfl, hx⟩ := VRs.one hs
    cases e
    exact .inl ⟨_, by rw [Rp.int_inv hx], q _ I H (Grow.refl _ _ _) k (.int _)⟩
  · obtain ⟨x, rfl, hx⟩ := VRs.one hs
    cases e
    exact .inr ⟨_, by rw [Rp.bool_inv hx], q _ I H (Grow.refl _ _ _) k (.int _)⟩
  · cases e
theorem d_abs : CallD K (fun xs H Q => ∃ i, xs = [.int i] ∧ Q (.int (if i < 0 then -i else i)) H) bAbs := by
  intro xs vs w I M H Q k hs e q
  unfold bAbs at e
  split at e
  · obtain ⟨x, rfl, hx⟩ := VRs.one hs
    cases e
    exact ⟨_, by rw [Rp.int_inv hx], q _ I H (Grow.refl _ _ _) k (.int _)⟩
  · cases e
theorem d_min : CallD K (fun xs H Q => ∃ i j, xs = [.int i, .int j] ∧ Q (.int (if j < i then j else i)) H) bMin := by
  intro xs vs w I M H Q k hs e q
  unfold bMin at e
  split at e
  · obtain ⟨x, y, rfl, hx, hy⟩ := VRs.two hs
    cases e
    exact ⟨_, _, by rw [Rp.int_inv hx, Rp.int_inv hy], q _ I H (Grow.refl _ _ _) k (.int _)⟩
  · cases e
theorem d_max : CallD K (fun xs H Q => ∃ i j, xs = [.int i, .int j] ∧ Q (.int (if j > i then j else i)) H) bMax := by
  intro xs vs w I M H Q k hs e q
  unfold bMax at e
  split at e
  · obtain ⟨x, y, rfl, hx, hy⟩ := VRs.two hs
    cases e
    exact ⟨_, _, by rw [Rp.int_inv hx, Rp.int_inv hy], q _ I H (Grow.refl _ _ _) k (.int _)⟩
  · cases e
theorem d_sum : CallD K (rSum K) bSum := by
  intro xs vs w I M H Q k hs e q
  unfold bSum at e
  split at e
  · obtain ⟨x, rfl, hx⟩ := VRs.one hs
    obtain ⟨ds, e1, e2⟩ := bind_some e
    obtain ⟨ns, e3, rfl⟩ := map_some e2
    obtain ⟨p, ys, rfl, h1, r⟩ := VR.lst k hx e1
    rw [allInts_eq e3] at r
    exact ⟨p, ns, rfl, SqL.of (by rw [← r.ints]; exact h1), q _ I H (Grow.refl _ _ _) k (.int _)⟩
  · cases e
theorem d_all : CallD K (rAll K) bAll := by
  intro xs vs w I M H Q k hs e q
  unfold bAll at e
  split at e
  · obtain ⟨x, rfl, hx⟩ := VRs.one hs
    obtain ⟨ds, e1, e2⟩ := bind_some e
    obtain ⟨ns, e3, rfl⟩ := map_some e2
    obtain ⟨p, ys, rfl, h1, r⟩ := VR.lst k hx e1
    rw [allBools_eq e3] at r
    exact ⟨p, ns, rfl, SqL.of (by rw [← r.bools]; exact h1), q _ I H (Grow.refl _ _ _) k (.bl _)⟩
  · cases e
theorem d_any : CallD K (rAny K) bAny := by
  intro xs vs w I M H Q k hs e q
  unfold bAny at e
  split at e
  · obtain ⟨x, rfl, hx⟩ := VRs.one hs
    obtain ⟨ds, e1, e2⟩ := bind_some e
    obtain ⟨ns, e3, rfl⟩ := map_some e2
    obtain ⟨p, ys, rfl, h1, r⟩ := VR.lst k hx e1
    rw [allBools_eq e3] at r
    exact ⟨p, ns, rfl, SqL.of (by rw [← r.bools]; exact h1), q _ I H (Grow.refl _ _ _) k (.bl _)⟩
  · cases e
theorem d_tuple : CallD K (fun xs H Q => ∃ p ys, xs = [.ref p] ∧ ((SqL K H p ys ∧ ∀ l, H l = none → Q (.ref l) (upd H l (.tup ys))) ∨ (SqT K H p ys ∧ Q (.ref p) H))) bTuple := by
  intro xs vs w I M H Q k hs e q
  unfold bTuple at e
  split at e
  · rename_i u
    obtain ⟨x, rfl, hx⟩ := VRs.one hs
    obtain ⟨ds, e1, rfl⟩ := map_some e
    match u, hx, e1 with
    | .d (.tuple xs), hx, e1 =>
      cases e1
      have h0 := hx
      obtain ⟨p, ys, rfl, h1, r⟩ := VR.tup k hx
      exact ⟨p, ys, rfl, .inr ⟨h1, q _ I H (Grow.refl _ _ _) k h0⟩⟩
    | .d (.list xs), hx, e1 =>
      obtain ⟨p, ys, rfl, h1, r⟩ := VR.lst k hx (show lstOf (.d (.list xs)) = some ds from e1)
      exact ⟨p, ys, rfl, .inl ⟨SqL.of h1, fun l hl => new_tup k r hl q⟩⟩
    | .own xs, hx, e1 =>
      obtain ⟨p, ys, rfl, h1, r⟩ := VR.lst k hx (show lstOf (.own xs) = some ds from e1)
      exact ⟨p, ys, rfl, .inl ⟨SqL.of h1, fun l hl => new_tup k r hl q⟩⟩
  · cases e
theorem d_list : CallD K (fun xs H Q => ∃ p ys, xs = [.ref p] ∧ (SqL K H p ys ∨ SqT K H p ys) ∧ ∀ l, H l = none → Q (.ref l) (upd H l (.lst ys))) bList := by
  intro xs vs w I M H Q k hs e q
  unfold bList at e
  split at e
  · obtain ⟨x, rfl, hx⟩ := VRs.one hs
    obtain ⟨ds, e1, rfl⟩ := map_some e
    obtain ⟨p, ys, rfl, h1, r⟩ := VR.seq k hx e1
    exact ⟨p, ys, rfl, h1, fun l hl => new_lst k r hl q⟩
  · cases e
end

/-! ### isinstance -/
inductive Ty | int | bool | tuple | str
def tyName : Ty → String
  | .int => "int" | .bool => "bool" | .tuple => "tuple" | .str => "str"
def isTy : Ty → Val → Option PyData
  | .int, .d (.int _) => some (.bool true)
  | .int, .d (.bool _) => some (.bool true)
  | .bool, .d (.bool _) => some (.bool true)
  | .tuple, .d (.tuple _) => some (.bool true)
  | .str, .d (.str _) => some (.bool true)
  | _, .d _ => some (.bool false)
  | _, _ => none
def tyD : PyData → String
  | .none => "NoneType" | .bool _ => "bool" | .int _ => "int" | .str _ => "str" | .list _ => "list" | .tuple _ => "tuple" | .dict _ => "dict"
theorem VR.tyX {K : PySem.W.Frag} {I : Hp} {M : Mw} {H : Hp} {x : V} {d : PyData} (k : Ok I M H) (h : VR K I M H x (.d d)) : TyX K H x (.type (tyD d)) := by
  cases h with
  | non => exact .base .non
  | bl b => exact .base (.bl b)
  | int b => exact .base (.int b)
  | str b => exact .base (.str b)
  | lst a r => exact .base (.lst (k.ih _ _ a))
  | dct a l r => exact .base (.dK (k.ih _ _ a))
  | tup a r =>
    rcases a with (a | ⟨o, a⟩) | ⟨o, its, n, a, c, _⟩
    · exact .base (.tup (k.ih _ _ a))
    · exact .fTuple (k.ih _ _ a)
    · exact .kTuple a c
theorem kit_of_ty {K : PySem.W.Frag} {T : Ty} {d w : PyData} (e : isTy T (.d d) = some w) : ∃ b, w = .bool b ∧ PySem.W.kitOne K (.type (tyD d)) (.type (tyName T)) = some b := by
  have key : ∀ (a b : String) (r : Bool), kitB a b = some r → PySem.W.kitOne K (.type a) (.type b) = some r := fun a b r h => kit_ty h
  cases d with
  | none => cases T <;> cases e <;> exact ⟨_, rfl, key "NoneType" _ _ (by decide +kernel)⟩
  | bool b => cases T <;> cases e <;> exact ⟨_, rfl, key "bool" _ _ (by decide +kernel)⟩
  | int b => cases T <;> cases e <;> exact ⟨_, rfl, key "int" _ _ (by decide +kernel)⟩
  | str b => cases T <;> cases e <;> exact ⟨_, rfl, key "str" _ _ (by decide +kernel)⟩
  | list b => cases T <;> cases e <;> exact ⟨_, rfl, key "list" _ _ (by decide +kernel)⟩
  | tuple b => cases T <;> cases e <;> exact ⟨_, rfl, key "tuple" _ _ (by decide +kernel)⟩
  | dict b => cases T <;> cases e <;> exact ⟨_, rfl, key "dict" _ _ (by decide +kernel)⟩
section
variable {U : Uni} {X : Cx} {W : WX} {a : Expr} {Fa : Rho → U.S → Res U.S Val} {pos p q : Pos}
theorem ped_isi (T : Ty) {x : Str} (hg : Gl X "isinstance") (hm : X.mg "isinstance" = none) (hgT : Gl X x) (hmT : X.mg x = none) (hT : bootBuiltins x = some (.type (tyName T))) (ha : PEd U X W a Fa)
    (hs : starEach (a :: [.Name x q]) X.env = (false, eval a X.env) :: starEach [.Name x q] X.env := by rfl) (hn : x ≠ "__name__" := by decide) (hd : (x == ("__debug__" : Str)) = false := by decide) :
    PEd U X W (.Call (.Name "isinstance" p) [a, .Name x q] [] pos) (eUn (isTy T) Fa) := by
  refine pe_imp (pe_callB call_isi hg hm (by decide +kernel) (pa_cons ha (pa_cons (pe_bltn (v := .ty (tyName T)) hgT hmT hT rfl hn hd) pa_nil) hs) (by decide) (by decide) hs) fun σ H Q h => ?_
  refine tG.bind h fun Z ρ st1 x u I1 M1 H1 ft hx ps => ?_
  obtain ⟨w, e, q⟩ := Post.liftE ps ft.rs
  match u, hx, e with
  | .d d, hx, e =>
    obtain ⟨b, rfl, hk⟩ := kit_of_ty (K := X.K) e
    exact ⟨x, .ty (tyName T), _, _, b, rfl, .ty _, VR.tyX ft.ok hx, hk, q _ I1 H1 (Grow.refl _ _ _) ft.ok (.bl b)⟩
  | .ref n, hx, e => cases T <;> cases e
  | .own n, hx, e => cases T <;> cases e
  | .exc n m, hx, e => cases T <;> cases e
  | .ownd a b c, hx, e => cases T <;> cases e
end
end Dl
set_option maxRecDepth 100000
set_option maxHeartbeats 4000000
namespace Dl
open PySem L2
/-! ### subscripts -/
def vIx : Val → Val → Option PyData
  | .d (.str z), .d (.int i) => if z.length ≤ 1000000 then (atI z.cps.toList i).map fun c => .str ⟨#[c]⟩ else none
  | u, .d (.int i) => (seqOf u).bind fun ds => atI ds i
  | _, _ => none
def cutD {α : Type} (xs : List α) (lo hi : Option Int) : List α := (xs.drop (HT.sIx xs.length 0 lo)).take (HT.sIx xs.length xs.length hi - HT.sIx xs.length 0 lo)
section
variable {K : PySem.W.Frag}
theorem RpAll.cut {I : Hp} {xs : List V} {ds : List PyData} (r : RpAll K I xs ds) (lo hi : Option Int) : RpAll K I (cutV xs lo hi) (cutD ds lo hi) := by
  unfold cutV cutD
  rw [r.len]
  exact (r.drop _).take _
theorem d_ix : Op2D K (rIx K) vIx := by
  intro x y u v w I M H Q k hx hy e q
  unfold vIx at e
  split at e
  · obtain ⟨hc, e⟩ : _ ∧ _ := by
      split at e
      · rename_i hc; exact ⟨hc, e⟩
      · cases e
    obtain ⟨c, e1, rfl⟩ := map_some e
    exact .inr (.inr ⟨_, _, c, Rp.str_inv hx, Rp.int_inv hy, sz hc, e1, q _ I H (Grow.refl _ _ _) k (.str _)⟩)
  · obtain ⟨ds, e1, e2⟩ := bind_some e
    obtain ⟨p, ys, rfl, h1, r⟩ := VR.seq k hx e1
    obtain ⟨z, h2, h3⟩ := r.atI e2
    rcases h1 with h1 | h1
    · exact .inl ⟨p, ys, _, z, rfl, Rp.int_inv hy, h1, h2, q _ I H (Grow.refl _ _ _) k h3⟩
    · exact .inr (.inl ⟨p, ys, _, z, rfl, Rp.int_inv hy, h1, h2, q _ I H (Grow.refl _ _ _) k h3⟩)
  · cases e
end
section
variable {S : Type}
def oNone : Rho → S → Res S (Option Int) := fun _ st => .ok none st
def oSome (a : Rho → S → Res S Val) : Rho → S → Res S (Option Int) := fun ρ st => (a ρ st).bind fun x st1 => match x with
  | .d (.int i) => .ok (some i) st1
  | _ => .stuck
def eSl (f : Val → Option Int → Option Int → Option PyData) (a : Rho → S → Res S Val) (lo hi : Rho → S → Res S (Option Int)) : Rho → S → Res S Val := fun ρ st => (a ρ st).bind fun x st1 => (lo ρ st1).bind fun l st2 => (hi ρ st2).bind fun h st3 => lift (f x l h) st3
end
def vSl : Val → Option Int → Option Int → Option PyData
  | .d (.tuple xs), lo, hi => some (.tuple (cutD xs lo hi))
  | .d (.list xs), lo, hi => some (.list (cutD xs lo hi))
  | .own xs, lo, hi => some (.list (cutD xs lo hi))
  | _, _, _ => none
theorem po_imp {X : Cx} {e : Option Expr} {t t' : TO} (h : PO X e t) (m : ∀ σ H Q, t' σ H Q → t σ H Q) : PO X e t' := ⟨fun pins s σ H Q I q => h.run pins s σ H Q I (m σ H Q q)⟩
abbrev rOpt : Hp → Mw → Hp → Option Int → Option Int → Prop := fun _ _ _ x a => x = a
def POd (U : Uni) (X : Cx) (W : WX) (e : Option Expr) (F : Rho → U.S → Res U.S (Option Int)) : Prop := PO X e (tG U X.K W rOpt F)
def rSlD (K : PySem.W.Frag) : V → Option Int → Option Int → Hp → VK → Prop := fun x lo hi H Q => rSlA K x lo hi H Q ∨ rSlL K x lo hi H Q
theorem sl_D {X : Cx} : SlR X (rSlD X.K) := SlR.or sl_tupA sl_list
theorem cut_whole {α : Type} {xs : List α} {lo hi : Option Int} (h : HT.sIx xs.length 0 lo = 0 ∧ HT.sIx xs.length xs.length hi = xs.length) : cutD xs lo hi = xs := by
  unfold cutD
  rw [h.1, h.2]
  simp
section
variable {U : Uni} {X : Cx} {W : WX} {a b : Expr} {Fa Fb : Rho → U.S → Res U.S Val} {G1 G2 : Rho → U.S → Res U.S (Option Int)} {lo hi : Option Expr} {pos p2 : Pos}
theorem ped_ix (ha : PEd U X W a Fa) (hb : PEd U X W b Fb) (hs : PlainIx b) : PEd U X W (.Subscript a b pos) (eOp vIx Fa Fb) := pe_imp (pe_ix ix_seq ha hb hs) (op_read d_ix)
theorem pod_none : POd U X W none oNone := po_imp po_none fun σ H Q ⟨Z, ρ, st, I, M, ft, ps⟩ => ps none I M H (Grow.refl _ _ _) ft.ok ft.rs rfl
theorem pod_some (ha : PEd U X W a Fa) : POd U X W (some a) (oSome Fa) := by
  refine po_imp (po_some ha) fun σ H Q h => ?_
  refine tG.bind h fun Z ρ st1 x u I1 M1 H1 ft hx ps => ?_
  match u, hx, ps with
  | .d (.int i), hx, ps => exact ⟨i, Rp.int_inv hx, ps (some i) I1 M1 H1 (Grow.refl _ _ _) ft.ok ft.rs rfl⟩
theorem ped_sl (ha : PEd U X W a Fa) (hl : POd U X W lo G1) (hh : POd U X W hi G2) : PEd U X W (.Subscript a (.Slice lo hi none p2) pos) (eSl vSl Fa G1 G2) := by
  refine pe_imp (pe_slice sl_D ha hl hh) fun σ H Q h => ?_
  refine tG.bind h fun Z ρ st1 x u I1 M1 H1 ft hx ps => ?_
  refine Post.next ft ps fun st2 y l I2 M2 H2 g2 ft2 hy ps2 => ?_
  refine Post.next ft2 ps2 fun st3 z m I3 M3 H3 g3 ft3 hz ps3 => ?_
  have hy : y = l := hy
  have hz : z = m := hz
  subst hy hz
  have hx3 := VR.grow (g2.trans g3) hx
  obtain ⟨w, e, q⟩ := Post.liftE ps3 ft3.rs
  match u, hx3, e with
  | .d (.tuple xs), hx3, e =>
    cases e
    have h0 := hx3
    obtain ⟨p, vs, rfl, h1, r⟩ := VR.tup ft3.ok hx3
    refine .inl ⟨p, vs, rfl, h1, fun hw => ?_, fun hw l hl => new_tup ft3.ok (r.cut y z) hl q⟩
    rw [cut_whole (by rw [← r.len]; exact hw)] at q
    exact q _ I3 H3 (Grow.refl _ _ _) ft3.ok h0
  | .d (.list xs), hx3, e =>
    cases e
    obtain ⟨p, vs, rfl, h1, r⟩ := VR.lst ft3.ok hx3 rfl
    exact .inr ⟨p, vs, rfl, SqL.of h1, fun l hl => new_lst ft3.ok (r.cut y z) hl q⟩
  | .own xs, hx3, e =>
    cases e
    obtain ⟨p, vs, rfl, h1, r⟩ := VR.lst ft3.ok hx3 rfl
    exact .inr ⟨p, vs, rfl, SqL.of h1, fun l hl => new_lst ft3.ok (r.cut y z) hl q⟩
end
/-! ### x in (a, b, ..), flat things -/
def flatD : PyData → Bool
  | .none => true | .bool _ => true | .int _ => true | .str _ => true
  | _ => false
def vIn (u v : Val) : Option Bool := match u with
  | .d x => if flatD x then (seqOf v).bind fun ds => if ds.all flatD then some (ds.any fun y => PyData.eqv y x) else none else none
  | _ => none
def vNotIn (u v : Val) : Option Bool := (vIn u v).map (!·)
section
variable {K : PySem.W.Frag} {I : Hp}
theorem Rp.flat {x : V} {d : PyData} (h : Rp K I x d) (f : flatD d = true) : flatV x = true := by
  cases h <;> first | rfl | cases f
theorem RpAll.flat : ∀ {xs : List V} {ds : List PyData}, RpAll K I xs ds → ds.all flatD = true → xs.all flatV = true
  | _, _, .nil, _ => rfl
  | _, _, .cons h r, f => by
    rw [List.all_cons, Bool.and_eq_true] at f ⊢
    exact ⟨h.flat f.1, RpAll.flat r f.2⟩
theorem eqV_eqv {x y : V} {d e : PyData} (hx : Rp K I x d) (hy : Rp K I y e) (f : flatD d = true) (g : flatD e = true) : eqV x y = PyData.eqv d e := by
  cases hx <;> first | (cases f; done) | (cases hy <;> first | (cases g; done) | rfl | (simp [eqV, PyData.eqv]))
theorem any_eqv {x : V} {d : PyData} (hx : Rp K I x d) (f : flatD d = true) : ∀ {xs : List V} {ds : List PyData}, RpAll K I xs ds → ds.all flatD = true → xs.any (fun y => eqV y x) = ds.any fun e => PyData.eqv e d
  | _, _, .nil, _ => rfl
  | _, _, .cons h r, g => by
    rw [List.all_cons, Bool.and_eq_true] at g
    rw [List.any_cons, List.any_cons, eqV_eqv h hx g.1 f, any_eqv hx f r g.2]
theorem vIn_read {M : Mw} {H : Hp} {x y : V} {u v : Val} {w : Bool} (k : Ok I M H) (hx : VR K I M H x u) (hy : VR K I M H y v) (e : vIn u v = some w) :
    ∃ p xs, y = .ref p ∧ (SqL K H p xs ∨ SqT K H p xs) ∧ flatV x = true ∧ xs.all flatV = true ∧ inV x xs = w := by
  unfold vIn at e
  match u, hx, e with
  | .d d, hx, e =>
    have e : (if flatD d = true then (seqOf v).bind fun ds => if ds.all flatD = true then some (ds.any fun y => PyData.eqv y d) else none else none) = some w := e
    split at e
    · rename_i f
      obtain ⟨ds, e1, e2⟩ := bind_some e
      obtain ⟨g, rfl⟩ := opt_if e2
      obtain ⟨p, ys, rfl, h1, r⟩ := VR.seq k hy e1
      exact ⟨p, ys, rfl, h1, Rp.flat hx f, r.flat g, any_eqv hx f r g⟩
    · cases e
theorem d_in : Cmp2D K (rIn K false) vIn := by
  intro x y u v w I M H Q k hx hy e q
  obtain ⟨p, xs, h1, h2, h3, h4, rfl⟩ := vIn_read k hx hy e
  exact ⟨p, xs, h1, h2, h3, h4, q⟩
theorem d_notIn : Cmp2D K (rIn K true) vNotIn := by
  intro x y u v w I M H Q k hx hy e q
  obtain ⟨b, e1, rfl⟩ := map_some e
  obtain ⟨p, xs, h1, h2, h3, h4, rfl⟩ := vIn_read k hx hy e1
  exact ⟨p, xs, h1, h2, h3, h4, q⟩
end
/-! ### repr -/
def bRepr : List Val → Option PyData
  | [u] => (datOf u).bind fun d => if SeqAt.shaped d && d.showable && decide (d.shown.length ≤ 1000000) then some (.str d.shown) else none
  | _ => none
def rReprD (K : PySem.W.Frag) : List V → Hp → VK → Prop := fun xs H Q => ∃ x d, xs = [x] ∧ Dp K H x d ∧ SeqAt.shaped d = true ∧ d.showable = true ∧ d.shown.length ≤ 1000000 ∧ Q (.str d.shown) H
theorem call_reprD {X : Cx} (hg : X.A.guards = some []) (hu : X.A.units + 70 < cLine) : CallR X (.builtin "repr") (rReprD X.K) := by
  intro pins s σ H xs us Q I r h
  obtain ⟨x, d, rfl, hd, hs, hw, hl, q⟩ := h
  obtain ⟨u, rfl, ru⟩ := vals1 r
  have fin : ∀ tk t, EP X pins σ Q (.str d.shown t) { s with toks := tk } := fun tk t => ⟨.str d.shown, H, I.tok tk, ⟨t, rfl⟩, q⟩
  cases hd with
  | non => cases ru; exact P.repr_of_none (fin _ _)
  | bl b => cases ru; exact P.repr_of_bool (fin _ _)
  | int i =>
    obtain ⟨t, rfl⟩ := ru
    exact P.repr_of_int (of_decide_eq_true (by simpa [PyData.showable] using hw)) (fin _ _)
  | str z =>
    obtain ⟨t, rfl⟩ := ru
    exact P.repr_of_str (fin _ _) (sz hl)
  | lst a ra =>
    cases ru
    obtain ⟨as, rd⟩ := Dp.reads I _ _ _ (.lst a ra) rfl
    have h64 := SeqAt.depth_of_shaped hs
    exact repr_of_reads' rd hw (PyData.noDict_hsm (PyData.hasDict_of_canLay _ (SeqAt.canLay_of_shaped hs))) hg (by omega) (fun _ _ e => e) (fun h' u tk kp => ⟨.str _, H, I.kept kp, ⟨u, rfl⟩, q⟩) (sz hl)
  | tup a ra =>
    cases ru
    obtain ⟨as, rd⟩ := Dp.reads I _ _ _ (.tup a ra) rfl
    have h64 := SeqAt.depth_of_shaped hs
    exact repr_of_reads' rd hw (PyData.noDict_hsm (PyData.hasDict_of_canLay _ (SeqAt.canLay_of_shaped hs))) hg (by omega) (fun _ _ e => e) (fun h' u tk kp => ⟨.str _, H, I.kept kp, ⟨u, rfl⟩, q⟩) (sz hl)
theorem d_repr {K : PySem.W.Frag} : CallD K (rReprD K) bRepr := by
  intro xs vs w I M H Q k hs e q
  unfold bRepr at e
  split at e
  · obtain ⟨x, rfl, hx⟩ := VRs.one hs
    obtain ⟨d, e1, e2⟩ := bind_some e
    obtain ⟨hc, rfl⟩ := opt_if e2
    simp only [Bool.and_eq_true, decide_eq_true_eq] at hc
    exact ⟨x, d, rfl, hx.dp k e1 (SeqAt.canLay_of_shaped hc.1.1), hc.1.1, hc.1.2, hc.2, q _ I H (Grow.refl _ _ _) k (.str _)⟩
  · cases e
end Dl
set_option maxRecDepth 100000
set_option maxHeartbeats 4000000
namespace Dl
open PySem L2
/-! ### defs -/
/-- data or a handle: what may be handed on -/
def isDR : Val → Bool
  | .d _ => true
  | .ref _ => true
  | _ => false
structure FnG (U : Uni) (P : Program) (w : World) (K : PySem.W.Frag) (mg : Str → Option Value) (base : Heap) (k : Nat) (f : Addr) (fd : FuncData) (ps : List Str) (F : List Val → U.S → Res U.S Val) : Prop where
  run : ∀ (A : Around) (outer : List Env) (s : Shared) (H : Hp) (args : Args) (us : List Value) (xs : List V) (Q : VK) (E : XK) (vs : List Val) (st : U.S) (I : Hp) (M : Mw),
    Room k A → A.guards = some [] → Env0 P w K mg base A outer s H → BindsTo s fd args (ps.zip us) → Vals xs us → xs.length = ps.length → Ok I M H → U.R st M → VRs K I M H xs vs → vs.all isDR = true →
    Post U K (VR K) (F vs st) I M H Q E → codeAny (model P w) A (.call (.ref f) args) (CR (L2.CX P w) outer P w H s Q E) s
theorem FnG.mono {U : Uni} {P : Program} {w : World} {K : PySem.W.Frag} {mg : Str → Option Value} {base : Heap} {j k : Nat} {f : Addr} {fd : FuncData} {ps : List Str} {F : List Val → U.S → Res U.S Val} (h : FnG U P w K mg base j f fd ps F) (le : j ≤ k) : FnG U P w K mg base k f fd ps F :=
  ⟨fun A outer s H args us xs Q E vs st I M hr => h.run A outer s H args us xs Q E vs st I M (hr.mono le)⟩
section
variable {S : Type}
def eApp (F : List Val → S → Res S Val) (n : Nat) (a : Rho → S → Res S (List Val)) : Rho → S → Res S Val := fun ρ st => (a ρ st).bind fun xs st1 => if xs.all isDR = true ∧ xs.length = n then F xs st1 else .stuck
end
theorem VRs.len {K : PySem.W.Frag} {I : Hp} {M : Mw} {H : Hp} : ∀ {xs : List V} {vs : List Val}, VRs K I M H xs vs → xs.length = vs.length
  | _, _, .nil => rfl
  | _, _, .cons _ r => by rw [List.length_cons, List.length_cons, r.len]
section
variable {U : Uni} {X : Cx} {W : WX} {k : Nat} {f : Addr} {fd : FuncData} {ps : List Str} {F : List Val → U.S → Res U.S Val} {x : Str} {p pos : Pos} {e : Expr} {es : List Expr} {A : Rho → U.S → Res U.S (List Val)}
theorem run_g {pins : List (Addr × Obj)} {σ : L2.St} {H : Hp} {s : Shared} {Q : VK} {us : List Value} {xs : List V} {vs : List Val} {st : U.S} {I : Hp} {M : Mw} (G : FnG U X.prog X.w X.K X.mg X.base k f fd ps F) (hr : Room k X.A) (hgd : X.A.guards = some []) (hb : Binds X.K fd ps []) (tk : Takes X W)
    (J : Inv X pins σ H s) (r : Vals xs us) (hl : xs.length = ps.length) (ok : Ok I M H) (rs : U.R st M) (hv : VRs X.K I M H xs vs) (hd : vs.all isDR = true) (h : Post U X.K (VR X.K) (F vs st) I M H Q (fun cls d H' => W cls d σ H')) :
    wpAny (model X.prog X.w) X.A (call (.ref f) us) (EP X pins σ Q) X.xe s := by
  have hbs : BindsTo s fd ⟨us, []⟩ (ps.zip us) := by
    have z := hb s us J.kIn (by rw [List.append_nil, ← r.length]; exact hl)
    rw [List.append_nil] at z
    exact z
  refine wpAny_call (codeAny_mono (G.run X.A X.stack s H ⟨us, []⟩ us xs Q (WE W σ) vs st I M hr hgd J.env0 hbs r hl ok rs hv hd h) fun res s' hq => ?_)
  match res, hq with
  | .error er, hq => exact passAt tk σ pins H s er s' J hq
  | .ok (.ret u), hq => exact J.after hq
theorem ped_call (G : FnG U X.prog X.w X.K X.mg X.base k f fd ps F) (hr : Room k X.A) (hgd : X.A.guards = some []) (hg : Gl X x) (hm : X.mg x = some (.ref f)) (hk : PySem.W.keepIn X.K (.ref f) = true) (hb : Binds X.K fd ps []) (tk : Takes X W)
    (ha : PAd U X W (e :: es) A) (hdb : (x == ("__debug__" : Str)) = false := by decide) (he : starEach (e :: es) X.env = (false, eval e X.env) :: starEach es X.env := by rfl) (hpl : (backTo pos (starEach es X.env)).any (·.1) = false := by rfl) :
    PEd U X W (.Call (.Name x p) (e :: es) [] pos) (eApp F ps.length A) := by
  refine ⟨fun pins s σ H Q J h => wpAny_Call_Name_kw (ld_glob J hg hm ?_ hdb)⟩
  have h1 : tAs U X.K W A σ H (fun xs H1 => ∃ vs st1 I1 M1, Ok I1 M1 H1 ∧ U.R st1 M1 ∧ VRs X.K I1 M1 H1 xs vs ∧ vs.all isDR = true ∧ vs.length = ps.length ∧ Post U X.K (VR X.K) (F vs st1) I1 M1 H1 Q (fun cls d H' => W cls d σ H')) := by
    refine tG.bind h fun Z ρ st1 xs vs I1 M1 H1 ft hx ps1 => ?_
    by_cases hc : vs.all isDR = true ∧ vs.length = ps.length
    · rw [if_pos hc] at ps1
      exact ⟨vs, st1, I1, M1, ft.ok, ft.rs, hx, hc.1, hc.2, ps1⟩
    · rw [if_neg hc] at ps1
      exact False.elim ps1
  refine PySem.W.callWith_K (h₀ := X.base) J.ok.mod.kin hk (thn (ha.run pos pins s σ H _ J h1) fun us s1 ⟨xs, H1, J1, r, q⟩ => ⟨J1.kIn, ?_⟩) he hpl
  obtain ⟨vs, st1, I1, M1, ok, rs, hv, hd, hl, ps1⟩ := q
  exact run_g G hr hgd hb tk J1 r (hv.len.trans hl) ok rs hv hd ps1
theorem ped_call0 (G : FnG U X.prog X.w X.K X.mg X.base k f fd ps F) (hr : Room k X.A) (hgd : X.A.guards = some []) (hg : Gl X x) (hm : X.mg x = some (.ref f)) (hk : PySem.W.keepIn X.K (.ref f) = true) (hb : Binds X.K fd ps []) (tk : Takes X W)
    (hdb : (x == ("__debug__" : Str)) = false := by decide) : PEd U X W (.Call (.Name x p) [] [] pos) (eApp F ps.length aNil) := by
  refine ⟨fun pins s σ H Q J h => wpAny_Call_Name_kw (ld_glob J hg hm ?_ hdb)⟩
  obtain ⟨Z, ρ, st, I, M, ft, ps1⟩ := h
  have ps1 : Post U X.K (VR X.K) (if ([] : List Val).all isDR = true ∧ ([] : List Val).length = ps.length then F [] st else .stuck) I M H Q (fun cls d H' => W cls d σ H') := ps1
  by_cases hc : ([] : List Val).all isDR = true ∧ ([] : List Val).length = ps.length
  · rw [if_pos hc] at ps1
    exact PySem.W.callWith_K0 J.kIn hk (run_g (us := []) G hr hgd hb tk J .nil hc.2 ft.ok ft.rs .nil rfl ps1)
  · rw [if_neg hc] at ps1
    exact False.elim ps1
end

/-! ### statements -/
inductive SRes (S : Type) where
  | next (ρ : Rho) (s : S)
  | ret (v : Val) (s : S)
  | brk (ρ : Rho) (s : S)
  | cnt (ρ : Rho) (s : S)
  | exc (c : Nat) (fs : List PyData) (ρ : Rho) (s : S)
  | stuck
def SPost (U : Uni) (K : PySem.W.Frag) (W : WX) (Z : Base) (I0 : Hp) (D : Ends) (r : SRes U.S) : Prop :=
  match r with
  | .next ρ st => ∀ σ I M H, Same I0 I → Fit U K Z σ ρ st I M H → D.nx σ H
  | .brk ρ st => ∀ σ I M H, Same I0 I → Fit U K Z σ ρ st I M H → D.bk σ H
  | .cnt ρ st => ∀ σ I M H, Same I0 I → Fit U K Z σ ρ st I M H → D.ct σ H
  | .ret v st => ∀ x I M H, Grow Z.I Z.M Z.H I M H → Ok I M H → U.R st M → VR K I M H x v → D.rt x H
  | .exc c fs ρ st => ∀ σ cls d I M H, Same I0 I → Fit U K Z σ ρ st I M H → XR U K I c fs cls d → W cls d σ H
  | .stuck => False
theorem SPost.shift {U : Uni} {K : PySem.W.Frag} {W : WX} {Z : Base} {I0 I1 : Hp} {D : Ends} {r : SRes U.S} (e : Same I0 I1) (h : SPost U K W Z I0 D r) : SPost U K W Z I1 D r := by
  cases r with
  | next ρ st => exact fun σ I M H s f => h σ I M H (e.trans s) f
  | brk ρ st => exact fun σ I M H s f => h σ I M H (e.trans s) f
  | cnt ρ st => exact fun σ I M H s f => h σ I M H (e.trans s) f
  | ret v st => exact h
  | exc c fs ρ st => exact fun σ cls d I M H s f => h σ cls d I M H (e.trans s) f
  | stuck => exact h
def tS (U : Uni) (K : PySem.W.Frag) (W : WX) (F : Rho → U.S → SRes U.S) : TS := fun D σ H => ∃ Z ρ st I M, Fit U K Z σ ρ st I M H ∧ SPost U K W Z I D (F ρ st)
def PSd (U : Uni) (X : Cx) (W : WX) (s : Stmt) (F : Rho → U.S → SRes U.S) : Prop := PS X s (tS U X.K W F)
def PBd (U : Uni) (X : Cx) (W : WX) (s : List Stmt) (F : Rho → U.S → SRes U.S) : Prop := PSs X s (tS U X.K W F)
theorem ps_imp {X : Cx} {s : Stmt} {t t' : TS} (h : PS X s t) (m : ∀ D σ H, t' D σ H → t D σ H) : PS X s t' := ⟨fun pins s σ H D J q => h.run pins s σ H D J (m D σ H q)⟩
theorem pss_imp {X : Cx} {s : List Stmt} {t t' : TS} (h : PSs X s t) (m : ∀ D σ H, t' D σ H → t D σ H) : PSs X s t' := ⟨fun pins s σ H D J q => h.run pins s σ H D J (m D σ H q)⟩
section
variable {S : Type}
def sNop : Rho → S → SRes S := fun ρ st => .next ρ st
def sSeq (F G : Rho → S → SRes S) : Rho → S → SRes S := fun ρ st => match F ρ st with
  | .next ρ' st' => G ρ' st'
  | r => r
/-- the end of an expression within a statement -/
def sBind {α : Type} (r : Res S α) (ρ : Rho) (f : α → S → SRes S) : SRes S := match r with
  | .ok a st => f a st
  | .exc c fs st => .exc c fs ρ st
  | .stuck => .stuck
def sSet (i : Nat) (F : Rho → S → Res S Val) : Rho → S → SRes S := fun ρ st => sBind (F ρ st) ρ fun v st1 => if isDR v = true then .next (ρ.set i (some v)) st1 else .stuck
def sRet (F : Rho → S → Res S Val) : Rho → S → SRes S := fun ρ st => sBind (F ρ st) ρ fun v st1 => if isDR v = true then .ret v st1 else .stuck
def sRetN : Rho → S → SRes S := fun _ st => .ret (.d .none) st
def sDrop (F : Rho → S → Res S Val) : Rho → S → SRes S := fun ρ st => sBind (F ρ st) ρ fun _ st1 => .next ρ st1
def sIf (T : Rho → S → Res S Bool) (F G : Rho → S → SRes S) : Rho → S → SRes S := fun ρ st => sBind (T ρ st) ρ fun b st1 => if b = true then F ρ st1 else G ρ st1
def sRetOwn (i : Nat) : Rho → S → SRes S := fun ρ st => match ρ[i]? with
  | some (some (.own ds)) => .ret (.d (.list ds)) st
  | _ => .stuck
def sApp (i : Nat) (F : Rho → S → Res S Val) : Rho → S → SRes S := fun ρ st => match ρ[i]? with
  | some (some (.own ds)) => sBind (F ρ st) ρ fun v st1 => match v with
    | .d x => if ds.length < 1000000 then .next (ρ.set i (some (.own (ds ++ [x])))) st1 else .stuck
    | _ => .stuck
  | _ => .stuck
end
section
variable {U : Uni} {K : PySem.W.Frag} {W : WX} {α β : Type} {rel : Hp → Mw → Hp → β → α → Prop}
/-- an expression within a statement -/
theorem tS.bind {F : Rho → U.S → Res U.S α} {f : Rho → α → U.S → SRes U.S} {σ : L2.St} {H : Hp} {D : Ends} {R : β → Hp → Prop} (h : tS U K W (fun ρ st => sBind (F ρ st) ρ (f ρ)) D σ H)
    (m : ∀ Z ρ st1 x a I1 M1 H1, Fit U K Z σ ρ st1 I1 M1 H1 → rel I1 M1 H1 x a → SPost U K W Z I1 D (f ρ a st1) → R x H1) : tG U K W rel F σ H R := by
  obtain ⟨Z, ρ, st, I, M, ft, ps⟩ := h
  refine ⟨Z, ρ, st, I, M, ft, ?_⟩
  have ps : SPost U K W Z I D (sBind (F ρ st) ρ (f ρ)) := ps
  cases e : F ρ st with
  | ok a st1 =>
    rw [e] at ps
    exact fun x I1 M1 H1 g k r q => m Z ρ st1 x a I1 M1 H1 (ft.grow g k r) q (ps.shift g.i)
  | exc c fs st1 =>
    rw [e] at ps
    exact fun cls d I1 M1 H1 g k r q => ps σ cls d I1 M1 H1 g.i (ft.grow g k r) q
  | stuck =>
    rw [e] at ps
    exact ps
/-- a further expression within a statement -/
theorem SPost.next {F : Rho → U.S → Res U.S α} {f : α → U.S → SRes U.S} {Z : Base} {σ : L2.St} {ρ : Rho} {st : U.S} {I : Hp} {M : Mw} {H : Hp} {D : Ends} {R : β → Hp → Prop} (ft : Fit U K Z σ ρ st I M H) (h : SPost U K W Z I D (sBind (F ρ st) ρ f))
    (m : ∀ st1 x a I1 M1 H1, Grow I M H I1 M1 H1 → Fit U K Z σ ρ st1 I1 M1 H1 → rel I1 M1 H1 x a → SPost U K W Z I1 D (f a st1) → R x H1) : tG U K W rel F σ H R := by
  refine ⟨Z, ρ, st, I, M, ft, ?_⟩
  cases e : F ρ st with
  | ok a st1 =>
    rw [e] at h
    exact fun x I1 M1 H1 g k r q => m st1 x a I1 M1 H1 g (ft.grow g k r) q (SPost.shift g.i h)
  | exc c fs st1 =>
    rw [e] at h
    exact fun cls d I1 M1 H1 g k r q => h σ cls d I1 M1 H1 g.i (ft.grow g k r) q
  | stuck =>
    rw [e] at h
    exact h
theorem Fit.set {Z : Base} {σ : L2.St} {ρ : Rho} {st : U.S} {I : Hp} {M : Mw} {H : Hp} {x : V} {v : Val} (f : Fit U K Z σ ρ st I M H) (i : Nat) (h : VR K I M H x v) (hd : isDR v = true) : Fit U K Z (σ.set i (some x)) (ρ.set i (some v)) st I M H := by
  have key : ∀ (j : Nat) (w : Val), (ρ.set i (some v))[j]? = some (some w) → (j = i ∧ w = v ∧ (σ.set i (some x))[j]? = some (some x)) ∨ (j ≠ i ∧ ρ[j]? = some (some w) ∧ (σ.set i (some x))[j]? = σ[j]?) := fun j w e => by
    by_cases hj : j = i
    · subst hj
      have hlt : j < ρ.length := by
        have := (List.getElem?_eq_some_iff.mp e).1
        rwa [List.length_set] at this
      rw [List.getElem?_set_self hlt] at e
      have e := Option.some.inj (Option.some.inj e)
      refine .inl ⟨rfl, e.symm, ?_⟩
      rw [List.getElem?_set_self (by rw [← f.len]; exact hlt)]
    · rw [List.getElem?_set_ne (Ne.symm hj)] at e
      exact .inr ⟨hj, e, List.getElem?_set_ne (Ne.symm hj)⟩
  refine ⟨f.g, f.ok, f.rs, by rw [List.length_set, List.length_set]; exact f.len, fun j w e => ?_, fun j ds p e1 e2 => ?_, fun j l ds es p e1 e2 e3 e4 => ?_, fun j t ks ds p e1 e2 => ?_, fun j l t ks ds t' ks' es p e1 e2 e3 e4 => ?_⟩
  · rcases key j w e with ⟨_, rfl, h2⟩ | ⟨_, h1, h2⟩
    · exact ⟨x, h2, h⟩
    · rw [h2]; exact f.env j w h1
  · rcases key j _ e1 with ⟨_, h1, _⟩ | ⟨_, h1, h2⟩
    · subst h1; cases hd
    · rw [h2] at e2; exact f.new j ds p h1 e2
  · rcases key j _ e1 with ⟨_, h1, _⟩ | ⟨_, h1, h2⟩
    · subst h1; cases hd
    · rcases key l _ e2 with ⟨_, h3, _⟩ | ⟨_, h3, h4⟩
      · subst h3; cases hd
      · rw [h2] at e3
        rw [h4] at e4
        exact f.sep j l ds es p h1 h3 e3 e4
  · rcases key j _ e1 with ⟨_, h1, _⟩ | ⟨_, h1, h2⟩
    · subst h1; cases hd
    · rw [h2] at e2; exact f.newd j t ks ds p h1 e2
  · rcases key j _ e1 with ⟨_, h1, _⟩ | ⟨_, h1, h2⟩
    · subst h1; cases hd
    · rcases key l _ e2 with ⟨_, h3, _⟩ | ⟨_, h3, h4⟩
      · subst h3; cases hd
      · rw [h2] at e3
        rw [h4] at e4
        exact f.sepd j l t ks ds t' ks' es p h1 h3 e3 e4
end
section
variable {U : Uni} {X : Cx} {W : WX} {s : Stmt} {rest : List Stmt} {F G : Rho → U.S → SRes U.S} {e : Expr} {Fe : Rho → U.S → Res U.S Val} {T : Rho → U.S → Res U.S Bool} {pos : Pos}
theorem pbd_nil : PBd U X W [] sNop := pss_imp pss_nil fun D σ H ⟨Z, ρ, st, I, M, ft, ps⟩ => ps σ I M H (Same.refl I) ft
theorem pbd_cons (h1 : PSd U X W s F) (h2 : PBd U X W rest G) : PBd U X W (s :: rest) (sSeq F G) := by
  refine pss_imp (pss_cons h1 h2) fun D σ H ⟨Z, ρ, st, I, M, ft, ps⟩ => ⟨Z, ρ, st, I, M, ft, ?_⟩
  unfold sSeq at ps
  cases e : F ρ st with
  | next ρ' st' =>
    rw [e] at ps
    exact fun σ' I' M' H' e' ft' => ⟨Z, ρ', st', I', M', ft', SPost.shift e' ps⟩
  | ret v st' => rw [e] at ps; exact ps
  | brk ρ' st' => rw [e] at ps; exact ps
  | cnt ρ' st' => rw [e] at ps; exact ps
  | exc c fs ρ' st' => rw [e] at ps; exact ps
  | stuck => rw [e] at ps; exact ps
theorem pbd_one (h1 : PSd U X W s F) : PBd U X W [s] F := pss_one h1
theorem psd_pass : PSd U X W (.Pass pos) sNop := ps_imp ps_pass fun D σ H ⟨Z, ρ, st, I, M, ft, ps⟩ => ps σ I M H (Same.refl I) ft
theorem psd_set {i : Nat} {x : Str} {pos' : Pos} (hN : X.N.Nodup) (hi : X.N[i]? = some x) (hx : Loc X.env.scope x) (he : PEd U X W e Fe) (hs : swapsWith e (some (.Name x pos')) pos.line X.env = pure false := by rfl)
    (hf : X.fn x = true ∨ X.env.scope.names.lookup x = some .local := by first | exact .inl rfl | exact .inr rfl | assumption) : PSd U X W (.Assign [.Name x pos'] e pos) (sSet i Fe) := by
  refine ps_imp (ps_set hN hi hx he hs hf) fun D σ H h => ?_
  refine tS.bind h fun Z ρ st1 x a I1 M1 H1 ft hx ps => ?_
  by_cases hd : isDR a = true
  · rw [if_pos hd] at ps
    exact ps _ I1 M1 H1 (Same.refl _) (ft.set i hx hd)
  · rw [if_neg hd] at ps
    exact False.elim ps
theorem psd_ret (he : PEd U X W e Fe) : PSd U X W (.Return (some e) pos) (sRet Fe) := by
  refine ps_imp (ps_ret he) fun D σ H h => ?_
  refine tS.bind h fun Z ρ st1 x a I1 M1 H1 ft hx ps => ?_
  by_cases hd : isDR a = true
  · rw [if_pos hd] at ps
    exact ps x I1 M1 H1 ft.g ft.ok ft.rs hx
  · rw [if_neg hd] at ps
    exact False.elim ps
theorem psd_retN : PSd U X W (.Return none pos) sRetN := ps_imp ps_retN fun D σ H ⟨Z, ρ, st, I, M, ft, ps⟩ => ps .non I M H ft.g ft.ok ft.rs .non
theorem psd_expr (he : PEd U X W e Fe) (hs : swapsWith e none pos.line X.env = pure false := by rfl) : PSd U X W (.Expr e pos) (sDrop Fe) := by
  refine ps_imp (ps_expr he hs) fun D σ H h => ?_
  refine tS.bind h fun Z ρ st1 x a I1 M1 H1 ft hx ps => ?_
  exact ps σ I1 M1 H1 (Same.refl _) ft
theorem psd_if {c : Expr} {a b : List Stmt} (hc : PTd U X W c T) (ha : PBd U X W a F) (hb : PBd U X W b G) : PSd U X W (.If c a b pos) (sIf T F G) := by
  refine ps_imp (ps_if hc ha hb) fun D σ H h => ?_
  refine tS.bind h fun Z ρ st1 x v I1 M1 H1 ft hx ps => ?_
  have hx : x = v := hx
  subst hx
  cases x with
  | true => exact ⟨Z, ρ, st1, I1, M1, ft, ps⟩
  | false => exact ⟨Z, ρ, st1, I1, M1, ft, ps⟩
end
end Dl
set_option maxRecDepth 100000
set_option maxHeartbeats 4000000
namespace Dl
open PySem L2
/-! ### lists that a slot owns -/
def PostN (U : Uni) (K : PySem.W.Frag) (r : Res U.S (List PyData)) (I : Hp) (M : Mw) (H : Hp) (Q : VK) (E : XK) : Prop :=
  match r with
  | .ok ds st => ∀ p vs I' M' H', H p = none → Grow I M H I' M' H' → Ok I' M' H' → U.R st M' → H' p = some (.lst vs) → I' p = none → M'.h p = none → RpAll K I' vs ds → Q (.ref p) H'
  | .exc c fs st => ∀ cls d I' M' H', Grow I M H I' M' H' → Ok I' M' H' → U.R st M' → XR U K I' c fs cls d → E cls d H'
  | .stuck => False
def tN (U : Uni) (K : PySem.W.Frag) (W : WX) (F : Rho → U.S → Res U.S (List PyData)) : TE := fun σ H Q => ∃ Z ρ st I M, Fit U K Z σ ρ st I M H ∧ PostN U K (F ρ st) I M H Q (fun cls d H' => W cls d σ H')
def PNd (U : Uni) (X : Cx) (W : WX) (e : Expr) (F : Rho → U.S → Res U.S (List PyData)) : Prop := PE X e (tN U X.K W F)
theorem PostN.shift {U : Uni} {K : PySem.W.Frag} {r : Res U.S (List PyData)} {I I1 : Hp} {M M1 : Mw} {H H1 : Hp} {Q : VK} {E : XK} (g : Grow I M H I1 M1 H1) (h : PostN U K r I M H Q E) : PostN U K r I1 M1 H1 Q E := by
  cases r with
  | ok ds st =>
    refine fun p vs I' M' H' hp g' k r => h p vs I' M' H' ?_ (g.trans g') k r
    cases z : H p with
    | none => rfl
    | some o => exact absurd hp (g.th p (ne_none_of z))
  | exc c fs st => exact fun cls d I' M' H' g' k r q => h cls d I' M' H' (g.trans g') k r q
  | stuck => exact h
section
variable {S : Type}
/-- the list as data -/
def eFrz (F : Rho → S → Res S (List PyData)) : Rho → S → Res S Val := fun ρ st => (F ρ st).bind fun ds st1 => .ok (.d (.list ds)) st1
def nLst (a : Rho → S → Res S (List Val)) : Rho → S → Res S (List PyData) := fun ρ st => (a ρ st).bind fun xs st1 => match datas xs with
  | some ds => if ds.length ≤ 1000000 then .ok ds st1 else .stuck
  | none => .stuck
def nList (a : Rho → S → Res S Val) : Rho → S → Res S (List PyData) := fun ρ st => (a ρ st).bind fun x st1 => match seqOf x with
  | some ds => .ok ds st1
  | none => .stuck
noncomputable def nRep (a b : Rho → S → Res S Val) : Rho → S → Res S (List PyData) := fun ρ st => (a ρ st).bind fun x st1 => (b ρ st1).bind fun y st2 => match lstOf x, y with
  | some ds, .d (.int k) => cif (-1000000 ≤ k ∧ k ≤ 1000000 ∧ ds.length * k.toNat ≤ 1000000) (.ok (List.replicate k.toNat ds).flatten st2) .stuck
  | _, _ => .stuck
def sNew (i : Nat) (F : Rho → S → Res S (List PyData)) : Rho → S → SRes S := fun ρ st => sBind (F ρ st) ρ fun ds st1 => .next (ρ.set i (some (.own ds))) st1
def sSetI (i : Nat) (Fi Fe : Rho → S → Res S Val) : Rho → S → SRes S := fun ρ st => sBind (Fe ρ st) ρ fun v st1 => match v, ρ[i]? with
  | .d x, some (some (.own ds)) => sBind (Fi ρ st1) ρ fun k st2 => match k with
    | .d (.int k) => match ixN ds.length k with
      | some j => .next (ρ.set i (some (.own (ds.set j x)))) st2
      | none => .stuck
    | _ => .stuck
  | _, _ => .stuck
def sAugI (f : Int → Int → Int) (i : Nat) (Fi Fe : Rho → S → Res S Val) : Rho → S → SRes S := fun ρ st => match ρ[i]? with
  | some (some (.own ds)) => sBind (Fi ρ st) ρ fun k st1 => match k with
    | .d (.int k) => match atI ds k, ixN ds.length k with
      | some (.int x), some j => sBind (Fe ρ st1) ρ fun v st2 => match v with
        | .d (.int y) => .next (ρ.set i (some (.own (ds.set j (.int (f x y)))))) st2
        | _ => .stuck
      | _, _ => .stuck
    | _ => .stuck
  | _ => .stuck
def sAug (f : Int → Int → Int) (i : Nat) (Fe : Rho → S → Res S Val) : Rho → S → SRes S := fun ρ st => match ρ[i]? with
  | some (some (.d (.int x))) => sBind (Fe ρ st) ρ fun v st1 => match v with
    | .d (.int y) => .next (ρ.set i (some (.d (.int (f x y))))) st1
    | _ => .stuck
  | _ => .stuck
end
section
variable {U : Uni} {K : PySem.W.Frag} {Z : Base} {σ : L2.St} {ρ : Rho} {st : U.S} {I : Hp} {M : Mw} {H : Hp}
theorem set_key {α β : Type} {ρ : List α} {σ : List β} {v w : α} {x : β} {i j : Nat} (hl : ρ.length = σ.length) (e : (ρ.set i v)[j]? = some w) :
    (j = i ∧ w = v ∧ (σ.set i x)[j]? = some x) ∨ (j ≠ i ∧ ρ[j]? = some w ∧ (σ.set i x)[j]? = σ[j]?) := by
  by_cases hj : j = i
  · subst hj
    have hlt : j < ρ.length := by
      have := (List.getElem?_eq_some_iff.mp e).1
      rwa [List.length_set] at this
    rw [List.getElem?_set_self hlt] at e
    exact .inl ⟨rfl, (Option.some.inj e).symm, List.getElem?_set_self (by rw [← hl]; exact hlt)⟩
  · rw [List.getElem?_set_ne (Ne.symm hj)] at e
    exact .inr ⟨hj, e, List.getElem?_set_ne (Ne.symm hj)⟩
/-- a new list goes to a slot -/
theorem Fit.setNew (f : Fit U K Z σ ρ st I M H) (i : Nat) {p : Addr} {vs : List V} {ds : List PyData} (hz : Z.H p = none) (hq : ∀ (j : Nat) es q, ρ[j]? = some (some (.own es)) → σ[j]? = some (some (.ref q)) → q ≠ p)
    (hp : H p = some (.lst vs)) (hi : I p = none) (hm : M.h p = none) (r : RpAll K I vs ds) : Fit U K Z (σ.set i (some (.ref p))) (ρ.set i (some (.own ds))) st I M H := by
  refine ⟨f.g, f.ok, f.rs, by rw [List.length_set, List.length_set]; exact f.len, fun j w e => ?_, fun j es q e1 e2 => ?_, fun j l es fs q e1 e2 e3 e4 => ?_, fun j t ks es q e1 e2 => ?_, fun j l t ks es t' ks' fs q e1 e2 e3 e4 => ?_⟩
  · rcases set_key (x := some (V.ref p)) f.len e with ⟨_, h1, h2⟩ | ⟨_, h1, h2⟩
    · cases h1
      exact ⟨_, h2, p, vs, rfl, hp, hi, hm, r⟩
    · rw [h2]; exact f.env j w h1
  · rcases set_key (x := some (V.ref p)) f.len e1 with ⟨_, h1, h2⟩ | ⟨_, h1, h2⟩
    · rw [h2] at e2
      cases e2
      exact hz
    · rw [h2] at e2; exact f.new j es q h1 e2
  · rcases set_key (x := some (V.ref p)) f.len e1 with ⟨a1, h1, h2⟩ | ⟨_, h1, h2⟩
    · rcases set_key (x := some (V.ref p)) f.len e2 with ⟨a2, h3, h4⟩ | ⟨_, h3, h4⟩
      · rw [a1, a2]
      · rw [h2] at e3
        rw [h4] at e4
        cases e3
        exact absurd rfl (hq l fs p h3 e4)
    · rcases set_key (x := some (V.ref p)) f.len e2 with ⟨a2, h3, h4⟩ | ⟨_, h3, h4⟩
      · rw [h4] at e4
        rw [h2] at e3
        cases e4
        exact absurd rfl (hq j es p h1 e3)
      · rw [h2] at e3
        rw [h4] at e4
        exact f.sep j l es fs q h1 h3 e3 e4
  · rcases set_key (x := some (V.ref p)) f.len e1 with ⟨_, h1, h2⟩ | ⟨_, h1, h2⟩
    · cases h1
    · rw [h2] at e2; exact f.newd j t ks es q h1 e2
  · rcases set_key (x := some (V.ref p)) f.len e1 with ⟨_, h1, h2⟩ | ⟨_, h1, h2⟩
    · cases h1
    · rcases set_key (x := some (V.ref p)) f.len e2 with ⟨_, h3, h4⟩ | ⟨_, h3, h4⟩
      · cases h3
      · rw [h2] at e3
        rw [h4] at e4
        exact f.sepd j l t ks es t' ks' fs q h1 h3 e3 e4
/-- an owned list changes -/
theorem Fit.updOwn (f : Fit U K Z σ ρ st I M H) {i : Nat} {p : Addr} {vs vs' : List V} {ds ds' : List PyData} (e : ρ[i]? = some (some (.own ds))) (e' : σ[i]? = some (some (.ref p))) (hp : H p = some (.lst vs)) (hi : I p = none) (hm : M.h p = none) (r : RpAll K I vs' ds') :
    Fit U K Z σ (ρ.set i (some (.own ds'))) st I M (upd H p (.lst vs')) := by
  have hz := f.new i ds p e e'
  have hset : σ.set i (some (.ref p)) = σ := by
    obtain ⟨hlt, hx⟩ := List.getElem?_eq_some_iff.mp e'
    rw [← hx]
    exact List.set_getElem_self hlt
  have hg : Grow Z.I Z.M Z.H I M (upd H p (.lst vs')) := ⟨f.g.i, f.g.ni, f.g.nm, fun a o h m => by rw [upd_ne (ne_of_none h hz)]; exact f.g.kp a o h m, fun a h => by
    rw [upd_ne (fun z => h (by rw [z]; exact hz))]
    exact f.g.th a h, f.g.ad⟩
  have hk : Ok I M (upd H p (.lst vs')) := ⟨fun a o h => by rw [upd_ne (ne_of_none h hi)]; exact f.ok.ih a o h, fun a o h => by rw [upd_ne (ne_of_none h hm)]; exact f.ok.mh a o h, f.ok.dj⟩
  have hv : ∀ (j : Nat) (w : Val) (x : V), j ≠ i → ρ[j]? = some (some w) → σ[j]? = some (some x) → VR K I M H x w → VR K I M (upd H p (.lst vs')) x w := fun j w x hj h1 h2 h => by
    match w, h1, h with
    | .d _, _, h => exact h
    | .ref _, _, h => exact h
    | .exc _ _, _, h => exact h
    | .own es, h1, ⟨q, us, z, a, b, c, r⟩ =>
      subst z
      have hne : q ≠ p := fun z => by
        subst z
        exact hj (f.sep j i es ds q h1 e h2 e')
      exact ⟨q, us, rfl, by rw [upd_ne hne]; exact a, b, c, r⟩
    | .ownd t ks es, h1, ⟨q, us, z, a, b, c, r⟩ =>
      have hne : q ≠ p := fun z => by
        subst z
        rw [hp] at a
        exact dHO_lst a.symm
      exact ⟨q, us, z, by rw [upd_ne hne]; exact a, b, c, r⟩
  refine ⟨hg, hk, f.rs, by rw [List.length_set]; exact f.len, fun j w h => ?_, fun j es q h1 h2 => ?_, fun j l es fs q h1 h2 h3 h4 => ?_, fun j t ks es q h1 h2 => ?_, fun j l t ks es t' ks' fs q h1 h2 h3 h4 => ?_⟩
  · rcases set_key (x := some (V.ref p)) f.len h with ⟨rfl, h1, h2⟩ | ⟨hj, h1, h2⟩
    · cases h1
      exact ⟨_, e', p, vs', rfl, upd_same, hi, hm, r⟩
    · obtain ⟨x, h3, h4⟩ := f.env j w h1
      exact ⟨x, h3, hv j w x hj h1 h3 h4⟩
  · rcases set_key (x := some (V.ref p)) f.len h1 with ⟨rfl, h3, h4⟩ | ⟨hj, h3, h4⟩
    · rw [e'] at h2
      cases h2
      exact hz
    · exact f.new j es q h3 h2
  · rcases set_key (x := some (V.ref p)) f.len h1 with ⟨rfl, h5, h6⟩ | ⟨hj, h5, h6⟩
    · rcases set_key (x := some (V.ref p)) f.len h2 with ⟨rfl, h7, h8⟩ | ⟨hl, h7, h8⟩
      · rfl
      · exact f.sep j l ds fs q e h7 h3 h4
    · rcases set_key (x := some (V.ref p)) f.len h2 with ⟨rfl, h7, h8⟩ | ⟨hl, h7, h8⟩
      · exact f.sep j l es ds q h5 e h3 h4
      · exact f.sep j l es fs q h5 h7 h3 h4
  · rcases set_key (x := some (V.ref p)) f.len h1 with ⟨rfl, h3, h4⟩ | ⟨hj, h3, h4⟩
    · cases h3
    · exact f.newd j t ks es q h3 h2
  · rcases set_key (x := some (V.ref p)) f.len h1 with ⟨rfl, h5, h6⟩ | ⟨hj, h5, h6⟩
    · cases h5
    · rcases set_key (x := some (V.ref p)) f.len h2 with ⟨rfl, h7, h8⟩ | ⟨hl, h7, h8⟩
      · cases h7
      · exact f.sepd j l t ks es t' ks' fs q h5 h7 h3 h4
theorem Fit.own (f : Fit U K Z σ ρ st I M H) {i : Nat} {ds : List PyData} (e : ρ[i]? = some (some (.own ds))) : ∃ p vs, σ[i]? = some (some (.ref p)) ∧ H p = some (.lst vs) ∧ I p = none ∧ M.h p = none ∧ RpAll K I vs ds := by
  obtain ⟨x, h, p, vs, rfl, a, b, c, r⟩ := f.env i _ e
  exact ⟨p, vs, h, a, b, c, r⟩
end
section
variable {U : Uni} {X : Cx} {W : WX} {a b e : Expr} {es : List Expr} {Fa Fb Fe : Rho → U.S → Res U.S Val} {A : Rho → U.S → Res U.S (List Val)} {F : Rho → U.S → Res U.S (List PyData)} {pos : Pos}
theorem freeze_ok {I : Hp} {M : Mw} {H H0 : Hp} {I0 : Hp} {M0 : Mw} {p : Addr} {vs : List V} (g : Grow I0 M0 H0 I M H) (k : Ok I M H) (h0 : H0 p = none) (hp : H p = some (.lst vs)) (hi : I p = none) (hm : M.h p = none) : Grow I0 M0 H0 (upd I p (.lst vs)) M H ∧ Ok (upd I p (.lst vs)) M H ∧ Same I (upd I p (.lst vs)) := by
  have hs : Same I (upd I p (.lst vs)) := fun a o h => by rw [upd_ne (ne_of_none h hi)]; exact h
  refine ⟨⟨g.i.trans hs, fun a h z => ?_, g.nm, g.kp, g.th, g.ad⟩, ⟨fun a o h => ?_, k.mh, fun a h => ?_⟩, hs⟩
  · by_cases ha : a = p
    · subst ha; exact absurd h0 h
    · rw [upd_ne ha] at z; exact g.ni a h z
  · by_cases ha : a = p
    · subst ha; rw [upd_same] at h; rw [← h]; exact hp
    · rw [upd_ne ha] at h; exact k.ih a o h
  · by_cases ha : a = p
    · subst ha; exact hm
    · rw [upd_ne ha] at h; exact k.dj a h
theorem ped_frz (h : PNd U X W e F) : PEd U X W e (eFrz F) := by
  refine pe_imp h fun σ H Q ⟨Z, ρ, st, I, M, ft, ps⟩ => ⟨Z, ρ, st, I, M, ft, ?_⟩
  unfold eFrz at ps
  cases z : F ρ st with
  | ok ds st1 =>
    rw [z] at ps
    intro p vs I' M' H' h0 g k r hp hi hm ra
    obtain ⟨g', k', hs⟩ := freeze_ok g k h0 hp hi hm
    exact ps (.ref p) _ M' H' g' k' r (Rp.lst upd_same (ra.mono hs))
  | exc c fs st1 => rw [z] at ps; exact ps
  | stuck => rw [z] at ps; exact ps
theorem tN.bind {K : PySem.W.Frag} {α β : Type} {rel : Hp → Mw → Hp → β → α → Prop} {F : Rho → U.S → Res U.S α} {f : Rho → α → U.S → Res U.S (List PyData)} {σ : L2.St} {H : Hp} {Q : VK} {R : β → Hp → Prop} (h : tN U K W (fun ρ st => (F ρ st).bind (f ρ)) σ H Q)
    (m : ∀ Z ρ st1 x a I1 M1 H1, Fit U K Z σ ρ st1 I1 M1 H1 → rel I1 M1 H1 x a → PostN U K (f ρ a st1) I1 M1 H1 Q (fun cls d H' => W cls d σ H') → R x H1) : tG U K W rel F σ H R := by
  obtain ⟨Z, ρ, st, I, M, ft, ps⟩ := h
  refine ⟨Z, ρ, st, I, M, ft, ?_⟩
  have ps : PostN U K ((F ρ st).bind (f ρ)) I M H Q (fun cls d H' => W cls d σ H') := ps
  cases e : F ρ st with
  | ok a st1 =>
    rw [e] at ps
    exact fun x I1 M1 H1 g k r q => m Z ρ st1 x a I1 M1 H1 (ft.grow g k r) q (PostN.shift g ps)
  | exc c fs st1 => rw [e] at ps; exact ps
  | stuck => rw [e] at ps; exact ps
theorem PostN.next {K : PySem.W.Frag} {α β : Type} {rel : Hp → Mw → Hp → β → α → Prop} {F : Rho → U.S → Res U.S α} {f : α → U.S → Res U.S (List PyData)} {Z : Base} {σ : L2.St} {ρ : Rho} {st : U.S} {I : Hp} {M : Mw} {H : Hp} {Q : VK} {R : β → Hp → Prop} (ft : Fit U K Z σ ρ st I M H)
    (ps : PostN U K ((F ρ st).bind f) I M H Q (fun cls d H' => W cls d σ H'))
    (m : ∀ st1 x a I1 M1 H1, Grow I M H I1 M1 H1 → Fit U K Z σ ρ st1 I1 M1 H1 → rel I1 M1 H1 x a → PostN U K (f a st1) I1 M1 H1 Q (fun cls d H' => W cls d σ H') → R x H1) : tG U K W rel F σ H R := by
  refine ⟨Z, ρ, st, I, M, ft, ?_⟩
  cases e : F ρ st with
  | ok a st1 =>
    rw [e] at ps
    exact fun x I1 M1 H1 g k r q => m st1 x a I1 M1 H1 g (ft.grow g k r) q (PostN.shift g ps)
  | exc c fs st1 => rw [e] at ps; exact ps
  | stuck => rw [e] at ps; exact ps
theorem PostN.fin {K : PySem.W.Frag} {ds : List PyData} {st : U.S} {I : Hp} {M : Mw} {H : Hp} {Q : VK} {E : XK} {p : Addr} {vs : List V} (h : PostN U K (.ok ds st) I M H Q E) (k : Ok I M H) (r : U.R st M) (ra : RpAll K I vs ds) (hp : H p = none) : Q (.ref p) (upd H p (.lst vs)) := by
  obtain ⟨g, k'⟩ := Grow.allocO (o := .lst vs) k hp
  exact h p vs I M _ hp g k' r upd_same (k.ih.free hp) (k.mh.free hp) ra
theorem pnd_lst (h : PAd U X W es A) : PNd U X W (.List es pos) (nLst A) := by
  refine pe_imp (pe_lst h) fun σ H Q h => ?_
  refine tN.bind h fun Z ρ st1 xs vs I1 M1 H1 ft hx ps => ?_
  cases z : datas vs with
  | none => simp only [z] at ps; exact False.elim ps
  | some ds =>
    simp only [z] at ps
    have r := VRs.datas hx z
    by_cases hl : ds.length ≤ 1000000
    · rw [if_pos hl] at ps
      exact ⟨sz (r.len ▸ hl), fun p hp => PostN.fin ps ft.ok ft.rs r hp⟩
    · rw [if_neg hl] at ps
      exact False.elim ps
theorem pnd_list {p : Pos} (hg : Gl X "list") (hm : X.mg "list" = none) (ha : PEd U X W a Fa) (hs : starEach [a] X.env = (false, eval a X.env) :: starEach [] X.env := by rfl) : PNd U X W (.Call (.Name "list" p) [a] [] pos) (nList Fa) := by
  refine pe_imp (pe_callTy call_list_of hg hm (by decide +kernel) (pa_cons ha pa_nil hs) (by decide) (by decide) hs) fun σ H Q h => ?_
  refine tN.bind h fun Z ρ st1 x v I1 M1 H1 ft hx ps => ?_
  cases z : seqOf v with
  | none => simp only [z] at ps; exact False.elim ps
  | some ds =>
    simp only [z] at ps
    obtain ⟨q, ys, rfl, h1, r⟩ := VR.seq ft.ok hx z
    exact ⟨q, ys, rfl, h1, fun l hl => PostN.fin ps ft.ok ft.rs r hl⟩
theorem pnd_rep (ha : PEd U X W a Fa) (hb : PEd U X W b Fb) : PNd U X W (.BinOp a .Mult b pos) (nRep Fa Fb) := by
  refine pe_imp (pe_op op_rep ha hb) fun σ H Q h => ?_
  refine tN.bind h fun Z ρ st1 x v I1 M1 H1 ft hx ps => ?_
  refine PostN.next ft ps fun st2 y u I2 M2 H2 g ft2 hy ps2 => ?_
  have hx2 := VR.grow g hx
  cases z : lstOf v with
  | none => simp only [z] at ps2; exact False.elim ps2
  | some ds =>
    match u, hy, ps2 with
    | .d (.int k), hy, ps2 =>
      simp only [z] at ps2
      by_cases hc : -1000000 ≤ k ∧ k ≤ 1000000 ∧ ds.length * k.toNat ≤ 1000000
      · rw [cif_pos hc] at ps2
        obtain ⟨q, ys, rfl, h1, r⟩ := VR.lst ft2.ok hx2 z
        exact ⟨q, k, ys, rfl, Rp.int_inv hy, h1, by omega, by omega, sz (by rw [r.len]; exact hc.2.2), fun l hl => PostN.fin ps2 ft2.ok ft2.rs (r.rep _) hl⟩
      · rw [cif_neg hc] at ps2
        exact False.elim ps2
    | .d (.bool k), hy, ps2 => simp only [z] at ps2; exact False.elim ps2
    | .d (.none), hy, ps2 => simp only [z] at ps2; exact False.elim ps2
    | .d (.str k), hy, ps2 => simp only [z] at ps2; exact False.elim ps2
    | .d (.list k), hy, ps2 => simp only [z] at ps2; exact False.elim ps2
    | .d (.tuple k), hy, ps2 => simp only [z] at ps2; exact False.elim ps2
    | .d (.dict k), hy, ps2 => simp only [z] at ps2; exact False.elim ps2
    | .ref k, hy, ps2 => simp only [z] at ps2; exact False.elim ps2
    | .own k, hy, ps2 => simp only [z] at ps2; exact False.elim ps2
    | .ownd k k2 k3, hy, ps2 => simp only [z] at ps2; exact False.elim ps2
    | .exc k _, hy, ps2 => simp only [z] at ps2; exact False.elim ps2
theorem new_slot {K : PySem.W.Frag} {D : Ends} {i : Nat} {σ : L2.St} {H : Hp} (h : tS U K W (sNew i F) D σ H) : tN U K W F σ H fun x H1 => D.nx (σ.set i (some x)) H1 := by
  obtain ⟨Z, ρ, st, I, M, ft, ps⟩ := h
  refine ⟨Z, ρ, st, I, M, ft, ?_⟩
  unfold sNew at ps
  cases z : F ρ st with
  | ok ds st1 =>
    rw [z] at ps
    intro p vs I' M' H' h0 g k r hp hi hm ra
    refine ps _ I' M' H' g.i ((ft.grow g k r).setNew i ?_ (fun j es q e1 e2 => ?_) hp hi hm ra)
    · cases w : Z.H p with
      | none => rfl
      | some o => exact absurd h0 (ft.g.th p (ne_none_of w))
    · obtain ⟨q', us, e3, h1, _⟩ := ft.own e1
      rw [e3] at e2
      cases e2
      exact ne_of_none h1 h0
  | exc c fs st1 =>
    rw [z] at ps
    exact fun cls d I1 M1 H1 g k r q => ps σ cls d I1 M1 H1 g.i (ft.grow g k r) q
  | stuck => rw [z] at ps; exact ps
theorem psd_new {i : Nat} {x : Str} {pos' : Pos} (hN : X.N.Nodup) (hi : X.N[i]? = some x) (hx : Loc X.env.scope x) (he : PNd U X W e F) (hs : swapsWith e (some (.Name x pos')) pos.line X.env = pure false := by rfl)
    (hf : X.fn x = true ∨ X.env.scope.names.lookup x = some .local := by first | exact .inl rfl | exact .inr rfl | assumption) : PSd U X W (.Assign [.Name x pos'] e pos) (sNew i F) :=
  ps_imp (ps_set hN hi hx he hs hf) fun D σ H h => new_slot h
theorem psd_retOwn {i : Nat} {x : Str} (hN : X.N[i]? = some x := by rfl) (hv : Vis X.env.scope x := by first | exact Or.inl rfl | exact Or.inr (Or.inl rfl) | exact Or.inr (Or.inr rfl)) (hd : (x == ("__debug__" : Str)) = false := by decide) (hcd : (x == ("__classdict__" : Str)) = false := by decide) {p : Pos} :
    PSd U X W (.Return (some (.Name x p)) pos) (sRetOwn i) := by
  refine ps_imp (ps_ret (pe_var hN hv hd hcd)) fun D σ H ⟨Z, ρ, st, I, M, ft, ps⟩ => ?_
  unfold sRetOwn at ps
  split at ps
  · rename_i ds e
    obtain ⟨q, vs, e', hp, hi, hm, r⟩ := ft.own e
    obtain ⟨g', k', hs⟩ := freeze_ok ft.g ft.ok (ft.new i ds q e e') hp hi hm
    exact ⟨_, e', ps (.ref q) _ M H g' k' ft.rs (Rp.lst upd_same (r.mono hs))⟩
  · exact False.elim ps
theorem psd_app {i : Nat} {x : Str} {p apos cpos : Pos} (he : PEd U X W e Fe) (hN : X.N[i]? = some x := by rfl) (hv : Vis X.env.scope x := by first | exact Or.inl rfl | exact Or.inr (Or.inl rfl) | exact Or.inr (Or.inr rfl)) (hd : (x == ("__debug__" : Str)) = false := by decide) (hcd : (x == ("__classdict__" : Str)) = false := by decide)
    (hs : starEach [e] X.env = (false, eval e X.env) :: starEach [] X.env := by rfl) (hbase : attributeBase (.Name x p) "append" X.env (eval (.Name x p) X.env) = eval (.Name x p) X.env := by rfl)
    (hfew : ((backTo cpos (starEach [e] X.env)).all (fun x => !x.1) && (backToKw cpos (keywordEach [] X.env)).all (fun x => x.1.isSome) && decide ([e].length + ([] : List Keyword).length + (if ([] : List Keyword).isEmpty then 0 else 1) < 30)) = true := by rfl)
    (hline : (apos.endLine == cpos.line) = true := by rfl) (hpl : (backTo cpos (starEach [] X.env)).any (·.1) = false := by rfl) (hsw : swapsWith (.Call (.Attribute (.Name x p) "append" apos) [e] [] cpos) none pos.line X.env = pure false := by rfl) :
    PSd U X W (.Expr (.Call (.Attribute (.Name x p) "append" apos) [e] [] cpos) pos) (sApp i Fe) := by
  refine ps_imp (ps_expr (pe_bm PySem.F.plainAttrs_list PySem.F.slot_list_append PySem.F.type_list_append mt_append (pe_var hN hv hd hcd) (pa_cons he pa_nil hs) hbase hfew hline hs hpl) hsw) fun D σ H h => ?_
  obtain ⟨Z, ρ, st, I, M, ft, ps⟩ := h
  unfold sApp at ps
  split at ps
  · rename_i ds e
    obtain ⟨q, vs, e', hp, hi, hm, r⟩ := ft.own e
    refine ⟨_, e', .inl ⟨rfl, _, SqL.of hp⟩, ?_⟩
    refine SPost.next (rel := VR X.K) ft ps fun st1 y v I1 M1 H1 g ft1 hy ps1 => ?_
    obtain ⟨q', vs', e2', hp', hi', hm', r'⟩ := ft1.own e
    rw [e'] at e2'
    cases e2'
    match v, hy, ps1 with
    | .d d, hy, ps1 =>
      simp only at ps1
      by_cases hl : ds.length < 1000000
      · rw [if_pos hl] at ps1
        exact ⟨q, vs', y, rfl, rfl, hp', szl (by rw [r'.len]; exact hl), ps1 σ I1 M1 _ (Same.refl _) (ft1.updOwn e e' hp' hi' hm' (r'.append (.cons hy .nil)))⟩
      · rw [if_neg hl] at ps1
        exact False.elim ps1
  · exact False.elim ps
theorem RpAll.set {K : PySem.W.Frag} {I : Hp} {x : V} {d : PyData} (h : Rp K I x d) : ∀ {xs : List V} {ds : List PyData} (i : Nat), RpAll K I xs ds → RpAll K I (xs.set i x) (ds.set i d)
  | _, _, _, .nil => .nil
  | _, _, 0, .cons _ t => .cons h t
  | _, _, i + 1, .cons q t => .cons q (RpAll.set h i t)
theorem psd_setI {i : Nat} {x : Str} {p tp : Pos} (hN : X.N[i]? = some x) (hv : Vis X.env.scope x) (he : PEd U X W e Fe) (hi : PEd U X W b Fb) (hd : (x == ("__debug__" : Str)) = false := by decide) (hcd : (x == ("__classdict__" : Str)) = false := by decide)
    (ha : ∀ v, assign (.Subscript (.Name x p) b tp) X.env v = (do
      let ov ← holding [v] (eval (.Name x p) X.env)
      let iv ← holding [v, ov] (eval b X.env)
      standAt tp
      holding [v, ov, iv] (setItem ov iv v)
      release [v, ov, iv] []) := by intro _; rfl)
    (hs : swapsWithSole [.Subscript (.Name x p) b tp] e pos.line X.env = pure false := by rfl) (hw : swappedStores [.Subscript (.Name x p) b tp] e X.env = pure none := by rfl)
    (h1 : (assignEach [.Subscript (.Name x p) b tp] X.env).map (·.2) = [assign (.Subscript (.Name x p) b tp) X.env] := by rfl) :
    PSd U X W (.Assign [.Subscript (.Name x p) b tp] e pos) (sSetI i Fb Fe) := by
  refine ps_imp (ps_asg he (pg_sub (pe_var hN hv hd hcd) hi set_list ha) hs hw h1) fun D σ H h => ?_
  refine tS.bind (rel := VR X.K) h fun Z ρ st1 y v I1 M1 H1 ft hy ps => ?_
  match v, hy, ps with
  | .d d, hy, ps =>
    have ps : SPost U X.K W Z I1 D (match Val.d d, ρ[i]? with
      | .d x, some (some (.own ds)) => sBind (Fb ρ st1) ρ fun k st2 => match k with
        | .d (.int k) => match ixN ds.length k with
          | some j => .next (ρ.set i (some (.own (ds.set j x)))) st2
          | none => .stuck
        | _ => .stuck
      | _, _ => .stuck) := ps
    split at ps
    · rename_i dd ds hdd e
      cases hdd
      obtain ⟨q, vs, e', hp, hi, hm, r⟩ := ft.own e
      refine ⟨_, e', ?_⟩
      refine SPost.next (rel := VR X.K) ft ps fun st2 z k I2 M2 H2 g ft2 hz ps2 => ?_
      obtain ⟨q', vs', e2', hp', hi', hm', r'⟩ := ft2.own e
      rw [e'] at e2'
      cases e2'
      match k, hz, ps2 with
      | .d (.int k), hz, ps2 =>
        simp only at ps2
        cases hj : ixN ds.length k with
        | none => rw [hj] at ps2; exact False.elim ps2
        | some j =>
          rw [hj] at ps2
          exact ⟨q, vs', k, j, rfl, Rp.int_inv hz, hp', by rw [r'.len]; exact hj, ps2 σ I2 M2 _ (Same.refl _) (ft2.updOwn e e' hp' hi' hm' (RpAll.set (Rp.mono g.i hy) j r'))⟩
    · exact False.elim ps
def rGetL (K : PySem.W.Frag) : V → V → Hp → VK → Prop := rIxL K
theorem get_list : PGet X (rGetL X.K) := by
  intro pins s σ H o i ov iv Q J ro ri h
  obtain ⟨p, xs, k, z, rfl, rfl, hq, he, q⟩ := h
  cases ro
  obtain ⟨t, rfl⟩ := ri
  obtain ⟨its, r, pl, hz⟩ := J.list hq
  obtain ⟨j, h1, h2, h3, h4, h5⟩ := atI_get he
  obtain ⟨w, ew, rw'⟩ := r.get h2
  have hl := r.length
  have hn := line63
  have done : EP X pins σ Q w s := ⟨z, H, J, rw', q⟩
  by_cases h0 : 0 ≤ k
  · have hj : k.toNat = j := by
      rw [seqIndex_of h0 h5] at h1
      exact Option.some.inj h1
    exact wpAny_getItem_list pl.isList h0 (by omega) (by rw [hj]; simpa using ew) done
  · have hj : (k + (its.toArray.size : Int)).toNat = j := by
      rw [seqIndex_neg (by omega) h4] at h1
      rw [List.size_toArray, ← hl]
      exact Option.some.inj h1
    exact wpAny_getItem_list_neg pl.isList (by omega) (by rw [List.size_toArray] <;> omega) (by omega) (by rw [hj]; simpa using ew) done
theorem psd_augI {op : Operator} {f : Int → Int → Int} {i : Nat} {x : Str} {p tp : Pos} (hop : PIp X op (ipI f)) (hN : X.N[i]? = some x) (hv : Vis X.env.scope x) (hi : PEd U X W b Fb) (he : PEd U X W e Fe) (hd : (x == ("__debug__" : Str)) = false := by decide) (hcd : (x == ("__classdict__" : Str)) = false := by decide)
    (ha : ∀ ov iv new, augStore b ov iv new = (do holding [new, ov, iv] (setItem ov iv new); release [new, ov, iv] []; pure .next) := by intros; rfl) :
    PSd U X W (.AugAssign (.Subscript (.Name x p) b tp) op e pos) (sAugI f i Fb Fe) := by
  refine ps_imp (ps_augS (pe_var hN hv hd hcd) hi get_list he hop set_list ha) fun D σ H h => ?_
  obtain ⟨Z, ρ, st, I, M, ft, ps⟩ := h
  unfold sAugI at ps
  split at ps
  · rename_i ds e
    obtain ⟨q, vs, e', hp, hi, hm, r⟩ := ft.own e
    refine ⟨_, e', ?_⟩
    refine SPost.next (rel := VR X.K) ft ps fun st1 z k I1 M1 H1 g ft1 hz ps1 => ?_
    obtain ⟨q', vs', e2', hp', hi', hm', r'⟩ := ft1.own e
    rw [e'] at e2'
    cases e2'
    match k, hz, ps1 with
    | .d (.int k), hz, ps1 =>
      simp only at ps1
      split at ps1
      · rename_i old j ea ej
        obtain ⟨xv, h2, h3⟩ := r'.atI ea
        cases Rp.int_inv h3
        refine ⟨q, vs', k, .int old, rfl, Rp.int_inv hz, SqL.of hp', h2, ?_⟩
        refine SPost.next (rel := VR X.K) ft1 ps1 fun st2 y v I2 M2 H2 g2 ft2 hy ps2 => ?_
        obtain ⟨q2, vs2, e3', hp2, hi2, hm2, r2⟩ := ft2.own e
        rw [e'] at e3'
        cases e3'
        match v, hy, ps2 with
        | .d (.int new), hy, ps2 =>
          refine ⟨old, new, rfl, Rp.int_inv hy, ?_⟩
          exact ⟨q, vs2, k, j, rfl, Rp.int_inv hz, hp2, by rw [r2.len]; exact ej, ps2 σ I2 M2 _ (Same.refl _) (ft2.updOwn e e' hp2 hi2 hm2 (RpAll.set (.int _) j r2))⟩
      · exact False.elim ps1
  · exact False.elim ps
theorem psd_aug {op : Operator} {f : Int → Int → Int} {i : Nat} {x : Str} {pos' : Pos} (hN : X.N.Nodup) (hi : X.N[i]? = some x) (hx : Loc X.env.scope x) (he : PEd U X W e Fe) (hop : PIp X op (ipI f)) (hf : X.fn x = true ∨ X.env.scope.names.lookup x = some .local := by first | exact .inl rfl | exact .inr rfl | assumption) :
    PSd U X W (.AugAssign (.Name x pos') op e pos) (sAug f i Fe) := by
  refine ps_imp (ps_aug hN hi hx he hop hf) fun D σ H h => ?_
  obtain ⟨Z, ρ, st, I, M, ft, ps⟩ := h
  unfold sAug at ps
  split at ps
  · rename_i old e
    obtain ⟨xv, h1, h2⟩ := ft.env i _ e
    cases Rp.int_inv h2
    refine ⟨_, h1, ?_⟩
    refine SPost.next (rel := VR X.K) ft ps fun st1 y v I1 M1 H1 g ft1 hy ps1 => ?_
    match v, hy, ps1 with
    | .d (.int new), hy, ps1 => exact ⟨old, new, rfl, Rp.int_inv hy, ps1 _ I1 M1 H1 (Same.refl _) (ft1.set i (.int _) rfl)⟩
  · exact False.elim ps
end
end Dl
set_option maxRecDepth 100000
set_option maxHeartbeats 4000000
namespace Dl
open PySem L2
/-! ### targets -/
inductive Tg where
  | name (i : Nat)
  | tup (is : List Nat)
def Tg.slots : Tg → List Nat
  | .name i => [i]
  | .tup is => is
def gNames : List Nat → TGs
  | [] => gNil
  | i :: r => gCons (gName i) (gNames r)
def gT (K : PySem.W.Frag) : Tg → TG
  | .name i => gName i
  | .tup is => gTup K is.length (gNames is)
def setAll : Rho → List Nat → List PyData → Rho
  | ρ, i :: is, d :: ds => setAll (ρ.set i (some (.d d))) is ds
  | ρ, _, _ => ρ
/-- data goes to a target -/
def setT : Tg → PyData → Rho → Option Rho
  | .name i, d, ρ => some (ρ.set i (some (.d d)))
  | .tup is, .tuple ds, ρ => if ds.length = is.length then some (setAll ρ is ds) else none
  | .tup _, _, _ => none
theorem set_none_comm (σ : L2.St) (i j : Nat) (a b : Option V) (h : i ≠ j) : (σ.set i a).set j b = (σ.set j b).set i a := List.set_comm a b h
theorem wipe_in {σ : L2.St} {i : Nat} {x : Option V} : ∀ {vs : List Nat}, i ∈ vs → wipe (σ.set i x) vs = wipe σ vs
  | v :: vs, h => by
    unfold wipe
    by_cases hv : i ∈ vs
    · rw [wipe_in hv]
    · have e : i = v := by
        rcases List.mem_cons.mp h with e | e
        · exact e
        · exact absurd e hv
      subst e
      have out : ∀ (us : List Nat), i ∉ us → (wipe (σ.set i x) us) = (wipe σ us).set i x := fun us hu => by
        induction us with
        | nil => rfl
        | cons u us ih =>
          unfold wipe
          have hne : i ≠ u := fun z => hu (by rw [z]; exact List.mem_cons_self)
          rw [ih (fun z => hu (List.mem_cons_of_mem _ z)), List.set_comm _ _ hne]
      rw [out vs hv, List.set_set]
theorem names_read {U : Uni} {K : PySem.W.Frag} {Z : Base} {st : U.S} {I : Hp} {M : Mw} {H : Hp} {Q : L2.St → Hp → Prop} : ∀ (is : List Nat) (xs : List V) (ds : List PyData) (σ : L2.St) (ρ : Rho), Fit U K Z σ ρ st I M H → RpAll K I xs ds → ds.length = is.length →
    (∀ σ1, Fit U K Z σ1 (setAll ρ is ds) st I M H → (∀ vs : List Nat, (∀ i ∈ is, i ∈ vs) → wipe σ1 vs = wipe σ vs) → Q σ1 H) → gNames is xs σ H Q
  | [], [], [], σ, ρ, ft, _, _, q => ⟨rfl, q σ ft fun _ _ => rfl⟩
  | [], _, _ :: _, _, _, _, _, hl, _ => by cases hl
  | _ :: _, _, [], _, _, _, _, hl, _ => by cases hl
  | i :: is, x :: xs, d :: ds, σ, ρ, ft, .cons h r, hl, q => by
    refine ⟨x, xs, rfl, ?_⟩
    refine names_read is xs ds (σ.set i (some x)) (ρ.set i (some (.d d))) (ft.set i h rfl) r (by simpa using hl) fun σ1 f1 w1 => q σ1 f1 fun vs hv => ?_
    rw [w1 vs fun j hj => hv j (List.mem_cons_of_mem _ hj), wipe_in (hv i List.mem_cons_self)]
theorem tg_read {U : Uni} {K : PySem.W.Frag} {Z : Base} {st : U.S} {I : Hp} {M : Mw} {H : Hp} {Q : L2.St → Hp → Prop} {x : V} {d : PyData} {σ : L2.St} {ρ ρ1 : Rho} (tg : Tg) (ft : Fit U K Z σ ρ st I M H) (h : Rp K I x d) (e : setT tg d ρ = some ρ1)
    (q : ∀ σ1, Fit U K Z σ1 ρ1 st I M H → (∀ vs : List Nat, (∀ i ∈ tg.slots, i ∈ vs) → wipe σ1 vs = wipe σ vs) → Q σ1 H) : gT K tg x σ H Q := by
  cases tg with
  | name i =>
    cases e
    exact q _ (ft.set i h rfl) fun vs hv => wipe_in (hv i List.mem_cons_self)
  | tup is =>
    match d, h, e with
    | .tuple ds, h, e =>
      obtain ⟨hl, rfl⟩ := opt_if e
      cases h with
      | tup a r => exact ⟨_, _, rfl, sqT_mono ft.ok.ih a, by rw [r.len]; exact hl, names_read is _ ds σ ρ ft r hl q⟩
theorem pgd_name {X : Cx} {pos : Pos} (i : Nat) {x : Str} (hN : X.N.Nodup) (hi : X.N[i]? = some x) (hx : Loc X.env.scope x) (hf : X.fn x = true ∨ X.env.scope.names.lookup x = some .local := by first | exact .inl rfl | exact .inr rfl | assumption) : PG X (.Name x pos) (gT X.K (.name i)) := pg_name hN hi hx hf
theorem pgd_tup {X : Cx} {pos : Pos} (is : List Nat) {es : List Expr} {k : Nat} (hc : X.calm = true) (h : PGs X es (gNames is)) (hn : (assignEach es X.env).length = is.length := by rfl) (hst : (assignEach es X.env).findIdx? (·.1) = none := by rfl) : PG X (.Tuple es k pos) (gT X.K (.tup is)) := pg_tup hc h hn hst
section
variable {S : Type}
/-- a, b = e (a tuple) -/
def sUnp (tg : Tg) (F : Rho → S → Res S Val) : Rho → S → SRes S := fun ρ st => sBind (F ρ st) ρ fun v st1 => match v with
  | .d d => match setT tg d ρ with
    | some ρ1 => .next ρ1 st1
    | none => .stuck
  | _ => .stuck
/-- a, b = e1, e2 -/
def sPar (i j : Nat) (A : Rho → S → Res S (List Val)) : Rho → S → SRes S := fun ρ st => sBind (A ρ st) ρ fun vs st1 => match vs with
  | [v, w] => if isDR v = true ∧ isDR w = true then .next ((ρ.set i (some v)).set j (some w)) st1 else .stuck
  | _ => .stuck
/-- behind a turn: on, or out -/
def goOn (r : SRes S) (k : Rho → S → SRes S) : SRes S := match r with
  | .next ρ st => k ρ st
  | .cnt ρ st => k ρ st
  | .brk ρ st => .next ρ st
  | res => res
/-- the turns of a for -/
def forL (tg : Tg) (B : Rho → S → SRes S) : List PyData → Rho → S → SRes S
  | [], ρ, st => .next ρ st
  | d :: r, ρ, st => match setT tg d ρ with
    | none => .stuck
    | some ρ1 => goOn (B ρ1 st) (forL tg B r)
def sFor (G : Rho → S → Res S (List PyData)) (tg : Tg) (B : Rho → S → SRes S) : Rho → S → SRes S := fun ρ st => sBind (G ρ st) ρ fun ds st1 => forL tg B ds ρ st1
def whileF (T : Rho → S → Res S Bool) (B : Rho → S → SRes S) : Nat → Rho → S → SRes S
  | 0, _, _ => .stuck
  | n + 1, ρ, st => sBind (T ρ st) ρ fun b st1 => if b = true then goOn (B ρ st1) (whileF T B n) else .next ρ st1
open Classical in
noncomputable def sWhile (T : Rho → S → Res S Bool) (B : Rho → S → SRes S) : Rho → S → SRes S := fun ρ st => if h : ∃ n, whileF T B n ρ st ≠ .stuck then whileF T B (choose h) ρ st else .stuck
end
/-! ### what is walked -/
/-- the items of an iterator, as data -/
structure ItD (K : PySem.W.Frag) (J : It) (I : Hp) (ds : List PyData) : Prop where
  go : ∀ i I2 M2 H2, Same I I2 → Ok I2 M2 H2 → i < ds.length → J.go i H2
  stop : ∀ I2 M2 H2, Same I I2 → Ok I2 M2 H2 → J.stop ds.length H2
  yld : ∀ i I2 M2 H2 x H3, Same I I2 → Ok I2 M2 H2 → i < ds.length → J.yld i H2 x H3 → ∃ d I3, ds[i]? = some d ∧ Grow I2 M2 H2 I3 M2 H3 ∧ Ok I3 M2 H3 ∧ Rp K I3 x d
abbrev rIt (K : PySem.W.Frag) : Hp → Mw → Hp → It → List PyData → Prop := fun I _ _ J ds => ItD K J I ds
def PId (U : Uni) (X : Cx) (W : WX) (tg iter : Expr) (F : Rho → U.S → Res U.S (List PyData)) : Prop := PI X tg iter (tG U X.K W (rIt X.K) F)
theorem pi_imp {X : Cx} {tg iter : Expr} {t t' : TI} (h : PI X tg iter t) (m : ∀ σ H R, t' σ H R → t σ H R) : PI X tg iter t' := ⟨fun pins s σ H R J q => h.run pins s σ H R J (m σ H R q)⟩
theorem it_of_walk {K : PySem.W.Frag} {J : It} {I : Hp} {ds : List PyData} {n : Nat} {G : Hp → Prop} {Y : Nat → Hp → V → Hp → Prop} (w : Walk J n G Y) (hn : n = ds.length) (hG : ∀ I2 M2 H2, Same I I2 → Ok I2 M2 H2 → G H2)
    (hY : ∀ i I2 M2 H2 x H3, Same I I2 → Ok I2 M2 H2 → i < ds.length → Y i H2 x H3 → ∃ d I3, ds[i]? = some d ∧ Grow I2 M2 H2 I3 M2 H3 ∧ Ok I3 M2 H3 ∧ Rp K I3 x d) : ItD K J I ds := by
  subst hn
  exact ⟨fun i I2 M2 H2 e k hi => w.goes i H2 hi (hG I2 M2 H2 e k), fun I2 M2 H2 e k => w.stops H2 (hG I2 M2 H2 e k), fun i I2 M2 H2 x H3 e k hi y => hY i I2 M2 H2 x H3 e k hi (w.yields i H2 x H3 hi (hG I2 M2 H2 e k) y)⟩
section
variable {U : Uni} {X : Cx} {W : WX} {tg iter c e : Expr} {body : List Stmt} {Fe : Rho → U.S → Res U.S Val} {G : Rho → U.S → Res U.S (List PyData)} {T : Rho → U.S → Res U.S Bool} {B : Rho → U.S → SRes U.S} {A : Rho → U.S → Res U.S (List Val)} {pos : Pos}
theorem psd_unp {t : Expr} {g : Tg} (he : PEd U X W e Fe) (hg : PG X t (gT X.K g)) (hs : swapsWithSole [t] e pos.line X.env = pure false := by rfl) (hw : swappedStores [t] e X.env = pure none := by rfl)
    (h1 : (assignEach [t] X.env).map (·.2) = [assign t X.env] := by rfl) : PSd U X W (.Assign [t] e pos) (sUnp g Fe) := by
  refine ps_imp (ps_asg he hg hs hw h1) fun D σ H h => ?_
  refine tS.bind (rel := VR X.K) h fun Z ρ st1 x v I1 M1 H1 ft hx ps => ?_
  match v, hx, ps with
  | .d d, hx, ps =>
    simp only at ps
    cases z : setT g d ρ with
    | none => rw [z] at ps; exact False.elim ps
    | some ρ1 =>
      rw [z] at ps
      exact tg_read g ft hx z fun σ1 f1 _ => ps σ1 I1 M1 H1 (Same.refl _) f1
theorem psd_par {i j : Nat} {x y : Str} {a b : Expr} {px py pt : Pos} {kt k2 pt2} (hc : X.calm = true) (hN : X.N.Nodup) (hi : X.N[i]? = some x) (hj : X.N[j]? = some y) (hij : i ≠ j)
    (hx : X.env.scope.names.lookup x = some .local) (hy : X.env.scope.names.lookup y = some .local) (ha : PAd U X W [a, b] A)
    (hw : swappedStores [.Tuple [.Name x px, .Name y py] kt pt] (.Tuple [a, b] k2 pt2) X.env = pure (some [x, y]) := by rfl)
    (hs : swapsWithSole [.Tuple [.Name x px, .Name y py] kt pt] (.Tuple [a, b] k2 pt2) pos.line X.env = pure false := by rfl) :
    PSd U X W (.Assign [.Tuple [.Name x px, .Name y py] kt pt] (.Tuple [a, b] k2 pt2) pos) (sPar i j A) := by
  refine ps_imp (ps_par hc hN hi hj hij hx hy ha hw hs) fun D σ H h => ?_
  refine tS.bind (rel := VRs X.K) h fun Z ρ st1 xs vs I1 M1 H1 ft hx ps => ?_
  match vs, hx, ps with
  | [v, w], hx, ps =>
    obtain ⟨x, y, rfl, h1, h2⟩ := VRs.two hx
    simp only at ps
    by_cases hd : isDR v = true ∧ isDR w = true
    · rw [if_pos hd] at ps
      exact ⟨x, y, rfl, ps _ I1 M1 H1 (Same.refl _) ((ft.set i h1 hd.1).set j h2 hd.2)⟩
    · rw [if_neg hd] at ps
      exact False.elim ps
theorem for_read {K : PySem.W.Frag} {g : Tg} {D : Ends} {σ : L2.St} {H : Hp} (h : tS U K W (sFor G g B) D σ H) : tFor (tG U K W (rIt K) G) (gT K g) (tS U K W B) D σ H := by
  refine tS.bind (rel := rIt K) h fun Z ρ st1 J ds I1 M1 H1 ft hJ ps => ?_
  refine ⟨fun i m σ H => m = ds.length - i ∧ i ≤ ds.length ∧ ∃ ρ st I M, Same I1 I ∧ Fit U K Z σ ρ st I M H ∧ SPost U K W Z I D (forL g B (ds.drop i) ρ st), ⟨ds.length, rfl, Nat.zero_le _, ρ, st1, I1, M1, Same.refl _, ft, ps⟩, ?_⟩
  rintro i m σ H ⟨rfl, hi, ρ, st, I, M, es, ft, ps⟩
  by_cases hlt : i < ds.length
  · have hdrop : ds.drop i = ds[i] :: ds.drop (i + 1) := List.drop_eq_getElem_cons hlt
    rw [hdrop] at ps
    refine .inr ⟨hJ.go i I M H es ft.ok hlt, fun σ' H' => ∃ ρ st I M, Same I1 I ∧ Fit U K Z σ' ρ st I M H' ∧ SPost U K W Z I D (forL g B (ds.drop (i + 1)) ρ st),
      fun σ' H' ⟨ρ', st', I', M', e', f', p'⟩ => ⟨ds.length - (i + 1), by omega, rfl, hlt, ρ', st', I', M', e', f', p'⟩, fun x H' hy => ?_⟩
    obtain ⟨d, I3, hd, g3, k3, r3⟩ := hJ.yld i I M H x H' es ft.ok hlt hy
    have hd' : d = ds[i] := by
      rw [List.getElem?_eq_getElem hlt] at hd
      exact (Option.some.inj hd).symm
    subst hd'
    have f3 := ft.grow g3 k3 ft.rs
    have ps3 := SPost.shift g3.i ps
    unfold forL at ps3
    cases z : setT g ds[i] ρ with
    | none => rw [z] at ps3; exact False.elim ps3
    | some ρ1 =>
      rw [z] at ps3
      refine tg_read g f3 r3 z fun σ1 f1 _ => ⟨Z, ρ1, st, I3, M, f1, ?_⟩
      have ps3 : SPost U K W Z I3 D (goOn (B ρ1 st) (forL g B (ds.drop (i + 1)))) := ps3
      cases zb : B ρ1 st with
      | next ρ2 st2 =>
        rw [zb] at ps3
        exact fun σ' I' M' H' e' f' => ⟨ρ2, st2, I', M', es.trans (g3.i.trans e'), f', SPost.shift e' ps3⟩
      | cnt ρ2 st2 =>
        rw [zb] at ps3
        exact fun σ' I' M' H' e' f' => ⟨ρ2, st2, I', M', es.trans (g3.i.trans e'), f', SPost.shift e' ps3⟩
      | brk ρ2 st2 => rw [zb] at ps3; exact ps3
      | ret v st2 => rw [zb] at ps3; exact ps3
      | exc c fs ρ2 st2 => rw [zb] at ps3; exact ps3
      | stuck => rw [zb] at ps3; exact ps3
  · have he : i = ds.length := by omega
    subst he
    rw [List.drop_length] at ps
    exact .inl ⟨hJ.stop I M H es ft.ok, ps σ I M H (Same.refl _) ft⟩
theorem psd_for {g : Tg} (hp : PassesOwn (model X.prog X.w) X.A X.env X.xe) (hc : X.calm = true) (hi : PId U X W tg iter G) (hg : PG X tg (gT X.K g)) (hb : PBd U X W body B) (hs : ∀ x, foldedSetIterable iter X.env x = pure x := by intro _; rfl) :
    PSd U X W (.For tg iter body [] pos) (sFor G g B) := ps_imp (ps_for hp hc hi hg hb hs) fun D σ H h => for_read h
theorem while_read {K : PySem.W.Frag} {D : Ends} {σ : L2.St} {H : Hp} (h : tS U K W (sWhile T B) D σ H) : tWhile (tB U K W T) (tS U K W B) D σ H := by
  obtain ⟨Z, ρ, st, I, M, ft, ps⟩ := h
  unfold sWhile at ps
  split at ps
  · rename_i hn
    refine ⟨fun m σ H => ∃ ρ st I M, Fit U K Z σ ρ st I M H ∧ SPost U K W Z I D (whileF T B m ρ st), ⟨_, ρ, st, I, M, ft, ps⟩, ?_⟩
    rintro m σ H ⟨ρ, st, I, M, ft, ps⟩
    cases m with
    | zero => exact False.elim ps
    | succ m =>
      refine SPost.next (rel := rTest) ft ps fun st1 x b I1 M1 H1 g ft1 hx ps1 => ?_
      have hx : x = b := hx
      subst hx
      cases x with
      | false => exact ps1 σ I1 M1 H1 (Same.refl _) ft1
      | true =>
        refine ⟨fun σ' H' => ∃ ρ st I M, Fit U K Z σ' ρ st I M H' ∧ SPost U K W Z I D (whileF T B m ρ st), fun σ' H' q => ⟨m, Nat.lt_succ_self m, q⟩, Z, ρ, st1, I1, M1, ft1, ?_⟩
        have ps1 : SPost U K W Z I1 D (goOn (B ρ st1) (whileF T B m)) := ps1
        cases zb : B ρ st1 with
        | next ρ2 st2 =>
          rw [zb] at ps1
          exact fun σ' I' M' H' e' f' => ⟨ρ2, st2, I', M', f', SPost.shift e' ps1⟩
        | cnt ρ2 st2 =>
          rw [zb] at ps1
          exact fun σ' I' M' H' e' f' => ⟨ρ2, st2, I', M', f', SPost.shift e' ps1⟩
        | brk ρ2 st2 => rw [zb] at ps1; exact ps1
        | ret v st2 => rw [zb] at ps1; exact ps1
        | exc c fs ρ2 st2 => rw [zb] at ps1; exact ps1
        | stuck => rw [zb] at ps1; exact ps1
  · exact False.elim ps
theorem psd_while (hp : PassesOwn (model X.prog X.w) X.A X.env X.xe) (hc : PTd U X W c T) (hb : PBd U X W body B) : PSd U X W (.While c body [] pos) (sWhile T B) := ps_imp (ps_while hp hc hb) fun D σ H h => while_read h
end
end Dl
set_option maxRecDepth 100000
set_option maxHeartbeats 4000000
namespace Dl
open PySem L2 PyProof.Rows
/-! ### lists and tuples as sources: l tells which -/
def Sq (l : Bool) (K : PySem.W.Frag) (H : Hp) (a : Addr) (xs : List V) : Prop := match l with
  | true => SqL K H a xs
  | false => SqT K H a xs
def IsSrc (l : Bool) (h : Heap) (a : Addr) (items : Array Value) : Prop := match l with
  | true => h.IsList a items
  | false => h.IsTuple a items
def IsIt (l : Bool) (h : Heap) (it a : Addr) (i : Nat) : Prop := match l with
  | true => h.IsListIter it a i
  | false => h.IsTupleIter it a i
def itObj (l : Bool) (a : Addr) : Obj := match l with
  | true => { cls := .type "list_iterator", data := .fields #[.ref a, .int 0 0] }
  | false => { cls := .type "tuple_iterator", data := .fields #[.ref a, .int 0 0] }
theorem begins_src (l : Bool) (a : Addr) (items : Array Value) : Begins (.ref a) (itObj l a) (fun h => IsSrc l h a items) := by
  cases l with
  | true => exact begins_list a items
  | false => exact begins_tuple a items
theorem draws_src {prog : Program} {w : World} {A : Around} (l : Bool) (hh : A.handled = none) (it a : Addr) (hne : a ≠ it) (items : Array Value) :
    Draws prog w A it [it, a] items.size (fun i v => items[i]? = some v) (fun i h => IsIt l h it a i ∧ IsSrc l h a items) := by
  cases l with
  | true => exact Draws.list hh it a hne items
  | false => exact Draws.tuple hh it a hne items
section
variable {X : Cx} {pins : List (Addr × Obj)} {σ : L2.St} {H : Hp} {s : Shared} {a : Addr} {xs ys : List V} {l : Bool}
theorem inv_src (J : Inv X pins σ H s) (h : Sq l X.K H a xs) : ∃ its : List Value, Vals xs its ∧ IsSrc l s.heap a its.toArray ∧ xs.length ≤ sizeLine ∧ a < s.heap.objs.size := by
  cases l with
  | true =>
    obtain ⟨its, r, p, z⟩ := J.list h
    exact ⟨its, r, p.isList, z, p.lt⟩
  | false =>
    obtain ⟨its, r, p, z⟩ := J.tuple h
    exact ⟨its, r, p, z, p.lt⟩
theorem src_inj (J : Inv X pins σ H s) (h : Sq l X.K H a xs) (h' : Sq l X.K H a ys) : xs = ys := by
  cases l with
  | true => exact J.list_inj h h'
  | false => exact J.tuple_inj h h'
end
theorem IsIt.obj {l : Bool} {h : Heap} {it a : Addr} {i : Nat} (x : IsIt l h it a i) : ∃ o, h.get? it = some o ∧ ∀ v, o.data ≠ .cell v := by
  cases l with
  | true =>
    obtain ⟨o, ho, _, hd⟩ := x
    exact ⟨o, ho, fun v q => by rw [hd] at q; cases q⟩
  | false =>
    obtain ⟨o, ho, _, hd⟩ := x
    exact ⟨o, ho, fun v q => by rw [hd] at q; cases q⟩
theorem IsIt.at {l : Bool} {h h' : Heap} {it a : Addr} {i : Nat} (x : IsIt l h it a i) (k : ∀ o, h.get? it = some o → h'.get? it = some o) : IsIt l h' it a i := by
  cases l with
  | true => exact Heap.IsListIter.at x k
  | false => exact Heap.IsTupleIter.at x k
theorem IsIt.new {l : Bool} {h : Heap} {it a : Addr} (x : h.get? it = some (itObj l a)) : IsIt l h it a 0 := by
  cases l with
  | true => exact ⟨_, x, rfl, rfl⟩
  | false => exact ⟨_, x, rfl, rfl⟩
theorem IsIt.lt {l : Bool} {h : Heap} {it a : Addr} {i : Nat} (x : IsIt l h it a i) : it < h.objs.size := by
  obtain ⟨o, ho, _⟩ := x.obj
  exact Heap.lt_size ho

/-! ### enumerate -/
set_option maxHeartbeats 1000000 in
theorem enum1_new {v : Value} {o : Obj} {Hh : Heap → Prop} (B : Begins v o Hh) :
    Meets (Builtin.«enumerate.__new__» ⟨[.type "enumerate", v], []⟩) (fun _ R s => Hh s.heap ∧
      R (.ok (.ret (.ref (s.heap.push o).objs.size))) { s with heap := (s.heap.push o).push { cls := .type "enumerate", data := .fields #[.none, .bool false, .ref s.heap.objs.size, rawInt 0, .none, .none] } }) :=
  .of_wp fun prog w A R s h => by
    obtain ⟨hp, g, d, tk, os⟩ := s
    obtain ⟨h1, h⟩ := h
    have hsub := sub_enumerate
    have q1 : ∀ {A' : Around} {E : Value → Shared → Prop} {Q : Value → Shared → Prop}, Q (.ref hp.objs.size) ⟨hp.push o, g, d, tk, os⟩ → wpAny (model prog w) A' (pyIter v) Q E ⟨hp, g, d, tk, os⟩ := fun q => B.iter prog w _ _ ⟨hp, g, d, tk, os⟩ _ h1 q
    wp_walk using q1
    refine wpAny_stack_any fun st => wpAny_pure ?_
    split
    · rename_i c _ _ _ _ _
      cases (c == Value.type "enumerate")
      · wp_walk using q1
        exact ⟨_, rfl, h⟩
      · wp_walk using q1
        exact ⟨_, rfl, h⟩
    · wp_walk using q1
      exact ⟨_, rfl, h⟩
section
variable {prog : Program} {w : World} {A : Around} {E : Value → Shared → Prop} {s : Shared}
theorem enum1_begins {v : Value} {o : Obj} {Hh : Heap → Prop} {Q : Value → Shared → Prop} (B : Begins v o Hh) (h1 : Hh s.heap)
    (h : ∀ h', IsEnum h' (s.heap.objs.size + 1) s.heap.objs.size 0 .none → h'.get? s.heap.objs.size = some o → (∀ b o, s.heap.get? b = some o → h'.get? b = some o) → Q (.ref (s.heap.objs.size + 1)) { s with heap := h' }) :
    wpAny (model prog w) A (call (.type "enumerate") [v]) Q E s := by
  refine callType_new F.called_enumerate (by decide) (F.typeCall_enumerate_1 _) (F.newCall_enumerate_1 _) (fun obj => F.args_object_init_2 obj _) F.entry_enumerate_new (enum1_new B) ⟨h1, ?_⟩
  have hz : (s.heap.push o).objs.size = s.heap.objs.size + 1 := Heap.size_push ..
  show _ ∧ _
  rw [hz]
  have he : IsEnum ((s.heap.push o).push { cls := .type "enumerate", data := .fields #[.none, .bool false, .ref s.heap.objs.size, rawInt 0, .none, .none] }) (s.heap.objs.size + 1) s.heap.objs.size 0 .none := by
    have z := Heap.get?_push_size (s.heap.push o) (o := { cls := .type "enumerate", data := .fields #[.none, .bool false, .ref s.heap.objs.size, rawInt 0, .none, .none] }) rfl
    rw [hz] at z
    exact z
  exact ⟨⟨_, he, rfl⟩, h _ he (Heap.get?_push_of_some _ (Heap.get?_push_size _ B.free)) fun b o x => Heap.get?_push_of_some _ (Heap.get?_push_of_some _ x)⟩
end
def ItE (l : Bool) (K : PySem.W.Frag) (a : Addr) : It :=
  ⟨fun i H => ∃ (xs : List V) (x : V), Sq l K H a xs ∧ xs[i]? = some x,
   fun i H v H' => ∃ T x, v = .ref T ∧ H T = none ∧ H' = upd H T (.tup [.int (i : Nat), x]) ∧ ∀ xs, Sq l K H a xs → xs[i]? = some x,
   fun i H => ∃ xs : List V, Sq l K H a xs ∧ xs.length = i⟩
theorem turn_enumS {P : Program} {w : World} {K : PySem.W.Frag} {elts : List Expr} {kk : Nat} {tpos : Pos} (l : Bool) (a e it : Addr) (ha : a ≠ it) (hae : a ≠ e) :
    Turn P w K (.Tuple elts kk tpos) (ItE l K a) [e, it] e (fun i h => (∃ old, IsEnum h e it ((i : Nat) : Int) old) ∧ IsIt l h it a i ∧ e ≠ it) where
  mem := by simp
  obj := fun i h st b hb => by
    obtain ⟨⟨old, he⟩, hi, _⟩ := st
    have e' : b = e ∨ b = it := by simpa using hb
    rcases e' with rfl | rfl
    · exact ⟨_, he, fun v q => nomatch q⟩
    · exact hi.obj
  keep := fun i h h' st k => by
    obtain ⟨⟨old, he⟩, hi, hne⟩ := st
    exact ⟨⟨old, k e (by simp) _ he⟩, hi.at fun o q => k it (by simp) o q, hne⟩
  item := by
    intro X hP hw hK hc i pins s σ H E J hf st hg
    subst hP hw hK
    obtain ⟨⟨old, he⟩, hit, hne⟩ := st
    obtain ⟨xs, x, hq, hx⟩ := hg
    obtain ⟨its, rv, hsrc, hz, hal⟩ := inv_src J hq
    have hil : i < its.toArray.size := by
      rw [List.size_toArray, ← rv.length]
      exact (List.getElem?_eq_some_iff.mp hx).1
    have hel : e < s.heap.objs.size := Heap.lt_size he
    refine wpAny_pyNext_enum_itemC (draws_src (A := X.A.in1) l (J.ok.hd hc) it a ha its.toArray) he ⟨hit, hsrc⟩ hil hne (by simpa using ⟨hne, Ne.symm hae⟩) fun u h' tk hu ho hit' hT hsz hk => ?_
    refine ⟨_, rfl, wpAny_letOwnedTupleGo_enum (s := { s with heap := h', toks := tk + 1 }) ho fun h'' he' sb => ?_⟩
    obtain ⟨u', hu', ru⟩ := rv.get hx
    have hu2 : u = u' := by
      have z : its[i]? = some u := by simpa using hu
      rw [z] at hu'
      exact Option.some.inj hu'
    subst hu2
    have hT2 : h''.get? s.heap.objs.size = some { cls := .type "tuple", data := .seq #[.int ((i : Nat) : Int) tk, u] } := (sb.2 _ (Nat.ne_of_gt hel)).trans hT
    have new : ObjOk X.prog X.w (upd H s.heap.objs.size (.tup [.int (i : Nat), x])) h'' s.heap.objs.size (.tup [.int (i : Nat), x]) :=
      ⟨by show 2 ≤ sizeLine; decide, [.int ((i : Nat) : Int) tk, u], .cons ⟨_, rfl⟩ (.cons ru .nil), ⟨_, hT2, rfl, _, rfl⟩⟩
    have J1 : Inv X pins σ (upd H s.heap.objs.size (.tup [.int (i : Nat), x])) { s with heap := h'', toks := tk + 1 } :=
      J.turnedNew (ch := [e, it]) (fun b ob hb q => (sb.2 b (fun z => hb (by simp [z]))).trans (hk b ob (fun z => hb (by simp [z])) (fun z => hb (by simp [z])) q)) hf (Nat.le_refl _) new
    refine ⟨.ref s.heap.objs.size, _, J1, rfl, ⟨_, x, rfl, J.hok.fresh (Nat.le_refl _), rfl, fun ys hy => by rw [src_inj J hy hq]; exact hx⟩, ⟨⟨u, ?_⟩, hit'.1.at fun o q => (sb.2 it (Ne.symm hne)).trans q, hne⟩, fun b hb => ?_⟩
    · have e1 : ((i + 1 : Nat) : Int) = (i : Int) + 1 := by omega
      rw [e1]
      exact he'
    · have hb' : b < s.heap.objs.size := by
        have e' : b = e ∨ b = it := by simpa using hb
        rcases e' with rfl | rfl
        · exact hel
        · exact hit.lt
      rw [upd_ne (Nat.ne_of_lt hb')]
      exact (hf b hb).1
  done := by
    intro X hP hw hK hc i pins s σ H E J hf st hg
    subst hP hw hK
    obtain ⟨⟨old, he⟩, hit, hne⟩ := st
    obtain ⟨xs, hq, hx⟩ := hg
    obtain ⟨its, rv, hsrc, hz, hal⟩ := inv_src J hq
    obtain ⟨f0, f1, f2, f3, f4, f5⟩ := hf it (by simp)
    have hn : i = its.toArray.size := by rw [List.size_toArray, ← rv.length, hx]
    subst hn
    exact wpAny_pyNext_enum_endD (draws_src (A := X.A.in1) l (J.ok.hd hc) it a ha its.toArray) he ⟨hit, hsrc⟩ fun h' eb => ⟨rfl, J.turned (t' := s.toks) (fun b o hb q => eb b o hb q) f0 f1 f3 f4 f5⟩
  self := fun A i s Q E st h => by
    obtain ⟨⟨_, he⟩, _⟩ := st
    exact wpAny_pyIter_enum he h
def iEnumS (K : PySem.W.Frag) (ta : TA) : TI := fun σ H R => ta σ H fun vs H1 => ∃ l a xs, vs = [.ref a] ∧ Sq l K H1 a xs ∧ R (ItE l K a) H1
theorem pi_enumS {X : Cx} {e : Expr} {ta : TA} {p pos tpos : Pos} {elts : List Expr} {kk : Nat} (hg : Gl X "enumerate") (hm : X.mg "enumerate" = none) (ha : PA X [e] ta) (hs : starEach [e] X.env = (false, eval e X.env) :: starEach [] X.env := by rfl) :
    PI X (.Tuple elts kk tpos) (.Call (.Name "enumerate" p) [e] [] pos) (iEnumS X.K ta) := by
  refine ⟨fun pins s σ H R J h => Call_ (ld_blt J hg hm boot_enumerate (PyProof.Rows.callWith_type1 (thn (ha.run pos pins s σ H _ J h) fun us s1 ⟨vs, H1, J1, r1, q1⟩ => ?_) hs rfl))⟩
  obtain ⟨l, a, xs, ex, hq, q⟩ := q1
  subst ex
  cases r1 with
  | cons r rr =>
    cases rr
    cases r
    obtain ⟨its, rv, hsrc, hz, hal⟩ := inv_src J1 hq
    refine enum1_begins (begins_src l a its.toArray) hsrc fun h' he hit hk => wpAny_pyIter_enum he ?_
    refine ⟨s1.heap.objs.size + 1, [s1.heap.objs.size + 1, s1.heap.objs.size], _, _, H1, rfl, J1.kept (t' := s1.toks) hk, turn_enumS l a (s1.heap.objs.size + 1) s1.heap.objs.size (Nat.ne_of_lt hal) (Nat.ne_of_lt (Nat.lt_succ_of_lt hal)), ⟨⟨.none, he⟩, IsIt.new hit, Nat.succ_ne_self _⟩, fun b hb => ?_, q⟩
    have hle : s1.heap.objs.size ≤ b := by
      have e' : b = s1.heap.objs.size + 1 ∨ b = s1.heap.objs.size := by simpa using hb
      rcases e' with rfl | rfl
      · exact Nat.le_add_right _ _
      · exact Nat.le_refl _
    exact J1.fpOk hle (J1.hok.fresh hle)
end Dl
set_option maxRecDepth 100000
set_option maxHeartbeats 4000000
namespace Dl
open PySem L2 PyProof.Rows
/-! ### zip of two, each a list or a tuple -/
def ItZ (l m : Bool) (K : PySem.W.Frag) (a b : Addr) : It :=
  ⟨fun i H => ∃ (xs ys : List V) (x y : V), Sq l K H a xs ∧ Sq m K H b ys ∧ xs[i]? = some x ∧ ys[i]? = some y,
   fun i H v H' => ∃ T x y, v = .ref T ∧ H T = none ∧ H' = upd H T (.tup [x, y]) ∧ (∀ xs, Sq l K H a xs → xs[i]? = some x) ∧ ∀ ys, Sq m K H b ys → ys[i]? = some y,
   fun i H => ∃ xs ys : List V, Sq l K H a xs ∧ Sq m K H b ys ∧ i = min xs.length ys.length⟩
theorem tupOf2_obj {h : Heap} {T : Addr} {x y : Value} (e : IsTupOf2 h T x y) : h.get? T = some { cls := .type "tuple", data := .seq #[x, y] } := e
theorem turn_zipS {P : Program} {w : World} {K : PySem.W.Frag} {elts : List Expr} {kk : Nat} {tpos : Pos} (l m : Bool) {a b z TI TO i1 i2 : Addr} (S : ZipSep2 z TI TO i1 i2 [i1, a] [i2, b]) (ha : a ≠ i1) (hb : b ≠ i2) :
    Turn P w K (.Tuple elts kk tpos) (ItZ l m K a b) [z, TI, TO, i1, i2] z (fun i h => IsZip h z TI TO .none ∧ IsTupOf2 h TI (.ref i1) (.ref i2) ∧ (∃ x y, IsTupOf2 h TO x y) ∧ IsIt l h i1 a i ∧ IsIt m h i2 b i) where
  mem := by simp
  obj := fun i h st c hc => by
    obtain ⟨hz, hTI, ⟨x, y, hTO⟩, h1, h2⟩ := st
    have e' : c = z ∨ c = TI ∨ c = TO ∨ c = i1 ∨ c = i2 := by simpa using hc
    rcases e' with rfl | rfl | rfl | rfl | rfl
    · exact ⟨_, hz, fun v q => nomatch q⟩
    · exact ⟨_, hTI, fun v q => nomatch q⟩
    · exact ⟨_, hTO, fun v q => nomatch q⟩
    · exact h1.obj
    · exact h2.obj
  keep := fun i h h' st k => by
    obtain ⟨hz, hTI, ⟨x, y, hTO⟩, h1, h2⟩ := st
    exact ⟨k z (by simp) _ hz, k TI (by simp) _ hTI, ⟨x, y, k TO (by simp) _ hTO⟩, h1.at fun o q => k i1 (by simp) o q, h2.at fun o q => k i2 (by simp) o q⟩
  item := by
    intro X hP hw hK hc i pins s σ H E J hf st hg
    subst hP hw hK
    obtain ⟨hz, hTI, ⟨x0, y0, hTO⟩, h1, h2⟩ := st
    obtain ⟨xs, ys, x, y, hqx, hqy, hx, hy⟩ := hg
    obtain ⟨its, rv, hs1, _, _⟩ := inv_src J hqx
    obtain ⟨its2, rv2, hs2, _, _⟩ := inv_src J hqy
    have hl1 : i < its.toArray.size := by
      rw [List.size_toArray, ← rv.length]
      exact (List.getElem?_eq_some_iff.mp hx).1
    have hl2 : i < its2.toArray.size := by
      rw [List.size_toArray, ← rv2.length]
      exact (List.getElem?_eq_some_iff.mp hy).1
    have hzl : z < s.heap.objs.size := Heap.lt_size hz
    refine wpAny_pyNext_zipD2_item S (draws_src (A := X.A.in1) l (J.ok.hd hc) i1 a ha its.toArray) (draws_src (A := X.A.in1) m (J.ok.hd hc) i2 b hb its2.toArray) hz hTI hTO ⟨h1, hs1⟩ ⟨h2, hs2⟩ hl1 hl2 fun u u2 h' tk hu hu2 z' TO' h1' h2' hT hsz hk => ?_
    refine ⟨_, rfl, wpAny_letOwnedTupleGo_zip (s := { s with heap := h', toks := tk }) z' fun h'' z'' sb => ?_⟩
    obtain ⟨w1, hw1, ru⟩ := rv.get hx
    obtain ⟨w2, hw2, ru2⟩ := rv2.get hy
    have e1 : u = w1 := by
      have q : its[i]? = some u := by simpa using hu
      rw [q] at hw1
      exact Option.some.inj hw1
    have e2 : u2 = w2 := by
      have q : its2[i]? = some u2 := by simpa using hu2
      rw [q] at hw2
      exact Option.some.inj hw2
    subst e1 e2
    have hT2 : h''.get? s.heap.objs.size = some { cls := .type "tuple", data := .seq #[u, u2] } := (sb.2 _ (Nat.ne_of_gt hzl)).trans (tupOf2_obj hT)
    have new : ObjOk X.prog X.w (upd H s.heap.objs.size (.tup [x, y])) h'' s.heap.objs.size (.tup [x, y]) := ⟨by show 2 ≤ sizeLine; decide, [u, u2], .cons ru (.cons ru2 .nil), ⟨_, hT2, rfl, _, rfl⟩⟩
    have J1 : Inv X pins σ (upd H s.heap.objs.size (.tup [x, y])) { s with heap := h'', toks := tk } :=
      J.turnedNew (ch := [z, TI, TO, i1, i2]) (fun c o hb q => (sb.2 c (fun q' => hb (by simp [q']))).trans (hk c o (fun q' => hb (by simp [q'])) (fun q' => hb (by simp [q'])) (fun q' => hb (by simp [q'])) (fun q' => hb (by simp [q'])) q)) hf (Nat.le_refl _) new
    have lt1 := h1.lt
    have lt2 := h2.lt
    refine ⟨.ref s.heap.objs.size, _, J1, rfl, ⟨_, x, y, rfl, J.hok.fresh (Nat.le_refl _), rfl, fun q hq => by rw [src_inj J hq hqx]; exact hx, fun q hq => by rw [src_inj J hq hqy]; exact hy⟩, ⟨z'', ?_, ⟨u, u2, ?_⟩, ?_, ?_⟩, fun c hcm => ?_⟩
    · exact (sb.2 _ S.TIz).trans (hk _ _ S.TIz S.TITO S.TIi1 S.TIi2 hTI)
    · exact (sb.2 _ S.TOz).trans TO'
    · exact h1'.1.at fun o q => (sb.2 _ (Ne.symm S.zi1)).trans q
    · exact h2'.1.at fun o q => (sb.2 _ (Ne.symm S.zi2)).trans q
    · have hlt : c < s.heap.objs.size := by
        have e' : c = z ∨ c = TI ∨ c = TO ∨ c = i1 ∨ c = i2 := by simpa using hcm
        rcases e' with rfl | rfl | rfl | rfl | rfl
        · exact hzl
        · exact Heap.lt_size hTI
        · exact Heap.lt_size hTO
        · exact lt1
        · exact lt2
      rw [upd_ne (Nat.ne_of_lt hlt)]
      exact (hf c hcm).1
  done := by
    intro X hP hw hK hc i pins s σ H E J hf st hg
    subst hP hw hK
    obtain ⟨hz, hTI, ⟨x0, y0, hTO⟩, h1, h2⟩ := st
    obtain ⟨xs, ys, hqx, hqy, hend⟩ := hg
    obtain ⟨its, rv, hs1, _, _⟩ := inv_src J hqx
    obtain ⟨its2, rv2, hs2, _, _⟩ := inv_src J hqy
    have n1 : its.toArray.size = xs.length := by rw [List.size_toArray, rv.length]
    have n2 : its2.toArray.size = ys.length := by rw [List.size_toArray, rv2.length]
    refine wpAny_pyNext_zipD2_end S (draws_src (A := X.A.in1) l (J.ok.hd hc) i1 a ha its.toArray) (draws_src (A := X.A.in1) m (J.ok.hd hc) i2 b hb its2.toArray) hz hTI hTO ⟨h1, hs1⟩ ⟨h2, hs2⟩ (by omega) (by omega) (by omega) fun h' tk hk => ⟨rfl, ?_⟩
    exact J.turnedL (t' := tk) (ch := [z, TI, TO, i1, i2]) (fun c o hb q => hk c o (fun q' => hb (by simp [q'])) (fun q' => hb (by simp [q'])) (fun q' => hb (by simp [q'])) (fun q' => hb (by simp [q'])) q) hf
  self := fun A i s Q E st h => wpAny_pyIter_zip st.1 h
def iZipS (K : PySem.W.Frag) (ta : TA) : TI := fun σ H R => ta σ H fun vs H1 => ∃ l m a b xs ys, vs = [.ref a, .ref b] ∧ Sq l K H1 a xs ∧ Sq m K H1 b ys ∧ R (ItZ l m K a b) H1
theorem pi_zipS {X : Cx} {e e2 : Expr} {ta : TA} {p pos tpos : Pos} {elts : List Expr} {kk : Nat} (hg : Gl X "zip") (hm : X.mg "zip" = none) (ha : PA X [e, e2] ta)
    (hs : starEach [e, e2] X.env = (false, eval e X.env) :: starEach [e2] X.env := by rfl) (hpl : (backTo pos (starEach [e2] X.env)).any (·.1) = false := by rfl) :
    PI X (.Tuple elts kk tpos) (.Call (.Name "zip" p) [e, e2] [] pos) (iZipS X.K ta) := by
  refine ⟨fun pins s σ H R J h => Call_ (ld_blt J hg hm PyProof.Rows.boot_zip (PyProof.Rows.callWith_type1 (thn (ha.run pos pins s σ H _ J h) fun us s1 ⟨vs, H1, J1, r1, q1⟩ => ?_) hs hpl))⟩
  obtain ⟨l, m, a, b, xs, ys, ex, hqx, hqy, q⟩ := q1
  subst ex
  cases r1 with
  | cons r rr =>
    cases rr with
    | cons r' rr =>
      cases rr
      cases r
      cases r'
      obtain ⟨its, rv, hs1, _, la⟩ := inv_src J1 hqx
      obtain ⟨its2, rv2, hs2, _, lb⟩ := inv_src J1 hqy
      refine zip_begins2 (begins_src l a its.toArray) (begins_src m b its2.toArray) hs1 hs2 fun h' hz hTI hTO h1 h2 hsz hk => wpAny_pyIter_zip hz ?_
      have sep := zip_sep2 (N := s1.heap.objs.size) (fp1 := [a]) (fp2 := [b]) (fun c hc => (show c = a by simpa using hc) ▸ la) (fun c hc => (show c = b by simpa using hc) ▸ lb)
      refine ⟨s1.heap.objs.size + 4, [s1.heap.objs.size + 4, s1.heap.objs.size + 2, s1.heap.objs.size + 3, s1.heap.objs.size, s1.heap.objs.size + 1], _, _, H1, rfl, J1.kept (t' := s1.toks) hk, turn_zipS l m sep (Nat.ne_of_lt la) (Nat.ne_of_lt (Nat.lt_succ_of_lt lb)), ⟨hz, hTI, ⟨_, _, hTO⟩, IsIt.new h1, IsIt.new h2⟩, fun c hcm => ?_, q⟩
      have hle : s1.heap.objs.size ≤ c := by
        have e' : c = s1.heap.objs.size + 4 ∨ c = s1.heap.objs.size + 2 ∨ c = s1.heap.objs.size + 3 ∨ c = s1.heap.objs.size ∨ c = s1.heap.objs.size + 1 := by simpa using hcm
        rcases e' with rfl | rfl | rfl | rfl | rfl
        · exact Nat.le_add_right _ _
        · exact Nat.le_add_right _ _
        · exact Nat.le_add_right _ _
        · exact Nat.le_refl _
        · exact Nat.le_add_right _ _
      exact J1.fpOk hle (J1.hok.fresh hle)

/-! ### what is walked, as data -/
section
variable {S : Type}
def iSeq (a : Rho → S → Res S Val) : Rho → S → Res S (List PyData) := fun ρ st => (a ρ st).bind fun x st1 => match x with
  | .d (.list xs) => .ok xs st1
  | .d (.tuple xs) => .ok xs st1
  | _ => .stuck
def upto (n : Int) : List PyData := (List.range n.toNat).map fun k => .int (k : Nat)
noncomputable def iRng (a : Rho → S → Res S Val) : Rho → S → Res S (List PyData) := fun ρ st => (a ρ st).bind fun x st1 => match x with
  | .d (.int n) => cif (smallI n) (.ok (upto n) st1) .stuck
  | _ => .stuck
def fromTo (a b : Int) : List PyData := (List.range (b - a).toNat).map fun k => .int (a + (k : Nat))
noncomputable def iRng2 (a b : Rho → S → Res S Val) : Rho → S → Res S (List PyData) := fun ρ st => (a ρ st).bind fun x st1 => (b ρ st1).bind fun y st2 => match x, y with
  | .d (.int i), .d (.int j) => cif (smallI i ∧ smallI j) (.ok (fromTo i j) st2) .stuck
  | _, _ => .stuck
def enumD (xs : List PyData) : List PyData := xs.mapIdx fun i d => .tuple [.int (i : Nat), d]
def iEnm (a : Rho → S → Res S Val) : Rho → S → Res S (List PyData) := fun ρ st => (a ρ st).bind fun x st1 => match x with
  | .d (.list xs) => .ok (enumD xs) st1
  | .d (.tuple xs) => .ok (enumD xs) st1
  | _ => .stuck
def zipD (xs ys : List PyData) : List PyData := List.zipWith (fun x y => .tuple [x, y]) xs ys
def dSeq : Val → Option (List PyData)
  | .d (.list xs) => some xs
  | .d (.tuple xs) => some xs
  | _ => none
def iZp (a b : Rho → S → Res S Val) : Rho → S → Res S (List PyData) := fun ρ st => (a ρ st).bind fun x st1 => (b ρ st1).bind fun y st2 => match dSeq x, dSeq y with
  | some xs, some ys => .ok (zipD xs ys) st2
  | _, _ => .stuck
end
theorem VR.src {K : PySem.W.Frag} {I : Hp} {M : Mw} {H : Hp} {x : V} {u : Val} {ds : List PyData} (h : VR K I M H x u) (e : dSeq u = some ds) : ∃ l p vs, x = .ref p ∧ Sq l K I p vs ∧ RpAll K I vs ds := by
  match u, h, e with
  | .d (.list xs), h, e =>
    cases e
    cases h with
    | lst a r => exact ⟨true, _, _, rfl, SqL.of a, r⟩
  | .d (.tuple xs), h, e =>
    cases e
    cases h with
    | tup a r => exact ⟨false, _, _, rfl, a, r⟩
theorem sq_mono {l : Bool} {K : PySem.W.Frag} {I J : Hp} {a : Addr} {xs : List V} (e : Same I J) (h : Sq l K I a xs) : Sq l K J a xs := by
  cases l with
  | true => exact sqL_mono e h
  | false => exact sqT_mono e h
theorem pair_alloc {K : PySem.W.Frag} {I : Hp} {M : Mw} {H : Hp} {T : Addr} {x y : V} {d e : PyData} (k : Ok I M H) (hT : H T = none) (hx : Rp K I x d) (hy : Rp K I y e) :
    ∃ I3, Grow I M H I3 M (upd H T (.tup [x, y])) ∧ Ok I3 M (upd H T (.tup [x, y])) ∧ Rp K I3 (.ref T) (.tuple [d, e]) := by
  obtain ⟨g, k'⟩ := Grow.alloc (o := .tup [x, y]) k hT
  exact ⟨_, g, k', .tup (SqT.of upd_same) (.cons (hx.mono g.i) (.cons (hy.mono g.i) .nil))⟩
section
variable {U : Uni} {X : Cx} {W : WX} {tg a b : Expr} {Fa Fb : Rho → U.S → Res U.S Val} {pos p : Pos}
theorem itd_seq {K : PySem.W.Frag} {I : Hp} {q : Addr} {vs : List V} {ds : List PyData} (l : Bool) (h : Sq l K I q vs) (r : RpAll K I vs ds) : ItD K (match l with | true => Itl K q | false => Itt K q) I ds := by
  have hy : ∀ (i : Nat) (I2 : Hp) (M2 : Mw) (H2 : Hp) (x : V) (H3 : Hp), Same I I2 → Ok I2 M2 H2 → i < ds.length → YAt vs i H2 x H3 → ∃ d I3, ds[i]? = some d ∧ Grow I2 M2 H2 I3 M2 H3 ∧ Ok I3 M2 H3 ∧ Rp K I3 x d := fun i I2 M2 H2 x H3 es k hi y => by
    obtain ⟨rfl, hx⟩ := y
    have hd : ds[i]? = some ds[i] := List.getElem?_eq_getElem hi
    obtain ⟨x', h1, h2⟩ := r.get hd
    rw [hx] at h1
    cases h1
    exact ⟨_, I2, hd, Grow.refl _ _ _, k, h2.mono es⟩
  cases l with
  | true => exact it_of_walk walk_list r.len (fun I2 M2 H2 es k => sqL_mono (es.trans k.ih) h) hy
  | false => exact it_of_walk walk_tup r.len (fun I2 M2 H2 es k => sqT_mono (es.trans k.ih) h) hy
theorem pid_seq (ha : PEd U X W a Fa) : PId U X W tg a (iSeq Fa) := by
  refine ⟨fun pins s σ H R J h => ?_⟩
  have h1 : tE U X.K W Fa σ H (fun x H1 => (∃ q, x = .ref q ∧ (∃ xs, SqL X.K H1 q xs) ∧ R (Itl X.K q) H1) ∨ (∃ q, x = .ref q ∧ (∃ xs, SqT X.K H1 q xs) ∧ R (Itt X.K q) H1)) := by
    refine tG.bind h fun Z ρ st1 x u I1 M1 H1 ft hx ps => ?_
    match u, hx, ps with
    | .d (.list xs), hx, ps =>
      cases hx with
      | lst e r => exact .inl ⟨_, rfl, ⟨_, SqL.of (ft.ok.ih _ _ e)⟩, ps _ I1 M1 H1 (Grow.refl _ _ _) ft.ok ft.rs (itd_seq true (SqL.of e) r)⟩
    | .d (.tuple xs), hx, ps =>
      cases hx with
      | tup e r => exact .inr ⟨_, rfl, ⟨_, sqT_mono ft.ok.ih e⟩, ps _ I1 M1 H1 (Grow.refl _ _ _) ft.ok ft.rs (itd_seq false e r)⟩
  have h2 : PE X a (tE U X.K W Fa) := ha
  refine thn (h2.run pins s σ H _ J h1) fun v s1 ⟨x, H1, J1, r1, q1⟩ => ?_
  rcases q1 with ⟨q, rfl, ⟨xs, hq⟩, k⟩ | ⟨q, rfl, ⟨xs, hq⟩, k⟩
  · cases r1
    obtain ⟨its, rv, pl, hz⟩ := J1.list hq
    refine wpAny_pyIter_list pl.isList ⟨s1.heap.objs.size, [s1.heap.objs.size], _, _, H1, rfl, J1.kept (t' := s1.toks) fun b o e => Heap.get?_push_of_some _ e, turn_list q _, ⟨_, Heap.get?_push_size _ rfl, rfl, rfl⟩, fun b hb => ?_, k⟩
    cases (show b = s1.heap.objs.size by simpa using hb)
    exact J1.fpOk (Nat.le_refl _) (J1.hok.fresh (Nat.le_refl _))
  · cases r1
    obtain ⟨its, rv, pl, hz⟩ := J1.tuple hq
    refine wpAny_pyIter_tuple (show s1.heap.IsTuple q its.toArray from pl) ⟨s1.heap.objs.size, [s1.heap.objs.size], _, _, H1, rfl, J1.kept (t' := s1.toks) fun b o e => Heap.get?_push_of_some _ e, turn_tuple q _, ⟨_, Heap.get?_push_size _ rfl, rfl, rfl⟩, fun b hb => ?_, k⟩
    cases (show b = s1.heap.objs.size by simpa using hb)
    exact J1.fpOk (Nat.le_refl _) (J1.hok.fresh (Nat.le_refl _))
theorem itd_range {K : PySem.W.Frag} {I : Hp} (lo : Int) (n : Nat) : ItD K (Itr lo n) I ((List.range n).map fun k => .int (lo + (k : Nat))) := by
  refine it_of_walk walk_range (by simp) (fun _ _ _ _ _ => trivial) fun i I2 M2 H2 x H3 es k hi y => ?_
  obtain ⟨rfl, rfl⟩ := y
  refine ⟨.int (lo + (i : Nat)), I2, ?_, Grow.refl _ _ _, k, .int _⟩
  have hi' : i < n := by simpa using hi
  simp [hi']
theorem pid_rng (hg : Gl X "range") (hm : X.mg "range" = none) (ha : PEd U X W a Fa) (hs : starEach [a] X.env = (false, eval a X.env) :: starEach [] X.env := by rfl) : PId U X W tg (.Call (.Name "range" p) [a] [] pos) (iRng Fa) := by
  refine pi_imp (pi_range1 hg hm (pa_cons ha pa_nil hs) hs) fun σ H R h => ?_
  refine tG.bind h fun Z ρ st1 x u I1 M1 H1 ft hx ps => ?_
  match u, hx, ps with
  | .d (.int n), hx, ps =>
    simp only at ps
    by_cases hc : smallI n
    · rw [cif_pos hc] at ps
      refine ⟨n, by rw [Rp.int_inv hx], hc.1, hc.2, ps _ I1 M1 H1 (Grow.refl _ _ _) ft.ok ft.rs ?_⟩
      have z := itd_range (K := X.K) (I := I1) 0 n.toNat
      simp only [Int.zero_add] at z
      exact z
    · rw [cif_neg hc] at ps
      exact False.elim ps
theorem pid_rng2 (hg : Gl X "range") (hm : X.mg "range" = none) (ha : PEd U X W a Fa) (hb : PEd U X W b Fb) (hs : starEach [a, b] X.env = (false, eval a X.env) :: starEach [b] X.env := by rfl) (hs2 : starEach [b] X.env = (false, eval b X.env) :: starEach [] X.env := by rfl)
    (hs3 : starEach [a, b] X.env = [(false, eval a X.env), (false, eval b X.env)] := by rfl) : PId U X W tg (.Call (.Name "range" p) [a, b] [] pos) (iRng2 Fa Fb) := by
  refine pi_imp (pi_range2 hg hm (pa_cons ha (pa_cons hb pa_nil hs2) hs) hs3 hs2) fun σ H R h => ?_
  refine tG.bind h fun Z ρ st1 x u I1 M1 H1 ft hx ps => ?_
  refine Post.next ft ps fun st2 y v I2 M2 H2 g ft2 hy ps2 => ?_
  match u, v, hx, hy, ps2 with
  | .d (.int i), .d (.int j), hx, hy, ps2 =>
    simp only at ps2
    by_cases hc : smallI i ∧ smallI j
    · rw [cif_pos hc] at ps2
      exact ⟨i, j, by rw [Rp.int_inv hx, Rp.int_inv hy], ⟨hc.1.1, hc.1.2, hc.2.1, hc.2.2⟩, ps2 _ I2 M2 H2 (Grow.refl _ _ _) ft2.ok ft2.rs (itd_range (K := X.K) (I := I2) i (j - i).toNat)⟩
    · rw [cif_neg hc] at ps2
      exact False.elim ps2
theorem itd_enum {K : PySem.W.Frag} {I : Hp} {q : Addr} {vs : List V} {ds : List PyData} (l : Bool) (h : Sq l K I q vs) (r : RpAll K I vs ds) : ItD K (ItE l K q) I (enumD ds) := by
  have hl : (enumD ds).length = ds.length := by unfold enumD; simp
  refine ⟨fun i I2 M2 H2 es k hi => ?_, fun I2 M2 H2 es k => ⟨vs, sq_mono (es.trans k.ih) h, by rw [hl]; exact r.len⟩, fun i I2 M2 H2 x H3 es k hi y => ?_⟩
  · rw [hl] at hi
    obtain ⟨x', h1, h2⟩ := r.get (List.getElem?_eq_getElem hi)
    exact ⟨vs, x', sq_mono (es.trans k.ih) h, h1⟩
  · rw [hl] at hi
    obtain ⟨T, x', rfl, hT, rfl, hx⟩ := y
    obtain ⟨x2, h1, h2⟩ := r.get (List.getElem?_eq_getElem hi)
    rw [hx vs (sq_mono (es.trans k.ih) h)] at h1
    cases h1
    obtain ⟨I3, g, k3, r3⟩ := pair_alloc (x := .int (i : Nat)) (d := .int (i : Nat)) k hT (.int _) (h2.mono es)
    refine ⟨_, I3, ?_, g, k3, r3⟩
    unfold enumD
    simp [hi]
theorem pid_enum {elts : List Expr} {kk : Nat} {tpos : Pos} (hg : Gl X "enumerate") (hm : X.mg "enumerate" = none) (ha : PEd U X W a Fa) (hs : starEach [a] X.env = (false, eval a X.env) :: starEach [] X.env := by rfl) :
    PId U X W (.Tuple elts kk tpos) (.Call (.Name "enumerate" p) [a] [] pos) (iEnm Fa) := by
  refine pi_imp (pi_enumS hg hm (pa_cons ha pa_nil hs) hs) fun σ H R h => ?_
  refine tG.bind h fun Z ρ st1 x u I1 M1 H1 ft hx ps => ?_
  have key : ∀ ds, dSeq u = some ds → Post U X.K (rIt X.K) (.ok (enumD ds) st1) I1 M1 H1 R (fun cls d H' => W cls d σ H') → ∃ l q xs, [x] = [V.ref q] ∧ Sq l X.K H1 q xs ∧ R (ItE l X.K q) H1 := fun ds e ps => by
    obtain ⟨l, q, vs, rfl, h1, r⟩ := VR.src hx e
    exact ⟨l, q, vs, rfl, sq_mono ft.ok.ih h1, ps _ I1 M1 H1 (Grow.refl _ _ _) ft.ok ft.rs (itd_enum l h1 r)⟩
  match u, key, ps with
  | .d (.list xs), key, ps => exact key xs rfl ps
  | .d (.tuple xs), key, ps => exact key xs rfl ps
theorem itd_zip {K : PySem.W.Frag} {I : Hp} {q q2 : Addr} {vs us : List V} {ds es : List PyData} (l m : Bool) (h : Sq l K I q vs) (h2 : Sq m K I q2 us) (r : RpAll K I vs ds) (r2 : RpAll K I us es) : ItD K (ItZ l m K q q2) I (zipD ds es) := by
  have hl : (zipD ds es).length = min ds.length es.length := by unfold zipD; simp
  refine ⟨fun i I2 M2 H2 e k hi => ?_, fun I2 M2 H2 e k => ⟨vs, us, sq_mono (e.trans k.ih) h, sq_mono (e.trans k.ih) h2, by rw [hl, r.len, r2.len]⟩, fun i I2 M2 H2 x H3 e k hi y => ?_⟩
  · rw [hl] at hi
    obtain ⟨x', h3, h4⟩ := r.get (List.getElem?_eq_getElem (show i < ds.length by omega))
    obtain ⟨y', h5, h6⟩ := r2.get (List.getElem?_eq_getElem (show i < es.length by omega))
    exact ⟨vs, us, x', y', sq_mono (e.trans k.ih) h, sq_mono (e.trans k.ih) h2, h3, h5⟩
  · rw [hl] at hi
    obtain ⟨T, x', y', rfl, hT, rfl, hx, hy⟩ := y
    have hi1 : i < ds.length := by omega
    have hi2 : i < es.length := by omega
    obtain ⟨x2, h3, h4⟩ := r.get (List.getElem?_eq_getElem hi1)
    obtain ⟨y2, h5, h6⟩ := r2.get (List.getElem?_eq_getElem hi2)
    rw [hx vs (sq_mono (e.trans k.ih) h)] at h3
    rw [hy us (sq_mono (e.trans k.ih) h2)] at h5
    cases h3
    cases h5
    obtain ⟨I3, g, k3, r3⟩ := pair_alloc k hT (h4.mono e) (h6.mono e)
    refine ⟨_, I3, ?_, g, k3, r3⟩
    unfold zipD
    simp [List.getElem?_zipWith, hi1, hi2]
theorem pid_zip {elts : List Expr} {kk : Nat} {tpos : Pos} (hg : Gl X "zip") (hm : X.mg "zip" = none) (ha : PEd U X W a Fa) (hb : PEd U X W b Fb) (hs : starEach [a, b] X.env = (false, eval a X.env) :: starEach [b] X.env := by rfl) (hs2 : starEach [b] X.env = (false, eval b X.env) :: starEach [] X.env := by rfl)
    (hpl : (backTo pos (starEach [b] X.env)).any (·.1) = false := by rfl) : PId U X W (.Tuple elts kk tpos) (.Call (.Name "zip" p) [a, b] [] pos) (iZp Fa Fb) := by
  refine pi_imp (pi_zipS hg hm (pa_cons ha (pa_cons hb pa_nil hs2) hs) hs hpl) fun σ H R h => ?_
  refine tG.bind h fun Z ρ st1 x u I1 M1 H1 ft hx ps => ?_
  refine Post.next ft ps fun st2 y v I2 M2 H2 g ft2 hy ps2 => ?_
  have hx2 := VR.grow g hx
  cases e1 : dSeq u with
  | none => simp only [e1] at ps2; exact False.elim ps2
  | some ds =>
    cases e2 : dSeq v with
    | none => simp only [e1, e2] at ps2; exact False.elim ps2
    | some es =>
      simp only [e1, e2] at ps2
      obtain ⟨l, q, vs, rfl, h1, r⟩ := VR.src hx2 e1
      obtain ⟨m, q2, us, rfl, h2, r2⟩ := VR.src hy e2
      exact ⟨l, m, q, q2, vs, us, rfl, sq_mono ft2.ok.ih h1, sq_mono ft2.ok.ih h2, ps2 _ I2 M2 H2 (Grow.refl _ _ _) ft2.ok ft2.rs (itd_zip l m h1 h2 r r2)⟩
end
end Dl
set_option maxRecDepth 100000
set_option maxHeartbeats 4000000
namespace Dl
open PySem L2
/-! ### list comprehensions -/
def wipeR (ρ : Rho) : List Nat → Rho
  | [] => ρ
  | v :: vs => (wipeR ρ vs).set v none
abbrev WF : WX := fun _ _ _ _ => False
theorem wipeR_len (ρ : Rho) : ∀ vs : List Nat, (wipeR ρ vs).length = ρ.length
  | [] => rfl
  | v :: vs => by unfold wipeR; rw [List.length_set, wipeR_len ρ vs]
theorem wipeR_some {ρ : Rho} {i : Nat} {x : Val} : ∀ {vs : List Nat}, (wipeR ρ vs)[i]? = some (some x) → ρ[i]? = some (some x) ∧ i ∉ vs
  | [], h => ⟨h, by simp⟩
  | v :: vs, h => by
    unfold wipeR at h
    by_cases hi : v = i
    · subst hi
      by_cases hv : v < (wipeR ρ vs).length
      · rw [List.getElem?_set_self hv] at h; cases h
      · rw [List.getElem?_eq_none (by simpa using hv)] at h; cases h
    · rw [List.getElem?_set_ne hi] at h
      obtain ⟨h1, h2⟩ := wipeR_some h
      exact ⟨h1, fun z => (List.mem_cons.mp z).elim (fun e => hi e.symm) h2⟩
theorem Fit.wipe {U : Uni} {K : PySem.W.Frag} {Z : Base} {σ : L2.St} {ρ : Rho} {st : U.S} {I : Hp} {M : Mw} {H : Hp} (f : Fit U K Z σ ρ st I M H) (vs : List Nat) : Fit U K Z (wipe σ vs) (wipeR ρ vs) st I M H :=
  ⟨f.g, f.ok, f.rs, by rw [wipeR_len, wipe_length]; exact f.len, fun i v e => by
    obtain ⟨h1, h2⟩ := wipeR_some e
    rw [wipe_out h2]
    exact f.env i v h1, fun i ds p e1 e2 => by
    obtain ⟨h1, h2⟩ := wipeR_some e1
    rw [wipe_out h2] at e2
    exact f.new i ds p h1 e2, fun i j ds es p e1 e2 e3 e4 => by
    obtain ⟨h1, h2⟩ := wipeR_some e1
    obtain ⟨h3, h4⟩ := wipeR_some e2
    rw [wipe_out h2] at e3
    rw [wipe_out h4] at e4
    exact f.sep i j ds es p h1 h3 e3 e4, fun i t ks ds p e1 e2 => by
    obtain ⟨h1, h2⟩ := wipeR_some e1
    rw [wipe_out h2] at e2
    exact f.newd i t ks ds p h1 e2, fun i j t ks ds t' ks' es p e1 e2 e3 e4 => by
    obtain ⟨h1, h2⟩ := wipeR_some e1
    obtain ⟨h3, h4⟩ := wipeR_some e2
    rw [wipe_out h2] at e3
    rw [wipe_out h4] at e4
    exact f.sepd i j t ks ds t' ks' es p h1 h3 e3 e4⟩
theorem wipe_wipe (σ : L2.St) (vs : List Nat) : ∀ us : List Nat, (∀ i ∈ us, i ∈ vs) → wipe (wipe σ us) vs = wipe σ vs
  | [], _ => rfl
  | u :: us, hu => by
    have e : wipe σ (u :: us) = (wipe σ us).set u none := rfl
    rw [e, wipe_in (hu u List.mem_cons_self), wipe_wipe σ vs us fun i hi => hu i (List.mem_cons_of_mem _ hi)]
section
variable {S : Type}
/-- the turns of a list comprehension: nothing may be raised within -/
def compL (tg : Tg) (T : Rho → S → Res S Bool) (E : Rho → S → Res S Val) (ρ : Rho) : List PyData → List PyData → S → Res S (List PyData)
  | [], acc, st => .ok acc st
  | d :: r, acc, st => match setT tg d ρ with
    | none => .stuck
    | some ρ1 => match T ρ1 st with
      | .ok true st1 => match E ρ1 st1 with
        | .ok (.d y) st2 => if acc.length < 1000000 then compL tg T E ρ r (acc ++ [y]) st2 else .stuck
        | _ => .stuck
      | .ok false st1 => compL tg T E ρ r acc st1
      | _ => .stuck
def nComp (G : Rho → S → Res S (List PyData)) (vs : List Nat) (tg : Tg) (T : Rho → S → Res S Bool) (E : Rho → S → Res S Val) : Rho → S → Res S (List PyData) := fun ρ st => (G ρ st).bind fun ds st1 => compL tg T E (wipeR ρ vs) ds [] st1
def tYes' : Rho → S → Res S Bool := fun _ st => .ok true st
end
section
variable {U : Uni} {X : Cx} {W : WX}
def PTsd (U : Uni) (X : Cx) (W : WX) (ifs : List Expr) (T : Rho → U.S → Res U.S Bool) : Prop := PTs X ifs (tB U X.K W T)
theorem pts_imp {X : Cx} {es : List Expr} {t t' : TT} (h : PTs X es t) (m : ∀ σ H Q, t' σ H Q → t σ H Q) : PTs X es t' := ⟨fun pins s σ H Q J q => h.run pins s σ H Q J (m σ H Q q)⟩
theorem ptsd_nil : PTsd U X W [] tYes' := pts_imp pts_nil fun σ H Q ⟨Z, ρ, st, I, M, ft, ps⟩ => ps true I M H (Grow.refl _ _ _) ft.ok ft.rs rfl
theorem ptsd_one {c : Expr} {T : Rho → U.S → Res U.S Bool} (h : PTd U X W c T) : PTsd U X W [c] T := pts_one h
theorem lc_read {K : PySem.W.Frag} {g : Tg} {vs : List Nat} {G : Rho → U.S → Res U.S (List PyData)} {T : Rho → U.S → Res U.S Bool} {E : Rho → U.S → Res U.S Val} {σ : L2.St} {H : Hp} {Q : VK} (hv : ∀ i ∈ g.slots, i ∈ vs)
    (h : tN U K W (nComp G vs g T E) σ H Q) : tLc (tG U K W (rIt K) G) (gT K g) (tB U K WF T) (tE U K WF E) vs σ H Q := by
  refine tN.bind (rel := rIt K) h fun Z ρ st1 J ds I1 M1 H1 ft hJ ps => ?_
  intro D hD
  have iD : I1 D = none := ft.ok.ih.free hD
  have mD : M1.h D = none := ft.ok.mh.free hD
  obtain ⟨g0, k0⟩ := Grow.allocO (o := .lst []) ft.ok hD
  have f0 := (ft.grow g0 k0 ft.rs).wipe vs
  have hww : ∀ σ2, wipe σ2 vs = wipe (wipe σ vs) vs → wipe σ2 vs = wipe σ vs := fun σ2 e => e.trans (wipe_wipe σ vs vs fun _ h => h)
  refine ⟨fun i m H => m = ds.length - i ∧ i ≤ ds.length ∧ ∃ st I M acc av, Same I1 I ∧ Grow I1 M1 H1 I M H ∧ Fit U K Z (wipe σ vs) (wipeR ρ vs) st I M H ∧ H D = some (.lst av) ∧ I D = none ∧ M.h D = none ∧ RpAll K I av acc ∧
      PostN U K (compL g T E (wipeR ρ vs) (ds.drop i) acc st) I1 M1 H1 Q (fun cls d H' => W cls d σ H'), ⟨ds.length, rfl, Nat.zero_le _, st1, I1, M1, [], [], Same.refl _, g0, f0, upd_same, iD, mD, .nil, ps⟩, ?_⟩
  rintro i m H ⟨rfl, hi, st, I, M, acc, av, es, gr, ft, hd, di, dm, ra, ps⟩
  by_cases hlt : i < ds.length
  · have hdrop : ds.drop i = ds[i] :: ds.drop (i + 1) := List.drop_eq_getElem_cons hlt
    rw [hdrop] at ps
    refine .inr ⟨hJ.go i I M H es ft.ok hlt, fun H' => ∃ st I M acc av, Same I1 I ∧ Grow I1 M1 H1 I M H' ∧ Fit U K Z (wipe σ vs) (wipeR ρ vs) st I M H' ∧ H' D = some (.lst av) ∧ I D = none ∧ M.h D = none ∧ RpAll K I av acc ∧
      PostN U K (compL g T E (wipeR ρ vs) (ds.drop (i + 1)) acc st) I1 M1 H1 Q (fun cls d H' => W cls d σ H'), fun H' ⟨st', I', M', acc', av', a1, a2, a3, a4, a5, a6, a7, a8⟩ => ⟨ds.length - (i + 1), by omega, rfl, hlt, st', I', M', acc', av', a1, a2, a3, a4, a5, a6, a7, a8⟩, fun x H' hy => ?_⟩
    obtain ⟨d, I3, hdd, g3, k3, r3⟩ := hJ.yld i I M H x H' es ft.ok hlt hy
    have hd' : d = ds[i] := by
      rw [List.getElem?_eq_getElem hlt] at hdd
      exact (Option.some.inj hdd).symm
    subst hd'
    have f3 := ft.grow g3 k3 ft.rs
    unfold compL at ps
    cases z : setT g ds[i] (wipeR ρ vs) with
    | none => rw [z] at ps; exact False.elim ps
    | some ρ1 =>
      rw [z] at ps
      refine tg_read g f3 r3 z fun σ1 f1 w1 => ⟨hww σ1 (w1 vs hv), ?_⟩
      -- the list so far, whatever is evaluated
      have keepD : ∀ {I' : Hp} {M' : Mw} {Hq : Hp}, Grow I M H I' M' Hq → Hq D = some (.lst av) ∧ I' D = none ∧ M'.h D = none ∧ RpAll K I' av acc := fun {I' M' Hq} gq => by
        obtain ⟨p, us, e, a, b, c, r⟩ := VR.grow (x := .ref D) gq (show VR K I M H (.ref D) (.own acc) from ⟨D, av, rfl, hd, di, dm, ra⟩)
        cases e
        have : us = av := by
          have z := gq.kp D _ hd dm
          rw [z] at a
          cases a
          rfl
        subst this
        exact ⟨a, b, c, r⟩
      refine ⟨Z, ρ1, st, I3, M, f1, ?_⟩
      have back : ∀ {st' : U.S} {I' : Hp} {M' : Mw} {Hq : Hp}, Grow I3 M H' I' M' Hq → Ok I' M' Hq → U.R st' M' → Fit U K Z (wipe σ vs) (wipeR ρ vs) st' I' M' Hq := fun gq kq rq => ft.grow (g3.trans gq) kq rq
      cases zt : T ρ1 st with
      | stuck => simp only [zt] at ps; exact ps
      | exc c fs st' => simp only [zt] at ps; exact False.elim ps
      | ok b st2 =>
        simp only [zt] at ps
        intro b' I4 M4 H4 g4 k4 r4 eb
        have eb : b' = b := eb
        subst eb
        cases b' with
        | false =>
          obtain ⟨q1, q2, q3, q4⟩ := keepD (g3.trans g4)
          exact ⟨st2, I4, M4, acc, av, es.trans (g3.i.trans g4.i), gr.trans (g3.trans g4), back g4 k4 r4, q1, q2, q3, q4, ps⟩
        | true =>
          refine ⟨Z, ρ1, st2, I4, M4, f1.grow g4 k4 r4, ?_⟩
          cases ze : E ρ1 st2 with
          | stuck => simp only [ze] at ps; exact False.elim ps
          | exc c fs st' => simp only [ze] at ps; exact False.elim ps
          | ok v st3 =>
            simp only [ze] at ps
            intro y I5 M5 H5 g5 k5 r5 hy5
            match v, hy5, ps with
            | .d yd, hy5, ps =>
              simp only at ps
              by_cases hl : acc.length < 1000000
              · rw [if_pos hl] at ps
                obtain ⟨q1, q2, q3, q4⟩ := keepD (g3.trans (g4.trans g5))
                refine ⟨av, q1, szl (by rw [q4.len]; exact hl), st3, I5, M5, acc ++ [yd], av ++ [y], es.trans (g3.i.trans (g4.i.trans g5.i)), ?_, ?_, upd_same, q2, q3, q4.append (.cons hy5 .nil), ps⟩
                · have gg := gr.trans (g3.trans (g4.trans g5))
                  have hDn : H1 D = none := hD
                  exact ⟨gg.i, gg.ni, gg.nm, fun a o h m => by rw [upd_ne (ne_of_none h hDn)]; exact gg.kp a o h m, fun a h => by
                    rw [upd_ne (fun z => h (by rw [z]; exact hDn))]
                    exact gg.th a h, gg.ad⟩
                · have f5 := back (g4.trans g5) k5 r5
                  have nown : ∀ (j : Nat) es' q, (wipeR ρ vs)[j]? = some (some (.own es')) → (wipe σ vs)[j]? = some (some (.ref q)) → q ≠ D := fun j es' q e1 e2 => by
                    have f00 := f0
                    obtain ⟨p', us, e3, h1, _⟩ := ft.own e1
                    have hz := f0.own e1
                    obtain ⟨p2, us2, e4, h2, _⟩ := hz
                    rw [e4] at e2
                    cases e2
                    intro z
                    subst z
                    -- an owned list stood ahead of the comprehension
                    have : H1 q ≠ none := by
                      have w := (‹Fit U K Z σ ρ st1 I1 M1 H1›).wipe vs
                      obtain ⟨p3, us3, e5, h3, _⟩ := w.own e1
                      rw [e4] at e5
                      cases e5
                      exact ne_none_of h3
                    exact this hD
                  have hzD : Z.H D = none := by
                    cases w : Z.H D with
                    | none => rfl
                    | some o => exact absurd hD ((‹Fit U K Z σ ρ st1 I1 M1 H1›).g.th D (ne_none_of w))
                  refine ⟨⟨f5.g.i, f5.g.ni, f5.g.nm, fun a o h m => by rw [upd_ne (ne_of_none h hzD)]; exact f5.g.kp a o h m, fun a h => by
                    rw [upd_ne (fun z => h (by rw [z]; exact hzD))]
                    exact f5.g.th a h, f5.g.ad⟩, ⟨fun a o h => by rw [upd_ne (ne_of_none h q2)]; exact f5.ok.ih a o h, fun a o h => by rw [upd_ne (ne_of_none h q3)]; exact f5.ok.mh a o h, f5.ok.dj⟩, f5.rs, f5.len, fun j w e => ?_, f5.new, f5.sep, f5.newd, f5.sepd⟩
                  obtain ⟨x', h1, h2⟩ := f5.env j w e
                  refine ⟨x', h1, ?_⟩
                  match w, e, h2 with
                  | .d _, _, h2 => exact h2
                  | .ref _, _, h2 => exact h2
                  | .exc _ _, _, h2 => exact h2
                  | .own es', e, ⟨q', us, z1, a1, b1, c1, r1⟩ =>
                    subst z1
                    exact ⟨q', us, rfl, by rw [upd_ne (nown j es' q' e h1)]; exact a1, b1, c1, r1⟩
                  | .ownd t' ks' es', e, ⟨q', us, z1, a1, b1, c1, r1⟩ =>
                    exact ⟨q', us, z1, by rw [upd_ne (fun z => by subst z; rw [q1] at a1; exact dHO_lst a1.symm)]; exact a1, b1, c1, r1⟩
              · rw [if_neg hl] at ps
                exact False.elim ps
  · have he : i = ds.length := by omega
    subst he
    rw [List.drop_length] at ps
    exact .inl ⟨hJ.stop I M H es ft.ok, ps D av I M H hD gr ft.ok ft.rs hd di dm ra⟩
theorem frz_slot {K : PySem.W.Frag} {D : Ends} {i : Nat} {σ : L2.St} {H : Hp} {F : Rho → U.S → Res U.S (List PyData)} (h : tS U K W (sSet i (eFrz F)) D σ H) : tN U K W F σ H fun x H1 => D.nx (σ.set i (some x)) H1 := by
  obtain ⟨Z, ρ, st, I, M, ft, ps⟩ := h
  refine ⟨Z, ρ, st, I, M, ft, ?_⟩
  unfold sSet eFrz at ps
  cases z : F ρ st with
  | ok ds st1 =>
    rw [z] at ps
    intro p vs I' M' H' h0 g k r hp hi hm ra
    obtain ⟨g', k', hs⟩ := freeze_ok g k h0 hp hi hm
    exact ps _ _ M' H' g'.i ((ft.grow g' k' r).set i (show VR K _ M' H' (.ref p) (.d (.list ds)) from Rp.lst upd_same (ra.mono hs)) rfl)
  | exc c fs st1 =>
    rw [z] at ps
    exact fun cls d I1 M1 H1 g k r q => ps σ cls d I1 M1 H1 g.i (ft.grow g k r) q
  | stuck => rw [z] at ps; exact ps
variable {elt tg iter : Expr} {ifs : List Expr} {scope : Scope} {own : List (Str × Nat)} {pos spos py : Pos} {g : Tg} {G : Rho → U.S → Res U.S (List PyData)} {T : Rho → U.S → Res U.S Bool} {E : Rho → U.S → Res U.S Val}
theorem pnd_comp (hc : X.calm = true) (hN : X.N.Nodup) (hi : PId U X W tg iter G) (ok : BlkOk X.N X.env.scope scope own) (hv : ∀ i ∈ g.slots, i ∈ own.map (·.2))
    (hg : ∀ (s : Shared) (H : Hp) (C : Addr) (cl : List (Str × Addr)) (fp : List Addr), PG (X.blk s H scope (compEnvC scope cl C X.env) fp) tg (gT X.K g))
    (ht : ∀ (s : Shared) (H : Hp) (C : Addr) (cl : List (Str × Addr)) (fp : List Addr), PTsd U (X.blk s H scope (compEnvC scope cl C X.env) fp) WF ifs T)
    (he : ∀ (s : Shared) (H : Hp) (C : Addr) (cl : List (Str × Addr)) (fp : List Addr), PEd U (X.blk s H scope (compEnvC scope cl C X.env) fp) WF elt E) (hs : ∀ x, foldedSetIterable iter X.env x = pure x := by intro _; rfl) :
    PNd U X W (.ListComp elt [⟨tg, iter, ifs, 0⟩] scope pos) (nComp G (own.map (·.2)) g T E) :=
  pe_imp (pe_lc (tt := tB U X.K WF T) (te := tE U X.K WF E) hc hN hi ok hg ht he hs) fun σ H Q h => lc_read hv h
theorem psd_setNewC {i : Nat} {y : Str} (hc : X.calm = true) (hN : X.N.Nodup) (hy : X.N[i]? = some y) (hyl : X.env.scope.names.lookup y = some .local)
    (hsw : swapsWith (.ListComp elt [⟨tg, iter, ifs, 0⟩] scope pos) (some (.Name y py)) spos.line X.env = pure true) (hi : PId U X W tg iter G) (ok : BlkOk X.N X.env.scope scope own) (hv : ∀ i ∈ g.slots, i ∈ own.map (·.2))
    (hg : ∀ (s : Shared) (H : Hp) (C : Addr) (cl : List (Str × Addr)) (fp : List Addr), PG (X.blk s H scope (compEnvC scope cl C X.env) fp) tg (gT X.K g))
    (ht : ∀ (s : Shared) (H : Hp) (C : Addr) (cl : List (Str × Addr)) (fp : List Addr), PTsd U (X.blk s H scope (compEnvC scope cl C X.env) fp) WF ifs T)
    (he : ∀ (s : Shared) (H : Hp) (C : Addr) (cl : List (Str × Addr)) (fp : List Addr), PEd U (X.blk s H scope (compEnvC scope cl C X.env) fp) WF elt E) (hs : ∀ x, foldedSetIterable iter X.env x = pure x := by intro _; rfl) :
    PSd U X W (.Assign [.Name y py] (.ListComp elt [⟨tg, iter, ifs, 0⟩] scope pos) spos) (sNew i (nComp G (own.map (·.2)) g T E)) :=
  ps_imp (ps_setLc (tt := tB U X.K WF T) (te := tE U X.K WF E) hc hN hy hyl hsw hi ok hg ht he hs) fun D σ H h => lc_read hv (new_slot h)
theorem psd_setC {i : Nat} {y : Str} (hc : X.calm = true) (hN : X.N.Nodup) (hy : X.N[i]? = some y) (hyl : X.env.scope.names.lookup y = some .local)
    (hsw : swapsWith (.ListComp elt [⟨tg, iter, ifs, 0⟩] scope pos) (some (.Name y py)) spos.line X.env = pure true) (hi : PId U X W tg iter G) (ok : BlkOk X.N X.env.scope scope own) (hv : ∀ i ∈ g.slots, i ∈ own.map (·.2))
    (hg : ∀ (s : Shared) (H : Hp) (C : Addr) (cl : List (Str × Addr)) (fp : List Addr), PG (X.blk s H scope (compEnvC scope cl C X.env) fp) tg (gT X.K g))
    (ht : ∀ (s : Shared) (H : Hp) (C : Addr) (cl : List (Str × Addr)) (fp : List Addr), PTsd U (X.blk s H scope (compEnvC scope cl C X.env) fp) WF ifs T)
    (he : ∀ (s : Shared) (H : Hp) (C : Addr) (cl : List (Str × Addr)) (fp : List Addr), PEd U (X.blk s H scope (compEnvC scope cl C X.env) fp) WF elt E) (hs : ∀ x, foldedSetIterable iter X.env x = pure x := by intro _; rfl) :
    PSd U X W (.Assign [.Name y py] (.ListComp elt [⟨tg, iter, ifs, 0⟩] scope pos) spos) (sSet i (eFrz (nComp G (own.map (·.2)) g T E))) :=
  ps_imp (ps_setLc (tt := tB U X.K WF T) (te := tE U X.K WF E) hc hN hy hyl hsw hi ok hg ht he hs) fun D σ H h => lc_read hv (frz_slot h)
end
end Dl
set_option maxRecDepth 100000
set_option maxHeartbeats 4000000
namespace Dl
open PySem L2 PySem.Spec PyProof.Rows
/-! ### a def by its body -/
section
variable {S : Type}
def begin' (n : Nat) (vs : List Val) : Rho := vs.map some ++ List.replicate (n - vs.length) none
def fnF (n : Nat) (B : Rho → S → SRes S) : List Val → S → Res S Val := fun vs st => match B (begin' n vs) st with
  | .ret v st' => .ok v st'
  | .next _ st' => .ok (.d .none) st'
  | .exc c fs _ st' => .exc c fs st'
  | _ => .stuck
end
theorem VRs.get {K : PySem.W.Frag} {I : Hp} {M : Mw} {H : Hp} : ∀ {xs : List V} {vs : List Val} {i : Nat} {v : Val}, VRs K I M H xs vs → vs[i]? = some v → ∃ x, xs[i]? = some x ∧ VR K I M H x v
  | _, _, _, _, .nil, e => by simp at e
  | _, _, 0, _, .cons h _, e => by simp at e; subst e; exact ⟨_, rfl, h⟩
  | _, _, i + 1, v, .cons _ r, e => by
    obtain ⟨x, h1, h2⟩ := VRs.get (i := i) (v := v) r (by simpa using e)
    exact ⟨x, by simpa using h1, h2⟩
theorem fit_begin {U : Uni} {K : PySem.W.Frag} {st : U.S} {I : Hp} {M : Mw} {H : Hp} {N : List Str} {xs : List V} {vs : List Val} (ok : Ok I M H) (rs : U.R st M) (hv : VRs K I M H xs vs) (hd : vs.all isDR = true) :
    Fit U K ⟨I, M, H⟩ (L2.start N xs) (begin' N.length vs) st I M H := by
  have hl := hv.len
  have key : ∀ (i : Nat) (v : Val), (begin' N.length vs)[i]? = some (some v) → vs[i]? = some v ∧ isDR v = true := fun i v e => by
    unfold begin' at e
    by_cases hi : i < vs.length
    · rw [List.getElem?_append_left (by simpa using hi)] at e
      rw [List.getElem?_map] at e
      cases z : vs[i]? with
      | none => rw [z] at e; cases e
      | some w =>
        rw [z] at e
        cases e
        exact ⟨rfl, List.all_eq_true.mp hd _ (List.mem_of_getElem? z)⟩
    · rw [List.getElem?_append_right (by simpa using hi), List.getElem?_replicate] at e
      split at e <;> cases e
  refine ⟨Grow.refl _ _ _, ok, rs, by unfold begin' L2.start; simp [hl], fun i v e => ?_, fun i ds p e1 e2 => ?_, fun i j ds es p e1 e2 e3 e4 => ?_, fun i t ks ds p e1 e2 => ?_, fun i j t ks ds t' ks' es p e1 e2 e3 e4 => ?_⟩
  · obtain ⟨h1, _⟩ := key i v e
    obtain ⟨x, h2, h3⟩ := hv.get h1
    refine ⟨x, ?_, h3⟩
    unfold L2.start
    have hi : i < xs.length := (List.getElem?_eq_some_iff.mp h2).1
    rw [List.getElem?_append_left (by simpa using hi), List.getElem?_map, h2]
    rfl
  · cases (key i _ e1).2
  · cases (key i _ e1).2
  · cases (key i _ e1).2
  · cases (key i _ e1).2
section
variable {U : Uni} {P : Program} {w : World} {K : PySem.W.Frag} {mg : Str → Option Value} {base : Heap}
/-- a def by any reading of its body -/
theorem fn_h {x qual : Str} {st : Stmt} {f : Addr} {fd : FuncData} {N ps : List Str} {k : Nat} {F : List Val → U.S → Res U.S Val} (Fn : Fun K x qual st f fd) (S : FnScope N ps (defScope st))
    (hb : ∀ (cdv : Value) (A : Around) (outer : List Env) (s : Shared) (H : Hp) (xs : List V) (Q : VK) (E : XK) (vs : List Val) (t : U.S) (I : Hp) (M : Mw), Room k (A.deeper (envOfC qual (defScope st) s.heap.objs.size f cdv)) → A.guards = some [] → xs.length = ps.length → Ok I M H → U.R t M → VRs K I M H xs vs →
      vs.all isDR = true → Post U K (VR K) (F vs t) I M H Q E →
      ∃ tt, PSs (cxOf (L2.CX P w) P w K mg base N qual (defScope st) f cdv A outer s H E) (defBody st) tt ∧ tt { nx := fun _ H' => Q .non H', rt := Q } (L2.start N xs) H) : FnG U P w K mg base (k + 1) f fd ps F := by
  obtain ⟨oc, od, kV, doc, pm, an, cdv, ct, osl, rfl, lk, hcd⟩ := Fn.ex
  refine ⟨fun A outer s H args us xs Q E vs t I M hr hgd e0 hbd rv hl ok rs hv hd h => ?_⟩
  have KX : K.In s.heap := e0.mod.kin.keeps fun b o e => (e0.bs b o e).1
  have lim : s.heap.NoLimit := e0.mod.nolimit.keeps fun b o e => (e0.bs b o e).1
  have kinds : ∀ y ∈ ps.zip us, (defScope st).names.lookup y.1 = some .local ∨ ((defScope st).names.lookup y.1 = some .cell ∧ ((cellsFrom (s.heap.objs.size + 1) (defScope st).names []).lookup y.1).isSome = true) := fun ⟨n, v⟩ hy => by
    rcases S.par n (List.of_mem_zip hy).1 with q | q
    · exact Or.inl q
    · exact Or.inr ⟨q, PySem.W.cellsFrom_some _ _ _ (.inl q)⟩
  refine codeAny_call_function hr.depth (KX _ _ lk) rfl S.co S.gen rfl (PySem.W.codeRec_of KX hcd) (hbd _ _ _ _ (wpAny_newFunctionEnv_cells S.kind kinds fun env he s1 ic => ?_))
  subst he
  refine ⟨lim.keeps ic.toInCall.keep, codeAny_func ?_⟩
  obtain ⟨tt, hbody, hsp⟩ := hb cdv A outer s H xs Q E vs t I M (hr.deeper _) hgd hl ok rs hv hd h
  have J : Inv (cxOf (L2.CX P w) P w K mg base N qual (defScope st) f cdv A outer s H E) [] (L2.start N xs) H s1 := inv_start S hr.hd e0 hl rv ic
  refine wpAny_mono (PSs.run hbody [] s1 (L2.start N xs) H _ J hsp) (fun fl s' hs => ?_) fun e s' hs => hs
  match fl, hs with
  | .ret u, ⟨v, σ', H', J', rv', q⟩ => exact ⟨v, H', J'.os, J'.bare, J'.base, J'.hok, rv', q⟩
  | .next, ⟨σ', H', J', q⟩ => exact ⟨.non, H', J'.os, J'.bare, J'.base, J'.hok, rfl, q⟩
  | .brk, ⟨_, _, _, q⟩ => exact False.elim q
  | .cont, ⟨_, _, _, q⟩ => exact False.elim q
theorem fn_g {x qual : Str} {st : Stmt} {f : Addr} {fd : FuncData} {N ps : List Str} {k : Nat} {B : Rho → U.S → SRes U.S} (Fn : Fun K x qual st f fd) (S : FnScope N ps (defScope st))
    (hb : ∀ (cdv : Value) (A : Around) (outer : List Env) (s : Shared) (H : Hp) (E : XK), Room k (A.deeper (envOfC qual (defScope st) s.heap.objs.size f cdv)) → A.guards = some [] →
      PBd U (cxOf (L2.CX P w) P w K mg base N qual (defScope st) f cdv A outer s H E) (fun cls d _ H => E cls d H) (defBody st) B) : FnG U P w K mg base (k + 1) f fd ps (fnF N.length B) := by
  refine fn_h Fn S fun cdv A outer s H xs Q E vs t I M hr hgd hl ok rs hv hd h => ⟨_, hb cdv A outer s H E hr hgd, ⟨I, M, H⟩, begin' N.length vs, t, I, M, fit_begin ok rs hv hd, ?_⟩
  unfold fnF at h
  cases z : B (begin' N.length vs) t with
  | ret v st' => rw [z] at h; exact fun x I' M' H' g k r q => h x I' M' H' g k r q
  | next ρ' st' => rw [z] at h; exact fun σ' I' M' H' e' ft => h .non I' M' H' ft.g ft.ok ft.rs .non
  | exc c fs ρ' st' => rw [z] at h; exact fun σ' cls d I' M' H' e' ft q => h cls d I' M' H' ft.g ft.ok ft.rs q
  | brk ρ' st' => rw [z] at h; exact False.elim h
  | cnt ρ' st' => rw [z] at h; exact False.elim h
  | stuck => rw [z] at h; exact h
end

/-! ### raise -/
/-- an error's __init__ that keeps its n arguments: fill tells how its fields are found -/
def spX (C : Addr) (n : Nat) (fill : List V → List (Str × V)) : Sp := fun vs H Q _ => ∃ a ys, vs = .ref a :: ys ∧ ys.length = n ∧ H a = some (exo a C none) ∧
  ∀ dx, H dx = none → dx ≠ a → ∀ H', (∀ b, b ≠ a → b ≠ dx → H' b = H b) → H' a = some (exo a C (some dx)) → H' dx = some (exd dx (fill ys)) → Q .non H'
section
variable {S : Type}
def sRaise (c n : Nat) (fill : List PyData → List PyData) (A : Rho → S → Res S (List Val)) : Rho → S → SRes S := fun ρ st => sBind (A ρ st) ρ fun vs st1 => match datas vs with
  | some ds => if ds.length = n then .exc c (fill ds) ρ st1 else .stuck
  | none => .stuck
end
/-- how a class of errors is made: its number, its __init__ -/
structure ExcT (U : Uni) (P : Program) (w : World) (K : PySem.W.Frag) (mg : Str → Option Value) (base : Heap) (x : Str) (c n : Nat) (nms : List Str) (fill : List PyData → List PyData) : Prop where
  ex : ∃ (C fI : Addr) (k : Nat) (fd : FuncData) (ps : List Str) (fillV : List V → List V), k + 1 ≤ 2 ∧ n ≤ 5 ∧ OexC K C ∧ PySem.W.findIn K (.ref C) "__init__" = some (some (.ref fI)) ∧ PySem.W.typeIn K (.ref fI) = some (.type "function") ∧
    FnOk P w K mg base CX0 k fI fd ps (spX C n (fun ys => nms.zip (fillV ys))) ∧ Binds K fd ps [] ∧ U.cl c = some (C, nms) ∧ mg x = some (.ref C) ∧
    ∀ I xs ds, RpAll K I xs ds → xs.length = n → RpAll K I (fillV xs) (fill ds) ∧ nms.length = (fillV xs).length
section
variable {U : Uni} {X : Cx} {W : WX} {e : Expr} {es : List Expr} {A : Rho → U.S → Res U.S (List Val)} {pos p : Pos}
theorem psd_raise {x : Str} {c n : Nat} {nms : List Str} {fill : List PyData → List PyData} (T : ExcT U X.prog X.w X.K X.mg X.base x c n nms fill) (hc : X.calm = true) (tk : Takes X W) (hr : Room 2 X.A) (hg : Gl X x) (ha : PAd U X W (e :: es) A)
    (hdb : (x == ("__debug__" : Str)) = false := by decide) (he : starEach (e :: es) X.env = (false, eval e X.env) :: starEach es X.env := by rfl) (hpl : (backTo p (starEach es X.env)).any (·.1) = false := by rfl) {q : Pos} :
    PSd U X W (.Raise (some (.Call (.Name x q) (e :: es) [] p)) none pos) (sRaise c n fill A) := by
  obtain ⟨C, fI, k, fd, ps, fillV, hk, h5, TC, iC, tI, F1, hb, hcl, hm, hf⟩ := T.ex
  refine ps_imp (ps_raise hc tk (pmk_oex TC iC tI F1 (hr.mono hk) hb .nil pass0 hg hm ha hdb he hpl)) fun D σ H h => ?_
  refine tS.bind (rel := VRs X.K) h fun Z ρ st1 xs vs I1 M1 H1 ft hx ps => ?_
  cases z : datas vs with
  | none => simp only [z] at ps; exact False.elim ps
  | some ds =>
    simp only [z] at ps
    have r := VRs.datas hx z
    by_cases hn : ds.length = n
    · rw [if_pos hn] at ps
      have hl : xs.length = n := r.len.trans hn
      obtain ⟨r2, l2⟩ := hf I1 xs ds r hl
      refine ⟨Nat.le_trans (Nat.le_of_eq hl) (Nat.le_trans h5 (by decide)), fun a ha0 => ?_⟩
      rw [List.append_nil]
      refine ⟨a, xs, rfl, hl, upd_same, fun dx hdx hne H' hb' ha' hd' => ⟨rfl, dx, _, ha', hd', ?_, ?_⟩⟩
      · rw [upd_ne hne] at hdx; exact hdx
      · rw [upd_ne hne] at hdx
        have e : upd (del H' a) dx (.xd (nms.zip (fillV xs))) = upd H1 dx (.xd (nms.zip (fillV xs))) := by
          funext b
          by_cases h1 : b = dx
          · subst h1; rw [upd_same, upd_same]
          · rw [upd_ne h1, upd_ne h1]
            by_cases h2 : b = a
            · subst h2; rw [del_same, ha0]
            · rw [del_ne h2, hb' b h2 h1, upd_ne h2]
        rw [e]
        obtain ⟨g, k'⟩ := Grow.alloc (o := .xd (nms.zip (fillV xs))) ft.ok hdx
        exact ps σ (.ref C) (some dx) _ M1 _ g.i (ft.grow g k' ft.rs) ⟨C, nms, dx, fillV xs, hcl, rfl, rfl, upd_same, l2, r2.mono g.i⟩
    · rw [if_neg hn] at ps
      exact False.elim ps
end
end Dl
set_option maxRecDepth 100000
set_option maxHeartbeats 4000000
namespace Dl
open PySem L2
/-! ### try, one clause: its suite is x = (something of the error's fields) -/
theorem Fit.setNone {U : Uni} {K : PySem.W.Frag} {Z : Base} {σ : L2.St} {ρ : Rho} {st : U.S} {I : Hp} {M : Mw} {H : Hp} (f : Fit U K Z σ ρ st I M H) (i : Nat) (y : Option V) : Fit U K Z (σ.set i y) (ρ.set i none) st I M H := by
  refine ⟨f.g, f.ok, f.rs, by rw [List.length_set, List.length_set]; exact f.len, fun j w e => ?_, fun j ds p e1 e2 => ?_, fun j l ds es p e1 e2 e3 e4 => ?_, fun j t ks ds p e1 e2 => ?_, fun j l t ks ds t' ks' es p e1 e2 e3 e4 => ?_⟩
  · rcases set_key (x := y) f.len e with ⟨_, h1, _⟩ | ⟨_, h1, h2⟩
    · cases h1
    · rw [h2]; exact f.env j w h1
  · rcases set_key (x := y) f.len e1 with ⟨_, h1, _⟩ | ⟨_, h1, h2⟩
    · cases h1
    · rw [h2] at e2; exact f.new j ds p h1 e2
  · rcases set_key (x := y) f.len e1 with ⟨_, h1, _⟩ | ⟨_, h1, h2⟩
    · cases h1
    · rcases set_key (x := y) f.len e2 with ⟨_, h3, _⟩ | ⟨_, h3, h4⟩
      · cases h3
      · rw [h2] at e3
        rw [h4] at e4
        exact f.sep j l ds es p h1 h3 e3 e4
  · rcases set_key (x := y) f.len e1 with ⟨_, h1, _⟩ | ⟨_, h1, h2⟩
    · cases h1
    · rw [h2] at e2; exact f.newd j t ks ds p h1 e2
  · rcases set_key (x := y) f.len e1 with ⟨_, h1, _⟩ | ⟨_, h1, h2⟩
    · cases h1
    · rcases set_key (x := y) f.len e2 with ⟨_, h3, _⟩ | ⟨_, h3, h4⟩
      · cases h3
      · rw [h2] at e3
        rw [h4] at e4
        exact f.sepd j l t ks ds t' ks' es p h1 h3 e3 e4
/-- an expression of a suite: f tells it of the error's fields -/
def tX (U : Uni) (K : PySem.W.Frag) (a : Addr) (cls : Value) (d : Option Addr) (i : Option Nat) (c : Nat) (f : List PyData → Option PyData) : TE := fun σ H Q => ∃ Z ρ st I M fs w, Fit U K Z σ ρ st I M H ∧ (∀ k, i = some k → σ[k]? = some (some (.ref a))) ∧ XR U K I c fs cls d ∧ f fs = some w ∧
  ∀ x I' H', Grow I M H I' M H' → Ok I' M H' → Rp K I' x w → Q x H'
def tXs (U : Uni) (K : PySem.W.Frag) (a : Addr) (cls : Value) (d : Option Addr) (i : Option Nat) (c : Nat) (f : List PyData → Option (List PyData)) : TA := fun σ H Q => ∃ Z ρ st I M fs w, Fit U K Z σ ρ st I M H ∧ (∀ k, i = some k → σ[k]? = some (some (.ref a))) ∧ XR U K I c fs cls d ∧ f fs = some w ∧
  ∀ xs I' H', Grow I M H I' M H' → Ok I' M H' → RpAll K I' xs w → Q xs H'
theorem XR.mono {U : Uni} {K : PySem.W.Frag} {I I' : Hp} {c : Nat} {fs : List PyData} {cls : Value} {d : Option Addr} (e : Same I I') : XR U K I c fs cls d → XR U K I' c fs cls d
  | ⟨C, nms, dd, vs, h1, h2, h3, h4, h5, h6⟩ => ⟨C, nms, dd, vs, h1, h2, h3, e _ _ h4, h5, h6.mono e⟩
section
variable {U : Uni} {X : Cx} {a : Addr} {oe : Obj} {cls : Value} {d : Option Addr} {pn : List (Addr × Obj)} {i : Option Nat} {c : Nat} {pos p : Pos}
/-- the suite's context -/
abbrev SX (X : Cx) (a : Addr) (oe : Obj) (pn : List (Addr × Obj)) : Cx := X.suite a ((a, oe) :: pn)
def PXd (U : Uni) (X : Cx) (a : Addr) (oe : Obj) (pn : List (Addr × Obj)) (cls : Value) (d : Option Addr) (i : Option Nat) (c : Nat) (e : Expr) (f : List PyData → Option PyData) : Prop := PE (SX X a oe pn) e (tX U X.K a cls d i c f)
def PXs (U : Uni) (X : Cx) (a : Addr) (oe : Obj) (pn : List (Addr × Obj)) (cls : Value) (d : Option Addr) (i : Option Nat) (c : Nat) (es : List Expr) (f : List PyData → Option (List PyData)) : Prop := PA (SX X a oe pn) es (tXs U X.K a cls d i c f)
theorem pxd_c {e : Expr} {v : V} {w : PyData} (h : PE (SX X a oe pn) e (tC v)) (r : ∀ I, Rp X.K I v w) : PXd U X a oe pn cls d i c e (fun _ => some w) :=
  pe_imp h fun σ H Q ⟨Z, ρ, st, I, M, fs, w', ft, hi, xr, e, q⟩ => by
    cases e
    exact q v I H (Grow.refl _ _ _) ft.ok (r I)
theorem lookup_zip {n : Str} : ∀ {nms : List Str} {vs : List V} {ds : List PyData} {K : PySem.W.Frag} {I : Hp} {j : Nat} {w : PyData}, RpAll K I vs ds → nms.Nodup → nms[j]? = some n → nms.length = vs.length → ds[j]? = some w → ∃ v, (nms.zip vs).lookup n = some v ∧ Rp K I v w
  | [], _, _, _, _, j, _, _, _, h, _, _ => by simp at h
  | m :: ms, [], _, _, _, _, _, _, _, _, hl, _ => by simp at hl
  | m :: ms, v :: vs, dd :: ds, K, I, 0, w, .cons h r, _, hn, _, hd => by
    have e1 : m = n := by simpa using hn
    have e2 : dd = w := by simpa using hd
    subst e1 e2
    exact ⟨v, by simp [List.zip_cons_cons, List.lookup_cons], h⟩
  | m :: ms, v :: vs, dd :: ds, K, I, j + 1, w, .cons h r, nd, hn, hl, hd => by
    obtain ⟨v', h1, h2⟩ := lookup_zip (n := n) (nms := ms) (j := j) (w := w) r (List.nodup_cons.mp nd).2 (by simpa using hn) (by simpa using hl) (by simpa using hd)
    refine ⟨v', ?_, h2⟩
    have hne : n ≠ m := fun z => (List.nodup_cons.mp nd).1 (by rw [← z]; exact List.mem_of_getElem? (by simpa using hn))
    rw [List.zip_cons_cons, List.lookup_cons, beq_eq_false_iff_ne.mpr hne]
    exact h1
theorem pxd_fld {x n : Str} {k j : Nat} {C : Addr} {nms : List Str} (hcl : U.cl c = some (C, nms)) (hnd : nms.Nodup) (hj : nms[j]? = some n) (T : XfC X.K C) (hno : PySem.W.findIn X.K (.ref C) n = some none) (hz : Zc cls d oe) (hf : ∃ vs, oe.data = .fields vs)
    (hN : X.N[k]? = some x) (hv : Vis X.env.scope x) (hd : (x == ("__debug__" : Str)) = false := by decide) (hcd : (x == ("__classdict__" : Str)) = false := by decide)
    (hb : attributeBase (.Name x p) n X.env (eval (.Name x p) X.env) = eval (.Name x p) X.env := by rfl) : PXd U X a oe pn cls d (some k) c (.Attribute (.Name x p) n pos) (fun fs => fs[j]?) := by
  refine pe_imp (pe_xf T hno hz hf (pe_var hN hv hd hcd) hb) fun σ H Q ⟨Z, ρ, st, I, M, fs, w, ft, hi, xr, e, q⟩ => ?_
  obtain ⟨C', nms', dd, vs, h1, h2, h3, h4, h5, h6⟩ := xr
  rw [hcl] at h1
  cases h1
  obtain ⟨v, hv1, hv2⟩ := lookup_zip h6 hnd hj h5 e
  exact ⟨_, hi k rfl, rfl, h2, dd, _, v, h3, ft.ok.ih _ _ h4, hv1, q v I H (Grow.refl _ _ _) ft.ok hv2⟩
theorem pxs_nil : PXs U X a oe pn cls d i c [] (fun _ => some []) := pa_imp pa_nil fun σ H Q ⟨Z, ρ, st, I, M, fs, w', ft, hi, xr, e, q⟩ => by
  cases e
  exact q [] I H (Grow.refl _ _ _) ft.ok .nil
theorem pxs_cons {e : Expr} {es : List Expr} {f : List PyData → Option PyData} {g : List PyData → Option (List PyData)} (he : PXd U X a oe pn cls d i c e f) (hr : PXs U X a oe pn cls d i c es g)
    (hs : starEach (e :: es) (SX X a oe pn).env = (false, eval e (SX X a oe pn).env) :: starEach es (SX X a oe pn).env := by rfl) : PXs U X a oe pn cls d i c (e :: es) (fun fs => (f fs).bind fun x => (g fs).map (x :: ·)) := by
  refine pa_imp (pa_cons he hr hs) fun σ H Q ⟨Z, ρ, st, I, M, fs, w', ft, hi, xr, e, q⟩ => ?_
  obtain ⟨y, e1, e2⟩ := bind_some e
  obtain ⟨ys, e3, rfl⟩ := map_some e2
  refine ⟨Z, ρ, st, I, M, fs, y, ft, hi, xr, e1, fun x I1 H1 g1 k1 r1 => ⟨Z, ρ, st, I1, M, fs, ys, ft.grow g1 k1 ft.rs, hi, xr.mono g1.i, e3, fun xs I2 H2 g2 k2 r2 => ?_⟩⟩
  exact q _ I2 H2 (g1.trans g2) k2 (.cons (r1.mono g2.i) r2)
theorem pxd_tup {es : List Expr} {x1} {g : List PyData → Option (List PyData)} (h : PXs U X a oe pn cls d i c es g) (hl : ∀ fs ds, g fs = some ds → ds.length ≤ 1000000) : PXd U X a oe pn cls d i c (.Tuple es x1 pos) (fun fs => (g fs).map .tuple) := by
  refine pe_imp (pe_tup h) fun σ H Q ⟨Z, ρ, st, I, M, fs, w', ft, hi, xr, e, q⟩ => ?_
  obtain ⟨ys, e3, rfl⟩ := map_some e
  refine ⟨Z, ρ, st, I, M, fs, ys, ft, hi, xr, e3, fun xs I1 H1 g1 k1 r1 => ⟨sz (r1.len ▸ hl fs ys e3), fun p hp => new_tup k1 r1 hp fun z I' H' g' k' r' => q z I' H' (g1.trans g') k' r'⟩⟩
theorem pxd_lst {es : List Expr} {g : List PyData → Option (List PyData)} (h : PXs U X a oe pn cls d i c es g) (hl : ∀ fs ds, g fs = some ds → ds.length ≤ 1000000) : PXd U X a oe pn cls d i c (.List es pos) (fun fs => (g fs).map .list) := by
  refine pe_imp (pe_lst h) fun σ H Q ⟨Z, ρ, st, I, M, fs, w', ft, hi, xr, e, q⟩ => ?_
  obtain ⟨ys, e3, rfl⟩ := map_some e
  refine ⟨Z, ρ, st, I, M, fs, ys, ft, hi, xr, e3, fun xs I1 H1 g1 k1 r1 => ⟨sz (r1.len ▸ hl fs ys e3), fun p hp => new_lst k1 r1 hp fun z I' H' g' k' r' => q z I' H' (g1.trans g') k' r'⟩⟩
end
section
variable {S : Type}
/-- except C as e: x = ..: the suite's store to slot j, the name e at slot i -/
def sTry (c : Nat) (i j : Nat) (f : List PyData → Option PyData) (B : Rho → S → SRes S) : Rho → S → SRes S := fun ρ st => match B ρ st with
  | .exc c' fs ρ' st' => if c' = c then (match f fs with
      | some w => if i < ρ'.length then .next ((ρ'.set j (some (.d w))).set i none) st' else .stuck
      | none => .stuck) else .exc c' fs ρ' st'
  | r => r
/-- except C: x = .. -/
def sTry0 (c : Nat) (j : Nat) (w : PyData) (B : Rho → S → SRes S) : Rho → S → SRes S := fun ρ st => match B ρ st with
  | .exc c' fs ρ' st' => if c' = c then .next (ρ'.set j (some (.d w))) st' else .exc c' fs ρ' st'
  | r => r
end
section
variable {U : Uni} {X : Cx} {W : WX} {x n y : Str} {C : Addr} {c i j : Nat} {body : List Stmt} {B : Rho → U.S → SRes U.S} {np pos pos' sp py : Pos} {e : Expr} {f : List PyData → Option PyData}
theorem psd_try (hs : X.stack = X.env :: X.outer) (hf : X.env.frame = some X.env.locals) (hN : X.N.Nodup) (hi : X.N[i]? = some n) (hln : X.env.kindOf n = some .local) (hc : Names X x (.ref C)) (tk : Takes X W)
    (hx : ∀ c' C' nms, U.cl c' = some (C', nms) → PySem.W.exmOne X.K (.ref C') (.ref C) = some (decide (c' = c))) (hij : i ≠ j)
    (hb : ∀ (W' : WX) (pn : List (Addr × Obj)) (xe : Value → Shared → Prop), Takes (X.tr pn xe) W' → PassesOwn (model X.prog X.w) X.A X.env xe → PBd U (X.tr pn xe) W' body B)
    (hj : X.N[j]? = some y) (hy : Loc X.env.scope y) (hsu : ∀ (a : Addr) (oe : Obj) (cls : Value) (d : Option Addr) (pn : List (Addr × Obj)), Zc cls d oe → (∃ vs, oe.data = .fields vs) → PXd U X a oe pn cls d (some i) c e f)
    (hsw : swapsWith e (some (.Name y py)) sp.line X.env = pure false := by rfl) (hfn : X.fn y = true ∨ X.env.scope.names.lookup y = some .local := by first | exact .inl rfl | exact .inr rfl | assumption) :
    PSd U X W (.Try body [.ExceptHandler (some (.Name x np)) (some n) [.Assign [.Name y py] e sp] pos'] [] [] pos) (sTry c i j f B) := by
  refine ps_imp (ps_try_as (ts := fun a cls d => tAsg (tX U X.K a cls d (some i) c f) (gName j)) (Wout := W) (tb := fun W' => tS U X.K W' B) hs hf hN hi hln hc tk (fun W' pn xe h1 h2 => hb W' pn xe h1 h2)
    (fun a oe cls d pn hz hd => pss_one (ps_set (X := SX X a oe pn) hN hj hy (hsu a oe cls d pn hz hd) hsw hfn))) fun D σ H h => ?_
  obtain ⟨Z, ρ, st, I, M, ft, ps⟩ := h
  refine ⟨Z, ρ, st, I, M, ft, ?_⟩
  unfold sTry at ps
  cases z : B ρ st with
  | next ρ' st' => rw [z] at ps; exact ps
  | ret v st' => rw [z] at ps; exact ps
  | brk ρ' st' => rw [z] at ps; exact ps
  | cnt ρ' st' => rw [z] at ps; exact ps
  | stuck => rw [z] at ps; exact ps
  | exc c' fs ρ' st' =>
    rw [z] at ps
    intro σ' cls d I' M' H' es' ft' xr
    obtain ⟨C', nms, dd, vs, h1, h2, h3, h4, h5, h6⟩ := id xr
    refine ⟨decide (c' = c), by rw [h2]; exact hx c' C' nms h1, fun hb a ha => ?_, fun hb => ?_⟩
    · have hcc : c' = c := of_decide_eq_true hb
      subst hcc
      simp only [if_true] at ps
      cases zf : f fs with
      | none => rw [zf] at ps; exact False.elim ps
      | some w =>
        rw [zf] at ps
        have hil : i < ρ'.length := by
          by_cases hil : i < ρ'.length
          · exact hil
          · simp only [if_neg hil] at ps; exact False.elim ps
        simp only [if_pos hil] at ps
        refine ⟨Z, ρ'.set i none, st', I', M', fs, w, ft'.setNone i _, fun k hk => ?_, xr, zf, fun xv I2 H2 g2 k2 r2 => ?_⟩
        · cases hk
          exact List.getElem?_set_self (by rw [← ft'.len]; exact hil)
        · have f2 := ((ft'.setNone i (some (.ref a))).grow g2 k2 ft'.rs).set j (show VR X.K I2 M' H2 xv (.d w) from r2) rfl
          have f3 := f2.setNone i none
          have e1 : (((ρ'.set i none).set j (some (.d w))).set i none) = ((ρ'.set j (some (.d w))).set i none) := by
            rw [List.set_comm _ _ hij, List.set_set]
          rw [e1] at f3
          exact ps _ I2 M' H2 (es'.trans g2.i) f3
    · have hcc : ¬ c' = c := of_decide_eq_false hb
      simp only [if_neg hcc] at ps
      exact ps σ' cls d I' M' H' es' ft' xr
theorem psd_try0 {w : PyData} (hs : X.stack = X.env :: X.outer) (hf : X.env.frame = some X.env.locals) (hN : X.N.Nodup) (hc : Names X x (.ref C)) (tk : Takes X W)
    (hx : ∀ c' C' nms, U.cl c' = some (C', nms) → PySem.W.exmOne X.K (.ref C') (.ref C) = some (decide (c' = c)))
    (hb : ∀ (W' : WX) (pn : List (Addr × Obj)) (xe : Value → Shared → Prop), Takes (X.tr pn xe) W' → PassesOwn (model X.prog X.w) X.A X.env xe → PBd U (X.tr pn xe) W' body B)
    (hj : X.N[j]? = some y) (hy : Loc X.env.scope y) (hsu : ∀ (a : Addr) (oe : Obj) (cls : Value) (d : Option Addr) (pn : List (Addr × Obj)), PXd U X a oe pn cls d none c e (fun _ => some w))
    (hsw : swapsWith e (some (.Name y py)) sp.line X.env = pure false := by rfl) (hfn : X.fn y = true ∨ X.env.scope.names.lookup y = some .local := by first | exact .inl rfl | exact .inr rfl | assumption) :
    PSd U X W (.Try body [.ExceptHandler (some (.Name x np)) none [.Assign [.Name y py] e sp] pos'] [] [] pos) (sTry0 c j w B) := by
  refine ps_imp (ps_try_only (ts := fun a cls d => tAsg (tX U X.K a cls d none c (fun _ => some w)) (gName j)) (Wout := W) (tb := fun W' => tS U X.K W' B) hs hf hc tk (fun W' pn xe h1 h2 => hb W' pn xe h1 h2)
    (fun a oe cls d pn hz hd => pss_one (ps_set (X := SX X a oe pn) hN hj hy (hsu a oe cls d pn) hsw hfn))) fun D σ H h => ?_
  obtain ⟨Z, ρ, st, I, M, ft, ps⟩ := h
  refine ⟨Z, ρ, st, I, M, ft, ?_⟩
  unfold sTry0 at ps
  cases z : B ρ st with
  | next ρ' st' => rw [z] at ps; exact ps
  | ret v st' => rw [z] at ps; exact ps
  | brk ρ' st' => rw [z] at ps; exact ps
  | cnt ρ' st' => rw [z] at ps; exact ps
  | stuck => rw [z] at ps; exact ps
  | exc c' fs ρ' st' =>
    rw [z] at ps
    intro σ' cls d I' M' H' es' ft' xr
    obtain ⟨C', nms, dd, vs, h1, h2, h3, h4, h5, h6⟩ := id xr
    refine ⟨decide (c' = c), by rw [h2]; exact hx c' C' nms h1, fun hb a ha => ?_, fun hb => ?_⟩
    · have hcc : c' = c := of_decide_eq_true hb
      subst hcc
      simp only [if_true] at ps
      exact ⟨Z, ρ', st', I', M', fs, w, ft', (fun k hk => nomatch hk), xr, rfl, fun xv I2 H2 g2 k2 r2 => ps _ I2 M' H2 (es'.trans g2.i) ((ft'.grow g2 k2 ft'.rs).set j (show VR X.K I2 M' H2 xv (.d w) from r2) rfl)⟩
    · have hcc : ¬ c' = c := of_decide_eq_false hb
      simp only [if_neg hcc] at ps
      exact ps σ' cls d I' M' H' es' ft' xr
end
end Dl
set_option maxRecDepth 100000
set_option maxHeartbeats 4000000
namespace Dl
open PySem L2 PySem.Spec PyProof.Rows
/-! ### the world of a law: the script and the draws -/
structure DS where
  ns : List Int
  cells : List Int
  left : List Int
  at_ : Int
  on : Bool
def drawKv (c l : Addr) (k : Int) : List (Key × V) := [(Sum.inr "cells", .ref c), (Sum.inr "left", .ref l), (Sum.inr "at", .int k)]
structure DOn (st : DS) (M : Mw) (m c l : Addr) : Prop where
  hm : M.h m = some (.dK (drawKv c l st.at_))
  hc : M.h c = some (.lst (st.cells.map V.int))
  hl : M.h l = some (.lst (st.left.map V.int))
  ncl : c ≠ l
  lc : st.cells.length ≤ 100
  ll : st.left.length ≤ 100
/-- the script's list: known to the object, or one of the module's -/
def ScrAt (K : PySem.W.Frag) (h : Hp) (a : Addr) (xs : List V) : Prop := (∃ o, h a = some (.frz o (.lst xs))) ∨
  ∃ (o : Obj) (its : Array Value) (n : Nat), K.lookup a = some o ∧ o.cls = .type "list" ∧ o.dict = none ∧ o.data = .seq its n ∧ its.size ≤ sizeLine ∧ Vals xs its.toList
theorem ScrAt.sq {K : PySem.W.Frag} {h : Hp} {a : Addr} {xs : List V} : ScrAt K h a xs → SqL K h a xs
  | .inl ⟨o, e⟩ => .inl (.inr ⟨o, e⟩)
  | .inr e => .inr e
theorem ScrAt.mono {K : PySem.W.Frag} {h h' : Hp} {a : Addr} {xs : List V} (k : ∀ o u, h a = some (.frz o u) → h' a = some (.frz o u)) : ScrAt K h a xs → ScrAt K h' a xs
  | .inl ⟨o, e⟩ => .inl ⟨o, k _ _ e⟩
  | .inr e => .inr e
structure RD (K : PySem.W.Frag) (tb : List (Addr × Str)) (st : DS) (M : Mw) : Prop where
  scr : ∃ a, M.ad 1 = some a ∧ ScrAt K M.h a (st.ns.map V.int)
  len : st.ns.length ≤ 63
  off : st.on = false → M.ad 0 = none
  dr : st.on = true → ∃ m c l, M.ad 0 = some m ∧ DOn st M m c l
  tab : LamX.Tabs tb M.h
def UD (K : PySem.W.Frag) (tb : List (Addr × Str)) (cl : Nat → Option (Addr × List Str)) : Uni := ⟨DS, RD K tb, cl⟩
/-! ### what is drawn -/
def dropZ : List Int → List Int
  | [] => []
  | x :: r => if x = 0 then dropZ r else x :: r
def cellAt (cells : List Int) (k : Int) : Int := if cells = [] then 3 else cells.getD (k % (cells.length : Int)).toNat 0
def mix (cell k : Int) : Int := ((cell % 2147483629 + 7919 * k + 19 * k * k) * 48271 % 2147483647 + 104729 * k) * 69621 % 2147483587 / 11
def drawn (st : DS) (many : Int) : Int × DS := match dropZ st.left with
  | r :: rest => (r % many, { st with left := r / many :: rest })
  | [] => (mix (cellAt st.cells (st.at_ + 1)) (st.at_ + 1) % many, { st with left := [], at_ := st.at_ + 1 })
def fBegun : List Val → DS → Res DS Val
  | [.ref 1], st => if st.on = false then .ok (.ref 0) { st with on := true, cells := st.ns, left := st.ns.filter (fun x => decide (10 ^ 18 ≤ x)), at_ := 0 } else .stuck
  | _, _ => .stuck
def fNext : List Val → DS → Res DS Val
  | [.ref 0, .d (.int many)], st => if st.on = true ∧ 0 < many ∧ many.natAbs.log2 < 9000 ∧ 0 ≤ st.at_ ∧ st.at_ < 2 ^ 40 then .ok (.d (.int (drawn st many).1)) (drawn st many).2 else .stuck
  | _, _ => .stuck
/-- len(script) -/
def eLenS (a : Rho → DS → Res DS Val) : Rho → DS → Res DS Val := fun ρ st => (a ρ st).bind fun x st1 => match x with
  | .ref 1 => .ok (.d (.int st1.ns.length)) st1
  | _ => .stuck
section
variable {X : Cx} {tb : List (Addr × Str)} {cl : Nat → Option (Addr × List Str)} {W : WX} {a : Expr} {Fa : Rho → DS → Res DS Val} {pos p : Pos}
theorem ped_lenS (hg : Gl X "len") (hm : X.mg "len" = none) (ha : PEd (UD X.K tb cl) X W a Fa) (hs : starEach [a] X.env = (false, eval a X.env) :: starEach [] X.env := by rfl) : PEd (UD X.K tb cl) X W (.Call (.Name "len" p) [a] [] pos) (eLenS Fa) := by
  refine pe_imp (pe_callB call_len_seq hg hm PySem.boot_len (pa_cons ha pa_nil hs) (by decide) (by decide) hs) fun σ H Q h => ?_
  refine tG.bind (rel := VR X.K) (U := UD X.K tb cl) h fun Z ρ st1 x u I1 M1 H1 ft hx ps => ?_
  have hr : RD X.K tb st1 M1 := ft.rs
  obtain ⟨q, h1, h2⟩ := hr.scr
  match u, hx, ps with
  | .ref 1, hx, ps =>
    obtain ⟨b, e1, e2⟩ := hx
    rw [h1] at e1
    cases e1
    subst e2
    exact ⟨q, _, rfl, .inl (sqL_mono ft.ok.mh h2.sq), ps (.int _) I1 M1 H1 (Grow.refl _ _ _) ft.ok ft.rs (by rw [List.length_map]; exact .int _)⟩
end
/-! ### the end of a law -/
/-- the tables' objects that a law may write: the code object, its table, the name of what is made -/
abbrev Tcs := List (Addr × Addr × Str)
def Tcs.tb (cs : Tcs) : List (Addr × Str) := cs.map fun p => (p.2.1, p.2.2)
def Tcs.ps (cs : Tcs) : List Addr := cs.map fun p => p.2.1
/-- what is known of the tables at the law's begin -/
structure TOld (cs : Tcs) (K : PySem.W.Frag) (h : Heap) : Prop where
  at_ : ∀ p ∈ cs, h.get? p.2.1 = some { cls := .none, data := .fields #[] }
  no : ∀ p ∈ cs, K.lookup p.2.1 = none
  code : ∀ p ∈ cs, PySem.W.CodeHd h p.1 p.2.1
theorem TOld.nil {K : PySem.W.Frag} {h : Heap} : TOld [] K h := ⟨(fun _ hp => by cases hp), (fun _ hp => by cases hp), (fun _ hp => by cases hp)⟩
theorem law_g {P : Program} {w : World} {K : PySem.W.Frag} {mg mb : Str → Option Value} {cl : Nat → Option (Addr × List Str)} {k : Nat} {fa a : Addr} {fd : FuncData} {x : Str} {F : List Val → DS → Res DS Val} {s1 : Shared} {vs : List Value} {ns : List Int} {cs : Tcs}
    (KX : K.In s1.heap) (hns : s1.heap.Ns mainGlobals mg) (hb : s1.heap.Ns builtinsNs mb) (hbb : ∀ x : Str, x ≠ "__name__" → mb x = bootBuiltins x) (hlim : s1.heap.NoLimit) (hg : s1.gens = #[])
    (hbm : ∃ (bm : Addr) (ob : Obj), mg "__builtins__" = some (.ref bm) ∧ bm ≠ builtinsNs ∧ s1.heap.get? bm = some ob ∧ ob.cls = .type "module" ∧ ob.dict = some builtinsNs ∧ ob.data = .plain) (TO : TOld cs K s1.heap)
    (ha : s1.heap.get? a = some { cls := .type "list", data := .seq vs.toArray }) (hi : IntsAre vs ns) (hl : ns.length ≤ 63) (hr : Room k callerA)
    (G : ∀ base : Heap, K.In base → base.Ns mainGlobals mg → (∀ p ∈ cs, LamX.TabB base mg p.1 p.2.1) → FnG (UD K cs.tb cl) P w K mg base k fa fd [x] F) (hbind : ∀ (s : Shared) (u : Value), BindsTo s fd ⟨[u], []⟩ [(x, u)])
    (hF : ∃ st', F [.ref 1] ⟨ns, [], [], 0, false⟩ = .ok (.d (.bool true)) st') :
    codeAny (model P w) callerA (.call (.ref fa) ⟨[.ref a], []⟩) (fun r s' => r = .ok (.ret (.bool true)) ∧ OldK s1.heap s'.heap ∧ s'.os = s1.os ∧ AllBare s'.gens) s1 := by
  have rv : Vals (ns.map V.int) vs := vals_of_ints hi
  have lenV := hi.length
  have tabAt : ∀ b : Addr, b ∈ cs.ps → s1.heap.get? b = some { cls := .none, data := .fields #[] } := by
    intro b hb
    obtain ⟨p, hp, rfl⟩ := List.mem_map.mp hb
    exact TO.at_ p hp
  have aNo : a ∉ cs.ps := by
    intro z
    have q := (tabAt a z).symm.trans ha
    cases q
  have inPs : ∀ p ∈ cs, p.2.1 ∈ cs.ps := fun p hp => List.mem_map.mpr ⟨p, hp, rfl⟩
  have main : ∀ H : Hp, (∀ p ∈ cs, H p.2.1 = some (.tbl #[])) → (∀ b, H b = none ∨ b ∈ cs.ps ∨ ∃ o ys, H b = some (.frz o (.lst ys))) → ScrAt K H a (ns.map V.int) → HOk P w H s1.heap → (∀ b, H b ≠ none → b = a ∨ b ∈ cs.ps) → (H a ≠ none → K.lookup a = none) →
      codeAny (model P w) callerA (.call (.ref fa) ⟨[.ref a], []⟩) (fun r s' => r = .ok (.ret (.bool true)) ∧ OldK s1.heap s'.heap ∧ s'.os = s1.os ∧ AllBare s'.gens) s1 := by
    intro H hT only hS hok only_a hK
    have free : ∀ {b : Addr} {o : Obj}, s1.heap.get? b = some o → (∀ l n, o.data ≠ .seq l n) → o.data ≠ .fields #[] → H b = none := by
      intro b o e h1 h2
      cases q : H b with
      | none => rfl
      | some u =>
        rcases only_a b (ne_none_of q) with hba | hba
        · subst hba
          have z := ha.symm.trans e
          cases z
          exact absurd rfl (h1 _ _)
        · have z := (tabAt b hba).symm.trans e
          cases z
          exact absurd rfl h2
    have noDict : ∀ {b : Addr} {o : Obj} {es : Array DictEntry} {ep : Nat}, s1.heap.get? b = some o → o.data = .dict es ep → H b = none := fun e d => free e (fun _ _ z => by rw [d] at z; cases z) (fun z => by rw [d] at z; cases z)
    have nsK : ∀ {b : Addr} {m : Str → Option Value}, s1.heap.Ns b m → (hidT s1.heap H).Ns b m := by
      rintro b m ⟨o, es, ep, e, d, r⟩
      exact ⟨o, es, ep, hidT_get e (noDict e d), d, r⟩
    have hKb : K.In (hidT s1.heap H) := by
      intro b o e
      refine hidT_get (KX b o e) ?_
      cases q : H b with
      | none => rfl
      | some u =>
        rcases only_a b (ne_none_of q) with hba | hba
        · subst hba
          rw [hK (ne_none_of q)] at e
          cases e
        · obtain ⟨p, hp, rfl⟩ := List.mem_map.mp hba
          rw [TO.no p hp] at e
          cases e
    have hM : Mod K mg (hidT s1.heap H) := by
      obtain ⟨mc, c1, c2⟩ := hlim
      exact ⟨hKb, nsK hns, ⟨mb, nsK hb, hbb⟩, ⟨mc, nsK c1, c2⟩⟩
    have e0 : Env0 P w K mg (hidT s1.heap H) callerA [] s1 H :=
      ⟨rfl, hM, fun b o e => of_hidT e, Nat.le_of_eq (hidT_size _ _), trivial, (fun b hb => by cases hb), hok, .of_eq hg⟩
    have hTB : ∀ p ∈ cs, LamX.TabB (hidT s1.heap H) mg p.1 p.2.1 := by
      intro p hp
      have tp := TO.at_ p hp
      refine ⟨?_, ?_, ?_⟩
      · obtain ⟨o, us, f1, f2, f3, f4, f5, f6, f7, q1, q2, q3, q4, q5⟩ := TO.code p hp
        refine ⟨o, us, f1, f2, f3, f4, f5, f6, f7, hidT_get q1 (free q1 (fun _ _ z => ?_) fun z => ?_), q2, q3, q4, q5⟩
        · rw [q3] at z; cases z
        · rw [q3] at z
          cases z
          simp at q4
      · obtain ⟨bm, ob, b1, b2, b3, b4, b5, b6⟩ := hbm
        refine ⟨bm, ob, b1, b2, ?_, ?_, hidT_get b3 (free b3 (fun _ _ z => ?_) fun z => ?_), b4, b5, b6⟩
        · rintro rfl
          obtain ⟨o, es, ep, e, d, _⟩ := hns
          have z := e.symm.trans b3
          cases z
          have z2 := d.symm.trans b6
          cases z2
        · rintro rfl
          have z := tp.symm.trans b3
          cases z
          cases b6
        · rw [b6] at z; cases z
        · rw [b6] at z; cases z
      · intro z
        obtain ⟨o, es, ep, e, d, _⟩ := hns
        have q := tp.symm.trans (z ▸ e)
        cases q
        cases d
    have hOk : Ok (fun _ => none) ⟨H, fun n => if n = 1 then some a else none⟩ H := ⟨(fun _ _ e => nomatch e), Same.refl H, fun _ e => absurd rfl e⟩
    have hRD : RD K cs.tb ⟨ns, [], [], 0, false⟩ ⟨H, fun n => if n = 1 then some a else none⟩ := by
      refine ⟨⟨a, rfl, hS⟩, hl, fun _ => rfl, (fun e => by cases e), fun p hp => ?_⟩
      obtain ⟨q, hq, rfl⟩ := List.mem_map.mp hp
      exact LamX.TabS.nil (hT q hq)
    obtain ⟨st', hst⟩ := hF
    refine codeAny_mono ((G _ hKb (nsK hns) hTB).run callerA [] s1 H ⟨[.ref a], []⟩ [.ref a] [.ref a] (fun v H' => v = .bl true) (fun _ _ _ => False) [.ref 1] ⟨ns, [], [], 0, false⟩ _ _ hr rfl e0 (hbind s1 (.ref a)) (.cons rfl .nil) rfl hOk hRD (.cons ⟨a, rfl, rfl⟩ .nil) rfl ?_) fun r s' h => ?_
    · rw [hst]
      exact fun z I' M' H' g k r q => Rp.bool_inv q
    · match r, h with
      | .error e, ⟨_, _, _, _, _, _, _, _, _, _, _, _, f⟩ => exact False.elim f
      | .ok (.ret u), h =>
        obtain ⟨v, H', os, bare, un, hok', r', q⟩ := h
        have q' : v = .bl true := q
        subst q'
        have hu : u = Value.bool true := r'
        subst hu
        have kept : ∀ b o, b ∉ cs.ps → s1.heap.get? b = some o → s'.heap.get? b = some o := by
          intro b o nb e
          cases q : H b with
          | none => exact un.keep b o e q (fun z => by cases z) (fun z => by cases z)
          | some u =>
            rcases only b with z | z | ⟨ob, ys, z⟩
            · rw [q] at z; cases z
            · exact absurd z nb
            · have z2 := un.frzs b ob _ z
              have e1 := (hok b _ z).1
              have e2 := (hok' b _ z2).1
              rw [e] at e1
              cases e1
              exact e2
        have more : ∀ p ∈ cs, ∃ vs : Array Value, s'.heap.get? p.2.1 = some { cls := .none, data := .fields vs } := fun p hp => by
          obtain ⟨vs, z⟩ := un.tbls p.2.1 #[] (hT p hp)
          exact ⟨_, hok' _ _ z⟩
        refine ⟨rfl, ⟨fun b o e => ?_, fun b o e => ?_⟩, os, bare⟩
        · by_cases hb : b ∈ cs.ps
          · obtain ⟨p, hp, rfl⟩ := List.mem_map.mp hb
            obtain ⟨vs, hv⟩ := more p hp
            have z := (TO.at_ p hp).symm.trans e
            cases z
            exact .inr (.inl ⟨((TO.code p hp).tab (TO.at_ p hp)).isCodeTable, rfl, #[], vs, rfl, by rw [Array.empty_append]; exact hv⟩)
          · exact .inl (kept b o hb e)
        · by_cases hb : b ∈ cs.ps
          · obtain ⟨p, hp, rfl⟩ := List.mem_map.mp hb
            obtain ⟨vs, hv⟩ := more p hp
            exact ⟨_, hv⟩
          · exact ⟨o, kept b o hb e⟩
  have hl2 : ns.length ≤ sizeLine := Nat.le_trans hl (by decide)
  by_cases hk : ∃ o, K.lookup a = some o
  · obtain ⟨o, hk⟩ := hk
    have e := KX a o hk
    rw [ha] at e
    cases e
    refine main (fun b => if b ∈ cs.ps then some (.tbl #[]) else none) (fun p hp => if_pos (inPs p hp)) (fun b => ?_) (.inr ⟨_, vs.toArray, _, hk, rfl, rfl, rfl, by rw [List.size_toArray, lenV]; exact hl2, by simpa using rv⟩) (fun b u z => ?_) (fun b z => ?_) (fun z => absurd (if_neg aNo) z)
    · by_cases hb : b ∈ cs.ps
      · exact .inr (.inl hb)
      · exact .inl (if_neg hb)
    · by_cases hb : b ∈ cs.ps
      · simp only [if_pos hb] at z; cases z; exact tabAt b hb
      · simp only [if_neg hb] at z; cases z
    · by_cases hb : b ∈ cs.ps
      · exact .inr hb
      · exact absurd (if_neg hb) z
  · have hk' : K.lookup a = none := by
      cases q : K.lookup a with
      | none => rfl
      | some o => exact absurd ⟨o, q⟩ hk
    have nP : ∀ p ∈ cs, p.2.1 ≠ a := fun p hp z => aNo (z ▸ inPs p hp)
    refine main (upd (fun b => if b ∈ cs.ps then some (.tbl #[]) else none) a (.frz { cls := .type "list", data := .seq vs.toArray } (.lst (ns.map V.int)))) (fun p hp => by rw [upd_ne (nP p hp)]; exact if_pos (inPs p hp)) (fun b => ?_) (.inl ⟨_, upd_same⟩) (fun b u z => ?_) (fun b z => ?_) fun _ => hk'
    · by_cases hba : b = a
      · subst hba; exact .inr (.inr ⟨_, _, upd_same⟩)
      · rw [upd_ne hba]
        by_cases hb : b ∈ cs.ps
        · exact .inr (.inl hb)
        · exact .inl (if_neg hb)
    · by_cases hba : b = a
      · subst hba
        rw [upd_same] at z
        cases z
        exact ⟨ha, by rw [List.length_map]; exact hl2, vs, _, rv, ha⟩
      · rw [upd_ne hba] at z
        by_cases hb : b ∈ cs.ps
        · simp only [if_pos hb] at z; cases z; exact tabAt b hb
        · simp only [if_neg hb] at z; cases z
    · by_cases hba : b = a
      · exact .inl hba
      · rw [upd_ne hba] at z
        by_cases hb : b ∈ cs.ps
        · exact .inr hb
        · exact absurd (if_neg hb) z
/-- what the head tells of tables -/
def TabTold (q : Program) (K : PySem.W.Frag) (h : Heap) : Prop := ∀ (d : DefRec) (x : Str) (c P : Addr), (recsOf q).find? (fun e => e.name == x) = some d → PySem.W.tabIn K x = some (c, P) → PySem.W.CodeHd h c P ∧ h.get? P = some { cls := .none, data := .fields #[] }
theorem walk_g {l : PySem.W.OpenLaw} {k : Nat} {q : Program} {loose : List Str} {XP : (Str → Option Value) → Heap → Prop} {YP : World → Heap → Prop} {d : DefRec} {K : Params → PySem.W.Frag} {x : Str} {F : List Val → DS → Res DS Val}
    (hn : l.most = some 63) (hdf : d.params.defaults = []) (hr : Room k callerA) (hY : ∀ (w : World) (h : Heap), YP w h → (K w.params).In h)
    (G : ∀ (w : World) (mg : Str → Option Value) (fa : Addr) (h : Heap), (K w.params).In h → h.Ns mainGlobals mg → mg d.name = some (.ref fa) → TabTold q (K w.params) h →
      ∃ (fd : FuncData) (cl : Nat → Option (Addr × List Str)) (cs : Tcs), TOld cs (K w.params) h ∧ (∀ (s : Shared) (u : Value), BindsTo s fd ⟨[u], []⟩ [(x, u)]) ∧
        ∀ base : Heap, (K w.params).In base → base.Ns mainGlobals mg → (∀ p ∈ cs, LamX.TabB base mg p.1 p.2.1) → FnG (UD (K w.params) cs.tb cl) l.prog w (K w.params) mg base k fa fd [x] F)
    (hF : ∀ ns : List Int, ns.length ≤ 63 → (∀ z ∈ ns, Builtin.Int.intBits z ≤ 1048576) → ∃ st', F [.ref 1] ⟨ns, [], [], 0, false⟩ = .ok (.d (.bool true)) st') :
    PySem.W.WalkO q loose XP YP l.row.toRowW d [] (fun f vs => PySem.call f vs) := by
  refine Att.attach_callB hn hdf fun w s0 s1 mg mb fa o pm cd doc a vs ns Gr Y ho hd hcd hmg hobj hints hlen hbits hg => ?_
  have KX := hY w _ Y
  obtain ⟨fd, cl, cs, TO, hb, hG⟩ := G w mg fa _ KX Gr.T.g hmg (fun d x c P h1 h2 => PySem.W.tab_of Gr.T KX h1 h2)
  exact law_g KX Gr.T.g Gr.T.b Gr.T.builtins Gr.T.nolimit hg Gr.T.bmain TO hobj hints hlen hr hG hb (hF ns hlen hbits)
end Dl
set_option maxRecDepth 100000
set_option maxHeartbeats 4000000
namespace Dl
open PySem L2 PySem.Spec PyProof.Rows
/-! ### the draws' dict -/
theorem k_cl : ¬ (("cells" : Str) = "left") := by decide +kernel
theorem k_ca : ¬ (("cells" : Str) = "at") := by decide +kernel
theorem k_la : ¬ (("left" : Str) = "at") := by decide +kernel
theorem kv_cells (c l : Addr) (k : Int) : valV (drawKv c l k) (Sum.inr "cells" : Key) = some (.ref c) := by
  simp [drawKv, valV]
theorem kv_left (c l : Addr) (k : Int) : valV (drawKv c l k) (Sum.inr "left" : Key) = some (.ref l) := by
  have h := k_cl
  simp [drawKv, valV, h]
theorem kv_at (c l : Addr) (k : Int) : valV (drawKv c l k) (Sum.inr "at" : Key) = some (.int k) := by
  have h := k_ca
  have h2 := k_la
  simp [drawKv, valV, h, h2]
theorem put_left (c l l' : Addr) (k : Int) : putK (drawKv c l k) (Sum.inr "left" : Key) (.ref l') = drawKv c l' k := by
  have h := k_cl
  have h2 : ¬ (("at" : Str) = "left") := fun e => k_la e.symm
  simp [drawKv, putK, h, h2]
theorem put_at (c l : Addr) (k k' : Int) : putK (drawKv c l k) (Sum.inr "at" : Key) (.int k') = drawKv c l k' := by
  have h := k_ca
  have h2 := k_la
  simp [drawKv, putK, h, h2]
theorem merge_draw (c l : Addr) (k : Int) : mergeK [] [((Sum.inr "cells" : Key), V.ref c), (Sum.inr "left", .ref l), (Sum.inr "at", .int k)] = drawKv c l k := by
  have h := k_cl
  have h1 := k_ca
  have h2 := k_la
  have h' : ¬ (("left" : Str) = "cells") := fun e => h e.symm
  have h1' : ¬ (("at" : Str) = "cells") := fun e => h1 e.symm
  have h2' : ¬ (("at" : Str) = "left") := fun e => h2 e.symm
  simp [drawKv, mergeK, putK, h, h1, h2, h', h1', h2']
theorem dropZ_len : ∀ xs : List Int, (dropZ xs).length ≤ xs.length
  | [] => Nat.le_refl _
  | x :: r => by
    unfold dropZ
    split
    · exact Nat.le_trans (dropZ_len r) (Nat.le_succ _)
    · exact Nat.le_refl _
theorem lookL {K : PySem.W.Frag} {H : Hp} {l : Addr} (xs : List Int) (h : H l = some (.lst (xs.map V.int))) : Dp K H (.ref l) (.list (xs.map PyData.int)) := by
  refine .lst (SqL.of h) ?_
  clear h
  induction xs with
  | nil => exact .nil
  | cons x xs ih => exact .cons (.int x) ih
theorem shaped_ints (xs : List Int) : SeqAt.shaped (.list (xs.map PyData.int)) = true := by
  have c : ∀ xs : List Int, PyData.canLayAll0 (xs.map PyData.int) = true := fun xs => by
    induction xs with
    | nil => rfl
    | cons x xs ih => simp [PyData.canLayAll0, PyData.canLay0, ih]
  have d : ∀ xs : List Int, PyData.depthAll (xs.map PyData.int) = 0 := fun xs => by
    induction xs with
    | nil => rfl
    | cons x xs ih => simp [PyData.depthAll, PyData.depth, ih]
  simp [SeqAt.shaped, PyData.canLay0, PyData.depth, c, d]
theorem ne_nil (xs : List Int) : PyData.eqv (.list (xs.map PyData.int)) (.list []) = decide (xs = []) := by
  cases xs with
  | nil => rfl
  | cons x xs => simp [PyData.eqv, PyData.eqvAll]
/-- the draws' dict within the heap that has come out of H -/
structure DrawH (H H' : Hp) (m c l0 l : Addr) (cells left : List Int) (k : Int) : Prop where
  hm : H' m = some (.dK (drawKv c l k))
  hc : H' c = some (.lst (cells.map V.int))
  hl : H' l = some (.lst (left.map V.int))
  cl : c ≠ l
  nl : l = l0 ∨ H l = none
  fr : ∀ b o, H b = some o → b ≠ m → b ≠ l0 → H' b = some o
  h0 : H' l0 ≠ none
theorem DrawH.ml {H H' : Hp} {m c l0 l : Addr} {cells left : List Int} {k : Int} (d : DrawH H H' m c l0 l cells left k) : m ≠ l := ne_of d.hm d.hl (fun z => nomatch z)
theorem DrawH.mc {H H' : Hp} {m c l0 l : Addr} {cells left : List Int} {k : Int} (d : DrawH H H' m c l0 l cells left k) : m ≠ c := ne_of d.hm d.hc (fun z => nomatch z)
/-- a new object besides -/
theorem DrawH.new {H H' : Hp} {m c l0 l p : Addr} {cells left : List Int} {k : Int} {o : HO} (d : DrawH H H' m c l0 l cells left k) (hp : H' p = none) : DrawH H (upd H' p o) m c l0 l cells left k :=
  ⟨by rw [upd_ne (ne_of_none d.hm hp)]; exact d.hm, by rw [upd_ne (ne_of_none d.hc hp)]; exact d.hc, by rw [upd_ne (ne_of_none d.hl hp)]; exact d.hl, d.cl, d.nl,
   fun b u e h1 h2 => by rw [upd_ne (ne_of_none (d.fr b u e h1 h2) hp)]; exact d.fr b u e h1 h2, by
    by_cases h : l0 = p
    · rw [h, upd_same]; exact fun z => nomatch z
    · rw [upd_ne h]; exact d.h0⟩
/-- the dict's list another one, just made -/
theorem DrawH.put {H H' : Hp} {m c l0 l p : Addr} {cells left left' : List Int} {k : Int} (d : DrawH H H' m c l0 l cells left k) (hp : H' p = none) (hm0 : H m ≠ none) : DrawH H (upd (upd H' p (.lst (left'.map V.int))) m (.dK (drawKv c p k))) m c l0 p cells left' k := by
  have d1 := d.new (o := .lst (left'.map V.int)) hp
  have mp : m ≠ p := ne_of_none d.hm hp
  refine ⟨upd_same, by rw [upd_ne d.mc.symm]; exact d1.hc, by rw [upd_ne mp.symm]; exact upd_same, ne_of_none d.hc hp, ?_, fun b u e h1 h2 => by rw [upd_ne h1]; exact d1.fr b u e h1 h2, ?_⟩
  · by_cases h : p = l0
    · exact .inl h
    · refine .inr ?_
      cases z : H p with
      | none => rfl
      | some o =>
        have := d.fr p o z mp.symm h
        rw [hp] at this
        cases this
  · by_cases h : l0 = m
    · rw [h, upd_same]; exact fun z => nomatch z
    · rw [upd_ne h]; exact d1.h0
/-- the counter -/
theorem DrawH.count {H H' : Hp} {m c l0 l : Addr} {cells left : List Int} {k k' : Int} (d : DrawH H H' m c l0 l cells left k) : DrawH H (upd H' m (.dK (drawKv c l k'))) m c l0 l cells left k' :=
  ⟨upd_same, by rw [upd_ne d.mc.symm]; exact d.hc, by rw [upd_ne d.ml.symm]; exact d.hl, d.cl, d.nl, fun b u e h1 h2 => by rw [upd_ne h1]; exact d.fr b u e h1 h2, by
    by_cases h : l0 = m
    · rw [h, upd_same]; exact fun z => nomatch z
    · rw [upd_ne h]; exact d.h0⟩
/-- the list itself -/
theorem DrawH.set {H H' : Hp} {m c l0 l : Addr} {cells left left' : List Int} {k : Int} (d : DrawH H H' m c l0 l cells left k) : DrawH H (upd H' l (.lst (left'.map V.int))) m c l0 l cells left' k :=
  ⟨by rw [upd_ne d.ml]; exact d.hm, by rw [upd_ne d.cl]; exact d.hc, upd_same, d.cl, d.nl, fun b u e h1 h2 => by
    have hb : b ≠ l := fun z => by
      rcases d.nl with q | q
      · exact h2 (z.trans q)
      · rw [z, q] at e; cases e
    rw [upd_ne hb]; exact d.fr b u e h1 h2, by
    by_cases h : l0 = l
    · rw [h, upd_same]; exact fun z => nomatch z
    · rw [upd_ne h]; exact d.h0⟩
/-- the end of a draw -/
theorem DrawH.fin {K : PySem.W.Frag} {tb : List (Addr × Str)} {I : Hp} {M : Mw} {H H' : Hp} {m c l0 l : Addr} {t : DS} {left : List Int} {k : Int} (d : DrawH H H' m c l0 l t.cells left k) (ok : Ok I M H) (rd : RD K tb t M) (had : M.ad 0 = some m) (don : DOn t M m c l0) (hlen : left.length ≤ 100) (hon : t.on = true) :
    ∃ M', Grow I M H I M' H' ∧ Ok I M' H' ∧ RD K tb { t with left := left, at_ := k } M' := by
  have mH := ok.mh _ _ don.hm
  have cH := ok.mh _ _ don.hc
  have lH := ok.mh _ _ don.hl
  have inM : ∀ b, H b ≠ none → upd (upd (del M.h l0) m (.dK (drawKv c l k))) l (.lst (left.map V.int)) b ≠ none → M.h b ≠ none := fun b hb z => by
    by_cases h1 : b = l
    · rcases d.nl with q | q
      · rw [h1, q]; exact ne_none_of don.hl
      · rw [h1] at hb; exact absurd q hb
    · rw [upd_ne h1] at z
      by_cases h2 : b = m
      · rw [h2]; exact ne_none_of don.hm
      · rw [upd_ne h2] at z
        by_cases h3 : b = l0
        · rw [h3, del_same] at z; exact absurd rfl z
        · rw [del_ne h3] at z; exact z
  refine ⟨⟨upd (upd (del M.h l0) m (.dK (drawKv c l k))) l (.lst (left.map V.int)), M.ad⟩, ⟨Same.refl I, fun _ _ z => z, inM, fun b o e z => ?_, fun b hb => ?_, fun _ _ z => z⟩, ⟨fun b o e => ?_, fun b o e => ?_, fun b hb => ?_⟩, ?_⟩
  · exact d.fr b o e (fun w => by rw [w, don.hm] at z; cases z) (fun w => by rw [w, don.hl] at z; cases z)
  · by_cases h1 : b = m
    · rw [h1]; exact ne_none_of d.hm
    · by_cases h2 : b = l0
      · rw [h2]; exact d.h0
      · obtain ⟨o, ho⟩ := some_of_ne hb
        exact ne_none_of (d.fr b o ho h1 h2)
  · have nm : M.h b = none := ok.dj b (ne_none_of e)
    exact d.fr b o (ok.ih b o e) (fun w => by rw [w, don.hm] at nm; cases nm) (fun w => by rw [w, don.hl] at nm; cases nm)
  · have e : upd (upd (del M.h l0) m (.dK (drawKv c l k))) l (.lst (left.map V.int)) b = some o := e
    by_cases h1 : b = l
    · subst h1
      rw [upd_same] at e
      rw [d.hl]
      exact e
    · rw [upd_ne h1] at e
      by_cases h2 : b = m
      · subst h2
        rw [upd_same] at e
        rw [d.hm]
        exact e
      · rw [upd_ne h2] at e
        by_cases h3 : b = l0
        · rw [h3, del_same] at e; cases e
        · rw [del_ne h3] at e; exact d.fr b o (ok.mh b o e) h2 h3
  · show upd (upd (del M.h l0) m (.dK (drawKv c l k))) l (.lst (left.map V.int)) b = none
    cases z : upd (upd (del M.h l0) m (.dK (drawKv c l k))) l (.lst (left.map V.int)) b with
    | none => rfl
    | some o =>
      obtain ⟨u, hu⟩ := some_of_ne hb
      exact absurd (ok.dj b hb) (inM b (ne_none_of (ok.ih b u hu)) (ne_none_of z))
  · obtain ⟨a, ha, hS⟩ := rd.scr
    refine ⟨⟨a, ha, hS.mono fun o u e => ?_⟩, rd.len, (fun e => by rw [show ({ t with left := left, at_ := k } : DS).on = t.on from rfl, hon] at e; cases e), fun _ => ⟨m, c, l, had, ⟨?_, ?_, upd_same, d.cl, don.lc, hlen⟩⟩, ?_⟩
    · show upd (upd (del M.h l0) m (.dK (drawKv c l k))) l (.lst (left.map V.int)) a = _
      have e' := ok.mh a _ e
      have n1 : a ≠ m := ne_of e don.hm (fun z => nomatch z)
      have n2 : a ≠ l := fun w => by
        rcases d.nl with q | q
        · rw [w, q, don.hl] at e; cases e
        · rw [w, q] at e'; cases e'
      have n3 : a ≠ l0 := ne_of e don.hl (fun z => nomatch z)
      rw [upd_ne n2, upd_ne n1, del_ne n3]
      exact e
    · show upd (upd (del M.h l0) m (.dK (drawKv c l k))) l (.lst (left.map V.int)) m = _
      rw [upd_ne d.ml, upd_same]
    · show upd (upd (del M.h l0) m (.dK (drawKv c l k))) l (.lst (left.map V.int)) c = _
      rw [upd_ne d.cl, upd_ne d.mc.symm, del_ne don.ncl]
      exact don.hc
    · have stay : ∀ b o, M.h b = some o → (∀ xs, o ≠ .lst xs) → (∀ kv, o ≠ .dK kv) → upd (upd (del M.h l0) m (.dK (drawKv c l k))) l (.lst (left.map V.int)) b = some o := by
        intro b o e n1 n2
        have hm' : b ≠ m := fun w => by rw [w, don.hm] at e; cases e; exact n2 _ rfl
        have hl0 : b ≠ l0 := fun w => by rw [w, don.hl] at e; cases e; exact n1 _ rfl
        have hl' : b ≠ l := fun w => by
          rcases d.nl with q | q
          · exact hl0 (w.trans q)
          · have e' := ok.mh b o e
            rw [w, q] at e'
            cases e'
        rw [upd_ne hl', upd_ne hm', del_ne hl0]
        exact e
      intro p hp
      obtain ⟨ps, t1, t2, t3⟩ := rd.tab p hp
      refine ⟨ps, stay _ _ t1 (fun _ z => nomatch z) (fun _ z => nomatch z), t2, fun pos cv hc => ?_⟩
      obtain ⟨q, e1, e2⟩ := t3 pos cv hc
      exact ⟨q, e1, stay _ _ e2 (fun _ z => nomatch z) (fun _ z => nomatch z)⟩
section
variable {K : PySem.W.Frag} {σ : L2.St} {H H' : Hp} {m c l0 l : Addr} {cells left : List Int} {k : Int}
theorem rd_left (hσ : σ[0]? = some (some (.ref m))) (d : DrawH H H' m c l0 l cells left k) {Q : VK} (q : Q (.ref l) H') : tDGet (tVar 0) (tC (.str "left")) σ H' Q := ⟨_, hσ, m, _, rfl, (kv_left c l k) ▸ DGet.k (k := Sum.inr "left") d.hm, q⟩
theorem rd_cells (hσ : σ[0]? = some (some (.ref m))) (d : DrawH H H' m c l0 l cells left k) {Q : VK} (q : Q (.ref c) H') : tDGet (tVar 0) (tC (.str "cells")) σ H' Q := ⟨_, hσ, m, _, rfl, (kv_cells c l k) ▸ DGet.k (k := Sum.inr "cells") d.hm, q⟩
theorem rd_at (hσ : σ[0]? = some (some (.ref m))) (d : DrawH H H' m c l0 l cells left k) {Q : VK} (q : Q (.int k) H') : tDGet (tVar 0) (tC (.str "at")) σ H' Q := ⟨_, hσ, m, _, rfl, (kv_at c l k) ▸ DGet.k (k := Sum.inr "at") d.hm, q⟩
theorem nil_ne {p : Addr} {xs : List Int} {Q : VK} {H1 : Hp} {a : Addr} (ha : H1 a = some (.lst (xs.map V.int))) (hp : H1 p = some (.lst [])) (q : Q (.bl (decide (xs ≠ []))) H1) : rNeD K (.ref a) (.ref p) H1 Q := by
  refine ⟨_, _, lookL xs ha, .lst (SqL.of hp) .nil, shaped_ints xs, by decide, ?_⟩
  rw [ne_nil]
  have e : (!decide (xs = [])) = decide (xs ≠ []) := by by_cases h : xs = [] <;> simp [h]
  rw [e]
  exact q
theorem ne_left (hσ : σ[0]? = some (some (.ref m))) (d : DrawH H H' m c l0 l cells left k) {Q : Bool → Hp → Prop} (q : ∀ H1, DrawH H H1 m c l0 l cells left k → Q (decide (left ≠ [])) H1) : tTest (tOp (rNeD K) (tDGet (tVar 0) (tC (.str "left"))) (tLst tNil)) σ H' Q := by
  refine rd_left hσ d ⟨Nat.zero_le _, fun p hp => ?_⟩
  have d1 := d.new (o := .lst []) hp
  exact nil_ne d1.hl upd_same ⟨_, rfl, q _ d1⟩
theorem ne_cells (hσ : σ[0]? = some (some (.ref m))) (d : DrawH H H' m c l0 l cells left k) {Q : Bool → Hp → Prop} (q : ∀ H1, DrawH H H1 m c l0 l cells left k → Q (decide (cells ≠ [])) H1) : tTest (tOp (rNeD K) (tDGet (tVar 0) (tC (.str "cells"))) (tLst tNil)) σ H' Q := by
  refine rd_cells hσ d ⟨Nat.zero_le _, fun p hp => ?_⟩
  have d1 := d.new (o := .lst []) hp
  exact nil_ne d1.hc upd_same ⟨_, rfl, q _ d1⟩
def zeroHead : List Int → Bool
  | [] => false
  | x :: _ => decide (x = 0)
theorem test_left (hσ : σ[0]? = some (some (.ref m))) (d : DrawH H H' m c l0 l cells left k) {Q : Bool → Hp → Prop} (q : ∀ H1, DrawH H H1 m c l0 l cells left k → Q (zeroHead left) H1) :
    L2.tAnd (tTest (tOp (rNeD K) (tDGet (tVar 0) (tC (.str "left"))) (tLst tNil))) (tTest (tOp rEq (tOp (rIxL K) (tDGet (tVar 0) (tC (.str "left"))) (tC (.int 0))) (tC (.int 0)))) σ H' Q := by
  refine ne_left hσ d fun H1 d1 => ?_
  cases left with
  | nil => exact iteF (q H1 d1)
  | cons x r =>
    refine iteT (rd_left hσ d1 ⟨l, _, 0, .int x, rfl, rfl, SqL.of d1.hl, atI_nat (j := 0) rfl, rfl, _, rfl, ?_⟩)
    have e : decide (V.int x = V.int 0) = zeroHead (x :: r) := by
      show decide (V.int x = V.int 0) = decide (x = 0)
      by_cases h : x = 0
      · subst h; rfl
      · rw [decide_eq_false h, decide_eq_false]
        exact fun z => h (V.int.inj z)
    rw [e]
    exact q H1 d1
end
theorem dropZ_zero {x : Int} {r : List Int} (h : x = 0) : dropZ (x :: r) = dropZ r := by
  show (if x = 0 then dropZ r else x :: r) = dropZ r
  rw [if_pos h]
theorem dropZ_stop : ∀ {left : List Int}, zeroHead left = false → dropZ left = left
  | [], _ => rfl
  | x :: r, h => by
    show (if x = 0 then dropZ r else x :: r) = x :: r
    rw [if_neg (of_decide_eq_false h)]
end Dl
set_option maxRecDepth 100000
set_option maxHeartbeats 4000000
namespace Dl
open PySem L2 PySem.Spec PyProof.Rows
/-! ### what a program's top has left: a def, a class of errors -/
structure PF (K : PySem.W.Frag) (mg : Str → Option Value) (x : Str) (st : Stmt) (ps : List Str) (f : Addr) (fd : FuncData) : Prop where
  fn : Fun K x x st f fd
  m : mg x = some (.ref f)
  b : Binds K fd ps []
def initOf : Stmt → Stmt
  | .ClassDef _ _ _ body .. => body.getD 0 (.Pass ⟨0, 0, 0, 0⟩)
  | s => s
structure EF (K : PySem.W.Frag) (mg : Str → Option Value) (x q : Str) (st : Stmt) (nm : Str) (C fI : Addr) (fd : FuncData) : Prop where
  m : mg x = some (.ref C)
  ox : OexC K C
  xf : XfC K C
  iC : PySem.W.findIn K (.ref C) "__init__" = some (some (.ref fI))
  tI : PySem.W.typeIn K (.ref fI) = some (.type "function")
  fn : Fun K "__init__" q st fI fd
  b : Binds K fd ["self", nm] []
  no : PySem.W.findIn K (.ref C) nm = some none
theorem room70 {k : Nat} {A : Around} (h : Room k A) : A.units + 70 < cLine := by
  have := h.un
  omega
theorem short_1 {f : List PyData → Option PyData} : ∀ fs ds, ((fun fs => (f fs).bind fun x => ((fun _ => some []) fs).map (x :: ·)) : List PyData → Option (List PyData)) fs = some ds → ds.length ≤ 1000000 := fun fs ds e => by
  obtain ⟨y, _, e2⟩ := bind_some e
  obtain ⟨ys, e3, rfl⟩ := map_some e2
  cases e3
  show 1 ≤ 1000000
  decide
theorem init_read {K : PySem.W.Frag} {C : Addr} {nm : Str} (T : OexC K C) (hno : PySem.W.findIn K (.ref C) nm = some none) (vs : List V) (H : Hp) (Q : VK) (E : XK) (h : spX C 1 (fun ys => [nm].zip ys) vs H Q E) :
    tOst K nm (tVar 0) (tVar 1) { nx := fun _ H' => Q .non H', rt := Q } (L2.start ["self", nm] vs) H := by
  obtain ⟨a, ys, rfl, hl, ha, hq⟩ := h
  match ys, hl with
  | [y], _ =>
    refine ⟨y, rfl, .ref a, rfl, a, C, rfl, T, hno, .inl ⟨ha, fun dx hdx hne => hq dx hdx hne _ (fun b h1 h2 => ?_) upd_same ?_⟩⟩
    · rw [upd_ne h1, upd_ne h2]
    · rw [upd_ne hne, upd_same]
      rfl
theorem exc_of {U : Uni} {P : Program} {w : World} {K : PySem.W.Frag} {mg : Str → Option Value} {base : Heap} {x q nm : Str} {st : Stmt} {C fI : Addr} {fd : FuncData} {c : Nat} (E : EF K mg x q st nm C fI fd) (hcl : U.cl c = some (C, [nm]))
    (hI : FnOk P w K mg base CX0 1 fI fd ["self", nm] (spX C 1 (fun ys => [nm].zip ys))) : ExcT U P w K mg base x c 1 [nm] id :=
  ⟨C, fI, 1, fd, _, id, by decide, by decide, E.ox, E.iC, E.tI, hI, E.b, hcl, E.m, fun I xs ds r hl => ⟨r, by rw [show ([nm] : List Str).length = 1 from rfl]; exact hl.symm⟩⟩
section
variable {U : Uni} {X : Cx} {W : WX} {k n : Nat} {f : Addr} {fd : FuncData} {ps : List Str} {F : List Val → U.S → Res U.S Val} {x : Str} {p pos : Pos} {e : Expr} {es : List Expr} {A : Rho → U.S → Res U.S (List Val)}
theorem ped_callN (G : FnG U X.prog X.w X.K X.mg X.base k f fd ps F) (hr : Room k X.A) (hgd : X.A.guards = some []) (hg : Gl X x) (hm : X.mg x = some (.ref f)) (hk : PySem.W.keepIn X.K (.ref f) = true) (hb : Binds X.K fd ps []) (tk : Takes X W)
    (ha : PAd U X W (e :: es) A) (hn : ps.length = n := by rfl) (hdb : (x == ("__debug__" : Str)) = false := by decide) (he : starEach (e :: es) X.env = (false, eval e X.env) :: starEach es X.env := by rfl) (hpl : (backTo pos (starEach es X.env)).any (·.1) = false := by rfl) :
    PEd U X W (.Call (.Name x p) (e :: es) [] pos) (eApp F n A) := hn ▸ ped_call G hr hgd hg hm hk hb tk ha hdb he hpl
theorem ped_callN0 (G : FnG U X.prog X.w X.K X.mg X.base k f fd ps F) (hr : Room k X.A) (hgd : X.A.guards = some []) (hg : Gl X x) (hm : X.mg x = some (.ref f)) (hk : PySem.W.keepIn X.K (.ref f) = true) (hb : Binds X.K fd ps []) (tk : Takes X W)
    (hn : ps.length = n := by rfl) (hdb : (x == ("__debug__" : Str)) = false := by decide) : PEd U X W (.Call (.Name x p) [] [] pos) (eApp F n aNil) := hn ▸ ped_call0 G hr hgd hg hm hk hb tk hdb
end
theorem takesF {X : Cx} : Takes X WF := fun _ _ x => by
  obtain ⟨_, _, _, _, _, _, _, _, _, _, _, _, _, _, _, _, f⟩ := x
  exact False.elim f
end Dl
set_option maxRecDepth 100000
set_option maxHeartbeats 4000000
namespace Dl
open PySem L2 PySem.Spec PyProof.Rows
/-! ### a power of a greater base -/
noncomputable def vPowW : Val → Val → Option PyData
  | .d (.int i), .d (.int j) => cif (0 ≤ j ∧ (Builtin.Int.intBits i : Int) * j ≤ 2 ^ 27) (some (.int (i ^ j.toNat))) none
  | _, _ => none
theorem op_powW {X : Cx} : OpR X (binaryOp .Pow) (rI (fun i j => 0 ≤ j ∧ (Builtin.Int.intBits i : Int) * j ≤ 2 ^ 27) fun i j => .int (i ^ j.toNat)) := opI fun _ _ _ _ _ _ _ hc q => pow_int hc.1 hc.2 q
theorem d_powW {K : PySem.W.Frag} : Op2D K (rI (fun i j => 0 ≤ j ∧ (Builtin.Int.intBits i : Int) * j ≤ 2 ^ 27) fun i j => .int (i ^ j.toNat)) vPowW := by
  intro x y u v w I M H Q k hx hy e q
  unfold vPowW at e
  split at e
  · obtain ⟨hc, rfl⟩ := opt_cif e
    exact ⟨_, _, Rp.int_inv hx, Rp.int_inv hy, hc, q _ I H (Grow.refl _ _ _) k (.int _)⟩
  · cases e
/-! ### reading mirrors: what holds behind them -/
section
variable {S α β : Type}
set_option checkBinderAnnotations false in
def Wp {S α : Type} (r : Res S α) [X : Nat → List PyData → S → Prop] [Q : α → S → Prop] : Prop := match r with
  | .ok a s => Q a s
  | .exc c fs s => X c fs s
  | .stuck => False
theorem wp_bind {r : Res S α} {f : α → S → Res S β} {X : Nat → List PyData → S → Prop} {Q : β → S → Prop} : @Wp _ _ (r.bind f) X Q ↔ @Wp _ _ r X fun a s => @Wp _ _ (f a s) X Q := by
  cases r <;> exact Iff.rfl
theorem wp_mono {r : Res S α} {X : Nat → List PyData → S → Prop} {Q Q' : α → S → Prop} (h : @Wp _ _ r X Q) (m : ∀ a s, Q a s → Q' a s) : @Wp _ _ r X Q' := by
  cases r with
  | ok a s => exact m a s h
  | exc c fs s => exact h
  | stuck => exact h
theorem wp_eq {r : Res S α} {a : α} {s : S} {X : Nat → List PyData → S → Prop} {Q : α → S → Prop} (e : r = .ok a s) (h : Q a s) : @Wp _ _ r X Q := by
  rw [e]; exact h
theorem wp_lift {o : Option PyData} {s : S} {X : Nat → List PyData → S → Prop} {Q : Val → S → Prop} : @Wp _ _ (lift o s) X Q ↔ ∃ d, o = some d ∧ Q (.d d) s := by
  cases o with
  | none => exact ⟨fun h => h.elim, fun ⟨_, h, _⟩ => by cases h⟩
  | some d => exact ⟨fun h => ⟨d, rfl, h⟩, fun ⟨e, h, q⟩ => by cases h; exact q⟩
theorem wp_liftB {o : Option Bool} {s : S} {X : Nat → List PyData → S → Prop} {Q : Bool → S → Prop} : @Wp _ _ (liftB o s) X Q ↔ ∃ d, o = some d ∧ Q d s := by
  cases o with
  | none => exact ⟨fun h => h.elim, fun ⟨_, h, _⟩ => by cases h⟩
  | some d => exact ⟨fun h => ⟨d, rfl, h⟩, fun ⟨e, h, q⟩ => by cases h; exact q⟩
/-- where a statement may end -/
structure En (S : Type) where
  n : Rho → S → Prop
  r : Val → S → Prop
  x : Nat → List PyData → Rho → S → Prop
  b : Rho → S → Prop
  c : Rho → S → Prop
set_option checkBinderAnnotations false in
def Ws {S : Type} (r : SRes S) [E : En S] : Prop := match r with
  | .next ρ s => E.n ρ s
  | .ret v s => E.r v s
  | .exc c fs ρ s => E.x c fs ρ s
  | .brk ρ s => E.b ρ s
  | .cnt ρ s => E.c ρ s
  | .stuck => False
variable {E : En S} {ρ : Rho} {st : S}
theorem ws_bind {r : Res S α} {f : α → S → SRes S} : @Ws _ (sBind r ρ f) E ↔ @Wp _ _ r (fun c fs s => E.x c fs ρ s) fun a s => @Ws _ (f a s) E := by
  cases r <;> exact Iff.rfl
theorem ws_mono {r : SRes S} {E E' : En S} (h : @Ws _ r E) (hn : ∀ ρ s, E.n ρ s → E'.n ρ s) (hr : ∀ v s, E.r v s → E'.r v s) (hx : ∀ c fs ρ s, E.x c fs ρ s → E'.x c fs ρ s) (hb : ∀ ρ s, E.b ρ s → E'.b ρ s) (hc : ∀ ρ s, E.c ρ s → E'.c ρ s) : @Ws _ r E' := by
  cases r with
  | next ρ s => exact hn _ _ h
  | ret v s => exact hr _ _ h
  | exc c fs ρ s => exact hx _ _ _ _ h
  | brk ρ s => exact hb _ _ h
  | cnt ρ s => exact hc _ _ h
  | stuck => exact h
theorem ws_seq {F G : Rho → S → SRes S} : @Ws _ (sSeq F G ρ st) E ↔ @Ws _ (F ρ st) { E with n := fun ρ' s' => @Ws _ (G ρ' s') E } := by
  unfold sSeq
  cases F ρ st <;> exact Iff.rfl
theorem ws_if {T : Rho → S → Res S Bool} {F G : Rho → S → SRes S} : @Ws _ (sIf T F G ρ st) E ↔ @Wp _ _ (T ρ st) (fun c fs s => E.x c fs ρ s) fun b s => @Ws _ (if b = true then F ρ s else G ρ s) E := ws_bind
theorem ws_set {i : Nat} {F : Rho → S → Res S Val} : @Ws _ (sSet i F ρ st) E ↔ @Wp _ _ (F ρ st) (fun c fs s => E.x c fs ρ s) fun v s => isDR v = true ∧ E.n (ρ.set i (some v)) s := by
  unfold sSet
  rw [ws_bind]
  refine ⟨fun h => wp_mono h fun v s q => ?_, fun h => wp_mono h fun v s q => ?_⟩
  · by_cases c : isDR v = true
    · rw [if_pos c] at q; exact ⟨c, q⟩
    · rw [if_neg c] at q; exact q.elim
  · rw [if_pos q.1]; exact q.2
theorem ws_ret {F : Rho → S → Res S Val} : @Ws _ (sRet F ρ st) E ↔ @Wp _ _ (F ρ st) (fun c fs s => E.x c fs ρ s) fun v s => isDR v = true ∧ E.r v s := by
  unfold sRet
  rw [ws_bind]
  refine ⟨fun h => wp_mono h fun v s q => ?_, fun h => wp_mono h fun v s q => ?_⟩
  · by_cases c : isDR v = true
    · rw [if_pos c] at q; exact ⟨c, q⟩
    · rw [if_neg c] at q; exact q.elim
  · rw [if_pos q.1]; exact q.2
theorem ws_drop {F : Rho → S → Res S Val} : @Ws _ (sDrop F ρ st) E ↔ @Wp _ _ (F ρ st) (fun c fs s => E.x c fs ρ s) fun v s => E.n ρ s := ws_bind
theorem ws_for {G : Rho → S → Res S (List PyData)} {tg : Tg} {B : Rho → S → SRes S} : @Ws _ (sFor G tg B ρ st) E ↔ @Wp _ _ (G ρ st) (fun c fs s => E.x c fs ρ s) fun ds s => @Ws _ (forL tg B ds ρ s) E := ws_bind
theorem ws_goOn {r : SRes S} {k : Rho → S → SRes S} : @Ws _ (goOn r k) E ↔ @Ws _ r { E with n := fun ρ s => @Ws _ (k ρ s) E, c := fun ρ s => @Ws _ (k ρ s) E, b := E.n } := by
  cases r <;> exact Iff.rfl
/-- the turns of a for, by what holds ahead of the i-th -/
theorem ws_forL {tg : Tg} {B : Rho → S → SRes S} (J : Nat → Rho → S → Prop) : ∀ (ds : List PyData) (i : Nat) (ρ : Rho) (st : S), J i ρ st →
    (∀ j d ρ s, ds[j]? = some d → J (i + j) ρ s → ∃ ρ1, setT tg d ρ = some ρ1 ∧ @Ws _ (B ρ1 s) { E with n := J (i + j + 1), c := J (i + j + 1), b := E.n }) → (∀ ρ s, J (i + ds.length) ρ s → E.n ρ s) → @Ws _ (forL tg B ds ρ st) E
  | [], i, ρ, st, h, _, e => e ρ st h
  | d :: ds, i, ρ, st, h, t, e => by
    obtain ⟨ρ1, h1, h2⟩ := t 0 d ρ st rfl h
    unfold forL
    rw [h1]
    refine ws_goOn.mpr ?_
    have go : ∀ ρ s, J (i + 1) ρ s → @Ws _ (forL tg B ds ρ s) E := fun ρ s hj => ws_forL J ds (i + 1) ρ s hj
      (fun j d ρ s hd hj => by
        have := t (j + 1) d ρ s hd (by rw [show i + (j + 1) = i + 1 + j by omega]; exact hj)
        rwa [show i + (j + 1) + 1 = i + 1 + j + 1 by omega] at this) (fun ρ s hj => e ρ s (by rw [List.length_cons, show i + (ds.length + 1) = i + 1 + ds.length by omega]; exact hj))
    exact ws_mono h2 go (fun _ _ q => q) (fun _ _ _ _ q => q) (fun _ _ q => q) go
/-- the turns of a comprehension -/
theorem wp_compL {tg : Tg} {T : Rho → S → Res S Bool} {F : Rho → S → Res S Val} {X : Nat → List PyData → S → Prop} {Q : List PyData → S → Prop} (J : Nat → List PyData → S → Prop) : ∀ (ds : List PyData) (i : Nat) (acc : List PyData) (st : S), acc.length + ds.length ≤ 1000000 → J i acc st →
    (∀ j d acc s, ds[j]? = some d → J (i + j) acc s → ∃ ρ1, setT tg d ρ = some ρ1 ∧ @Wp _ _ (T ρ1 s) (fun _ _ _ => False) fun b s1 => if b = true then @Wp _ _ (F ρ1 s1) (fun _ _ _ => False) fun v s2 => ∃ y, v = .d y ∧ J (i + j + 1) (acc ++ [y]) s2 else J (i + j + 1) acc s1) →
    (∀ acc s, J (i + ds.length) acc s → Q acc s) → @Wp _ _ (compL tg T F ρ ds acc st) X Q
  | [], i, acc, st, _, h, _, e => e acc st h
  | d :: ds, i, acc, st, hl, h, t, e => by
    obtain ⟨ρ1, h1, h2⟩ := t 0 d acc st rfl h
    unfold compL
    rw [h1]
    have hl' : acc.length + (ds.length + 1) ≤ 1000000 := hl
    have go : ∀ acc' s, acc'.length ≤ acc.length + 1 → J (i + 1) acc' s → @Wp _ _ (compL tg T F ρ ds acc' s) X Q := fun acc' s ha hj => wp_compL J ds (i + 1) acc' s (by omega) hj
      (fun j d acc s hd hj => by
        have := t (j + 1) d acc s hd (by rw [show i + (j + 1) = i + 1 + j by omega]; exact hj)
        rwa [show i + (j + 1) + 1 = i + 1 + j + 1 by omega] at this) (fun acc s hj => e acc s (by rw [List.length_cons, show i + (ds.length + 1) = i + 1 + ds.length by omega]; exact hj))
    cases z : T ρ1 st with
    | stuck => rw [z] at h2; exact h2.elim
    | exc c fs s => rw [z] at h2; exact h2.elim
    | ok b s1 =>
      rw [z] at h2
      cases b with
      | false => simp only [z]; exact go acc s1 (by omega) h2
      | true =>
        have h2 : @Wp _ _ (F ρ1 s1) (fun _ _ _ => False) fun v s2 => ∃ y, v = .d y ∧ J (i + 0 + 1) (acc ++ [y]) s2 := h2
        cases z2 : F ρ1 s1 with
        | stuck => rw [z2] at h2; exact h2.elim
        | exc c fs s => rw [z2] at h2; exact h2.elim
        | ok v s2 =>
          rw [z2] at h2
          obtain ⟨y, rfl, hj⟩ := h2
          simp only [z, z2]
          rw [if_pos (by omega)]
          exact go _ s2 (by simp) hj
/-- a def's mirror -/
theorem wp_fn {n : Nat} {B : Rho → S → SRes S} {vs : List Val} {X : Nat → List PyData → S → Prop} {Q : Val → S → Prop} : @Wp _ _ (fnF n B vs st) X Q ↔ @Ws _ (B (begin' n vs) st) ⟨fun _ s => Q (.d .none) s, Q, fun c fs _ s => X c fs s, fun _ _ => False, fun _ _ => False⟩ := by
  unfold fnF
  cases B (begin' n vs) st <;> exact Iff.rfl
/-- a comprehension that draws nothing -/
theorem compL_map {tg : Tg} {F : Rho → S → Res S Val} (f : PyData → PyData) : ∀ (ds acc : List PyData), acc.length + ds.length ≤ 1000000 → (∀ d ∈ ds, ∃ ρ1, setT tg d ρ = some ρ1 ∧ F ρ1 st = .ok (.d (f d)) st) → compL tg tYes' F ρ ds acc st = .ok (acc ++ ds.map f) st
  | [], acc, _, _ => by simp [compL]
  | d :: ds, acc, hl, h => by
    obtain ⟨ρ1, h1, h2⟩ := h d List.mem_cons_self
    have hl' : acc.length + (ds.length + 1) ≤ 1000000 := hl
    unfold compL
    rw [h1]
    show (match tYes' ρ1 st with | _ => _) = _
    simp only [tYes', h2]
    rw [if_pos (by omega), compL_map f ds (acc ++ [f d]) (by simp; omega) fun d hd => h d (List.mem_cons_of_mem _ hd)]
    simp
end
/-! ### the draws -/
structure Good (B : Int) (st : DS) : Prop where
  on : st.on = true
  lo : 0 ≤ st.at_
  hi : st.at_ ≤ B
theorem Good.mono {B C : Int} {st : DS} (h : Good B st) (l : B ≤ C) : Good C st := ⟨h.on, h.lo, Int.le_trans h.hi l⟩
theorem drawn_good {B : Int} {st : DS} (h : Good B st) (n : Int) : Good (B + 1) (drawn st n).2 := by
  unfold drawn
  cases dropZ st.left with
  | nil => exact ⟨h.on, by have := h.lo; show 0 ≤ st.at_ + 1; omega, by have := h.hi; show st.at_ + 1 ≤ B + 1; omega⟩
  | cons r rest => exact ⟨h.on, h.lo, by have := h.hi; show st.at_ ≤ B + 1; omega⟩
theorem drawn_ns {st : DS} (n : Int) : (drawn st n).2.ns = st.ns := by
  unfold drawn
  cases dropZ st.left <;> rfl
theorem drawn_in {st : DS} {n : Int} (hn : 0 < n) : 0 ≤ (drawn st n).1 ∧ (drawn st n).1 < n := by
  unfold drawn
  cases dropZ st.left with
  | nil => exact ⟨Int.emod_nonneg _ (by omega), Int.emod_lt_of_pos _ hn⟩
  | cons r rest => exact ⟨Int.emod_nonneg _ (by omega), Int.emod_lt_of_pos _ hn⟩
theorem log_small {n : Int} (hn : 0 < n) (h2 : n ≤ 10 ^ 40) : n.natAbs.log2 < 9000 := by
  have h : n.natAbs ≤ 10 ^ 40 := by omega
  have : n.natAbs.log2 ≤ (10 ^ 40 : Nat).log2 := by
    rw [Nat.le_log2 (by decide)]
    exact Nat.le_trans (Nat.log2_self_le (by omega)) h
  exact Nat.lt_of_le_of_lt this (by decide +kernel)
theorem wp_next {B n : Int} {st : DS} {X : Nat → List PyData → DS → Prop} {Q : Val → DS → Prop} (h : Good B st) (hn : 0 < n) (h2 : n ≤ 10 ^ 40) (hB : B ≤ 2 ^ 39) (q : ∀ x st', 0 ≤ x → x < n → Good (B + 1) st' → st'.ns = st.ns → Q (.d (.int x)) st') : @Wp _ _ (fNext [.ref 0, .d (.int n)] st) X Q := by
  have hc : st.on = true ∧ 0 < n ∧ n.natAbs.log2 < 9000 ∧ 0 ≤ st.at_ ∧ st.at_ < 2 ^ 40 := ⟨h.on, hn, log_small hn h2, h.lo, by have := h.hi; omega⟩
  show @Wp _ _ (if _ then _ else _) X Q
  rw [if_pos hc]
  exact q _ _ (drawn_in hn).1 (drawn_in hn).2 (drawn_good h n) (drawn_ns n)
theorem wp_begun {ns : List Int} {X : Nat → List PyData → DS → Prop} {Q : Val → DS → Prop} (q : ∀ st', Good 0 st' → st'.ns = ns → Q (.ref 0) st') : @Wp _ _ (fBegun [.ref 1] ⟨ns, [], [], 0, false⟩) X Q :=
  q _ ⟨rfl, Int.le_refl 0, Int.le_refl 0⟩ rfl
end Dl
namespace Dl
open PySem L2
/-! ### how the mirrors' parts compute -/
section
variable {S α β : Type} {a : α} {s : S} {X : Nat → List PyData → S → Prop} {Q : α → S → Prop} {E : En S} {ρ : Rho} {v : Val}
theorem wp_ok : @Wp _ _ (.ok a s) X Q = Q a s := rfl
theorem ws_nx : @Ws _ (.next ρ s) E = E.n ρ s := rfl
theorem ws_rt : @Ws _ (.ret v s) E = E.r v s := rfl
theorem bind_ok {f : α → S → Res S β} : (Res.ok a s).bind f = f a s := rfl
theorem lift_some {d : PyData} : lift (some d) s = .ok (.d d) s := rfl
theorem liftB_some {b : Bool} : liftB (some b) s = .ok b s := rfl
theorem sBind_ok {f : α → S → SRes S} : sBind (.ok a s) ρ f = f a s := rfl
theorem ret_if {v : Val} (h : isDR v = true) : (if isDR v = true then SRes.ret v s else .stuck) = .ret v s := if_pos h
end
theorem isDR_d (x : PyData) : isDR (.d x) = true := rfl
theorem isDR_r (n : Nat) : isDR (.ref n) = true := rfl
section
variable (i j : Int) (xs ys : List PyData) (x y : PyData) (b c : Bool) (z z' : Str)
theorem vAdd_i : vAdd (.d (.int i)) (.d (.int j)) = some (.int (i + j)) := rfl
theorem vSub_i : vSub (.d (.int i)) (.d (.int j)) = some (.int (i - j)) := rfl
theorem vLt_i : vLt (.d (.int i)) (.d (.int j)) = some (decide (i < j)) := rfl
theorem vLe_i : vLe (.d (.int i)) (.d (.int j)) = some (decide (i ≤ j)) := rfl
theorem vGt_i : vGt (.d (.int i)) (.d (.int j)) = some (decide (j < i)) := rfl
theorem vGe_i : vGe (.d (.int i)) (.d (.int j)) = some (decide (j ≤ i)) := rfl
theorem vMod_p (h : 0 < j) : vMod (.d (.int i)) (.d (.int j)) = some (.int (i % j)) := if_pos h
theorem vIx_t : vIx (.d (.tuple xs)) (.d (.int i)) = atI xs i := rfl
theorem vIx_l : vIx (.d (.list xs)) (.d (.int i)) = atI xs i := rfl
theorem vNot_b : vNot (.d (.bool b)) = some (.bool (!b)) := rfl
theorem bLen_t : bLen [.d (.tuple xs)] = some (.int xs.length) := rfl
theorem bLen_l : bLen [.d (.list xs)] = some (.int xs.length) := rfl
theorem bInt_i : bInt [.d (.int i)] = some (.int i) := rfl
theorem bMin_i : bMin [.d (.int i), .d (.int j)] = some (.int (if j < i then j else i)) := rfl
theorem bMax_i : bMax [.d (.int i), .d (.int j)] = some (.int (if j > i then j else i)) := rfl
theorem bTuple_l : bTuple [.d (.list xs)] = some (.tuple xs) := rfl
theorem bTuple_t : bTuple [.d (.tuple xs)] = some (.tuple xs) := rfl
theorem bTuple_o : bTuple [.own xs] = some (.tuple xs) := rfl
theorem bList_t : bList [.d (.tuple xs)] = some (.list xs) := rfl
theorem bList_l : bList [.d (.list xs)] = some (.list xs) := rfl
theorem ints_all (ns : List Int) : allInts (ns.map PyData.int) = some ns := by
  induction ns with
  | nil => rfl
  | cons n ns ih => simp [allInts, ih]
theorem bSum_l (ns : List Int) : bSum [.d (.list (ns.map PyData.int))] = some (.int ns.sum) := by
  show ((allInts (ns.map PyData.int)).map fun ns => PyData.int ns.sum) = _
  rw [ints_all]
  rfl
theorem isTy_tt : isTy .tuple (.d (.tuple xs)) = some (.bool true) := rfl
theorem isTy_ii : isTy .int (.d (.int i)) = some (.bool true) := rfl
theorem isTy_bi : isTy .bool (.d (.int i)) = some (.bool false) := rfl
theorem vIsN_n : vIsN (.d .none) = some true := rfl
theorem vIsNot_n : vIsNot (.d .none) = some false := rfl
theorem datas_nil : datas [] = some [] := rfl
theorem datas_cons (vs : List Val) : datas (.d x :: vs) = (datas vs).map (x :: ·) := rfl
theorem atI_ok {i : Nat} {x : PyData} (h : xs[i]? = some x) : atI xs (i : Int) = some x := by
  have hl : i < xs.length := (List.getElem?_eq_some_iff.mp h).1
  unfold atI ixN
  rw [if_pos (by omega : (0 : Int) ≤ (i : Int)), if_pos (by omega)]
  show xs[((i : Int)).toNat]? = _
  rw [Int.toNat_natCast]
  exact h
end
theorem atI_mod {l : List Int} {t : Int} (h : 1 ≤ l.length) : atI (l.map PyData.int) (t % (l.length : Int)) = some (.int (l.getD (t % (l.length : Int)).toNat 0)) := by
  have h1 : 0 ≤ t % (l.length : Int) := Int.emod_nonneg _ (by omega)
  have h2 : t % (l.length : Int) < l.length := Int.emod_lt_of_pos _ (by omega)
  have h3 : (t % (l.length : Int)).toNat < l.length := by omega
  have e := atI_ok (l.map PyData.int) (i := (t % (l.length : Int)).toNat) (x := .int (l.getD (t % (l.length : Int)).toNat 0)) (by
    rw [List.getElem?_map, List.getElem?_eq_getElem h3, List.getD_eq_getElem?_getD, List.getElem?_eq_getElem h3]
    rfl)
  rwa [Int.toNat_of_nonneg h1] at e
theorem enum_at {ds : List PyData} {i : Nat} {d : PyData} (h : (enumD ds)[i]? = some d) : ∃ y, ds[i]? = some y ∧ d = .tuple [.int (i : Nat), y] := by
  unfold enumD at h
  rw [List.getElem?_mapIdx] at h
  cases z : ds[i]? with
  | none => rw [z] at h; cases h
  | some y => rw [z] at h; cases h; exact ⟨y, rfl, rfl⟩
theorem enum_len (ds : List PyData) : (enumD ds).length = ds.length := by simp [enumD]
theorem map_at {α β : Type} {f : α → β} {xs : List α} {i : Nat} {y : β} (h : (xs.map f)[i]? = some y) : ∃ x ∈ xs, y = f x := by
  rw [List.getElem?_map] at h
  cases z : xs[i]? with
  | none => rw [z] at h; cases h
  | some x => rw [z] at h; cases h; exact ⟨x, List.mem_of_getElem? z, rfl⟩
end Dl
set_option maxRecDepth 100000
set_option maxHeartbeats 4000000
/-! The computing rules of the mirrors, as one set of rewriting rules (kept under the name of an unused set of Lean's own: bitvec_to_nat). -/
namespace Dl
open PySem L2
theorem cif_T {α : Sort _} {a b : α} : cif True a b = a := cif_pos trivial
theorem cif_F {α : Sort _} {a b : α} : cif False a b = b := cif_neg (fun h => h)
section
variable {S α β : Type} {a : α} {s st : S} {X : Nat → List PyData → S → Prop} {Q : α → S → Prop} {E : En S} {ρ : Rho} {v : Val}
/-! ### the order of work: the first part alone (what goes on behind it is out of sight for rewriting) -/
set_option checkBinderAnnotations false in
def bnd {S α β : Type} (r : Res S α) [f : α → S → Res S β] : Res S β := r.bind f
set_option checkBinderAnnotations false in
def sbnd {S α : Type} (r : Res S α) (ρ : Rho) [f : α → S → SRes S] : SRes S := sBind r ρ f
def isTyB : Ty → PyData → Bool
  | .int, .int _ => true
  | .int, .bool _ => true
  | .bool, .bool _ => true
  | .tuple, .tuple _ => true
  | .str, .str _ => true
  | _, _ => false
/-! a proposition out of sight for rewriting -/
set_option checkBinderAnnotations false in
abbrev Hid [p : Prop] : Prop := p
/-! ### ends -/
def En.seq (E : En S) (G : Rho → S → SRes S) : En S := { E with n := fun ρ s => @Ws _ (G ρ s) E }
theorem seq_n {G : Rho → S → SRes S} : (E.seq G).n ρ s = @Ws _ (G ρ s) E := rfl
theorem seq_r {G : Rho → S → SRes S} : (E.seq G).r v s = E.r v s := rfl
theorem seq_x {G : Rho → S → SRes S} {c : Nat} {fs : List PyData} : (E.seq G).x c fs ρ s = E.x c fs ρ s := rfl
theorem seq_b {G : Rho → S → SRes S} : (E.seq G).b ρ s = E.b ρ s := rfl
theorem seq_c {G : Rho → S → SRes S} : (E.seq G).c ρ s = E.c ρ s := rfl
theorem w_seq {F G : Rho → S → SRes S} : @Ws _ (sSeq F G ρ st) E = @Ws _ (F ρ st) (E.seq G) := propext ws_seq
theorem w_if {T : Rho → S → Res S Bool} {F G : Rho → S → SRes S} : @Ws _ (sIf T F G ρ st) E = @Wp _ _ (T ρ st) (fun c fs s => E.x c fs ρ s) fun b s => @Ws _ (if b = true then F ρ s else G ρ s) E := propext ws_if
theorem w_set {i : Nat} {F : Rho → S → Res S Val} : @Ws _ (sSet i F ρ st) E = @Wp _ _ (F ρ st) (fun c fs s => E.x c fs ρ s) fun v s => isDR v = true ∧ E.n (ρ.set i (some v)) s := propext ws_set
theorem w_ret {F : Rho → S → Res S Val} : @Ws _ (sRet F ρ st) E = @Wp _ _ (F ρ st) (fun c fs s => E.x c fs ρ s) fun v s => isDR v = true ∧ E.r v s := propext ws_ret
theorem w_drop {F : Rho → S → Res S Val} : @Ws _ (sDrop F ρ st) E = @Wp _ _ (F ρ st) (fun c fs s => E.x c fs ρ s) fun v s => E.n ρ s := propext ws_drop
theorem w_for {G : Rho → S → Res S (List PyData)} {tg : Tg} {B : Rho → S → SRes S} : @Ws _ (sFor G tg B ρ st) E = @Wp _ _ (G ρ st) (fun c fs s => E.x c fs ρ s) fun ds s => @Ws _ (forL tg B ds ρ s) E := propext ws_for
theorem w_new {i : Nat} {F : Rho → S → Res S (List PyData)} : @Ws _ (sNew i F ρ st) E = @Wp _ _ (F ρ st) (fun c fs s => E.x c fs ρ s) fun ds s => E.n (ρ.set i (some (.own ds))) s := propext ws_bind
theorem w_sBind {r : Res S α} {f : α → S → SRes S} : @Ws _ (@sbnd _ _ r ρ f) E = @Wp _ _ r (fun c fs s => E.x c fs ρ s) fun a s => @Ws _ (f a s) E := propext ws_bind
theorem w_unp {tg : Tg} {F : Rho → S → Res S Val} : @Ws _ (sUnp tg F ρ st) E = @Wp _ _ (F ρ st) (fun c fs s => E.x c fs ρ s) fun v s => @Ws _ (match v with
  | .d d => match setT tg d ρ with
    | some ρ1 => .next ρ1 s
    | none => .stuck
  | _ => .stuck) E := propext ws_bind
theorem w_par {i j : Nat} {A : Rho → S → Res S (List Val)} : @Ws _ (sPar i j A ρ st) E = @Wp _ _ (A ρ st) (fun c fs s => E.x c fs ρ s) fun vs s => @Ws _ (match vs with
  | [v, w] => if isDR v = true ∧ isDR w = true then .next ((ρ.set i (some v)).set j (some w)) s else .stuck
  | _ => .stuck) E := propext ws_bind
theorem w_raise {c n : Nat} {fill : List PyData → List PyData} {A : Rho → S → Res S (List Val)} : @Ws _ (sRaise c n fill A ρ st) E = @Wp _ _ (A ρ st) (fun c fs s => E.x c fs ρ s) fun vs s => @Ws _ (match datas vs with
  | some ds => if ds.length = n then .exc c (fill ds) ρ s else .stuck
  | none => .stuck) E := propext ws_bind
theorem w_retN : @Ws _ (sRetN ρ st) E = E.r (.d .none) st := rfl
theorem w_nop : @Ws _ (sNop ρ st) E = E.n ρ st := rfl
theorem w_nx : @Ws _ (.next ρ s) E = E.n ρ s := rfl
theorem w_rt : @Ws _ (.ret v s) E = E.r v s := rfl
theorem w_exc {c : Nat} {fs : List PyData} : @Ws _ (.exc c fs ρ s) E = E.x c fs ρ s := rfl
theorem w_brk : @Ws _ (.brk ρ s) E = E.b ρ s := rfl
theorem w_cnt : @Ws _ (.cnt ρ s) E = E.c ρ s := rfl
theorem w_stuck : @Ws _ (.stuck : SRes S) E = False := rfl
theorem w_goOn {r : SRes S} {k : Rho → S → SRes S} : @Ws _ (goOn r k) E = @Ws _ r { E with n := fun ρ s => @Ws _ (k ρ s) E, c := fun ρ s => @Ws _ (k ρ s) E, b := E.n } := propext ws_goOn
theorem w_retOwn {i : Nat} : @Ws _ (sRetOwn i ρ st) E = @Ws _ (match ρ[i]? with
  | some (some (.own ds)) => .ret (.d (.list ds)) st
  | _ => .stuck) E := rfl
theorem w_app {i : Nat} {F : Rho → S → Res S Val} : @Ws _ (sApp i F ρ st) E = @Ws _ (match ρ[i]? with
  | some (some (.own ds)) => @sbnd _ _ (F ρ st) ρ fun v st1 => match v with
    | .d x => if ds.length < 1000000 then .next (ρ.set i (some (.own (ds ++ [x])))) st1 else .stuck
    | _ => .stuck
  | _ => .stuck) E := rfl
theorem w_setI {i : Nat} {Fi Fe : Rho → S → Res S Val} : @Ws _ (sSetI i Fi Fe ρ st) E = @Wp _ _ (Fe ρ st) (fun c fs s => E.x c fs ρ s) fun v s => @Ws _ (match v, ρ[i]? with
  | .d x, some (some (.own ds)) => @sbnd _ _ (Fi ρ s) ρ fun k st2 => match k with
    | .d (.int k) => match ixN ds.length k with
      | some j => .next (ρ.set i (some (.own (ds.set j x)))) st2
      | none => .stuck
    | _ => .stuck
  | _, _ => .stuck) E := propext ws_bind
theorem w_augI {f : Int → Int → Int} {i : Nat} {Fi Fe : Rho → S → Res S Val} : @Ws _ (sAugI f i Fi Fe ρ st) E = @Ws _ (match ρ[i]? with
  | some (some (.own ds)) => @sbnd _ _ (Fi ρ st) ρ fun k st1 => match k with
    | .d (.int k) => match atI ds k, ixN ds.length k with
      | some (.int x), some j => @sbnd _ _ (Fe ρ st1) ρ fun v st2 => match v with
        | .d (.int y) => .next (ρ.set i (some (.own (ds.set j (.int (f x y)))))) st2
        | _ => .stuck
      | _, _ => .stuck
    | _ => .stuck
  | _ => .stuck) E := rfl
theorem w_aug {f : Int → Int → Int} {i : Nat} {Fe : Rho → S → Res S Val} : @Ws _ (sAug f i Fe ρ st) E = @Ws _ (match ρ[i]? with
  | some (some (.d (.int x))) => @sbnd _ _ (Fe ρ st) ρ fun v st1 => match v with
    | .d (.int y) => .next (ρ.set i (some (.d (.int (f x y))))) st1
    | _ => .stuck
  | _ => .stuck) E := rfl
theorem w_ite {p : Prop} [Decidable p] {r1 r2 : SRes S} : @Ws _ (if p then r1 else r2) E = if p then @Ws _ r1 E else @Ws _ r2 E := by by_cases h : p <;> simp only [h, if_true, if_false]
/-! ### expressions -/
theorem p_ok : @Wp _ _ (.ok a s) X Q = Q a s := rfl
theorem p_exc {c : Nat} {fs : List PyData} : @Wp _ _ (.exc c fs s : Res S α) X Q = X c fs s := rfl
theorem p_stuck : @Wp _ _ (.stuck : Res S α) X Q = False := rfl
theorem p_bind {r : Res S α} {f : α → S → Res S β} {Q : β → S → Prop} : @Wp _ _ (@bnd _ _ _ r f) X Q = @Wp _ _ r X fun a s => @Wp _ _ (f a s) X Q := propext wp_bind
theorem b_ok {f : α → S → Res S β} : @bnd _ _ _ (Res.ok a s) f = f a s := rfl
theorem b_exc {c : Nat} {fs : List PyData} {f : α → S → Res S β} : @bnd _ _ _ (Res.exc c fs s) f = .exc c fs s := rfl
theorem sb_ok {f : α → S → SRes S} : @sbnd _ _ (.ok a s) ρ f = f a s := rfl
theorem sb_exc {c : Nat} {fs : List PyData} {f : α → S → SRes S} : @sbnd _ _ (.exc c fs s) ρ f = .exc c fs ρ s := rfl
theorem go_nx {k : Rho → S → SRes S} : goOn (.next ρ s) k = k ρ s := rfl
theorem go_rt {k : Rho → S → SRes S} : goOn (.ret v s) k = .ret v s := rfl
theorem go_exc {c : Nat} {fs : List PyData} {k : Rho → S → SRes S} : goOn (.exc c fs ρ s) k = .exc c fs ρ s := rfl
theorem ok_ite {p : Prop} [Decidable p] {a b : α} : (if p then (Res.ok a s : Res S α) else .ok b s) = .ok (if p then a else b) s := by by_cases h : p <;> simp only [h, if_true, if_false]
theorem l_some {d : PyData} : lift (some d) s = .ok (.d d) s := rfl
theorem lb_some {b : Bool} : liftB (some b) s = .ok b s := rfl
section
variable {Fa Fb Fc : Rho → S → Res S Val} {T1 T2 : Rho → S → Res S Bool} {A : Rho → S → Res S (List Val)} {N : Rho → S → Res S (List PyData)}
theorem x_var {i : Nat} : eVar i ρ st = match ρ[i]? with | some (some v) => .ok v st | _ => .stuck := rfl
theorem x_c {d : PyData} : eC d ρ st = .ok (.d d) st := rfl
theorem x_op {f : Val → Val → Option PyData} : eOp f Fa Fb ρ st = @bnd _ _ _ (Fa ρ st) fun x st1 => @bnd _ _ _ (Fb ρ st1) fun y st2 => lift (f x y) st2 := rfl
theorem x_un {f : Val → Option PyData} : eUn f Fa ρ st = @bnd _ _ _ (Fa ρ st) fun x st1 => lift (f x) st1 := rfl
theorem x_cmp {f : Val → Val → Option Bool} : eCmp f Fa Fb ρ st = @bnd _ _ _ (Fa ρ st) fun x st1 => @bnd _ _ _ (Fb ρ st1) fun y st2 => liftB (f x y) st2 := rfl
theorem x_B : eB T1 ρ st = @bnd _ _ _ (T1 ρ st) fun b st1 => .ok (.d (.bool b)) st1 := rfl
theorem x_tVal : tVal Fa ρ st = @bnd _ _ _ (Fa ρ st) fun x st1 => match x with
  | .d (.bool b) => .ok b st1
  | _ => .stuck := rfl
theorem x_tAnd : tAnd' T1 T2 ρ st = @bnd _ _ _ (T1 ρ st) fun x st1 => if x = true then T2 ρ st1 else .ok false st1 := rfl
theorem x_tOr : tOr' T1 T2 ρ st = @bnd _ _ _ (T1 ρ st) fun x st1 => if x = true then .ok true st1 else T2 ρ st1 := rfl
theorem x_tNot : tNot' T1 ρ st = @bnd _ _ _ (T1 ρ st) fun x st1 => .ok (!x) st1 := rfl
theorem x_if : eIf T1 Fa Fb ρ st = @bnd _ _ _ (T1 ρ st) fun x st1 => if x = true then Fa ρ st1 else Fb ρ st1 := rfl
theorem x_aNil : aNil ρ st = .ok [] st := rfl
theorem x_aCons : aCons Fa A ρ st = @bnd _ _ _ (Fa ρ st) fun x st1 => @bnd _ _ _ (A ρ st1) fun xs st2 => .ok (x :: xs) st2 := rfl
theorem x_tup : eTup A ρ st = @bnd _ _ _ (A ρ st) fun xs st1 => lift ((datas xs).bind fun ds => if ds.length ≤ 1000000 then some (.tuple ds) else none) st1 := rfl
theorem x_lst : eLst A ρ st = @bnd _ _ _ (A ρ st) fun xs st1 => lift ((datas xs).bind fun ds => if ds.length ≤ 1000000 then some (.list ds) else none) st1 := rfl
theorem x_and : eAnd' Fa Fb ρ st = @bnd _ _ _ (Fa ρ st) fun x st1 => match x with
  | .d (.bool c) => if c = true then Fb ρ st1 else .ok (.d (.bool false)) st1
  | _ => .stuck := rfl
theorem x_or : eOr' Fa Fb ρ st = @bnd _ _ _ (Fa ρ st) fun x st1 => match x with
  | .d (.bool c) => if c = true then .ok (.d (.bool true)) st1 else Fb ρ st1
  | _ => .stuck := rfl
def condB (o : Option Bool) (r : Res S Bool) (s : S) : Res S Bool := match o with
  | some true => r
  | some false => .ok false s
  | none => .stuck
theorem c_some {b : Bool} {r : Res S Bool} : condB (some b) r s = if b = true then r else .ok false s := by cases b <;> rfl
theorem x_chain {f g : Val → Val → Option Bool} : eChain f g Fa Fb Fc ρ st = @bnd _ _ _ (Fa ρ st) fun x st1 => @bnd _ _ _ (Fb ρ st1) fun y st2 => condB (f x y) (@bnd _ _ _ (Fc ρ st2) fun z st3 => liftB (g y z) st3) st2 := rfl
theorem x_call {f : List Val → Option PyData} : eCall f A ρ st = @bnd _ _ _ (A ρ st) fun xs st1 => lift (f xs) st1 := rfl
theorem x_tIs {f : Val → Option Bool} : tIs f Fa ρ st = @bnd _ _ _ (Fa ρ st) fun x st1 => liftB (f x) st1 := rfl
theorem x_app {F : List Val → S → Res S Val} {n : Nat} : eApp F n A ρ st = @bnd _ _ _ (A ρ st) fun xs st1 => if xs.all isDR = true ∧ xs.length = n then F xs st1 else .stuck := rfl
theorem x_sl {f : Val → Option Int → Option Int → Option PyData} {lo hi : Rho → S → Res S (Option Int)} : eSl f Fa lo hi ρ st = @bnd _ _ _ (Fa ρ st) fun x st1 => @bnd _ _ _ (lo ρ st1) fun l st2 => @bnd _ _ _ (hi ρ st2) fun h st3 => lift (f x l h) st3 := rfl
theorem x_oNone : oNone ρ st = .ok none st := rfl
theorem x_oSome : oSome Fa ρ st = @bnd _ _ _ (Fa ρ st) fun x st1 => match x with
  | .d (.int i) => .ok (some i) st1
  | _ => .stuck := rfl
theorem x_frz : eFrz N ρ st = @bnd _ _ _ (N ρ st) fun ds st1 => .ok (.d (.list ds)) st1 := rfl
theorem x_nLst : nLst A ρ st = @bnd _ _ _ (A ρ st) fun xs st1 => match datas xs with
  | some ds => if ds.length ≤ 1000000 then .ok ds st1 else .stuck
  | none => .stuck := rfl
theorem x_nList : nList Fa ρ st = @bnd _ _ _ (Fa ρ st) fun x st1 => match seqOf x with
  | some ds => .ok ds st1
  | none => .stuck := rfl
theorem x_nRep : nRep Fa Fb ρ st = @bnd _ _ _ (Fa ρ st) fun x st1 => @bnd _ _ _ (Fb ρ st1) fun y st2 => match lstOf x, y with
  | some ds, .d (.int k) => cif (-1000000 ≤ k ∧ k ≤ 1000000 ∧ ds.length * k.toNat ≤ 1000000) (.ok (List.replicate k.toNat ds).flatten st2) .stuck
  | _, _ => .stuck := rfl
theorem x_iSeq : iSeq Fa ρ st = @bnd _ _ _ (Fa ρ st) fun x st1 => match x with
  | .d (.list xs) => .ok xs st1
  | .d (.tuple xs) => .ok xs st1
  | _ => .stuck := rfl
theorem x_iRng : iRng Fa ρ st = @bnd _ _ _ (Fa ρ st) fun x st1 => match x with
  | .d (.int n) => cif (smallI n) (.ok (upto n) st1) .stuck
  | _ => .stuck := rfl
theorem x_iRng2 : iRng2 Fa Fb ρ st = @bnd _ _ _ (Fa ρ st) fun x st1 => @bnd _ _ _ (Fb ρ st1) fun y st2 => match x, y with
  | .d (.int i), .d (.int j) => cif (smallI i ∧ smallI j) (.ok (fromTo i j) st2) .stuck
  | _, _ => .stuck := rfl
theorem x_iEnm : iEnm Fa ρ st = @bnd _ _ _ (Fa ρ st) fun x st1 => match x with
  | .d (.list xs) => .ok (enumD xs) st1
  | .d (.tuple xs) => .ok (enumD xs) st1
  | _ => .stuck := rfl
theorem x_iZp : iZp Fa Fb ρ st = @bnd _ _ _ (Fa ρ st) fun x st1 => @bnd _ _ _ (Fb ρ st1) fun y st2 => match dSeq x, dSeq y with
  | some xs, some ys => .ok (zipD xs ys) st2
  | _, _ => .stuck := rfl
theorem x_comp {vs : List Nat} {tg : Tg} : nComp N vs tg T1 Fa ρ st = @bnd _ _ _ (N ρ st) fun ds st1 => compL tg T1 Fa (wipeR ρ vs) ds [] st1 := rfl
theorem x_yes : tYes' ρ st = .ok true st := rfl
theorem x_lenS {Fa : Rho → DS → Res DS Val} {st : DS} : eLenS Fa ρ st = @bnd _ _ _ (Fa ρ st) fun x st1 => match x with
  | .ref 1 => .ok (.d (.int st1.ns.length)) st1
  | _ => .stuck := rfl
end
theorem w_nil : wipeR ρ [] = ρ := rfl
theorem w_cons {i : Nat} {is : List Nat} : wipeR ρ (i :: is) = (wipeR ρ is).set i none := rfl
theorem t_name {i : Nat} {d : PyData} : setT (.name i) d ρ = some (ρ.set i (some (.d d))) := rfl
theorem t_tup {is : List Nat} {ds : List PyData} : setT (.tup is) (.tuple ds) ρ = if ds.length = is.length then some (setAll ρ is ds) else none := rfl
theorem t_all {i : Nat} {is : List Nat} {d : PyData} {ds : List PyData} : setAll ρ (i :: is) (d :: ds) = setAll (ρ.set i (some (.d d))) is ds := rfl
theorem t_nil {ds : List PyData} : setAll ρ [] ds = ρ := by cases ds <;> rfl
theorem bg {n : Nat} {vs : List Val} : begin' n vs = vs.map some ++ List.replicate (n - vs.length) none := rfl
/-- a def's mirror: what it ends with -/
theorem w_fn {n : Nat} {B : Rho → S → SRes S} {vs : List Val} {Q : Val → S → Prop} : @Wp _ _ (fnF n B vs st) X Q = @Ws _ (B (begin' n vs) st) ⟨fun _ s => Q (.d .none) s, Q, fun c fs _ s => X c fs s, fun _ _ => False, fun _ _ => False⟩ := propext wp_fn
/-- from what holds behind a part to the part itself -/
theorem ok_of {r : Res S α} (h : @Wp _ _ r (fun _ _ _ => False) fun v s => v = a ∧ s = st) : r = .ok a st := by
  cases r with
  | ok v s => obtain ⟨rfl, rfl⟩ := h; rfl
  | exc c fs s => exact h.elim
  | stuck => exact h.elim
theorem exc_of_wp {r : Res S α} {c : Nat} {fs : List PyData} (h : @Wp _ _ r (fun c' fs' s => c' = c ∧ fs' = fs ∧ s = st) fun _ _ => False) : r = .exc c fs st := by
  cases r with
  | ok v s => exact h.elim
  | exc c fs s => obtain ⟨rfl, rfl, rfl⟩ := h; rfl
  | stuck => exact h.elim
theorem wp_of_ok {r : Res S α} (e : r = .ok a st) (h : Q a st) : @Wp _ _ r X Q := by rw [e]; exact h
theorem wp_of_exc {r : Res S α} {c : Nat} {fs : List PyData} (e : r = .exc c fs st) (h : X c fs st) : @Wp _ _ r X Q := by rw [e]; exact h
end
section
variable {α β : Type} (a b : α) (l m : List α) (f : α → β)
theorem r_map_cons : (a :: l).map f = f a :: l.map f := rfl
theorem r_map_nil : ([] : List α).map f = [] := rfl
theorem r_rep_succ (n : Nat) : List.replicate (n + 1) a = a :: List.replicate n a := rfl
theorem r_rep_zero : List.replicate 0 a = [] := rfl
theorem r_len_cons : (a :: l).length = l.length + 1 := rfl
theorem r_len_nil : ([] : List α).length = 0 := rfl
theorem r_len_map : (l.map f).length = l.length := List.length_map ..
theorem r_app_cons : (a :: l) ++ m = a :: (l ++ m) := rfl
theorem r_app_nil : [] ++ m = m := rfl
theorem r_nil_app : m ++ [] = m := List.append_nil m
theorem r_set_zero : (a :: l).set 0 b = b :: l := rfl
theorem r_set_succ (n : Nat) : (a :: l).set (n + 1) b = a :: l.set n b := rfl
theorem r_get_zero : (a :: l)[0]? = some a := rfl
theorem r_get_succ (n : Nat) : (a :: l)[n + 1]? = l[n]? := by simp
theorem r_omap (x : α) : (some x).map f = some (f x) := rfl
theorem r_obind (x : α) (g : α → Option β) : (some x).bind g = g x := rfl
theorem r_all_cons (p : α → Bool) : (a :: l).all p = (p a && l.all p) := rfl
theorem r_all_nil (p : α → Bool) : ([] : List α).all p = true := rfl
theorem r_and_t (x : Bool) : (x && true) = x := by cases x <;> rfl
theorem r_t_and (x : Bool) : (true && x) = x := rfl
theorem r_and_f (x : Bool) : (x && false) = false := by cases x <;> rfl
theorem r_f_and (x : Bool) : (false && x) = false := rfl
theorem r_or_t (x : Bool) : (x || true) = true := by cases x <;> rfl
theorem r_t_or (x : Bool) : (true || x) = true := rfl
theorem r_or_f (x : Bool) : (x || false) = x := by cases x <;> rfl
theorem r_f_or (x : Bool) : (false || x) = x := rfl
theorem r_not_t : (!true) = false := rfl
theorem r_not_f : (!false) = true := rfl
theorem r_not_not (x : Bool) : (!!x) = x := by cases x <;> rfl
theorem r_and_true (p : Prop) : (p ∧ True) = p := by simp
theorem r_true_and (p : Prop) : (True ∧ p) = p := by simp
theorem r_and_false (p : Prop) : (p ∧ False) = False := by simp
theorem r_false_and (p : Prop) : (False ∧ p) = False := by simp
theorem r_or_true (p : Prop) : (p ∨ True) = True := by simp
theorem r_true_or (p : Prop) : (True ∨ p) = True := by simp
theorem r_or_false (p : Prop) : (p ∨ False) = p := by simp
theorem r_false_or (p : Prop) : (False ∨ p) = p := by simp
theorem r_not_true : (¬ True) = False := by simp
theorem r_not_false : (¬ False) = True := by simp
theorem r_ft : (false = true) = False := by simp
theorem r_tt : (true = true) = True := by simp
theorem r_dt : decide True = true := by simp
theorem r_df : decide False = false := by simp
theorem r_de (p : Prop) [Decidable p] : (decide p = true) = p := by simp
theorem r_dn (p : Prop) [Decidable p] : (decide p = false) = ¬ p := by simp
theorem r_ne (x : Bool) : ((!x) = true) = ¬ (x = true) := by simp
theorem r_oe (x y : Bool) : ((x || y) = true) = (x = true ∨ y = true) := by simp
theorem r_ae (x y : Bool) : ((x && y) = true) = (x = true ∧ y = true) := by simp
theorem r_ite_t (x y : α) : (if True then x else y) = x := by simp
theorem r_ite_f (x y : α) : (if False then x else y) = y := by simp
theorem r_ite_tb (p : Prop) [Decidable p] (x : Bool) : (if p then true else x) = (decide p || x) := by by_cases h : p <;> simp [h]
theorem r_ite_bf (p : Prop) [Decidable p] (x : Bool) : (if p then x else false) = (decide p && x) := by by_cases h : p <;> simp [h]
theorem r_db (x : Bool) : decide (x = true) = x := by cases x <;> rfl
theorem r_self (x : α) : (x = x) = True := by simp
theorem r_ite_d (p : Prop) [Decidable p] (x y : PyData) : (if p then Val.d x else .d y) = .d (if p then x else y) := by by_cases h : p <;> simp [h]
theorem r_ite_b (p : Prop) [Decidable p] (x y : Bool) : (if p then PyData.bool x else .bool y) = .bool (if p then x else y) := by by_cases h : p <;> simp [h]
theorem r_ite_i (p : Prop) [Decidable p] (x y : Int) : (if p then PyData.int x else .int y) = .int (if p then x else y) := by by_cases h : p <;> simp [h]
theorem r_ite_s (p : Prop) [Decidable p] (x y : α) : (if p then some x else some y) = some (if p then x else y) := by by_cases h : p <;> simp [h]
end
section
variable (i j : Int) (xs ys : List PyData) (x y : PyData) (b c : Bool) (z z' : Str) (n : Nat)
theorem q_isd : isDR (.d x) = true := rfl
theorem q_isr : isDR (.ref n) = true := rfl
theorem q_add : vAdd (.d (.int i)) (.d (.int j)) = some (.int (i + j)) := rfl
theorem q_addt : vAdd (.d (.tuple xs)) (.d (.tuple ys)) = if xs.length + ys.length ≤ 1000000 then some (.tuple (xs ++ ys)) else none := rfl
theorem q_addl : vAdd (.d (.list xs)) (.d (.list ys)) = if xs.length + ys.length ≤ 1000000 then some (.list (xs ++ ys)) else none := rfl
theorem q_sub : vSub (.d (.int i)) (.d (.int j)) = some (.int (i - j)) := rfl
theorem q_neg : vNeg (.d (.int i)) = some (.int (-i)) := rfl
theorem q_lt : vLt (.d (.int i)) (.d (.int j)) = some (decide (i < j)) := rfl
theorem q_le : vLe (.d (.int i)) (.d (.int j)) = some (decide (i ≤ j)) := rfl
theorem q_gt : vGt (.d (.int i)) (.d (.int j)) = some (decide (j < i)) := rfl
theorem q_ge : vGe (.d (.int i)) (.d (.int j)) = some (decide (j ≤ i)) := rfl
theorem q_not : vNot (.d (.bool b)) = some (.bool (!b)) := rfl
theorem q_ixt : vIx (.d (.tuple xs)) (.d (.int i)) = atI xs i := rfl
theorem q_ixl : vIx (.d (.list xs)) (.d (.int i)) = atI xs i := rfl
theorem q_ixo : vIx (.own xs) (.d (.int i)) = atI xs i := rfl
theorem q_lent : bLen [.d (.tuple xs)] = some (.int xs.length) := rfl
theorem q_lenl : bLen [.d (.list xs)] = some (.int xs.length) := rfl
theorem q_leno : bLen [.own xs] = some (.int xs.length) := rfl
theorem q_int : bInt [.d (.int i)] = some (.int i) := rfl
theorem q_min : bMin [.d (.int i), .d (.int j)] = some (.int (if j < i then j else i)) := rfl
theorem q_max : bMax [.d (.int i), .d (.int j)] = some (.int (if j > i then j else i)) := rfl
theorem q_abs : bAbs [.d (.int i)] = some (.int (if i < 0 then -i else i)) := rfl
theorem q_tupl : bTuple [.d (.list xs)] = some (.tuple xs) := rfl
theorem q_tupt : bTuple [.d (.tuple xs)] = some (.tuple xs) := rfl
theorem q_tupo : bTuple [.own xs] = some (.tuple xs) := rfl
theorem q_listt : bList [.d (.tuple xs)] = some (.list xs) := rfl
theorem q_listl : bList [.d (.list xs)] = some (.list xs) := rfl
theorem q_listo : bList [.own xs] = some (.list xs) := rfl
theorem q_sum (ns : List Int) : bSum [.d (.list (ns.map PyData.int))] = some (.int ns.sum) := bSum_l ns
theorem q_all (bs : List Bool) : bAll [.d (.list (bs.map PyData.bool))] = some (.bool (bs.all id)) := by
  show ((allBools (bs.map PyData.bool)).map fun bs => PyData.bool (bs.all id)) = _
  rw [allBools_map]; rfl
theorem q_any (bs : List Bool) : bAny [.d (.list (bs.map PyData.bool))] = some (.bool (bs.any id)) := by
  show ((allBools (bs.map PyData.bool)).map fun bs => PyData.bool (bs.any id)) = _
  rw [allBools_map]; rfl
theorem q_sllt (lo hi : Option Int) : vSl (.d (.tuple xs)) lo hi = some (.tuple (cutD xs lo hi)) := rfl
theorem q_slll (lo hi : Option Int) : vSl (.d (.list xs)) lo hi = some (.list (cutD xs lo hi)) := rfl
theorem q_sllo (lo hi : Option Int) : vSl (.own xs) lo hi = some (.list (cutD xs lo hi)) := rfl
theorem q_isi (t : Ty) : isTy t (.d x) = some (.bool (isTyB t x)) := by cases t <;> cases x <;> rfl
section
variable (kvs : List (PyData × PyData))
theorem ty_int_none : isTyB .int .none = false := rfl
theorem ty_int_bool : isTyB .int (.bool b) = true := rfl
theorem ty_int_int : isTyB .int (.int i) = true := rfl
theorem ty_int_str : isTyB .int (.str z) = false := rfl
theorem ty_int_list : isTyB .int (.list xs) = false := rfl
theorem ty_int_tuple : isTyB .int (.tuple xs) = false := rfl
theorem ty_int_dict : isTyB .int (.dict kvs) = false := rfl
theorem ty_bool_none : isTyB .bool .none = false := rfl
theorem ty_bool_bool : isTyB .bool (.bool b) = true := rfl
theorem ty_bool_int : isTyB .bool (.int i) = false := rfl
theorem ty_bool_str : isTyB .bool (.str z) = false := rfl
theorem ty_bool_list : isTyB .bool (.list xs) = false := rfl
theorem ty_bool_tuple : isTyB .bool (.tuple xs) = false := rfl
theorem ty_bool_dict : isTyB .bool (.dict kvs) = false := rfl
theorem ty_tuple_none : isTyB .tuple .none = false := rfl
theorem ty_tuple_bool : isTyB .tuple (.bool b) = false := rfl
theorem ty_tuple_int : isTyB .tuple (.int i) = false := rfl
theorem ty_tuple_str : isTyB .tuple (.str z) = false := rfl
theorem ty_tuple_list : isTyB .tuple (.list xs) = false := rfl
theorem ty_tuple_tuple : isTyB .tuple (.tuple xs) = true := rfl
theorem ty_tuple_dict : isTyB .tuple (.dict kvs) = false := rfl
theorem ty_str_none : isTyB .str .none = false := rfl
theorem ty_str_bool : isTyB .str (.bool b) = false := rfl
theorem ty_str_int : isTyB .str (.int i) = false := rfl
theorem ty_str_str : isTyB .str (.str z) = true := rfl
theorem ty_str_list : isTyB .str (.list xs) = false := rfl
theorem ty_str_tuple : isTyB .str (.tuple xs) = false := rfl
theorem ty_str_dict : isTyB .str (.dict kvs) = false := rfl
end
theorem q_nn : vIsN (.d .none) = some true := rfl
theorem q_ni : vIsN (.d (.int i)) = some false := rfl
theorem q_nb : vIsN (.d (.bool b)) = some false := rfl
theorem q_ns : vIsN (.d (.str z)) = some false := rfl
theorem q_nt : vIsN (.d (.tuple xs)) = some false := rfl
theorem q_nl : vIsN (.d (.list xs)) = some false := rfl
theorem q_nN (v : Val) : vIsNot v = (vIsN v).map (!·) := rfl
theorem q_d0 : datas [] = some [] := rfl
theorem q_d1 (vs : List Val) : datas (.d x :: vs) = (datas vs).map (x :: ·) := rfl
theorem q_seql : seqOf (.d (.list xs)) = some xs := rfl
theorem q_seqt : seqOf (.d (.tuple xs)) = some xs := rfl
theorem q_seqo : seqOf (.own xs) = some xs := rfl
theorem q_lstl : lstOf (.d (.list xs)) = some xs := rfl
theorem q_lsto : lstOf (.own xs) = some xs := rfl
theorem q_dsl : dSeq (.d (.list xs)) = some xs := rfl
theorem q_dst : dSeq (.d (.tuple xs)) = some xs := rfl
theorem q_eqi : vEq (.d (.int i)) (.d (.int j)) = some (decide (i = j)) := by
  unfold vEq vEqD
  by_cases h : i = j <;> simp [datOf, okD, SeqAt.shaped, PyData.eqv, PyData.canLay0, PyData.depth, h]
theorem q_eqs : vEq (.d (.str z)) (.d (.str z')) = some (decide (z = z')) := rfl
theorem q_ne (u v : Val) : vNe u v = (vEq u v).map (!·) := rfl
theorem q_mul (h : i.natAbs.log2 + j.natAbs.log2 < 1000000) : vMul (.d (.int i)) (.d (.int j)) = some (.int (i * j)) := cif_pos h
theorem q_mod (h : 0 < j) : vMod (.d (.int i)) (.d (.int j)) = some (.int (i % j)) := if_pos h
theorem q_div (h : 0 < j ∧ j.natAbs.log2 < 9000) : vFdiv (.d (.int i)) (.d (.int j)) = some (.int (i / j)) := if_pos h
theorem q_pow (h : 0 ≤ j ∧ j ≤ 1000000 ∧ i.natAbs < 2 ^ 64) : vPow (.d (.int i)) (.d (.int j)) = some (.int (i ^ j.toNat)) := cif_pos h
end
end Dl
set_option maxRecDepth 100000
set_option maxHeartbeats 4000000
namespace Dl
open PySem L2
/-! ### further forms -/
section
variable {S : Type}
/-- a op b op' c op'' d -/
def eChain3 (f g h : Val → Val → Option Bool) (a b c d : Rho → S → Res S Val) : Rho → S → Res S Bool := fun ρ st => (a ρ st).bind fun x st1 => (b ρ st1).bind fun y st2 => match f x y with
  | some true => (c ρ st2).bind fun z st3 => match g y z with
    | some true => (d ρ st3).bind fun u st4 => liftB (h z u) st4
    | some false => .ok false st3
    | none => .stuck
  | some false => .ok false st2
  | none => .stuck
theorem x_chain3 {f g h : Val → Val → Option Bool} {a b c d : Rho → S → Res S Val} {ρ : Rho} {st : S} : eChain3 f g h a b c d ρ st = @bnd _ _ _ (a ρ st) fun x st1 => @bnd _ _ _ (b ρ st1) fun y st2 => condB (f x y) (@bnd _ _ _ (c ρ st2) fun z st3 => condB (g y z) (@bnd _ _ _ (d ρ st3) fun u st4 => liftB (h z u) st4) st3) st2 := rfl
end
section
variable {U : Uni} {X : Cx} {W : WX} {pos : Pos}
theorem ped_dict0 : PEd U X W (.Dict [] [] pos) (eC (.dict [])) := by
  refine pe_imp pe_dnewK fun σ H Q ⟨Z, ρ, st, I, M, ft, ps⟩ => ?_
  intro p hp
  obtain ⟨g, k⟩ := Grow.alloc (o := .dK []) ft.ok hp
  exact ps (.ref p) _ M _ g k ft.rs (Rp.dct (ks := []) (xs := []) (ds := []) upd_same rfl .nil)
end
end Dl
set_option maxRecDepth 100000
set_option maxHeartbeats 4000000
namespace Dl
open PySem L2 PySem.Spec PyProof.Rows
/-! ### a dict that is written out: text keys, int values -/
def dLook (kvs : List (Str × Int)) (z : Str) : Option Int := (kvs.find? fun p => decide (p.1 = z)).map (·.2)
section
variable {S : Type}
def eDGet (kvs : List (Str × Int)) (d : Int) (F : Rho → S → Res S Val) : Rho → S → Res S Val := fun ρ st => (F ρ st).bind fun x st1 => match x with
  | .d (.str z) => .ok (.d (.int ((dLook kvs z).getD d))) st1
  | _ => .stuck
def eDIx (kvs : List (Str × Int)) (F : Rho → S → Res S Val) : Rho → S → Res S Val := fun ρ st => (F ρ st).bind fun x st1 => match x with
  | .d (.str z) => (match dLook kvs z with
    | some i => .ok (.d (.int i)) st1
    | none => .stuck)
  | _ => .stuck
theorem x_dget {kvs : List (Str × Int)} {d : Int} {F : Rho → S → Res S Val} {ρ : Rho} {st : S} : eDGet kvs d F ρ st = @bnd _ _ _ (F ρ st) fun x st1 => match x with
  | .d (.str z) => .ok (.d (.int ((dLook kvs z).getD d))) st1
  | _ => .stuck := rfl
theorem x_dix {kvs : List (Str × Int)} {F : Rho → S → Res S Val} {ρ : Rho} {st : S} : eDIx kvs F ρ st = @bnd _ _ _ (F ρ st) fun x st1 => match x with
  | .d (.str z) => (match dLook kvs z with
    | some i => .ok (.d (.int i)) st1
    | none => .stuck)
  | _ => .stuck := rfl
end
def kvV (kvs : List (Str × Int)) : List (Key × V) := kvs.map fun p => (Sum.inr p.1, V.int p.2)
def cps (kvs : List (Str × Int)) : List (TE × TE) := kvs.map fun p => (tC (.str p.1), tC (.int p.2))
theorem pairs_cps {σ : L2.St} {H : Hp} : ∀ {kvs : List (Str × Int)} {Q : List (V × V) → Hp → Prop}, Q (kvs.map fun p => (V.str p.1, V.int p.2)) H → tPairs (cps kvs) σ H Q
  | [], _, q => q
  | p :: r, _, q => pairs_cps (kvs := r) q
theorem merge_kv : ∀ {kvs : List (Str × Int)} {acc : List (Key × V)}, (kvs.map (·.1)).Nodup → (∀ p ∈ kvs, ∀ q ∈ acc, q.1 ≠ Sum.inr p.1) → mergeK acc (kvV kvs) = acc ++ kvV kvs
  | [], acc, _, _ => by simp [mergeK, kvV]
  | p :: r, acc, hn, h => by
    have hn' : p.1 ∉ r.map (·.1) ∧ (r.map (·.1)).Nodup := by simpa using hn
    have e : putK acc (Sum.inr p.1 : Key) (V.int p.2) = acc ++ [(Sum.inr p.1, V.int p.2)] := by
      unfold putK
      rw [if_neg]
      intro hc
      obtain ⟨q, hq, hq2⟩ := List.any_eq_true.mp hc
      exact h p List.mem_cons_self q hq (of_decide_eq_true hq2)
    show mergeK (putK acc (Sum.inr p.1 : Key) (V.int p.2)) (kvV r) = _
    rw [e, merge_kv hn'.2]
    · simp [kvV]
    · intro q hq u hu
      rcases List.mem_append.mp hu with hu | hu
      · exact h q (List.mem_cons_of_mem _ hq) u hu
      · simp at hu
        subst hu
        intro hz
        exact hn'.1 (List.mem_map.mpr ⟨q, hq, (Sum.inr.inj hz).symm⟩)
theorem val_kv (z : Str) : ∀ kvs : List (Str × Int), valV (kvV kvs) (Sum.inr z : Key) = (dLook kvs z).map V.int
  | [] => rfl
  | p :: r => by
    by_cases h : p.1 = z
    · have h1 : (Sum.inr p.1 : Key) = Sum.inr z := by rw [h]
      rw [show kvV (p :: r) = (Sum.inr p.1, V.int p.2) :: kvV r from rfl, valV_pos (p := ((Sum.inr p.1 : Key), V.int p.2)) h1]
      simp [dLook, List.find?_cons, h]
    · have h1 : ¬ (Sum.inr p.1 : Key) = Sum.inr z := fun e => h (Sum.inr.inj e)
      rw [show kvV (p :: r) = (Sum.inr p.1, V.int p.2) :: kvV r from rfl, valV_neg (p := ((Sum.inr p.1 : Key), V.int p.2)) h1, val_kv z r]
      simp [dLook, List.find?_cons, h]
section
variable {U : Uni} {X : Cx} {W : WX} {e f : Expr} {F : Rho → U.S → Res U.S Val} {keys : List (Option Expr)} {values : List Expr} {pos apos cpos : Pos} {kvs : List (Str × Int)} {d : Int}
/-- the dict itself: an object of its own -/
theorem disp_read {σ : L2.St} {H : Hp} {Q : VK} (hnd : (kvs.map (·.1)).Nodup) (h15 : kvs.length ≤ 15) (h : ∀ p, H p = none → Q (.ref p) (upd H p (.dK (kvV kvs)))) : tDisp (cps kvs) σ H Q := by
  intro p hp
  refine pairs_cps ⟨upd_same, kvV kvs, ?_, by simp [kvV]; exact h15, ?_⟩
  · simp [kvV, kV]
  · rw [merge_kv hnd (by intro _ _ _ h; cases h), List.nil_append]
    have e : upd (upd H p (.dK [])) p (.dK (kvV kvs)) = upd H p (.dK (kvV kvs)) := by
      funext b
      by_cases hb : b = p
      · subst hb; rw [upd_same, upd_same]
      · rw [upd_ne hb, upd_ne hb, upd_ne hb]
    rw [e]
    exact h p hp
theorem ped_dget (hu : X.A.units + 1 < cLine) (hnd : (kvs.map (·.1)).Nodup) (hp : PPs X pos keys values (cps kvs)) (hall : keys.all (·.isSome) = true) (hl : keys.length = values.length) (h0 : keys ≠ []) (h15 : keys.length ≤ 15) (hk : kvs.length ≤ 15) (he : PEd U X W e F) (hf : PE X f (tC (.int d)))
    (m : M2 X (.Dict keys values pos) "get" apos e f cpos) : PEd U X W (.Call (.Attribute (.Dict keys values pos) "get" apos) [e, f] [] cpos) (eDGet kvs d F) := by
  refine pe_imp (pe_dget2 hu (pe_disp hp hall hl h0 h15) he hf m) fun σ H Q ⟨Z, ρ, st, I, M, ft, ps⟩ => ?_
  refine disp_read hnd hk fun p hp => ?_
  obtain ⟨g0, k0⟩ := Grow.allocO (o := .dK (kvV kvs)) ft.ok hp
  have ft0 : Fit U X.K Z σ ρ st I M (upd H p (.dK (kvV kvs))) := ft.grow g0 k0 ft.rs
  refine ⟨p, rfl, .inl ⟨_, .inl upd_same⟩, ?_⟩
  refine Post.next ft0 (Post.shift g0 ps) fun st1 y v I1 M1 H1 g1 ft1 hy ps1 => ?_
  match v, hy, ps1 with
  | .d (.str z), hy, ps1 =>
    cases Rp.str_inv hy
    have hpH : H1 p = some (.dK (kvV kvs)) := g1.kp p _ upd_same (ft.ok.mh.free hp)
    refine ⟨_, DGet.k (k := Sum.inr z) hpH, ?_⟩
    rw [val_kv]
    have : ((dLook kvs z).map V.int).getD (.int d) = .int ((dLook kvs z).getD d) := by cases dLook kvs z <;> rfl
    rw [this]
    exact Post.okE ps1 ft1.ok ft1.rs (.int _)
theorem ped_dix (hu : X.A.units + 1 < cLine) (hnd : (kvs.map (·.1)).Nodup) (hp : PPs X pos keys values (cps kvs)) (hall : keys.all (·.isSome) = true) (hl : keys.length = values.length) (h0 : keys ≠ []) (h15 : keys.length ≤ 15) (hk : kvs.length ≤ 15) (he : PEd U X W e F)
    (hs : PlainIx e) : PEd U X W (.Subscript (.Dict keys values pos) e cpos) (eDIx kvs F) := by
  refine pe_imp (pe_dget hu (pe_disp hp hall hl h0 h15) he hs) fun σ H Q ⟨Z, ρ, st, I, M, ft, ps⟩ => ?_
  refine disp_read hnd hk fun p hp => ?_
  obtain ⟨g0, k0⟩ := Grow.allocO (o := .dK (kvV kvs)) ft.ok hp
  have ft0 : Fit U X.K Z σ ρ st I M (upd H p (.dK (kvV kvs))) := ft.grow g0 k0 ft.rs
  refine Post.next ft0 (Post.shift g0 ps) fun st1 y v I1 M1 H1 g1 ft1 hy ps1 => ?_
  match v, hy, ps1 with
  | .d (.str z), hy, ps1 =>
    cases Rp.str_inv hy
    have hpH : H1 p = some (.dK (kvV kvs)) := g1.kp p _ upd_same (ft.ok.mh.free hp)
    cases hz : dLook kvs z with
    | none => simp only [hz] at ps1; exact False.elim ps1
    | some i =>
      simp only [hz] at ps1
      have := DGet.k (k := Sum.inr z) hpH
      rw [val_kv, hz] at this
      exact ⟨p, .int i, rfl, this, Post.okE ps1 ft1.ok ft1.rs (.int _)⟩
end
/-! ### a op b op' c op'' d -/
def tCh3 (r r' r'' : R2) (ta tb tc td : TE) : TT := fun σ H Q => ta σ H fun x H1 => tb σ H1 fun y H2 => r x y H2 fun z H3 => ∃ k, z = .bl k ∧
  (if k = true then tc σ H3 fun w H4 => r' y w H4 fun z2 H5 => ∃ k2, z2 = .bl k2 ∧ (if k2 = true then td σ H5 fun v H6 => r'' w v H6 fun z3 H7 => ∃ k3, z3 = .bl k3 ∧ Q k3 H7 else Q false H5) else Q false H3)
section
variable {X : Cx} {a b c d : Expr} {ta tb tc td : TE} {pos : Pos}
theorem pt_chain3 {op op' op'' : CmpOp} {r r' r'' : R2} (ho : OpR X (compareOp op) r) (ho' : OpR X (compareOp op') r') (ho'' : OpR X (compareOp op'') r'') (ha : PE X a ta) (hb : PE X b tb) (hc : PE X c tc) (hd : PE X d td)
    (hm : lastMarks [op, op', op''] [b, c, d] = false := by with_unfolding_all rfl) : PT X (.Compare a [op, op', op''] [b, c, d] pos) (tCh3 r r' r'' ta tb tc td) := by
  refine ⟨fun pins s σ H Q I h => ?_⟩
  refine isTrue_chain (thn (ha.run pins s σ H _ I h) fun v s1 ⟨x, H1, I1, r1, q1⟩ => test_link (thn (hb.run pins s1 σ H1 _ I1 q1) fun u s2 ⟨y, H2, I2, r2, q2⟩ =>
    thn (ho pins s2 σ H2 x y v u _ I2 r1 r2 q2) fun d s3 ⟨z, H3, I3, r3, k, e, q3⟩ => ?_)) hm
  subst e
  cases r3
  refine wpAny_truthy_bool ?_
  cases k with
  | false => exact ite_ff ⟨H3, I3, q3⟩
  | true =>
    refine ite_tt (test_link (thn (hc.run pins s3 σ H3 _ I3 q3) fun w' s4 ⟨z', H4, I4, r4, q4⟩ => thn (ho' pins s4 σ H4 y z' u w' _ I4 r2 r4 q4) fun d' s5 ⟨z2, H5, I5, r5, k2, e2, q5⟩ => ?_))
    subst e2
    cases r5
    refine wpAny_truthy_bool ?_
    cases k2 with
    | false => exact ite_ff ⟨H5, I5, q5⟩
    | true =>
      refine ite_tt (test_last (thn (hd.run pins s5 σ H5 _ I5 q5) fun w2 s6 ⟨z3, H6, I6, r6, q6⟩ => thn (ho'' pins s6 σ H6 z' z3 w' w2 _ I6 r4 r6 q6) fun d2 s7 ⟨z4, H7, I7, r7, k3, e3, q7⟩ => ?_))
      subst e3
      cases r7
      exact wpAny_truthy_bool ⟨H7, I7, q7⟩
end
section
variable {U : Uni} {X : Cx} {W : WX} {a b c d : Expr} {Fa Fb Fc Fd : Rho → U.S → Res U.S Val} {pos : Pos}
theorem ptd_chain3 {op op' op'' : CmpOp} {r r' r'' : R2} {f g h : Val → Val → Option Bool} (ho : OpR X (compareOp op) r) (hf : Cmp2D X.K r f) (ho' : OpR X (compareOp op') r') (hg : Cmp2D X.K r' g) (ho'' : OpR X (compareOp op'') r'') (hh : Cmp2D X.K r'' h)
    (ha : PEd U X W a Fa) (hb : PEd U X W b Fb) (hc : PEd U X W c Fc) (hd : PEd U X W d Fd)
    (hm : lastMarks [op, op', op''] [b, c, d] = false := by with_unfolding_all rfl) : PTd U X W (.Compare a [op, op', op''] [b, c, d] pos) (eChain3 f g h Fa Fb Fc Fd) := by
  refine pt_imp (pt_chain3 ho ho' ho'' ha hb hc hd hm) fun σ H Q hq => ?_
  refine tG.bind hq fun Z ρ st1 x u I1 M1 H1 ft hx ps => ?_
  refine Post.next ft ps fun st2 y v I2 M2 H2 g2 ft2 hy ps2 => ?_
  cases e : f u v with
  | none => simp only [e] at ps2; exact False.elim ps2
  | some w =>
    refine hf x y u v w I2 M2 H2 _ ft2.ok (VR.grow g2 hx) hy e ⟨w, rfl, ?_⟩
    cases w with
    | false =>
      simp only [e] at ps2
      exact iteF (ps2 false I2 M2 H2 (Grow.refl _ _ _) ft2.ok ft2.rs rfl)
    | true =>
      simp only [e] at ps2
      refine iteT (Post.next ft2 ps2 fun st3 z q I3 M3 H3 g3 ft3 hz ps3 => ?_)
      cases e2 : g v q with
      | none => simp only [e2] at ps3; exact False.elim ps3
      | some w2 =>
        refine hg y z v q w2 I3 M3 H3 _ ft3.ok (VR.grow g3 hy) hz e2 ⟨w2, rfl, ?_⟩
        cases w2 with
        | false =>
          simp only [e2] at ps3
          exact iteF (ps3 false I3 M3 H3 (Grow.refl _ _ _) ft3.ok ft3.rs rfl)
        | true =>
          simp only [e2] at ps3
          refine iteT (Post.next ft3 ps3 fun st4 z4 q4 I4 M4 H4 g4 ft4 hz4 ps4 => ?_)
          obtain ⟨w4, e4, q5⟩ := Post.liftB ps4 ft4.ok ft4.rs
          exact hh z z4 q q4 w4 I4 M4 H4 _ ft4.ok (VR.grow g4 hz) hz4 e4 ⟨w4, rfl, q5⟩
end
end Dl
set_option maxRecDepth 100000
set_option maxHeartbeats 4000000
namespace Dl
open PySem L2 PySem.Spec PyProof.Rows
/-! ### a new list, of two -/
section
variable {S : Type}
def nCat (a b : Rho → S → Res S Val) : Rho → S → Res S (List PyData) := fun ρ st => (a ρ st).bind fun x st1 => (b ρ st1).bind fun y st2 => match lstOf x, lstOf y with
  | some ds, some es => if ds.length + es.length ≤ 1000000 then .ok (ds ++ es) st2 else .stuck
  | _, _ => .stuck
theorem x_nCat {a b : Rho → S → Res S Val} {ρ : Rho} {st : S} : nCat a b ρ st = @bnd _ _ _ (a ρ st) fun x st1 => @bnd _ _ _ (b ρ st1) fun y st2 => match lstOf x, lstOf y with
  | some ds, some es => if ds.length + es.length ≤ 1000000 then .ok (ds ++ es) st2 else .stuck
  | _, _ => .stuck := rfl
end
section
variable {U : Uni} {X : Cx} {W : WX} {a b : Expr} {Fa Fb : Rho → U.S → Res U.S Val} {pos : Pos}
theorem pnd_cat (ha : PEd U X W a Fa) (hb : PEd U X W b Fb) : PNd U X W (.BinOp a .Add b pos) (nCat Fa Fb) := by
  refine pe_imp (pe_op op_cat ha hb) fun σ H Q h => ?_
  refine tN.bind h fun Z ρ st1 x v I1 M1 H1 ft hx ps => ?_
  refine PostN.next ft ps fun st2 y u I2 M2 H2 g ft2 hy ps2 => ?_
  have hx2 := VR.grow g hx
  cases z : lstOf v with
  | none => simp only [z] at ps2; exact False.elim ps2
  | some ds =>
    cases z2 : lstOf u with
    | none => simp only [z, z2] at ps2; exact False.elim ps2
    | some es =>
      simp only [z, z2] at ps2
      by_cases hc : ds.length + es.length ≤ 1000000
      · rw [if_pos hc] at ps2
        obtain ⟨p, xs, rfl, h1, r1⟩ := VR.lst ft2.ok hx2 z
        obtain ⟨p', ys, rfl, h2, r2⟩ := VR.lst ft2.ok hy z2
        exact ⟨p, p', xs, ys, rfl, rfl, h1, h2, sz (by rw [r1.len, r2.len]; exact hc), fun l hl => PostN.fin ps2 ft2.ok ft2.rs (r1.append r2) hl⟩
      · rw [if_neg hc] at ps2
        exact False.elim ps2
end
/-! ### two stores at once, lists of the slots' own among them -/
section
variable {S : Type}
def sParNV (i j : Nat) (N : Rho → S → Res S (List PyData)) (F : Rho → S → Res S Val) : Rho → S → SRes S := fun ρ st => sBind (N ρ st) ρ fun ds st1 => sBind (F ρ st1) ρ fun v st2 => if isDR v = true then .next ((ρ.set i (some (.own ds))).set j (some v)) st2 else .stuck
def sParVN (i j : Nat) (F : Rho → S → Res S Val) (N : Rho → S → Res S (List PyData)) : Rho → S → SRes S := fun ρ st => sBind (F ρ st) ρ fun v st1 => sBind (N ρ st1) ρ fun ds st2 => if isDR v = true then .next ((ρ.set i (some v)).set j (some (.own ds))) st2 else .stuck
def sParNN (i j : Nat) (N N2 : Rho → S → Res S (List PyData)) : Rho → S → SRes S := fun ρ st => sBind (N ρ st) ρ fun ds st1 => sBind (N2 ρ st1) ρ fun es st2 => .next ((ρ.set i (some (.own ds))).set j (some (.own es))) st2
variable {E : En S} {ρ : Rho} {st : S} {i j : Nat} {N N2 : Rho → S → Res S (List PyData)} {F : Rho → S → Res S Val}
theorem w_parNV : @Ws _ (sParNV i j N F ρ st) E = @Wp _ _ (N ρ st) (fun c fs s => E.x c fs ρ s) fun ds st1 => @Wp _ _ (F ρ st1) (fun c fs s => E.x c fs ρ s) fun v st2 => isDR v = true ∧ E.n ((ρ.set i (some (.own ds))).set j (some v)) st2 := by
  unfold sParNV
  rw [show (@Ws _ (sBind (N ρ st) ρ _) E) = _ from propext ws_bind]
  congr 1
  funext ds st1
  rw [show (@Ws _ (sBind (F ρ st1) ρ _) E) = _ from propext ws_bind]
  congr 1
  funext v st2
  by_cases h : isDR v = true
  · rw [if_pos h, h]; simp [Ws]
  · rw [if_neg h]; simp [Ws, h]
theorem w_parVN : @Ws _ (sParVN i j F N ρ st) E = @Wp _ _ (F ρ st) (fun c fs s => E.x c fs ρ s) fun v st1 => @Wp _ _ (N ρ st1) (fun c fs s => E.x c fs ρ s) fun ds st2 => isDR v = true ∧ E.n ((ρ.set i (some v)).set j (some (.own ds))) st2 := by
  unfold sParVN
  rw [show (@Ws _ (sBind (F ρ st) ρ _) E) = _ from propext ws_bind]
  congr 1
  funext v st1
  rw [show (@Ws _ (sBind (N ρ st1) ρ _) E) = _ from propext ws_bind]
  congr 1
  funext ds st2
  by_cases h : isDR v = true
  · rw [if_pos h, h]; simp [Ws]
  · rw [if_neg h]; simp [Ws, h]
theorem w_parNN : @Ws _ (sParNN i j N N2 ρ st) E = @Wp _ _ (N ρ st) (fun c fs s => E.x c fs ρ s) fun ds st1 => @Wp _ _ (N2 ρ st1) (fun c fs s => E.x c fs ρ s) fun es st2 => E.n ((ρ.set i (some (.own ds))).set j (some (.own es))) st2 := by
  unfold sParNN
  rw [show (@Ws _ (sBind (N ρ st) ρ _) E) = _ from propext ws_bind]
  congr 1
  funext ds st1
  exact propext ws_bind
end
section
variable {U : Uni} {X : Cx} {W : WX} {i j : Nat} {x y : Str} {a b : Expr} {px py pt pos : Pos} {kt : Nat} {k2 : Nat} {pt2 : Pos} {N N2 : Rho → U.S → Res U.S (List PyData)} {F : Rho → U.S → Res U.S Val}
theorem own_fresh {K : PySem.W.Frag} {Z : Base} {σ : L2.St} {ρ : Rho} {st : U.S} {I : Hp} {M : Mw} {H : Hp} {p : Addr} (ft : Fit U K Z σ ρ st I M H) (h0 : H p = none) : Z.H p = none ∧ ∀ (l : Nat) es q, ρ[l]? = some (some (.own es)) → σ[l]? = some (some (.ref q)) → q ≠ p := by
  refine ⟨?_, fun l es q e1 e2 => ?_⟩
  · cases w : Z.H p with
    | none => rfl
    | some o => exact absurd h0 (ft.g.th p (ne_none_of w))
  · obtain ⟨q', us, e3, h1, _⟩ := ft.own e1
    rw [e3] at e2
    cases e2
    exact ne_of_none h1 h0
theorem psd_parNV (hc : X.calm = true) (hN : X.N.Nodup) (hi : X.N[i]? = some x) (hj : X.N[j]? = some y) (hij : i ≠ j)
    (hx : X.env.scope.names.lookup x = some .local) (hy : X.env.scope.names.lookup y = some .local) (ha : PNd U X W a N) (hb : PEd U X W b F)
    (hw : swappedStores [.Tuple [.Name x px, .Name y py] kt pt] (.Tuple [a, b] k2 pt2) X.env = pure (some [x, y]) := by rfl)
    (hs : swapsWithSole [.Tuple [.Name x px, .Name y py] kt pt] (.Tuple [a, b] k2 pt2) pos.line X.env = pure false := by rfl)
    (h1 : starEach (a :: [b]) X.env = (false, eval a X.env) :: starEach [b] X.env := by rfl) (h2 : starEach (b :: []) X.env = (false, eval b X.env) :: starEach [] X.env := by rfl) :
    PSd U X W (.Assign [.Tuple [.Name x px, .Name y py] kt pt] (.Tuple [a, b] k2 pt2) pos) (sParNV i j N F) := by
  refine ps_imp (ps_par hc hN hi hj hij hx hy (pa_cons ha (pa_cons hb pa_nil h2) h1) hw hs) fun D σ H ⟨Z, ρ, st, I, M, ft, ps⟩ => ?_
  unfold sParNV at ps
  refine ⟨Z, ρ, st, I, M, ft, ?_⟩
  cases z : N ρ st with
  | stuck => rw [z] at ps; exact ps
  | exc c fs st1 => rw [z] at ps; exact fun cls d I1 M1 H1 g k r q => ps σ cls d I1 M1 H1 g.i (ft.grow g k r) q
  | ok ds st1 =>
    rw [z] at ps
    intro p vs I1 M1 H1 h0 g k r hp hi0 hm ra
    refine ⟨Z, ρ, st1, I1, M1, ft.grow g k r, ?_⟩
    have ps : SPost U X.K W Z I D (sBind (F ρ st1) ρ fun v st2 => if isDR v = true then .next ((ρ.set i (some (.own ds))).set j (some v)) st2 else .stuck) := ps
    cases z2 : F ρ st1 with
    | stuck => rw [z2] at ps; exact ps
    | exc c fs st2 => rw [z2] at ps; exact fun cls d I2 M2 H2 g2 k2 r2 q => ps σ cls d I2 M2 H2 (g.i.trans g2.i) ((ft.grow g k r).grow g2 k2 r2) q
    | ok v st2 =>
      rw [z2] at ps
      intro u I2 M2 H2 g2 k2 r2 hv
      obtain ⟨p', vs', e, hp2, hi2, hm2, ra2⟩ := VR.grow g2 (show VR X.K I1 M1 H1 (.ref p) (.own ds) from ⟨p, vs, rfl, hp, hi0, hm, ra⟩)
      cases e
      obtain ⟨f1, f2⟩ := own_fresh ft h0
      have ps : SPost U X.K W Z I D (if isDR v = true then .next ((ρ.set i (some (.own ds))).set j (some v)) st2 else .stuck) := ps
      by_cases hd : isDR v = true
      · rw [if_pos hd] at ps
        exact ⟨_, _, rfl, ps _ I2 M2 H2 (g.i.trans g2.i) ((((ft.grow g k r).grow g2 k2 r2).setNew i f1 f2 hp2 hi2 hm2 ra2).set j hv hd)⟩
      · rw [if_neg hd] at ps; exact False.elim ps
theorem psd_parVN (hc : X.calm = true) (hN : X.N.Nodup) (hi : X.N[i]? = some x) (hj : X.N[j]? = some y) (hij : i ≠ j)
    (hx : X.env.scope.names.lookup x = some .local) (hy : X.env.scope.names.lookup y = some .local) (ha : PEd U X W a F) (hb : PNd U X W b N)
    (hw : swappedStores [.Tuple [.Name x px, .Name y py] kt pt] (.Tuple [a, b] k2 pt2) X.env = pure (some [x, y]) := by rfl)
    (hs : swapsWithSole [.Tuple [.Name x px, .Name y py] kt pt] (.Tuple [a, b] k2 pt2) pos.line X.env = pure false := by rfl)
    (h1 : starEach (a :: [b]) X.env = (false, eval a X.env) :: starEach [b] X.env := by rfl) (h2 : starEach (b :: []) X.env = (false, eval b X.env) :: starEach [] X.env := by rfl) :
    PSd U X W (.Assign [.Tuple [.Name x px, .Name y py] kt pt] (.Tuple [a, b] k2 pt2) pos) (sParVN i j F N) := by
  refine ps_imp (ps_par hc hN hi hj hij hx hy (pa_cons ha (pa_cons hb pa_nil h2) h1) hw hs) fun D σ H ⟨Z, ρ, st, I, M, ft, ps⟩ => ?_
  unfold sParVN at ps
  refine ⟨Z, ρ, st, I, M, ft, ?_⟩
  cases z : F ρ st with
  | stuck => rw [z] at ps; exact ps
  | exc c fs st1 => rw [z] at ps; exact fun cls d I1 M1 H1 g k r q => ps σ cls d I1 M1 H1 g.i (ft.grow g k r) q
  | ok v st1 =>
    rw [z] at ps
    intro u I1 M1 H1 g k r hv
    refine ⟨Z, ρ, st1, I1, M1, ft.grow g k r, ?_⟩
    have ps : SPost U X.K W Z I D (sBind (N ρ st1) ρ fun ds st2 => if isDR v = true then .next ((ρ.set i (some v)).set j (some (.own ds))) st2 else .stuck) := ps
    cases z2 : N ρ st1 with
    | stuck => rw [z2] at ps; exact ps
    | exc c fs st2 => rw [z2] at ps; exact fun cls d I2 M2 H2 g2 k2 r2 q => ps σ cls d I2 M2 H2 (g.i.trans g2.i) ((ft.grow g k r).grow g2 k2 r2) q
    | ok ds st2 =>
      rw [z2] at ps
      intro p vs I2 M2 H2 h0 g2 k2 r2 hp hi0 hm ra
      have ft2 := (ft.grow g k r).grow g2 k2 r2
      have hv2 := VR.grow g2 hv
      obtain ⟨f1, f2⟩ := own_fresh (ft.grow g k r) h0
      have ps : SPost U X.K W Z I D (if isDR v = true then .next ((ρ.set i (some v)).set j (some (.own ds))) st2 else .stuck) := ps
      by_cases hd : isDR v = true
      · rw [if_pos hd] at ps
        refine ⟨_, _, rfl, ps _ I2 M2 H2 (g.i.trans g2.i) ((ft2.set i hv2 hd).setNew j f1 (fun l es q e1 e2 => ?_) hp hi0 hm ra)⟩
        by_cases hl : l = i
        · subst hl
          have hlt : l < ρ.length := by
            have := (List.getElem?_eq_some_iff.mp e1).1
            simpa using this
          rw [List.getElem?_set_self hlt] at e1
          cases e1
          cases hd
        · rw [List.getElem?_set_ne (Ne.symm hl)] at e1 e2
          exact f2 l es q e1 e2
      · rw [if_neg hd] at ps; exact False.elim ps
theorem psd_parNN (hc : X.calm = true) (hN : X.N.Nodup) (hi : X.N[i]? = some x) (hj : X.N[j]? = some y) (hij : i ≠ j)
    (hx : X.env.scope.names.lookup x = some .local) (hy : X.env.scope.names.lookup y = some .local) (ha : PNd U X W a N) (hb : PNd U X W b N2)
    (hw : swappedStores [.Tuple [.Name x px, .Name y py] kt pt] (.Tuple [a, b] k2 pt2) X.env = pure (some [x, y]) := by rfl)
    (hs : swapsWithSole [.Tuple [.Name x px, .Name y py] kt pt] (.Tuple [a, b] k2 pt2) pos.line X.env = pure false := by rfl)
    (h1 : starEach (a :: [b]) X.env = (false, eval a X.env) :: starEach [b] X.env := by rfl) (h2 : starEach (b :: []) X.env = (false, eval b X.env) :: starEach [] X.env := by rfl) :
    PSd U X W (.Assign [.Tuple [.Name x px, .Name y py] kt pt] (.Tuple [a, b] k2 pt2) pos) (sParNN i j N N2) := by
  refine ps_imp (ps_par hc hN hi hj hij hx hy (pa_cons ha (pa_cons hb pa_nil h2) h1) hw hs) fun D σ H ⟨Z, ρ, st, I, M, ft, ps⟩ => ?_
  unfold sParNN at ps
  refine ⟨Z, ρ, st, I, M, ft, ?_⟩
  cases z : N ρ st with
  | stuck => rw [z] at ps; exact ps
  | exc c fs st1 => rw [z] at ps; exact fun cls d I1 M1 H1 g k r q => ps σ cls d I1 M1 H1 g.i (ft.grow g k r) q
  | ok ds st1 =>
    rw [z] at ps
    intro p vs I1 M1 H1 h0 g k r hp hi0 hm ra
    refine ⟨Z, ρ, st1, I1, M1, ft.grow g k r, ?_⟩
    have ps : SPost U X.K W Z I D (sBind (N2 ρ st1) ρ fun es st2 => .next ((ρ.set i (some (.own ds))).set j (some (.own es))) st2) := ps
    cases z2 : N2 ρ st1 with
    | stuck => rw [z2] at ps; exact ps
    | exc c fs st2 => rw [z2] at ps; exact fun cls d I2 M2 H2 g2 k2 r2 q => ps σ cls d I2 M2 H2 (g.i.trans g2.i) ((ft.grow g k r).grow g2 k2 r2) q
    | ok es st2 =>
      rw [z2] at ps
      intro p2 us I2 M2 H2 h02 g2 k2 r2 hp2 hi2 hm2 ra2
      obtain ⟨p', vs', e, hp1, hi1, hm1, ra1⟩ := VR.grow g2 (show VR X.K I1 M1 H1 (.ref p) (.own ds) from ⟨p, vs, rfl, hp, hi0, hm, ra⟩)
      cases e
      obtain ⟨f1, f2⟩ := own_fresh ft h0
      obtain ⟨f3, f4⟩ := own_fresh (ft.grow g k r) h02
      have hne : p ≠ p2 := ne_of_none hp h02
      have ft3 := ((ft.grow g k r).grow g2 k2 r2).setNew i f1 f2 hp1 hi1 hm1 ra1
      refine ⟨_, _, rfl, ps _ I2 M2 H2 (g.i.trans g2.i) (ft3.setNew j f3 (fun l ws q e1 e2 => ?_) hp2 hi2 hm2 ra2)⟩
      by_cases hl : l = i
      · subst hl
        have hlt : l < ρ.length := by
          have := (List.getElem?_eq_some_iff.mp e1).1
          simpa using this
        rw [List.getElem?_set_self (by rw [← ft.len]; exact hlt)] at e2
        cases e2
        exact hne
      · rw [List.getElem?_set_ne (Ne.symm hl)] at e1 e2
        exact f4 l ws q e1 e2
end
/-! ### an owned list becomes data (it is changed no more) -/
section
variable {S : Type}
def sFrzS (i : Nat) (F : Rho → S → SRes S) : Rho → S → SRes S := fun ρ st => match ρ[i]? with
  | some (some (.own ds)) => F (ρ.set i (some (.d (.list ds)))) st
  | _ => .stuck
theorem w_frzS {i : Nat} {F : Rho → S → SRes S} {ρ : Rho} {st : S} {E : En S} : @Ws _ (sFrzS i F ρ st) E = @Ws _ (match ρ[i]? with
  | some (some (.own ds)) => F (ρ.set i (some (.d (.list ds)))) st
  | _ => .stuck) E := rfl
end
section
variable {U : Uni} {X : Cx} {W : WX} {s : Stmt} {F : Rho → U.S → SRes U.S}
theorem Fit.freeze {K : PySem.W.Frag} {Z : Base} {σ : L2.St} {ρ : Rho} {st : U.S} {I : Hp} {M : Mw} {H : Hp} (f : Fit U K Z σ ρ st I M H) {i : Nat} {ds : List PyData} (e : ρ[i]? = some (some (.own ds))) : ∃ I', Same I I' ∧ Fit U K Z σ (ρ.set i (some (.d (.list ds)))) st I' M H := by
  obtain ⟨q, vs, e', hp, hi, hm, r⟩ := f.own e
  obtain ⟨g', k', hs⟩ := freeze_ok f.g f.ok (f.new i ds q e e') hp hi hm
  refine ⟨_, hs, ⟨g', k', f.rs, by rw [List.length_set]; exact f.len, fun j v ej => ?_, fun j es p e1 e2 => ?_, fun j l es fs p e1 e2 e3 e4 => ?_, fun j t ks es p e1 e2 => ?_, fun j l t ks es t' ks' fs p e1 e2 e3 e4 => ?_⟩⟩
  · by_cases hj : j = i
    · subst hj
      have hlt : j < ρ.length := (List.getElem?_eq_some_iff.mp e).1
      rw [List.getElem?_set_self hlt] at ej
      cases ej
      exact ⟨_, e', Rp.lst upd_same (r.mono hs)⟩
    · rw [List.getElem?_set_ne (Ne.symm hj)] at ej
      obtain ⟨x, h1, h2⟩ := f.env j v ej
      refine ⟨x, h1, ?_⟩
      match v, h2, ej with
      | .d d, h2, _ => exact Rp.mono hs h2
      | .ref n, h2, _ => exact h2
      | .exc c fs, h2, _ => exact h2
      | .own es, h2, ej =>
        obtain ⟨p, us, hx, a1, a2, a3, a4⟩ := h2
        refine ⟨p, us, hx, a1, ?_, a3, a4.mono hs⟩
        rw [upd_ne (fun z => hj (f.sep j i es ds p ej e (by rw [h1, hx]) (by rw [z]; exact e')))]
        exact a2
      | .ownd t ks es, h2, ej =>
        obtain ⟨p, us, hx, a1, a2, a3, a4, a5⟩ := h2
        refine ⟨p, us, hx, a1, ?_, a3, a4, a5.mono hs⟩
        rw [upd_ne (fun z => by subst z; rw [hp] at a1; exact dHO_lst a1.symm)]
        exact a2
  · by_cases hj : j = i
    · subst hj
      have hlt : j < ρ.length := (List.getElem?_eq_some_iff.mp e).1
      rw [List.getElem?_set_self hlt] at e1
      cases e1
    · rw [List.getElem?_set_ne (Ne.symm hj)] at e1
      exact f.new j es p e1 e2
  · have hn : ∀ (j : Nat) es, (ρ.set i (some (.d (.list ds))))[j]? = some (some (.own es)) → ρ[j]? = some (some (.own es)) := fun j es e1 => by
      by_cases hj : j = i
      · subst hj
        have hlt : j < ρ.length := (List.getElem?_eq_some_iff.mp e).1
        rw [List.getElem?_set_self hlt] at e1
        cases e1
      · rw [List.getElem?_set_ne (Ne.symm hj)] at e1
        exact e1
    exact f.sep j l es fs p (hn j es e1) (hn l fs e2) e3 e4
  · by_cases hj : j = i
    · subst hj
      have hlt : j < ρ.length := (List.getElem?_eq_some_iff.mp e).1
      rw [List.getElem?_set_self hlt] at e1
      cases e1
    · rw [List.getElem?_set_ne (Ne.symm hj)] at e1
      exact f.newd j t ks es p e1 e2
  · have hn : ∀ (j : Nat) t ks es, (ρ.set i (some (.d (.list ds))))[j]? = some (some (.ownd t ks es)) → ρ[j]? = some (some (.ownd t ks es)) := fun j t ks es e1 => by
      by_cases hj : j = i
      · subst hj
        have hlt : j < ρ.length := (List.getElem?_eq_some_iff.mp e).1
        rw [List.getElem?_set_self hlt] at e1
        cases e1
      · rw [List.getElem?_set_ne (Ne.symm hj)] at e1
        exact e1
    exact f.sepd j l t ks es t' ks' fs p (hn j t ks es e1) (hn l t' ks' fs e2) e3 e4
theorem psd_frzS {i : Nat} (h : PSd U X W s F) : PSd U X W s (sFrzS i F) := by
  refine ps_imp h fun D σ H ⟨Z, ρ, st, I, M, ft, ps⟩ => ?_
  unfold sFrzS at ps
  split at ps
  · rename_i ds e
    obtain ⟨I', hs, ft'⟩ := ft.freeze e
    exact ⟨Z, _, st, I', M, ft', SPost.shift hs ps⟩
  · exact False.elim ps
end
theorem room65 {k : Nat} {A : Around} (h : Room k A) : A.units + 65 < cLine := by
  have := room70 h
  omega
/-! ### x in a list of things -/
def vInD (u v : Val) : Option Bool := (datOf u).bind fun d => (datOf v).bind fun e => match e with
  | .list ds => if okD d && okD (.list ds) then some (ds.any fun z => PyData.eqv z d) else none
  | _ => none
def vNotInD (u v : Val) : Option Bool := (vInD u v).map (!·)
theorem vInD_some {u v : Val} {w : Bool} (e : vInD u v = some w) : ∃ d ds, datOf u = some d ∧ datOf v = some (.list ds) ∧ SeqAt.shaped d = true ∧ SeqAt.shaped (.list ds) = true ∧ (ds.any fun z => PyData.eqv z d) = w := by
  unfold vInD at e
  obtain ⟨d, h1, e1⟩ := bind_some e
  obtain ⟨x, h2, e2⟩ := bind_some e1
  cases x with
  | list ds =>
    obtain ⟨hc, rfl⟩ := opt_if e2
    rw [Bool.and_eq_true] at hc
    exact ⟨d, ds, h1, h2, hc.1, hc.2, rfl⟩
  | none => cases e2
  | bool _ => cases e2
  | int _ => cases e2
  | str _ => cases e2
  | tuple _ => cases e2
  | dict _ => cases e2
section
variable {K : PySem.W.Frag}
theorem d_inD : Cmp2D K (rInD K) vInD := by
  intro x y u v w I M H Q k hx hy e q
  obtain ⟨d, ds, h1, h2, s1, s2, rfl⟩ := vInD_some e
  exact ⟨d, ds, hx.dp k h1 (SeqAt.canLay_of_shaped s1), hy.dp k h2 (SeqAt.canLay_of_shaped s2), s1, s2, q⟩
theorem d_notInD : Cmp2D K (rNotInD K) vNotInD := by
  intro x y u v w I M H Q k hx hy e q
  obtain ⟨b, e1, rfl⟩ := map_some e
  obtain ⟨d, ds, h1, h2, s1, s2, rfl⟩ := vInD_some e1
  exact ⟨d, ds, hx.dp k h1 (SeqAt.canLay_of_shaped s1), hy.dp k h2 (SeqAt.canLay_of_shaped s2), s1, s2, q⟩
end
end Dl
set_option maxRecDepth 100000
set_option maxHeartbeats 4000000
namespace Dl
open PySem L2 PySem.Spec PyProof.Rows
/-! ### reversed(range(n)) -/
def downTo (n : Int) : List PyData := (List.range n.toNat).map fun k => .int (n - 1 - (k : Nat))
section
variable {S : Type}
noncomputable def iRevN (a : Rho → S → Res S Val) : Rho → S → Res S (List PyData) := fun ρ st => (a ρ st).bind fun x st1 => match x with
  | .d (.int n) => cif (smallI n ∧ 0 ≤ n) (.ok (downTo n) st1) .stuck
  | _ => .stuck
theorem x_iRevN {a : Rho → S → Res S Val} {ρ : Rho} {st : S} : iRevN a ρ st = @bnd _ _ _ (a ρ st) fun x st1 => match x with
  | .d (.int n) => cif (smallI n ∧ 0 ≤ n) (.ok (downTo n) st1) .stuck
  | _ => .stuck := rfl
end
theorem itd_down {K : PySem.W.Frag} {I : Hp} (n : Int) (h : 0 ≤ n) : ItD K (Itc (0 + (((n - 0).toNat : Nat) : Int) - 1) (-1) (n - 0).toNat) I (downTo n) := by
  refine it_of_walk walk_rangeC (by simp [downTo]) (fun _ _ _ _ _ => trivial) fun i I2 M2 H2 x H3 es k hi y => ?_
  obtain ⟨rfl, rfl⟩ := y
  refine ⟨.int (n - 1 - (i : Nat)), I2, ?_, Grow.refl _ _ _, k, ?_⟩
  · have hi' : i < n.toNat := by simpa [downTo] using hi
    simp [downTo, hi']
  · have e : 0 + (((n - 0).toNat : Nat) : Int) - 1 + (i : Nat) * (-1) = n - 1 - (i : Nat) := by omega
    show Rp K I2 (V.int (0 + (((n - 0).toNat : Nat) : Int) - 1 + (i : Nat) * (-1))) _
    rw [e]
    exact .int _
section
variable {U : Uni} {X : Cx} {W : WX} {tg a : Expr} {Fa : Rho → U.S → Res U.S Val} {p p2 pos pos2 : Pos}
theorem pid_revN (hg : Gl X "reversed") (hm : X.mg "reversed" = none) (hg2 : Gl X "range") (hm2 : X.mg "range" = none) (ha : PEd U X W a Fa) (hs : starEach [a] X.env = (false, eval a X.env) :: starEach [] X.env := by rfl)
    (hs2 : starEach [.Call (.Name "range" p2) [a] [] pos2] X.env = (false, eval (.Call (.Name "range" p2) [a] [] pos2) X.env) :: starEach [] X.env := by rfl) : PId U X W tg (.Call (.Name "reversed" p) [.Call (.Name "range" p2) [a] [] pos2] [] pos) (iRevN Fa) := by
  refine pi_imp (pi_revR hg hm (prg_1 hg2 hm2 ha hs) hs2) fun σ H R h => ?_
  refine tG.bind h fun Z ρ st1 x u I1 M1 H1 ft hx ps => ?_
  match u, hx, ps with
  | .d (.int n), hx, ps =>
    simp only at ps
    by_cases hc : smallI n ∧ 0 ≤ n
    · rw [cif_pos hc] at ps
      exact ⟨n, Rp.int_inv hx, by decide, by decide, hc.1.1, hc.1.2, ps _ I1 M1 H1 (Grow.refl _ _ _) ft.ok ft.rs (itd_down n hc.2)⟩
    · rw [cif_neg hc] at ps
      exact False.elim ps
end
/-! ### max of a list -/
def maxL : List Int → Int
  | [] => 0
  | [n] => n
  | n :: m :: r => max n (maxL (m :: r))
theorem maxL_le : ∀ {ns : List Int} {y : Int}, y ∈ ns → y ≤ maxL ns
  | [n], y, h => by simp at h; subst h; exact Int.le_refl _
  | n :: m :: r, y, h => by
    show y ≤ max n (maxL (m :: r))
    rcases List.mem_cons.mp h with rfl | h
    · omega
    · have := maxL_le h
      omega
theorem maxL_mem : ∀ {ns : List Int}, 0 < ns.length → maxL ns ∈ ns
  | [n], _ => by simp [maxL]
  | n :: m :: r, _ => by
    have := maxL_mem (ns := m :: r) (by simp)
    show max n (maxL (m :: r)) ∈ n :: m :: r
    rcases (show max n (maxL (m :: r)) = n ∨ max n (maxL (m :: r)) = maxL (m :: r) by omega) with e | e
    · rw [e]; simp
    · rw [e]; exact List.mem_cons_of_mem _ this
def bMaxL : List Val → Option PyData
  | [u] => (lstOf u).bind fun ds => (allInts ds).bind fun ns => if ns = [] then none else some (.int (maxL ns))
  | _ => none
theorem d_maxL {K : PySem.W.Frag} : CallD K (rMax K) bMaxL := by
  intro xs vs w I M H Q k hs e q
  unfold bMaxL at e
  split at e
  · obtain ⟨x, rfl, hx⟩ := VRs.one hs
    obtain ⟨ds, e1, e2⟩ := bind_some e
    obtain ⟨ns, e3, e4⟩ := bind_some e2
    obtain ⟨p, ys, rfl, h1, r⟩ := VR.lst k hx e1
    rw [allInts_eq e3] at r
    by_cases hn : ns = []
    · rw [if_pos hn] at e4; cases e4
    · rw [if_neg hn] at e4
      cases e4
      have hp : 0 < ns.length := List.length_pos_iff.mpr hn
      refine ⟨p, ns, rfl, SqL.of (by rw [← r.ints]; exact h1), hp, fun m hm hle => ?_⟩
      have em : m = maxL ns := Int.le_antisymm (maxL_le hm) (hle _ (maxL_mem hp))
      rw [em]
      exact q _ I H (Grow.refl _ _ _) k (.int _)
  · cases e
end Dl
set_option maxRecDepth 100000
set_option maxHeartbeats 4000000
namespace Dl
open PySem L2 PySem.Spec PyProof.Rows
/-! ### a set comprehension with two clauses -/
/-- {y for a in p if .. for b in q if ..} -/
abbrev S2 (y a p : Expr) (u : List Expr) (b q : Expr) (v : List Expr) (sc : Scope) (ps : Pos) : Expr := .SetComp y [⟨a, p, u, 0⟩, ⟨b, q, v, 0⟩] sc ps
abbrev tsts (u : List Expr) (e : Env) : Sem Bool := forIn u true fun c r => if r = true then do let k ← isTrue c e (eval c e); pure (ForInStep.yield k) else pure (ForInStep.yield r)
theorem s2_turn0 (y a p : Expr) (u : List Expr) (b q : Expr) (v : List Expr) (sc : Scope) (ps : Pos) (it acc : Value) (e : Env) : compTurn (S2 y a p u b q v sc ps) 0 it acc e = (do
    standAt p.pos
    match ← pyNext it with
    | none => pure (.done .next)
    | some x =>
      letOwnedTupleGo a it x
      assign a e x
      let mut k := true
      for c in u do
        if k then k ← isTrue c e (eval c e)
      if k then
        let z ← eval q e
        standAt q.pos
        let z ← foldedSetIterable q e z
        let _ ← runOwn (.compStart (S2 y a p u b q v sc ps) 1 (← holding [z] (pyIter z)) acc e) e
      again (.compLoop (S2 y a p u b q v sc ps) 0 it acc e)) := rfl
theorem s2_turn1 (y a p : Expr) (u : List Expr) (b q : Expr) (v : List Expr) (sc : Scope) (ps : Pos) (it acc : Value) (e : Env) : compTurn (S2 y a p u b q v sc ps) 1 it acc e = (do
    standAt q.pos
    match ← pyNext it with
    | none => pure (.done .next)
    | some x =>
      letOwnedTupleGo b it x
      assign b e x
      let mut k := true
      for c in v do
        if k then k ← isTrue c e (eval c e)
      if k then
        (do let x ← eval y e; standAt y.pos; let _ ← call (.builtin "set.add") [acc, x])
      again (.compLoop (S2 y a p u b q v sc ps) 1 it acc e)) := rfl
section
variable {prog : Program} {w : World} {A : Around} {R : Result → Shared → Prop} {s : Shared} {y a p b q : Expr} {u v : List Expr} {sc : Scope} {ps : Pos} {it acc : Value} {e : Env}
/-- what a raise within a turn leads to -/
abbrev RX (prog : Program) (w : World) (A : Around) (e : Env) (R : Result → Shared → Prop) : Value → Shared → Prop := notedBy (model prog w) A e fun x s' => R (.error x) s'
theorem s2_loop0 (hs : ∀ x, foldedSetIterable q e x = pure x) (J : Nat → Shared → Prop)
    (turn : ∀ n s, J n s → wpAny (model prog w) A (pyNext it) (fun r s1 => match r with
      | none => R (.ok .next) s1
      | some x => wpAny (model prog w) A (letOwnedTupleGo a it x) (fun _ s2 => wpAny (model prog w) A (assign a e x) (fun _ s3 => wpAny (model prog w) A (tsts u e) (fun k s4 =>
            if k = true then wpAny (model prog w) A (eval q e) (fun z s5 => wpAny (model prog w) A (pyIter z) (fun it1 s6 => codeAny (model prog w) A (.compStart (S2 y a p u b q v sc ps) 1 it1 acc e) (fun r s' => match r with
                | .ok _ => ∃ m, m < n ∧ J m s'
                | .error _ => False) s6) (RX prog w A e R) s5) (RX prog w A e R) s4
            else ∃ m, m < n ∧ J m s4) (RX prog w A e R) s3) (RX prog w A e R) s2) (RX prog w A e R) s1) (RX prog w A e R) s)
    (n : Nat) (h : J n s) : codeAny (model prog w) A (.compLoop (S2 y a p u b q v sc ps) 0 it acc e) R s := by
  refine codeAny_loop rfl J (fun n s hJ => ?_) n h
  show wpAny _ A ((compTurn (S2 y a p u b q v sc ps) 0 it acc e).onRaise (fun x => do noteFrame x e; theTreesLotGoes x)) _ _ s
  refine wpAny_noted ?_
  rw [s2_turn0]
  refine wpAny_bind (wpAny_standAt (wpAny_bind (wpAny_mono (turn n s hJ) (fun r s1 h1 => ?_) fun _ _ z => z)))
  cases r with
  | none => exact wpAny_pure h1
  | some x =>
    refine wpAny_bind (wpAny_mono h1 (fun _ s2 h2 => wpAny_bind (wpAny_mono h2 (fun _ s3 h3 => wpAny_bind (wpAny_mono h3 (fun k s4 h4 => ?_) fun _ _ z => z)) fun _ _ z => z)) fun _ _ z => z)
    cases k with
    | false => exact wpAny_pure ⟨rfl, h4⟩
    | true =>
      refine wpAny_bind (wpAny_mono h4 (fun z s5 h5 => wpAny_bind (wpAny_standAt (wpAny_bind (wpAny_of_eq (hs z) (wpAny_bind (wpAny_holding (wpAny_mono h5 (fun it1 s6 h6 => ?_) fun _ _ z => z))))))) fun _ _ z => z)
      refine wpAny_bind (wpAny_runOwn ?_)
      rw [Around.mark_none]
      refine codeAny_mono h6 fun r s' hr => ?_
      cases r with
      | ok f => first | exact wpAny_pure ⟨rfl, hr⟩ | exact wpAny_bind (wpAny_pure (wpAny_pure ⟨rfl, hr⟩))
      | error _ => exact hr.elim
theorem s2_loop1 (J : Nat → Shared → Prop)
    (turn : ∀ n s, J n s → wpAny (model prog w) A (pyNext it) (fun r s1 => match r with
      | none => R (.ok .next) s1
      | some x => wpAny (model prog w) A (letOwnedTupleGo b it x) (fun _ s2 => wpAny (model prog w) A (assign b e x) (fun _ s3 => wpAny (model prog w) A (tsts v e) (fun k s4 =>
            if k = true then wpAny (model prog w) A (eval y e) (fun z s5 => wpAny (model prog w) A (call (.builtin "set.add") [acc, z]) (fun _ s6 => ∃ m, m < n ∧ J m s6) (RX prog w A e R) s5) (RX prog w A e R) s4
            else ∃ m, m < n ∧ J m s4) (RX prog w A e R) s3) (RX prog w A e R) s2) (RX prog w A e R) s1) (RX prog w A e R) s)
    (n : Nat) (h : J n s) : codeAny (model prog w) A (.compLoop (S2 y a p u b q v sc ps) 1 it acc e) R s := by
  refine codeAny_loop rfl J (fun n s hJ => ?_) n h
  show wpAny _ A ((compTurn (S2 y a p u b q v sc ps) 1 it acc e).onRaise (fun x => do noteFrame x e; theTreesLotGoes x)) _ _ s
  refine wpAny_noted ?_
  rw [s2_turn1]
  refine wpAny_bind (wpAny_standAt (wpAny_bind (wpAny_mono (turn n s hJ) (fun r s1 h1 => ?_) fun _ _ z => z)))
  cases r with
  | none => exact wpAny_pure h1
  | some x =>
    refine wpAny_bind (wpAny_mono h1 (fun _ s2 h2 => wpAny_bind (wpAny_mono h2 (fun _ s3 h3 => wpAny_bind (wpAny_mono h3 (fun k s4 h4 => ?_) fun _ _ z => z)) fun _ _ z => z)) fun _ _ z => z)
    cases k with
    | false => exact wpAny_pure ⟨rfl, h4⟩
    | true => exact wpAny_bind (wpAny_bind (wpAny_mono h4 (fun z s5 h5 => wpAny_bind (wpAny_standAt (wpAny_bind (wpAny_mono h5 (fun _ s6 h6 => wpAny_pure (wpAny_pure ⟨rfl, h6⟩)) fun _ _ z => z)))) fun _ _ z => z))
theorem s2_start1 (h0 : codeAny (model prog w) A (.compLoop (S2 y a p u b q v sc ps) 1 it acc e) R s)
    (h : wpAny (model prog w) A (pyIter it) (fun it' s' => codeAny (model prog w) A (.compLoop (S2 y a p u b q v sc ps) 1 it' acc e) R s') (RX prog w A e R) s) :
    codeAny (model prog w) A (.compStart (S2 y a p u b q v sc ps) 1 it acc e) R s := by
  refine codeAny_of_tree ?_
  show wpAny _ _ ((compStart (S2 y a p u b q v sc ps) 1 it acc e).onRaise (fun x => do noteFrame x e; standAt theWindowsPlace)) _ _ s
  refine wpAny_notedAt ?_
  unfold compStart
  show wpAny _ _ (ask >>= _) _ _ s
  refine wpAny_bind (wpAny_askSetting (wpAny_ite ?_))
  split
  · first
      | exact wpAny_bind (wpAny_pure (wpAny_pure (And.intro rfl h0)))
      | exact wpAny_pure (And.intro rfl h0)
  · first
      | exact wpAny_bind (wpAny_rule (wpAny_bind (wpAny_standAt (wpAny_bind (wpAny_mono h (fun it' s' h' => wpAny_pure (And.intro rfl h')) fun _ _ z => z)))))
      | (refine wpAny_bind (wpAny_rule ?_); show wpAny _ _ (standAt q.pos >>= _) _ _ s; exact wpAny_bind (wpAny_standAt (wpAny_bind (wpAny_mono h (fun it' s' h' => wpAny_pure (And.intro rfl h')) fun _ _ z => z))))
end
section
variable {X : Cx}
/-- the new, empty set at D -/
abbrev emp (w : World) (D : Addr) : HO := SetO w D (fun _ => false) 0
/-- the clauses' own scopes: what is said of any block -/
abbrev Blk (X : Cx) (sc : Scope) (P : Cx → Prop) : Prop := ∀ (s : Shared) (H : Hp) (C : Addr) (cl : List (Str × Addr)) (fp : List Addr), P (X.blk s H sc (compEnvC sc cl C X.env) fp)
def tSc2 (w : World) (wi : TI) (g : TG) (tt : TT) (wj : TI) (g' : TG) (tt' : TT) (te : TE) (vs us : List Nat) : TE := fun σ H Q => wi σ H fun J H1 => ∀ D, H1 D = none → ∃ W : Nat → Nat → Hp → Prop, (∃ m, W 0 m (upd H1 D (emp w D))) ∧
  ∀ i m H, W i m H → (J.stop i H ∧ Q (.ref D) H) ∨ (J.go i H ∧ ∃ N : Hp → Prop, (∀ H', N H' → ∃ m', m' < m ∧ W (i + 1) m' H') ∧ ∀ x H', J.yld i H x H' → g x (wipe σ vs) H' fun σ2 H2 => wipe σ2 vs = wipe σ vs ∧ tt σ2 H2 fun k H3 =>
    if k = true then wj σ2 H3 fun J' H4 => ∃ W' : Nat → Nat → Hp → Prop, (∃ m, W' 0 m H4) ∧ ∀ j n H, W' j n H → (J'.stop j H ∧ N H) ∨ (J'.go j H ∧ ∃ N' : Hp → Prop, (∀ H', N' H' → ∃ n', n' < n ∧ W' (j + 1) n' H') ∧
      ∀ x H', J'.yld j H x H' → g' x (wipe σ2 us) H' fun σ3 H5 => wipe σ3 us = wipe σ2 us ∧ tt' σ3 H5 fun k' H6 =>
        if k' = true then te σ3 H6 fun y H7 => ∃ c S n, y = .int c ∧ H7 D = some (SetO w D S n) ∧ n + 1 < scanBound ∧ N' (upd H7 D (SetO w D (fun l => S l || decide (l = c)) (if S c = true then n else n + 1))) else N' H6)
    else N H3)
theorem addI_ok {pins : List (Addr × Obj)} {σ : L2.St} {H : Hp} {s : Shared} {E : Value → Shared → Prop} {D : Addr} {c : Int} {v : Value} {S : Int → Bool} {n : Nat} {Q : Value → Shared → Prop} (I : Inv X pins σ H s) (hD : H D = some (SetO X.w D S n)) (hz : n + 1 < scanBound) (r : RelV (.int c) v)
    (h : ∀ s', Inv X pins σ (upd H D (SetO X.w D (fun l => S l || decide (l = c)) (if S c = true then n else n + 1))) s' → Q .none s') : wpAny (model X.prog X.w) X.A (call (.builtin "set.add") [.ref D, v]) Q E s := by
  obtain ⟨tk, rfl⟩ := r
  refine setR_add (setO_get I hD) hz fun h' sb new => ?_
  obtain ⟨o, q1, q2, q3, ho, q4⟩ := id new
  exact h _ (I.write (e := D) (t' := s.toks + 1) (by rw [hD]; trivial) (.inl rfl) (fun b o hb ho => (sb.2 b hb).trans ho) ⟨o, ho⟩ (setO_new new))
variable {pins : List (Addr × Obj)} {s : Shared} {σ : L2.St} {H : Hp} {Q : VK} {y a p b q : Expr} {u v : List Expr} {sc : Scope} {own : List (Str × Nat)} {us : List Nat} {ps ps' : Pos} {wi wj : TI} {g g' : TG} {tt tt' : TT} {te : TE} {use : Option (Value → Sem Unit)} {F : Value → Shared → Prop}
theorem sc2_core (hc : X.calm = true) (hN : X.N.Nodup) (I : Inv X pins σ H s) (hi : PI X a p wi) (ok : BlkOk X.N X.env.scope sc own) (hv : ∀ i ∈ us, i ∈ own.map (·.2)) (hg : Blk X sc fun B => PG B a g) (ht : Blk X sc fun B => PTs B u tt) (hj : Blk X sc fun B => PI B b q wj) (hg' : Blk X sc fun B => PG B b g') (ht' : Blk X sc fun B => PTs B v tt') (he : Blk X sc fun B => PE B y te)
    (hs : ∀ x, foldedSetIterable p X.env x = pure x) (hs' : ∀ env x, foldedSetIterable q env x = pure x) (h : tSc2 X.w wi g tt wj g' tt' te (own.map (·.2)) us σ H Q)
    (hR : ∀ D C s' m H', Inv X pins σ H' s' → Q (.ref D) H' → s'.heap.Ns C m → FpOk X pins H' C → compPost (model X.prog X.w) X.A X.xe use F (.ref D) C (.ok .next) s') :
    wpAny (model X.prog X.w) X.A (comprehension (S2 y a p u b q v sc ps) sc X.env ps' (newSet (.type "set")) false (eval p X.env) use) F X.xe s := by
  have hf : ∀ n ∈ sc.names, n.2 = .free → ∃ c, X.env.cells.lookup n.1 = some c := fun n hn z => (ok.free n hn z).elim (fun k => I.ok.has _ (.inl k)) (fun k => I.ok.has _ (.inr k))
  refine wpAny_comprehension_free (use := use) rfl hs (closure_ok hf) ok.kind (fun n hn z => by rw [ok.uniq n hn, z]) (thn (hi.run pins s σ H _ I h) fun _ s1 hx => thn hx fun _ s2 h2 => ?_)
  obtain ⟨it, fp, tn, J, H2, rfl, I2, T, st2, f2, qq⟩ := h2
  refine wpAny_newSet_raw fun led hled => newEnv_comp ?_
  subst hled
  generalize hD : s2.heap.objs.size = D
  obtain ⟨W, ⟨m0, w0⟩, turn⟩ := qq D (I2.hok.fresh (Nat.le_of_eq hD))
  generalize hs3 : ({ s2 with heap := s2.heap.push { cls := .type "set", dict := none, data := .set #[] 0 (.fresh 0 0 (!X.w.params.followText "set-order")) } } : Shared) = s3
  have I3 : Inv X pins σ (upd H2 D (emp X.w D)) s3 := by
    subst hs3
    refine I2.laid (t' := s2.toks) (fun b o z => Heap.get?_push_of_some _ z) (Nat.le_of_eq hD) ?_
    subst hD
    exact setO_new (setR_fresh X.w)
  have old : ∀ b o, s2.heap.get? b = some o → s3.heap.get? b = some o := fun b o z => by subst hs3; exact Heap.get?_push_of_some _ z
  have hsz : s3.heap.objs.size = s2.heap.objs.size + 1 := by subst hs3; exact Heap.size_push ..
  have f3 : ∀ b ∈ fp, FpOk X pins (upd H2 D (emp X.w D)) b ∧ b < s3.heap.objs.size := fun b hb => by
    obtain ⟨o, z, _⟩ := T.obj _ _ st2 b hb
    have hlt := Heap.lt_size z
    refine ⟨⟨?_, (f2 b hb).2⟩, by rw [hsz]; exact Nat.lt_succ_of_lt hlt⟩
    rw [upd_ne (by subst hD; exact Nat.ne_of_lt hlt)]
    exact (f2 b hb).1
  have st3 : tn 0 s3.heap := T.keep _ _ _ st2 fun b _ o z => old b o z
  have I4 := block_start I3 ok hN f3
  let cs := cellsFrom (s3.heap.objs.size + 1) sc.names (cloFrom X.env.cells sc.names [])
  have pg := hg s3 (upd H2 D (emp X.w D)) s3.heap.objs.size cs fp
  have pt := ht s3 (upd H2 D (emp X.w D)) s3.heap.objs.size cs fp
  have pe := he s3 (upd H2 D (emp X.w D)) s3.heap.objs.size cs fp
  have pj := hj s3 (upd H2 D (emp X.w D)) s3.heap.objs.size cs fp
  have pg' := hg' s3 (upd H2 D (emp X.w D)) s3.heap.objs.size cs fp
  have pt' := ht' s3 (upd H2 D (emp X.w D)) s3.heap.objs.size cs fp
  show codeAny _ _ (.compStart (S2 y a p u b q v sc ps) 0 (.ref it) (.ref D) (compEnvC sc cs s3.heap.objs.size X.env)) (compPost (model X.prog X.w) X.A X.xe use F (.ref D) s3.heap.objs.size) { s3 with heap := pushCells (s3.heap.push { cls := .type "dict", data := .dict #[] }) sc.names }
  have nfp : ∀ b ∈ fp, (upd H2 D (emp X.w D)) b = none := fun b hb => (f3 b hb).1.1
  have I4 : Inv (X.blk s3 (upd H2 D (emp X.w D)) sc (compEnvC sc cs s3.heap.objs.size X.env) fp) [] (wipe σ (own.map (·.2))) (upd H2 D (emp X.w D)) { s3 with heap := pushCells (s3.heap.push { cls := .type "dict", data := .dict #[] }) sc.names } := I4
  generalize hce : compEnvC sc cs s3.heap.objs.size X.env = ce at I4 pg pt pe pj pg' pt' ⊢
  have cL : ce.locals = s3.heap.objs.size := by subst hce; rfl
  generalize upd H2 D (emp X.w D) = H3 at I3 I4 pg pt pe pj pg' pt' w0 nfp f3
  generalize hs4 : ({ s3 with heap := pushCells (s3.heap.push { cls := .type "dict", data := .dict #[] }) sc.names } : Shared) = s4 at I4 ⊢
  have st4 : tn 0 s4.heap := T.keep _ _ _ st3 fun b _ o z => by subst hs4; exact pushCells_keeps _ _ _ _ (Heap.get?_push_of_some _ z)
  generalize hB : X.blk s3 H3 sc ce fp = B at I4 pg pt pe pj pg' pt'
  have bp : B.prog = X.prog := by subst hB; rfl
  have stat : ∀ {σ' : L2.St} {H' : Hp} {s' : Shared}, Inv B [] σ' H' s' → (∀ b ∈ fp, H' b = none) → ∀ b ∈ fp, FpOk B [] H' b := fun {σ' H' s'} J hn b hb => by
    subst hB
    exact ⟨hn b hb, (J.ok.exf b hb).1, J.ok.exfs b hb, .inl hb, fun x c z => (J.ok.exf b hb).2 x c z, fun r hr => absurd (show r ∈ ([] : List (Addr × Obj)) ++ [] from hr) (by simp)⟩
  have loop : codeAny (model X.prog X.w) X.A (.compLoop (S2 y a p u b q v sc ps) 0 (.ref it) (.ref D) ce) (compPost (model X.prog X.w) X.A X.xe use F (.ref D) s3.heap.objs.size) s4 := by
    refine s2_loop0 (hs' ce) (fun n s' => ∃ i H', Inv B [] (wipe σ (own.map (·.2))) H' s' ∧ tn i s'.heap ∧ (∀ b ∈ fp, H' b = none) ∧ W i n H') ?_ m0 ⟨0, H3, I4, st4, nfp, w0⟩
    rintro n s5 ⟨i, H5, I5, st5, n5, w5⟩
    subst hB
    rcases turn i n H5 w5 with ⟨stop, fq⟩ | ⟨go, N, hN1, step⟩
    · refine thnF (T.done (X.blk s3 H3 sc ce fp) rfl rfl rfl hc i [] s5 _ H5 (fun _ _ => False) I5 (stat I5 n5) st5 stop) fun r s6 ⟨hr, I6⟩ => ?_
      subst hr
      have I7 : Inv X pins σ H5 s6 := I3.call' (ch := fp) I6.os I6.base I6.hok I6.bare fun b hb => let z := (f3 b hb).1.2; ⟨z.2.2.1, z.1, z.2.2.2.1, z.2.2.2.2⟩
      obtain ⟨m, hn, _⟩ := I6.loc
      have nC : H5 ce.locals = none := I6.free
      have hn : s6.heap.Ns ce.locals m := hn
      rw [cL] at hn nC
      exact hR D _ s6 m H5 I7 fq hn (I3.fpOk (Nat.le_refl _) nC)
    · refine thnF (T.item (X.blk s3 H3 sc ce fp) rfl rfl rfl hc i [] s5 _ H5 (fun _ _ => False) I5 (stat I5 n5) st5 go) fun r s6 ⟨x0, hr, h6⟩ => ?_
      subst hr
      refine thnF h6 fun _ s7 ⟨x, H7, I7, r7, y7, st7, n7⟩ => ?_
      refine thnF (pg.run _ s7 _ H7 x x0 _ (I7.pinned (stat I7 n7) (T.obj _ _ st7)) r7 (step x H7 y7)) fun _ s8 ⟨σ8, H8, I8, w8, q8⟩ => ?_
      refine thnF (pt.run _ s8 σ8 H8 _ I8 q8) fun k s9 ⟨H9, I9, q9⟩ => ?_
      have fin : ∀ {σ9 : L2.St} {s' : Shared} {H' : Hp}, Inv (X.blk s3 H3 sc ce fp) ([] ++ pinsAt fp s7.heap) σ9 H' s' → (wipe σ (own.map (·.2))).length = σ9.length → (∀ (j : Nat) v, (wipe σ (own.map (·.2)))[j]? = some (some v) → σ9[j]? = some (some v)) → N H' →
          ∃ m, m < n ∧ ∃ i H', Inv (X.blk s3 H3 sc ce fp) [] (wipe σ (own.map (·.2))) H' s' ∧ tn i s'.heap ∧ (∀ b ∈ fp, H' b = none) ∧ W i m H' := fun {σ9 s' H'} J hl hk nx => by
        obtain ⟨m', hm, w'⟩ := hN1 H' nx
        have pn : ∀ b ∈ fp, ∀ o, s7.heap.get? b = some o → s'.heap.get? b = some o ∧ H' b = none := fun b hb o z =>
          let r := J.pin (b, o) (List.mem_append_right _ (List.mem_append_right _ (mem_pinsAt hb z))); ⟨r.1, r.2.1⟩
        refine ⟨m', hm, i + 1, H', (J.unpinned (pins := [])).weak hl hk, T.keep _ _ _ st7 fun b hb o z => (pn b hb o z).1, fun b hb => ?_, w'⟩
        obtain ⟨o, z, _⟩ := T.obj _ _ st7 b hb
        exact (pn b hb o z).2
      have l8 : (wipe σ (own.map (·.2))).length = σ8.length := by rw [← w8, wipe_length]
      cases k with
      | false =>
        simp only [Bool.false_eq_true, if_false] at q9 ⊢
        exact fin I9 l8 (fun j v z => by rw [← w8] at z; exact (wipe_some z).1) q9
      | true =>
        simp only [if_true] at q9 ⊢
        refine thnF (pj.run _ s9 σ8 H9 _ I9 q9) fun _ s10 hx => thnF hx fun _ s11 h11 => ?_
        obtain ⟨it', fp', tn', J', H11, rfl, I11, T', st11, f11, W', ⟨m1, w1⟩, turn'⟩ := h11
        have stat' : ∀ {H' : Hp}, (∀ b ∈ fp', H' b = none) → ∀ b ∈ fp', FpOk (X.blk s3 H3 sc ce fp) ([] ++ pinsAt fp s7.heap) H' b := fun hn b hb => ⟨hn b hb, (f11 b hb).2⟩
        have inner : codeAny (model X.prog X.w) X.A (.compLoop (S2 y a p u b q v sc ps) 1 (.ref it') (.ref D) ce) (fun r s' => match r with
            | .ok _ => ∃ m, m < n ∧ ∃ i H', Inv (X.blk s3 H3 sc ce fp) [] (wipe σ (own.map (·.2))) H' s' ∧ tn i s'.heap ∧ (∀ b ∈ fp, H' b = none) ∧ W i m H'
            | .error _ => False) s11 := by
          refine s2_loop1 (fun n' s' => ∃ j H', Inv (X.blk s3 H3 sc ce fp) ([] ++ pinsAt fp s7.heap) (wipe σ8 us) H' s' ∧ tn' j s'.heap ∧ (∀ b ∈ fp', H' b = none) ∧ W' j n' H') ?_ m1 ⟨0, H11, I11.weak (wipe_length _ _) (fun j v z => (wipe_some z).1), st11, fun b hb => (f11 b hb).1, w1⟩
          rintro n' s12 ⟨j, H12, I12, st12, n12, w12⟩
          rcases turn' j n' H12 w12 with ⟨stop', nx⟩ | ⟨go', N', hN', step'⟩
          · refine thnF (T'.done (X.blk s3 H3 sc ce fp) rfl rfl rfl hc j _ s12 (wipe σ8 us) H12 (fun _ _ => False) I12 (stat' n12) st12 stop') fun r s13 ⟨hr, I13⟩ => ?_
            subst hr
            refine fin I13 (l8.trans (wipe_length σ8 us).symm) (fun j v z => ?_) nx
            rw [← w8] at z
            obtain ⟨z1, z2⟩ := wipe_some z
            rw [wipe_out fun c => z2 (hv j c)]
            exact z1
          · refine thnF (T'.item (X.blk s3 H3 sc ce fp) rfl rfl rfl hc j _ s12 (wipe σ8 us) H12 (fun _ _ => False) I12 (stat' n12) st12 go') fun r s13 ⟨x1, hr, h13⟩ => ?_
            subst hr
            refine thnF h13 fun _ s14 ⟨x2, H14, I14, r14, y14, st14, n14⟩ => ?_
            refine thnF (pg'.run _ s14 (wipe σ8 us) H14 x2 x1 _ (I14.pinned (stat' n14) (T'.obj _ _ st14)) r14 (step' x2 H14 y14)) fun _ s15 ⟨σ15, H15, I15, w15, q15⟩ => ?_
            refine thnF (pt'.run _ s15 σ15 H15 _ I15 q15) fun k' s16 ⟨H16, I16, q16⟩ => ?_
            have fin' : ∀ {s' : Shared} {H' : Hp}, Inv (X.blk s3 H3 sc ce fp) (([] ++ pinsAt fp s7.heap) ++ pinsAt fp' s14.heap) σ15 H' s' → N' H' → ∃ m, m < n' ∧ ∃ j H', Inv (X.blk s3 H3 sc ce fp) ([] ++ pinsAt fp s7.heap) (wipe σ8 us) H' s' ∧ tn' j s'.heap ∧ (∀ b ∈ fp', H' b = none) ∧ W' j m H' := fun {s' H'} J nx => by
              obtain ⟨m', hm, w'⟩ := hN' H' nx
              have pn : ∀ b ∈ fp', ∀ o, s14.heap.get? b = some o → s'.heap.get? b = some o ∧ H' b = none := fun b hb o z =>
                let r := J.pin (b, o) (List.mem_append_right _ (List.mem_append_right _ (mem_pinsAt hb z))); ⟨r.1, r.2.1⟩
              refine ⟨m', hm, j + 1, H', J.unpinned.weak (by rw [← w15, wipe_length]) (fun j v z => by rw [← w15] at z; exact (wipe_some z).1), T'.keep _ _ _ st14 fun b hb o z => (pn b hb o z).1, fun b hb => ?_, w'⟩
              obtain ⟨o, z, _⟩ := T'.obj _ _ st14 b hb
              exact (pn b hb o z).2
            cases k' with
            | false =>
              simp only [Bool.false_eq_true, if_false] at q16 ⊢
              exact fin' I16 q16
            | true =>
              simp only [if_true] at q16 ⊢
              refine thnF (pe.run _ s16 σ15 H16 _ I16 q16) fun z s17 ⟨yv, H17, I17, r17, c, S, n0, ey, hD17, hz, nx⟩ => ?_
              subst ey
              exact addI_ok (X := X.blk s3 H3 sc ce fp) I17 hD17 hz r17 fun s18 I18 => fin' I18 nx
        exact s2_start1 inner (T'.self X.A 0 _ _ _ st11 inner)
  exact PySem.codeAny_compStart_set loop (T.self X.A 0 _ _ _ st4 loop)
theorem pe_sc2 (hc : X.calm = true) (hN : X.N.Nodup) (hi : PI X a p wi) (ok : BlkOk X.N X.env.scope sc own) (hv : ∀ i ∈ us, i ∈ own.map (·.2)) (hg : Blk X sc fun B => PG B a g) (ht : Blk X sc fun B => PTs B u tt) (hj : Blk X sc fun B => PI B b q wj) (hg' : Blk X sc fun B => PG B b g') (ht' : Blk X sc fun B => PTs B v tt') (he : Blk X sc fun B => PE B y te)
    (hs : ∀ x, foldedSetIterable p X.env x = pure x := by intro _; rfl) (hs' : ∀ env x, foldedSetIterable q env x = pure x := by intro _ _; rfl) : PE X (S2 y a p u b q v sc ps) (tSc2 X.w wi g tt wj g' tt' te (own.map (·.2)) us) := by
  refine ⟨fun pins s σ H Q I h => ?_⟩
  rw [show eval (S2 y a p u b q v sc ps) X.env = comprehension (S2 y a p u b q v sc ps) sc X.env (firstIterPos [⟨a, p, u, 0⟩, ⟨b, q, v, 0⟩] ps) (newSet (.type "set")) false (eval p X.env) from rfl]
  refine sc2_core hc hN I hi ok hv hg ht hj hg' ht' he hs hs' h fun D C s' m H' J fq hn f => ⟨m, hn, fun h2 sb => ?_⟩
  obtain ⟨f0, f1, f2, f3, f4, f5⟩ := f
  exact ⟨.ref D, H', J.turned (t' := s'.toks) (fun b o hb z => (sb.2 b hb).trans z) f0 f1 f3 f4 f5, rfl, fq⟩
end
end Dl
set_option maxRecDepth 100000
set_option maxHeartbeats 4000000
namespace Dl
open PySem L2 PySem.Spec PyProof.Rows
/-! ### sorted of a set comprehension with two clauses: the mirror -/
/-- into an ascending list, once -/
def insS (c : Int) : List Int → List Int
  | [] => [c]
  | x :: r => if c < x then c :: x :: r else if c = x then x :: r else x :: insS c r
theorem insS_mem {c : Int} : ∀ {l : List Int} {x : Int}, x ∈ insS c l ↔ x ∈ l ∨ x = c
  | [], x => by simp [insS]
  | y :: r, x => by
    unfold insS
    split
    · simp only [List.mem_cons]; exact ⟨fun h => h.elim .inr .inl, fun h => h.elim .inr .inl⟩
    · split
      · rename_i e
        subst e
        simp only [List.mem_cons]
        exact ⟨.inl, fun h => h.elim id .inl⟩
      · rw [List.mem_cons, insS_mem, List.mem_cons, or_assoc]
theorem insS_asc {c : Int} : ∀ {l : List Int}, l.Pairwise (· < ·) → (insS c l).Pairwise (· < ·)
  | [], _ => by simp [insS]
  | y :: r, h => by
    unfold insS
    obtain ⟨h1, h2⟩ := List.pairwise_cons.mp h
    split
    · rename_i hc
      exact List.pairwise_cons.mpr ⟨fun z hz => by
        rcases List.mem_cons.mp hz with rfl | hz
        · exact hc
        · exact Int.lt_trans hc (h1 z hz), h⟩
    · split
      · exact h
      · refine List.pairwise_cons.mpr ⟨fun z hz => ?_, insS_asc h2⟩
        rcases insS_mem.mp hz with hz | rfl
        · exact h1 z hz
        · omega
theorem insS_len {c : Int} : ∀ {l : List Int}, l.Pairwise (· < ·) → (insS c l).length = if c ∈ l then l.length else l.length + 1
  | [], _ => by simp [insS]
  | y :: r, h => by
    obtain ⟨h1, h2⟩ := List.pairwise_cons.mp h
    unfold insS
    split
    · rename_i hc
      have : c ∉ y :: r := fun hm => by
        rcases List.mem_cons.mp hm with rfl | hm
        · omega
        · have := h1 c hm; omega
      rw [if_neg this]; rfl
    · split
      · rename_i e
        subst e
        rw [if_pos List.mem_cons_self]
      · rename_i h3 h4
        rw [List.length_cons, insS_len h2]
        by_cases hm : c ∈ r
        · rw [if_pos hm, if_pos (List.mem_cons_of_mem _ hm)]; rfl
        · rw [if_neg hm, if_neg (fun z => (List.mem_cons.mp z).elim h4 hm)]; rfl
theorem asc_ext : ∀ {a b : List Int}, a.Pairwise (· < ·) → b.Pairwise (· < ·) → (∀ x, x ∈ a ↔ x ∈ b) → a = b
  | [], [], _, _, _ => rfl
  | [], y :: r, _, _, h => absurd ((h y).2 List.mem_cons_self) (by simp)
  | x :: r, [], _, _, h => absurd ((h x).1 List.mem_cons_self) (by simp)
  | x :: r, y :: t, ha, hb, h => by
    obtain ⟨a1, a2⟩ := List.pairwise_cons.mp ha
    obtain ⟨b1, b2⟩ := List.pairwise_cons.mp hb
    have e : x = y := by
      have h1 := (h x).1 List.mem_cons_self
      have h2 := (h y).2 List.mem_cons_self
      rcases List.mem_cons.mp h1 with e | h1
      · exact e
      · rcases List.mem_cons.mp h2 with e | h2
        · exact e.symm
        · have := b1 x h1; have := a1 y h2; omega
    subst e
    rw [asc_ext a2 b2 fun z => ?_]
    constructor
    · intro hz
      rcases List.mem_cons.mp ((h z).1 (List.mem_cons_of_mem _ hz)) with e | q
      · have := a1 z hz; omega
      · exact q
    · intro hz
      rcases List.mem_cons.mp ((h z).2 (List.mem_cons_of_mem _ hz)) with e | q
      · have := b1 z hz; omega
      · exact q
section
variable {S α β γ : Type}
/-- what must end well -/
def must (r : Res S α) (f : α → S → Res S β) : Res S β := match r with
  | .ok a st => f a st
  | _ => .stuck
theorem must_must {r : Res S α} {f : α → S → Res S β} {k : β → S → Res S γ} : must (must r f) k = must r fun a st => must (f a st) k := by cases r <;> rfl
def inL (tg : Tg) (T : Rho → S → Res S Bool) (E : Rho → S → Res S Val) (ρ : Rho) : List PyData → List Int → S → Res S (List Int)
  | [], acc, st => .ok acc st
  | d :: r, acc, st => match setT tg d ρ with
    | none => .stuck
    | some ρ1 => must (T ρ1 st) fun b st1 => if b = true then must (E ρ1 st1) fun v st2 => match v with
        | .d (.int c) => if acc.length < 64 then inL tg T E ρ r (insS c acc) st2 else .stuck
        | _ => .stuck
      else inL tg T E ρ r acc st1
def outL (tg : Tg) (T : Rho → S → Res S Bool) (G : Rho → S → Res S (List PyData)) (us : List Nat) (tg' : Tg) (T' : Rho → S → Res S Bool) (E : Rho → S → Res S Val) (ρ : Rho) : List PyData → List Int → S → Res S (List Int)
  | [], acc, st => .ok acc st
  | d :: r, acc, st => match setT tg d ρ with
    | none => .stuck
    | some ρ1 => must (T ρ1 st) fun b st1 => if b = true then must (G ρ1 st1) fun es st2 => must (inL tg' T' E (wipeR ρ1 us) es acc st2) fun acc' st3 => outL tg T G us tg' T' E ρ r acc' st3
      else outL tg T G us tg' T' E ρ r acc st1
def endL (acc : List Int) (st : S) : Res S (List PyData) := if acc.length < 64 then .ok (acc.map .int) st else .stuck
def nSortS (F : Rho → S → Res S (List PyData)) (vs : List Nat) (tg : Tg) (T : Rho → S → Res S Bool) (G : Rho → S → Res S (List PyData)) (us : List Nat) (tg' : Tg) (T' : Rho → S → Res S Bool) (E : Rho → S → Res S Val) : Rho → S → Res S (List PyData) :=
  fun ρ st => (F ρ st).bind fun ds st1 => must (outL tg T G us tg' T' E (wipeR ρ vs) ds [] st1) endL
theorem x_nSortS {F : Rho → S → Res S (List PyData)} {vs : List Nat} {tg : Tg} {T : Rho → S → Res S Bool} {G : Rho → S → Res S (List PyData)} {us : List Nat} {tg' : Tg} {T' : Rho → S → Res S Bool} {E : Rho → S → Res S Val} {ρ : Rho} {st : S} :
    nSortS F vs tg T G us tg' T' E ρ st = @bnd _ _ _ (F ρ st) fun ds st1 => must (outL tg T G us tg' T' E (wipeR ρ vs) ds [] st1) endL := rfl
end
/-! ### the reading -/
section
variable {U : Uni} {K : PySem.W.Frag} {W : WX}
theorem must_read {α β γ : Type} {rel : Hp → Mw → Hp → β → α → Prop} {r : Res U.S α} {f : α → U.S → Res U.S (List PyData)} {I I1 : Hp} {M M1 : Mw} {H H1 : Hp} {Q : VK} {R : β → Hp → Prop} {E E' : XK} (ps : PostN U K (must r f) I1 M1 H1 Q E)
    (m : ∀ a st x I' M' H', PostN U K (f a st) I1 M1 H1 Q E → Grow I M H I' M' H' → Ok I' M' H' → U.R st M' → rel I' M' H' x a → R x H') : Post U K rel r I M H R E' := by
  cases r with
  | ok a st => exact fun x I' M' H' g k r q => m a st x I' M' H' ps g k r q
  | exc c fs st => exact False.elim ps
  | stuck => exact ps
theorem rp_ints {I : Hp} : ∀ ns : List Int, RpAll K I (ns.map V.int) (ns.map PyData.int)
  | [] => .nil
  | x :: r => .cons (.int x) (rp_ints r)
abbrev memS (acc : List Int) : Int → Bool := fun l => decide (l ∈ acc)
theorem Fit.updO {Z : Base} {σ : L2.St} {ρ : Rho} {st : U.S} {I : Hp} {M : Mw} {H : Hp} {D : Addr} {w : World} {S : Int → Bool} {n : Nat} (f : Fit U K Z σ ρ st I M H) (hZ : Z.H D = none) (hd : H D = some (SetO w D S n)) (hi : I D = none) (hm : M.h D = none) (o : HO) : Fit U K Z σ ρ st I M (upd H D o) := by
  refine ⟨⟨f.g.i, f.g.ni, f.g.nm, fun a o h m => by rw [upd_ne (ne_of_none h hZ)]; exact f.g.kp a o h m, fun a h => by
    rw [upd_ne (fun z => h (by rw [z]; exact hZ))]
    exact f.g.th a h, f.g.ad⟩, ⟨fun a o h => by rw [upd_ne (ne_of_none h hi)]; exact f.ok.ih a o h, fun a o h => by rw [upd_ne (ne_of_none h hm)]; exact f.ok.mh a o h, f.ok.dj⟩, f.rs, f.len, fun j v e => ?_, f.new, f.sep, f.newd, f.sepd⟩
  obtain ⟨x, h1, h2⟩ := f.env j v e
  refine ⟨x, h1, ?_⟩
  match v, h2 with
  | .d _, h2 => exact h2
  | .ref _, h2 => exact h2
  | .exc _ _, h2 => exact h2
  | .own es, ⟨q, us, z1, a1, b1, c1, r1⟩ =>
    subst z1
    refine ⟨q, us, rfl, ?_, b1, c1, r1⟩
    rw [upd_ne (fun z => by subst z; rw [hd] at a1; cases a1)]
    exact a1
  | .ownd t ks es, ⟨q, us, z1, a1, b1, c1, r1⟩ =>
    refine ⟨q, us, z1, ?_, b1, c1, r1⟩
    rw [upd_ne (fun z => by subst z; rw [hd] at a1; cases t <;> simp [dHO, SetO] at a1)]
    exact a1
theorem Grow.updO {I I1 : Hp} {M M1 : Mw} {H H1 : Hp} {D : Addr} (g : Grow I M H I1 M1 H1) (hD : H D = none) (o : HO) : Grow I M H I1 M1 (upd H1 D o) :=
  ⟨g.i, g.ni, g.nm, fun a o h m => by rw [upd_ne (ne_of_none h hD)]; exact g.kp a o h m, fun a h => by rw [upd_ne (fun z => h (by rw [z]; exact hD))]; exact g.th a h, g.ad⟩
variable {w : World} {tg tg' : Tg} {vs us : List Nat} {F G : Rho → U.S → Res U.S (List PyData)} {T T' : Rho → U.S → Res U.S Bool} {E : Rho → U.S → Res U.S Val} {σ : L2.St} {H : Hp} {Q : VK}
theorem sc2_read (hv : ∀ i ∈ tg.slots, i ∈ vs) (hu : ∀ i ∈ tg'.slots, i ∈ us) (h : tN U K W (nSortS F vs tg T G us tg' T' E) σ H Q) :
    tSc2 w (tG U K W (rIt K) F) (gT K tg) (tB U K WF T) (tG U K WF (rIt K) G) (gT K tg') (tB U K WF T') (tE U K WF E) vs us σ H fun x H1 => rSortedSet w [x] H1 Q := by
  refine tN.bind (rel := rIt K) h fun Z ρ st1 J ds I1 M1 H1 ft1 hJ ps => ?_
  intro D hD
  have iD : I1 D = none := ft1.ok.ih.free hD
  have mD : M1.h D = none := ft1.ok.mh.free hD
  have zD : Z.H D = none := by
    cases z : Z.H D with
    | none => rfl
    | some o => exact absurd hD (ft1.g.th D (ne_none_of z))
  obtain ⟨g0, k0⟩ := Grow.allocO (o := emp w D) ft1.ok hD
  have e0 : emp w D = SetO w D (memS []) ([] : List Int).length := by
    unfold emp memS
    congr 1
  have f0 := (ft1.grow g0 k0 ft1.rs).wipe vs
  -- the set so far, whatever is evaluated
  have keep : ∀ {acc : List Int} {I I' : Hp} {M M' : Mw} {H H' : Hp}, Grow I M H I' M' H' → H D = some (SetO w D (memS acc) acc.length) → I D = none → M.h D = none → H' D = some (SetO w D (memS acc) acc.length) ∧ I' D = none ∧ M'.h D = none := fun {acc I I' M M' H H'} g hd hi hm => by
    refine ⟨g.kp D _ hd hm, ?_, ?_⟩
    · cases z : I' D with
      | none => rfl
      | some o => exact absurd hi (g.ni D (ne_none_of hd) (ne_none_of z))
    · cases z : M'.h D with
      | none => rfl
      | some o => exact absurd hm (g.nm D (ne_none_of hd) (ne_none_of z))
  let P : List PyData → Hp → Prop := fun rest H => ∃ st I M acc, Same I1 I ∧ Grow I1 M1 H1 I M H ∧ Fit U K Z (wipe σ vs) (wipeR ρ vs) st I M H ∧ H D = some (SetO w D (memS acc) acc.length) ∧ I D = none ∧ M.h D = none ∧ acc.Pairwise (· < ·) ∧
    PostN U K (must (outL tg T G us tg' T' E (wipeR ρ vs) rest acc st) endL) I1 M1 H1 Q (fun cls d H' => W cls d σ H')
  refine ⟨fun i m H => m = ds.length - i ∧ i ≤ ds.length ∧ P (ds.drop i) H, ⟨ds.length, rfl, Nat.zero_le _, st1, I1, M1, [], Same.refl _, g0, f0, by rw [e0]; exact upd_same, iD, mD, .nil, ps⟩, ?_⟩
  rintro i m H ⟨rfl, hi, st, I, M, acc, es, gr, ft, hd, di, dm, asc, ps⟩
  by_cases hlt : i < ds.length
  · refine .inr ⟨hJ.go i I M H es ft.ok hlt, P (ds.drop (i + 1)), fun H' p => ⟨ds.length - (i + 1), by omega, rfl, hlt, p⟩, fun x H' hy => ?_⟩
    rw [List.drop_eq_getElem_cons hlt] at ps
    obtain ⟨d, I3, hdd, g3, k3, r3⟩ := hJ.yld i I M H x H' es ft.ok hlt hy
    rw [List.getElem?_eq_getElem hlt] at hdd
    obtain rfl := Option.some.inj hdd
    have f3 := ft.grow g3 k3 ft.rs
    unfold outL at ps
    cases z : setT tg ds[i] (wipeR ρ vs) with
    | none => rw [z] at ps; exact False.elim ps
    | some ρ1 =>
      rw [z] at ps
      refine tg_read tg f3 r3 z fun σ1 f1 w1 => ⟨(w1 vs hv).trans (wipe_wipe σ vs vs fun _ h => h), ?_⟩
      simp only [must_must] at ps
      refine ⟨Z, ρ1, st, I3, M, f1, must_read (γ := Unit) ps fun b st2 b' I4 M4 H4 ps4 g4 k4 r4 eb => ?_⟩
      have eb : b' = b := eb
      subst eb
      have ft4 := ft.grow (g3.trans g4) k4 r4
      have gr4 := gr.trans (g3.trans g4)
      obtain ⟨d1, d2, d3⟩ := keep (g3.trans g4) hd di dm
      cases b' with
      | false =>
        simp only [Bool.false_eq_true, if_false] at ps4 ⊢
        exact ⟨st2, I4, M4, acc, es.trans (g3.i.trans g4.i), gr4, ft4, d1, d2, d3, asc, ps4⟩
      | true =>
        simp only [if_true, must_must] at ps4 ⊢
        have f4 := f1.grow g4 k4 r4
        refine ⟨Z, ρ1, st2, I4, M4, f4, must_read (γ := Unit) ps4 fun js st5 J' I5 M5 H5 ps5 g5 k5 r5 hJ' => ?_⟩
        have f5 := f4.grow g5 k5 r5
        let P' : List PyData → Hp → Prop := fun rest H => ∃ st I M acc, Same I5 I ∧ Same I1 I ∧ Grow I1 M1 H1 I M H ∧ Fit U K Z (wipe σ1 us) (wipeR ρ1 us) st I M H ∧ Fit U K Z (wipe σ vs) (wipeR ρ vs) st I M H ∧ H D = some (SetO w D (memS acc) acc.length) ∧ I D = none ∧ M.h D = none ∧ acc.Pairwise (· < ·) ∧
          PostN U K (must (inL tg' T' E (wipeR ρ1 us) rest acc st) fun acc' st' => must (outL tg T G us tg' T' E (wipeR ρ vs) (ds.drop (i + 1)) acc' st') endL) I1 M1 H1 Q (fun cls d H' => W cls d σ H')
        obtain ⟨d51, d52, d53⟩ := keep g5 d1 d2 d3
        refine ⟨fun j n H => n = js.length - j ∧ j ≤ js.length ∧ P' (js.drop j) H, ⟨js.length, rfl, Nat.zero_le _, st5, I5, M5, acc, Same.refl _, es.trans (g3.i.trans (g4.i.trans g5.i)), gr4.trans g5, f5.wipe us, ft4.grow g5 k5 r5, d51, d52, d53, asc, ps5⟩, ?_⟩
        rintro j n H6 ⟨rfl, hj, st6, I6, M6, acc6, es6, es16, gr6, fi6, ft6, d61, d62, d63, asc6, ps6⟩
        by_cases hlj : j < js.length
        · refine .inr ⟨hJ'.go j I6 M6 H6 es6 ft6.ok hlj, P' (js.drop (j + 1)), fun H' p => ⟨js.length - (j + 1), by omega, rfl, hlj, p⟩, fun x7 H7 hy7 => ?_⟩
          rw [List.drop_eq_getElem_cons hlj] at ps6
          obtain ⟨d7, I7, hd7, g7, k7, r7⟩ := hJ'.yld j I6 M6 H6 x7 H7 es6 ft6.ok hlj hy7
          rw [List.getElem?_eq_getElem hlj] at hd7
          obtain rfl := Option.some.inj hd7
          have f7 := fi6.grow g7 k7 fi6.rs
          unfold inL at ps6
          cases z7 : setT tg' js[j] (wipeR ρ1 us) with
          | none => rw [z7] at ps6; exact False.elim ps6
          | some ρ2 =>
            rw [z7] at ps6
            refine tg_read tg' f7 r7 z7 fun σ2 f8 w8 => ⟨(w8 us hu).trans (wipe_wipe σ1 us us fun _ h => h), ?_⟩
            simp only [must_must] at ps6
            refine ⟨Z, ρ2, st6, I7, M6, f8, must_read (γ := Unit) ps6 fun b st9 b' I9 M9 H9 ps9 g9 k9 r9 eb => ?_⟩
            have eb : b' = b := eb
            subst eb
            have gg := g7.trans g9
            obtain ⟨d91, d92, d93⟩ := keep gg d61 d62 d63
            cases b' with
            | false =>
              simp only [Bool.false_eq_true, if_false] at ps9 ⊢
              exact ⟨st9, I9, M9, acc6, es6.trans gg.i, es16.trans gg.i, gr6.trans gg, fi6.grow gg k9 r9, ft6.grow gg k9 r9, d91, d92, d93, asc6, ps9⟩
            | true =>
              simp only [if_true, must_must] at ps9 ⊢
              refine ⟨Z, ρ2, st9, I9, M9, f8.grow g9 k9 r9, must_read (γ := Unit) ps9 fun v st10 y I10 M10 H10 ps10 g10 k10 r10 hy => ?_⟩
              match v, hy, ps10 with
              | .d (.int c), hy, ps10 =>
                simp only at ps10
                by_cases hl : acc6.length < 64
                · rw [if_pos hl] at ps10
                  have hy : y = .int c := Rp.int_inv hy
                  have g3' := gg.trans g10
                  obtain ⟨q1, q2, q3⟩ := keep g3' d61 d62 d63
                  refine ⟨c, memS acc6, acc6.length, hy, q1, by unfold scanBound; omega, st10, I10, M10, insS c acc6, es6.trans g3'.i, es16.trans g3'.i, (gr6.trans g3').updO hD _, (fi6.grow g3' k10 r10).updO zD q1 q2 q3 _, (ft6.grow g3' k10 r10).updO zD q1 q2 q3 _, ?_, q2, q3, insS_asc asc6, ps10⟩
                  rw [upd_same]
                  congr 2
                  · funext l
                    simp only [memS, insS_mem, ← Bool.decide_or]
                  · rw [insS_len asc6]
                    simp only [memS, decide_eq_true_eq]
                · rw [if_neg hl] at ps10
                  exact False.elim ps10
        · have he : j = js.length := by omega
          subst he
          rw [List.drop_length] at ps6
          exact .inl ⟨hJ'.stop I6 M6 H6 es6 ft6.ok, st6, I6, M6, acc6, es16, gr6, ft6, d61, d62, d63, asc6, ps6⟩
  · have he : i = ds.length := by omega
    subst he
    rw [List.drop_length] at ps
    refine .inl ⟨hJ.stop I M H es ft.ok, ?_⟩
    have ps : PostN U K (endL acc st) I1 M1 H1 Q (fun cls d H' => W cls d σ H') := ps
    unfold endL at ps
    by_cases hl : acc.length < 64
    · rw [if_pos hl] at ps
      refine ⟨D, memS acc, acc.length, rfl, hd, hl, fun ns p ha hm hn hp => ?_⟩
      have e : ns = acc := asc_ext ha asc fun x => (hm x).trans (by simp [memS])
      subst e
      have hp1 : H1 p = none := by
        cases z : H1 p with
        | none => rfl
        | some o => exact absurd hp (gr.th p (ne_none_of z))
      obtain ⟨ga, ka⟩ := Grow.allocO (o := .lst (ns.map V.int)) ft.ok hp
      exact ps p _ I M _ hp1 (gr.trans ga) ka ft.rs upd_same (ft.ok.ih.free hp) (ft.ok.mh.free hp) (rp_ints ns)
    · rw [if_neg hl] at ps
      exact False.elim ps
end
section
variable {U : Uni} {X : Cx} {W : WX} {y a p b q : Expr} {u v : List Expr} {sc : Scope} {own : List (Str × Nat)} {us : List Nat} {ps nps pos : Pos} {tg tg' : Tg} {F G : Rho → U.S → Res U.S (List PyData)} {T T' : Rho → U.S → Res U.S Bool} {E : Rho → U.S → Res U.S Val}
theorem pnd_sortS (hg0 : Gl X "sorted") (hm0 : X.mg "sorted" = none) (hc : X.calm = true) (hN : X.N.Nodup) (hi : PId U X W a p F) (ok : BlkOk X.N X.env.scope sc own) (hw : ∀ i ∈ us, i ∈ own.map (·.2)) (hv : ∀ i ∈ tg.slots, i ∈ own.map (·.2)) (hu : ∀ i ∈ tg'.slots, i ∈ us)
    (hg : Blk X sc fun B => PG B a (gT X.K tg)) (ht : Blk X sc fun B => PTsd U B WF u T) (hj : Blk X sc fun B => PId U B WF b q G) (hg' : Blk X sc fun B => PG B b (gT X.K tg')) (ht' : Blk X sc fun B => PTsd U B WF v T') (he : Blk X sc fun B => PEd U B WF y E)
    (hs : ∀ x, foldedSetIterable p X.env x = pure x := by intro _; rfl) (hs' : ∀ env x, foldedSetIterable q env x = pure x := by intro _ _; rfl)
    (h1 : starEach [S2 y a p u b q v sc ps] X.env = (false, eval (S2 y a p u b q v sc ps) X.env) :: starEach [] X.env := by rfl) :
    PNd U X W (.Call (.Name "sorted" nps) [S2 y a p u b q v sc ps] [] pos) (nSortS F (own.map (·.2)) tg T G us tg' T' E) :=
  pe_imp (pe_callB (cr_sortedSet hc) hg0 hm0 rfl (pa_cons (pe_sc2 (wj := tG U X.K WF (rIt X.K) G) (tt := tB U X.K WF T) (tt' := tB U X.K WF T') (te := tE U X.K WF E) hc hN hi ok hw hg ht hj hg' ht' he hs hs') pa_nil h1) (by decide) (by decide) h1 rfl) fun σ H Q h => sc2_read hv hu h
end
end Dl
set_option maxRecDepth 100000
set_option maxHeartbeats 4000000
namespace Dl
open PySem L2 PySem.Spec PyProof.Rows
/-! ### three stores at once -/
section
variable {S : Type}
def sPar3 (i j l : Nat) (A : Rho → S → Res S (List Val)) : Rho → S → SRes S := fun ρ st => sBind (A ρ st) ρ fun vs st1 => match vs with
  | [u, v, w] => if isDR u = true ∧ isDR v = true ∧ isDR w = true then .next (((ρ.set i (some u)).set j (some v)).set l (some w)) st1 else .stuck
  | _ => .stuck
variable {E : En S} {ρ : Rho} {st : S}
theorem w_par3 {i j l : Nat} {A : Rho → S → Res S (List Val)} : @Ws _ (sPar3 i j l A ρ st) E = @Wp _ _ (A ρ st) (fun c fs s => E.x c fs ρ s) fun vs s => @Ws _ (match vs with
  | [u, v, w] => if isDR u = true ∧ isDR v = true ∧ isDR w = true then .next (((ρ.set i (some u)).set j (some v)).set l (some w)) s else .stuck
  | _ => .stuck) E := propext ws_bind
end
theorem VRs.three {K : PySem.W.Frag} {I : Hp} {M : Mw} {H : Hp} {xs : List V} {u v w : Val} (h : VRs K I M H xs [u, v, w]) : ∃ x y z, xs = [x, y, z] ∧ VR K I M H x u ∧ VR K I M H y v ∧ VR K I M H z w := by
  cases h with
  | cons a r =>
    obtain ⟨y, z, rfl, b, c⟩ := VRs.two r
    exact ⟨_, y, z, rfl, a, b, c⟩
section
variable {U : Uni} {X : Cx} {W : WX} {A : Rho → U.S → Res U.S (List Val)} {pos : Pos}
theorem psd_par3 {i j l : Nat} {x y z : Str} {a b c : Expr} {px py pz pt : Pos} {kt k2 pt2} (hc : X.calm = true) (hN : X.N.Nodup) (hi : X.N[i]? = some x) (hj : X.N[j]? = some y) (hl : X.N[l]? = some z) (hij : i ≠ j) (hil : i ≠ l) (hjl : j ≠ l)
    (hx : X.env.scope.names.lookup x = some .local) (hy : X.env.scope.names.lookup y = some .local) (hz : X.env.scope.names.lookup z = some .local) (ha : PAd U X W [a, b, c] A)
    (hw : swappedStores [.Tuple [.Name x px, .Name y py, .Name z pz] kt pt] (.Tuple [a, b, c] k2 pt2) X.env = pure (some [x, y, z]) := by rfl)
    (hs : swapsWithSole [.Tuple [.Name x px, .Name y py, .Name z pz] kt pt] (.Tuple [a, b, c] k2 pt2) pos.line X.env = pure false := by rfl) :
    PSd U X W (.Assign [.Tuple [.Name x px, .Name y py, .Name z pz] kt pt] (.Tuple [a, b, c] k2 pt2) pos) (sPar3 i j l A) := by
  refine ps_imp (ps_par3 hc hN hi hj hl hij hil hjl hx hy hz ha hw hs) fun D σ H h => ?_
  refine tS.bind (rel := VRs X.K) h fun Z ρ st1 xs vs I1 M1 H1 ft hx ps => ?_
  match vs, hx, ps with
  | [u, v, w], hx, ps =>
    obtain ⟨x, y, z, rfl, h1, h2, h3⟩ := VRs.three hx
    simp only at ps
    by_cases hd : isDR u = true ∧ isDR v = true ∧ isDR w = true
    · rw [if_pos hd] at ps
      exact ⟨x, y, z, rfl, ps _ I1 M1 H1 (Same.refl _) (((ft.set i h1 hd.1).set j h2 hd.2.1).set l h3 hd.2.2)⟩
    · rw [if_neg hd] at ps
      exact False.elim ps
end
end Dl
set_option maxRecDepth 100000
set_option maxHeartbeats 4000000
namespace Dl
open PySem L2 PySem.Spec PyProof.Rows
/-! ### constants of the top that are tuples -/
def conIn (K : PySem.W.Frag) : Nat → Value → PyData → Bool
  | 0, _, _ => false
  | n + 1, v, d => match v, d with
    | .none, .none => true
    | .bool b, .bool c => b == c
    | .int i _, .int j => decide (i = j)
    | .str x _, .str y => decide (x = y)
    | .ref a, .tuple ds => match K.lookup a with
      | some o => decide (o.cls = .type "tuple") && (match o.data with
        | .seq its _ => decide (its.toList.length ≤ 1000) && decide (its.toList.length = ds.length) && (its.toList.zip ds).all fun p => conIn K n p.1 p.2
        | _ => false)
      | none => false
    | _, _ => false
theorem conIn_ok {K : PySem.W.Frag} : ∀ {n : Nat} {v : Value} {d : PyData}, conIn K n v d = true → ∃ x, RelV x v ∧ ∀ I, Rp K I x d
  | 0, _, _, h => by cases h
  | n + 1, v, d, h => by
    unfold conIn at h
    split at h
    · exact ⟨.non, rfl, fun _ => .non⟩
    · rw [beq_iff_eq] at h; subst h; exact ⟨.bl _, rfl, fun _ => .bl _⟩
    · have h := of_decide_eq_true h; subst h; exact ⟨.int _, ⟨_, rfl⟩, fun _ => .int _⟩
    · have h := of_decide_eq_true h; subst h; exact ⟨.str _, ⟨_, rfl⟩, fun _ => .str _⟩
    · rename_i a ds
      split at h
      · rename_i o ho
        rw [Bool.and_eq_true] at h
        obtain ⟨h1, h2⟩ := h
        split at h2
        · rename_i its m hd
          simp only [Bool.and_eq_true] at h2
          obtain ⟨⟨h2, h3⟩, h4⟩ := h2
          have h2 := of_decide_eq_true h2
          have h3 := of_decide_eq_true h3
          have key : ∀ (us : List Value) (es : List PyData), us.length = es.length → ((us.zip es).all fun p => conIn K n p.1 p.2) = true → ∃ xs, Vals xs us ∧ ∀ I, RpAll K I xs es := by
            intro us
            induction us with
            | nil =>
              intro es hl _
              cases es with
              | nil => exact ⟨[], .nil, fun _ => .nil⟩
              | cons e es => cases hl
            | cons u us ih =>
              intro es hl hz
              cases es with
              | nil => cases hl
              | cons e es =>
                simp only [List.zip_cons_cons, List.all_cons, Bool.and_eq_true] at hz
                obtain ⟨x, r1, r2⟩ := conIn_ok hz.1
                obtain ⟨xs, r3, r4⟩ := ih es (by simpa using hl) hz.2
                exact ⟨x :: xs, .cons r1 r3, fun I => .cons (r2 I) (r4 I)⟩
          obtain ⟨xs, r1, r2⟩ := key _ _ h3 h4
          exact ⟨.ref a, rfl, fun I => .tup (.inr ⟨o, its, m, ho, of_decide_eq_true h1, hd, by rw [← Array.length_toList]; exact Nat.le_trans h2 (by decide), r1⟩) (r2 I)⟩
        · cases h2
      · cases h
    · cases h
theorem conIn_ref {K : PySem.W.Frag} {n : Nat} {a : Addr} {d : PyData} (h : conIn K n (.ref a) d = true) : ∀ I, Rp K I (.ref a) d := by
  obtain ⟨x, r, q⟩ := conIn_ok h
  cases x <;> first | (cases r; exact q) | (obtain ⟨_, r⟩ := r; cases r) | cases r
/-! ### a table of defs by texts -/
def TabE : List DictEntry → List (Str × Addr) → Prop
  | [], [] => True
  | e :: es, p :: tb => ((∃ t, e.key = .str p.1 t) ∧ e.val = .ref p.2) ∧ TabE es tb
  | _, _ => False
theorem tab_find : ∀ {es : List DictEntry} {tb : List (Str × Addr)}, TabE es tb → ∀ x : Str, (es.find? fun e => Value.isStrOf x e.key).map (·.val) = (tb.lookup x).map Value.ref
  | [], [], _, x => rfl
  | e :: es, (y, f) :: tb, ⟨⟨⟨t, h1⟩, h2⟩, r⟩, x => by
    have ih := tab_find r x
    have e1 : Value.isStrOf x e.key = (x == y) := by
      rw [h1]
      show decide (y = x) = (x == y)
      by_cases h : x = y
      · subst h; simp
      · rw [decide_eq_false (Ne.symm h)]
        exact (beq_eq_false_iff_ne.mpr h).symm
    by_cases h : x = y
    · subst h
      rw [List.find?_cons_of_pos (by rw [e1]; simp), List.lookup_cons]
      simp [h2]
    · have h' : (x == y) = false := by simpa using h
      rw [List.find?_cons_of_neg (by rw [e1, h']; exact Bool.false_ne_true), List.lookup_cons, h']
      exact ih
structure TabF (w : World) (K : PySem.W.Frag) (mg : Str → Option Value) (x : Str) (a : Addr) (tb : List (Str × Addr)) : Prop where
  m : mg x = some (.ref a)
  no : (a == sysModules) = false
  ex : ∃ es n, K.lookup a = some ⟨.type "dict", none, .dict es n, #[]⟩ ∧ PySem.W.KeysLit w.params es.toList ∧ TabE es.toList tb
theorem TabF.map {P : Program} {w : World} {K : PySem.W.Frag} {mg : Str → Option Value} {x : Str} {a : Addr} {tb : List (Str × Addr)} {h : Heap} (T : TabF w K mg x a tb) (X : K.In h) : ∃ f, h.MapOf (strKind P w) a f ∧ ∀ z, f z = (tb.lookup z).map Value.ref := by
  obtain ⟨es, n, hl, hk, he⟩ := T.ex
  refine ⟨_, PySem.W.mapOf_K (prog := P) X hl hk, fun z => ?_⟩
  have := tab_find he z
  unfold findBy
  rw [← Array.find?_toList]
  exact this
section
variable {S : Type}
def tInT (ks : List Str) (a : Rho → S → Res S Val) : Rho → S → Res S Bool := fun ρ st => (a ρ st).bind fun v st1 => match v with
  | .d (.str x) => .ok (ks.contains x) st1
  | _ => .stuck
def eAppT (fs : List (Str × (List Val → S → Res S Val))) (n : Nat) (k : Rho → S → Res S Val) (A : Rho → S → Res S (List Val)) : Rho → S → Res S Val := fun ρ st => (k ρ st).bind fun v st1 => match v with
  | .d (.str x) => match fs.lookup x with
    | some F => eApp F n A ρ st1
    | none => .stuck
  | _ => .stuck
end
theorem contains_lookup {β : Type} (x : Str) : ∀ (tb : List (Str × β)), (tb.map (·.1)).contains x = (tb.lookup x).isSome
  | [] => rfl
  | (y, f) :: tb => by
    rw [List.map_cons, List.contains_cons, List.lookup_cons, contains_lookup x tb]
    cases x == y <;> rfl
section
variable {U : Uni} {X : Cx} {W : WX} {a : Expr} {Fa : Rho → U.S → Res U.S Val} {A : Rho → U.S → Res U.S (List Val)} {pos p q : Pos} {x : Str} {ad : Addr} {tb : List (Str × Addr)}
def rInT (tb : List (Str × Addr)) (ad : Addr) : R2 := fun x y H Q => ∃ z, x = .str z ∧ y = .ref ad ∧ Q (.bl ((tb.map (·.1)).contains z)) H
theorem op_inT (T : TabF X.w X.K X.mg x ad tb) : OpR X (compareOp .In) (rInT tb ad) := by
  intro pins s σ H x y v u Q I rx ry h
  obtain ⟨z, rfl, rfl, q⟩ := h
  obtain ⟨t, rfl⟩ := rx
  cases ry
  obtain ⟨f, hm, hf⟩ := T.map (P := X.prog) I.kIn
  refine wpAny_in_of (strKind_is _ _ z t) T.no hm ?_
  refine ⟨.bl _, H, I.tok _, rfl, ?_⟩
  rw [hf, Option.isSome_map, ← contains_lookup]
  exact q
theorem ptd_inT (T : TabF X.w X.K X.mg x ad tb) (hg : Gl X x) (ha : PEd U X W a Fa) (hm : behindInMarks .In (.Name x p) = false) (hdb : (x == ("__debug__" : Str)) = false := by decide) : PTd U X W (.Compare a [.In] [.Name x p] pos) (tInT (tb.map (·.1)) Fa) := by
  refine pt_imp (pt_cmpR (op_inT T) ha (pe_glob (v := .ref ad) hg T.m rfl hdb) hm) fun σ H Q h => ?_
  refine tG.bind h fun Z ρ st1 x u I1 M1 H1 ft hx ps => ?_
  match u, hx, ps with
  | .d (.str z), hx, ps => exact ⟨z, Rp.str_inv hx, rfl, _, rfl, ps _ I1 M1 H1 (Grow.refl _ _ _) ft.ok ft.rs rfl⟩
theorem ped_inT (T : TabF X.w X.K X.mg x ad tb) (hg : Gl X x) (ha : PEd U X W a Fa) (hm : behindInMarks .In (.Name x p) = false) (hdb : (x == ("__debug__" : Str)) = false := by decide) : PEd U X W (.Compare a [.In] [.Name x p] pos) (eB (tInT (tb.map (·.1)) Fa)) := by
  refine pe_imp (pe_cmpR (op_inT T) ha (pe_glob (v := .ref ad) hg T.m rfl hdb) hm) fun σ H Q h => ?_
  have h' : tE U X.K W (fun ρ st => (Fa ρ st).bind fun v st1 => (match v with | .d (.str x) => Res.ok ((tb.map (·.1)).contains x) st1 | _ => .stuck : Res U.S Bool).bind fun b st2 => .ok (.d (.bool b)) st2) σ H Q := by
    obtain ⟨Z, ρ, st, I, M, ft, ps⟩ := h
    refine ⟨Z, ρ, st, I, M, ft, ?_⟩
    unfold eB tInT at ps
    show Post U X.K (VR X.K) ((Fa ρ st).bind _) I M H Q _
    cases z : Fa ρ st with
    | ok v st1 => rw [z] at ps; exact ps
    | exc c fs st1 => rw [z] at ps; exact ps
    | stuck => rw [z] at ps; exact ps
  refine tG.bind h' fun Z ρ st1 x u I1 M1 H1 ft hx ps => ?_
  match u, hx, ps with
  | .d (.str z), hx, ps => exact ⟨z, Rp.str_inv hx, rfl, Post.boolE ps ft.ok ft.rs⟩
inductive TabG (U : Uni) (P : Program) (w : World) (K : PySem.W.Frag) (mg : Str → Option Value) (base : Heap) (k n : Nat) : List (Str × Addr) → List (Str × (List Val → U.S → Res U.S Val)) → Prop
  | nil : TabG U P w K mg base k n [] []
  | cons {x : Str} {f : Addr} {F : List Val → U.S → Res U.S Val} {fd : FuncData} {ps : List Str} {tb : List (Str × Addr)} {fs : List (Str × (List Val → U.S → Res U.S Val))} (G : FnG U P w K mg base k f fd ps F) (hn : ps.length = n) (hk : PySem.W.keepIn K (.ref f) = true) (hb : Binds K fd ps []) (r : TabG U P w K mg base k n tb fs) : TabG U P w K mg base k n ((x, f) :: tb) ((x, F) :: fs)
theorem TabG.get {P : Program} {w : World} {K : PySem.W.Frag} {mg : Str → Option Value} {base : Heap} {k n : Nat} {tb : List (Str × Addr)} {fs : List (Str × (List Val → U.S → Res U.S Val))} (g : TabG U P w K mg base k n tb fs) {z : Str} {F : List Val → U.S → Res U.S Val} (e : fs.lookup z = some F) :
    ∃ f fd ps, tb.lookup z = some f ∧ FnG U P w K mg base k f fd ps F ∧ ps.length = n ∧ PySem.W.keepIn K (.ref f) = true ∧ Binds K fd ps [] := by
  induction g with
  | nil => cases e
  | @cons x f F' fd ps tb fs G hn hk hb r ih =>
    rw [List.lookup_cons] at e ⊢
    cases h : z == x with
    | true => rw [h] at e; cases e; exact ⟨f, fd, ps, rfl, G, hn, hk, hb⟩
    | false => rw [h] at e; exact ih e
theorem ped_callT {k n : Nat} {fs : List (Str × (List Val → U.S → Res U.S Val))} {ix e : Expr} {es : List Expr} {Fk : Rho → U.S → Res U.S Val} (T : TabF X.w X.K X.mg x ad tb) (g : TabG U X.prog X.w X.K X.mg X.base k n tb fs) (hr : Room k X.A) (hgd : X.A.guards = some []) (hg : Gl X x) (tk : Takes X W)
    (hi : PEd U X W ix Fk) (hs : NoSl ix) (ha : PAd U X W (e :: es) A) (hdb : (x == ("__debug__" : Str)) = false := by decide)
    (ht : eval (.Call (.Subscript (.Name x p) ix q) (e :: es) [] pos) X.env = (do callWith pos (← eval (.Subscript (.Name x p) ix q) X.env) [] (backTo pos (starEach (e :: es) X.env)) (backToKw pos (keywordEach [] X.env))) := by rfl)
    (he : starEach (e :: es) X.env = (false, eval e X.env) :: starEach es X.env := by rfl) (hpl : (backTo pos (starEach es X.env)).any (·.1) = false := by rfl) :
    PEd U X W (.Call (.Subscript (.Name x p) ix q) (e :: es) [] pos) (eAppT fs n Fk A) := by
  refine ⟨fun pins s σ H Q J h => Call_ (subD_of PySem.F.slot_dict_getitem.lookup hs (ld_glob J hg T.m ?_ hdb)) ht⟩
  have h1 : tE U X.K W Fk σ H (fun y H1 => ∃ z F, y = .str z ∧ fs.lookup z = some F ∧ tE U X.K W (eApp F n A) σ H1 Q) := by
    refine tG.bind h fun Z ρ st1 y u I1 M1 H1 ft hx ps => ?_
    match u, hx, ps with
    | .d (.str z), hx, ps =>
      simp only at ps
      cases e : fs.lookup z with
      | none => rw [e] at ps; exact False.elim ps
      | some F =>
        rw [e] at ps
        exact ⟨z, F, Rp.str_inv hx, e, Z, ρ, st1, I1, M1, ft, ps⟩
  have hi' : PE X ix (tE U X.K W Fk) := hi
  refine thn (hi'.run pins s σ H _ J h1) fun iv s1 ⟨y, H1, J1, ry, z, F, ey, eF, q1⟩ => ?_
  subst ey
  obtain ⟨t, rfl⟩ := ry
  obtain ⟨f, fd, ps, ef, G, hn, hk, hb⟩ := g.get eF
  obtain ⟨m, hm, hf⟩ := T.map (P := X.prog) J1.kIn
  refine ⟨hm.typeIs, wpAny_getItem_of (strKind_is _ _ z t) hm (by rw [hf, ef]; rfl) ?_⟩
  have J2 := J1.tok (s1.toks + 1)
  have h2 : tAs U X.K W A σ H1 (fun xs H1 => ∃ vs st1 I1 M1, Ok I1 M1 H1 ∧ U.R st1 M1 ∧ VRs X.K I1 M1 H1 xs vs ∧ vs.all isDR = true ∧ vs.length = ps.length ∧ Post U X.K (VR X.K) (F vs st1) I1 M1 H1 Q (fun cls d H' => W cls d σ H')) := by
    refine tG.bind q1 fun Z ρ st1 xs vs I1 M1 H1 ft hx ps1 => ?_
    by_cases hc : vs.all isDR = true ∧ vs.length = n
    · rw [if_pos hc] at ps1
      exact ⟨vs, st1, I1, M1, ft.ok, ft.rs, hx, hc.1, hc.2.trans hn.symm, ps1⟩
    · rw [if_neg hc] at ps1
      exact False.elim ps1
  have ha' : PA X (e :: es) (tAs U X.K W A) := ha
  refine PySem.W.callWith_K (h₀ := X.base) J2.ok.mod.kin hk (thn (ha'.run pos pins _ σ H1 _ J2 h2) fun us s2 ⟨xs, H2, J3, r, q3⟩ => ⟨J3.kIn, ?_⟩) he hpl
  obtain ⟨vs, st1, I1, M1, ok, rs, hv, hd, hl, ps1⟩ := q3
  exact run_g G hr hgd hb tk J3 r (hv.len.trans hl) ok rs hv hd ps1
end
end Dl
set_option maxRecDepth 100000
set_option maxHeartbeats 4000000
namespace Dl
open PySem L2 PySem.Spec PyProof.Rows
/-! ### zip(*rows), rows a tuple of tuples of one length, the target a name -/
/-- a for that goes through: what holds ahead of the j-th -/
theorem forIn_all {M : Model} {A : Around} {E : Value → Shared → Prop} {α β : Type} {f : α → β → Sem (ForInStep β)} {Q : β → Shared → Prop} (J : Nat → β → Shared → Prop) : ∀ (l : List α) (i : Nat) (b : β) (s : Shared), J i b s →
    (∀ j a b s, l[j]? = some a → J (i + j) b s → wpAny M A (f a b) (fun r s' => ∃ b', r = .yield b' ∧ J (i + j + 1) b' s') E s) → (∀ b s, J (i + l.length) b s → Q b s) → wpAny M A (forIn l b f) Q E s
  | [], i, b, s, h, _, e => by
    rw [List.forIn_nil]
    exact wpAny_pure (e b s h)
  | a :: l, i, b, s, h, t, e => by
    rw [List.forIn_cons]
    refine wpAny_bind (wpAny_mono (t 0 a b s rfl h) (fun r s' hr => ?_) fun _ _ x => x)
    obtain ⟨b', rfl, hj⟩ := hr
    refine forIn_all J l (i + 1) b' s' hj (fun j a b s ha hj => ?_) fun b s hj => e b s ?_
    · have := t (j + 1) a b s (by simpa using ha) (by rw [show i + (j + 1) = i + 1 + j by omega]; exact hj)
      rwa [show i + (j + 1) + 1 = i + 1 + j + 1 by omega] at this
    · rw [List.length_cons, show i + (l.length + 1) = i + 1 + l.length by omega]
      exact hj
abbrev ZO (h : Heap) (z TI TO : Addr) (f0 : Value) (b : Bool) : Prop := h.get? z = some { cls := .type "zip", dict := none, data := .fields #[f0, .bool b, .bool false, .ref TI, .ref TO], slots := #[] }
abbrev TupO (h : Heap) (T : Addr) (xs : List Value) : Prop := h.get? T = some { cls := .type "tuple", data := .seq xs.toArray }
/-- an iterator, its row, the row's items -/
abbrev Col := Addr × Addr × Array Value
def ColAt (h : Heap) (c : Col) (i : Nat) : Prop := IsIt false h c.1 c.2.1 i ∧ IsSrc false h c.2.1 c.2.2
structure ZSep (z TI TO : Addr) (cs : List Col) : Prop where
  nd : (z :: TI :: TO :: cs.map (·.1)).Nodup
  src : ∀ c ∈ cs, c.2.1 ∉ (z :: TI :: TO :: cs.map (·.1))
def rowAt (cs : List Col) (i : Nat) : List Value := cs.map fun c => c.2.2.getD i .none
section
variable {prog : Program} {w : World} {A : Around} {E : Value → Shared → Prop} {s : Shared} {z TI TO : Addr} {cs : List Col} {n i : Nat}
theorem ZSep.it_ne (S : ZSep z TI TO cs) {c : Col} (hc : c ∈ cs) : c.1 ≠ z ∧ c.1 ≠ TI ∧ c.1 ≠ TO := by
  have h := S.nd
  simp only [List.nodup_cons, List.mem_cons, not_or] at h
  have hm : c.1 ∈ cs.map (·.1) := List.mem_map.mpr ⟨c, hc, rfl⟩
  exact ⟨fun e => h.1.2.2 (e ▸ hm), fun e => h.2.1.2 (e ▸ hm), fun e => h.2.2.1 (e ▸ hm)⟩
theorem ZSep.z_ne (S : ZSep z TI TO cs) : z ≠ TI ∧ z ≠ TO ∧ TI ≠ TO := by
  have h := S.nd
  simp only [List.nodup_cons, List.mem_cons, not_or] at h
  exact ⟨h.1.1, h.1.2.1, h.2.1.1⟩
theorem ZSep.its_ne (S : ZSep z TI TO cs) {j k : Nat} {c d : Col} (hj : cs[j]? = some c) (hk : cs[k]? = some d) (h : j ≠ k) : c.1 ≠ d.1 := by
  have hn : (cs.map (·.1)).Nodup := by
    have h := S.nd
    simp only [List.nodup_cons] at h
    exact h.2.2.2
  intro e
  have e1 : (cs.map (·.1))[j]? = some c.1 := by rw [List.getElem?_map, hj]; rfl
  have e2 : (cs.map (·.1))[k]? = some d.1 := by rw [List.getElem?_map, hk]; rfl
  rw [← e] at e2
  obtain ⟨l1, g1⟩ := List.getElem?_eq_some_iff.mp e1
  obtain ⟨l2, g2⟩ := List.getElem?_eq_some_iff.mp e2
  exact h ((List.getElem_inj hn).mp (g1.trans g2.symm))
theorem ZSep.src_ne (S : ZSep z TI TO cs) {c d : Col} (hc : c ∈ cs) (hd : d ∈ cs) : c.2.1 ≠ d.1 ∧ c.2.1 ≠ z ∧ c.2.1 ≠ TO := by
  have h := S.src c hc
  simp only [List.mem_cons, not_or] at h
  exact ⟨fun e => h.2.2.2 (e ▸ List.mem_map.mpr ⟨d, hd, rfl⟩), h.1, h.2.2.1⟩
/-- the first k columns stand one further -/
def MidC (cs : List Col) (i k : Nat) (h : Heap) : Prop := ∀ j c, cs[j]? = some c → ColAt h c (if j < k then i + 1 else i)
theorem ColAt.frame {h h' : Heap} {c : Col} {i : Nat} (st : ColAt h c i) (hk : ∀ b, b = c.1 ∨ b = c.2.1 → ∀ o, h.get? b = some o → h'.get? b = some o) : ColAt h' c i := by
  refine ⟨st.1.at fun o e => hk _ (.inl rfl) o e, ?_⟩
  have := st.2
  exact Heap.IsTuple.at this fun o e => hk _ (.inr rfl) o e
/-- one column drawn -/
theorem col_draw {A : Around} (hh : A.handled = none) (S : ZSep z TI TO cs) {k : Nat} {c : Col} (hc : cs[k]? = some c) (hl : i < c.2.2.size) (st : MidC cs i k s.heap) {Q : Value → Shared → Prop}
    (h : ∀ g tk, MidC cs i (k + 1) g → Heap.SameBut c.1 s.heap g → Q (c.2.2.getD i .none) { s with heap := g, toks := tk }) : wpAny (model prog w) A (Builtin.SmallTypes.nextOf (.ref c.1)) Q E s := by
  have hm : c ∈ cs := List.mem_of_getElem? hc
  have h0 := st k c hc
  rw [if_neg (Nat.lt_irrefl _)] at h0
  refine (draws_src (prog := prog) (w := w) (A := A) false hh c.1 c.2.1 (S.src_ne hm hm).1 c.2.2).item i s Q E hl h0 fun x g tk hx st1 sb => ?_
  have ex : c.2.2.getD i .none = x := by
    have hx : c.2.2[i]? = some x := hx
    simp [Array.getD_eq_getD_getElem?, hx]
  rw [← ex]
  refine h g tk (fun j d hd => ?_) sb
  by_cases hj : j = k
  · subst hj
    rw [hc] at hd
    cases hd
    rw [if_pos (Nat.lt_succ_self _)]
    exact st1
  · have hdm : d ∈ cs := List.mem_of_getElem? hd
    have := st j d hd
    have e : (if j < k + 1 then i + 1 else i) = (if j < k then i + 1 else i) := by
      by_cases h1 : j < k
      · rw [if_pos h1, if_pos (by omega)]
      · rw [if_neg h1, if_neg (by omega)]
    rw [e]
    refine this.frame fun b hb o eo => sb.extBut _ _ ?_ eo
    rcases hb with rfl | rfl
    · exact S.its_ne hd hc hj
    · exact (S.src_ne hdm hm).1
theorem MidC.frame {k : Nat} {h h' : Heap} (st : MidC cs i k h) (x : Addr) (sb : Heap.SameBut x h h') (hx : ∀ c ∈ cs, c.1 ≠ x ∧ c.2.1 ≠ x) : MidC cs i k h' := fun j c hc =>
  (st j c hc).frame fun b hb o e => by
    have hm := hx c (List.mem_of_getElem? hc)
    refine sb.extBut _ _ ?_ e
    rcases hb with rfl | rfl
    · exact hm.1
    · exact hm.2
theorem updSeq_tup {T : Addr} {xs : List Value} {x : Value} {k : Nat} {Q : Unit → Shared → Prop} (hT : TupO s.heap T xs) (hl : xs.length ≤ 100) (h : ∀ h', TupO h' T (xs.set k x) → Heap.SameBut T s.heap h' → Q () { s with heap := h' }) :
    wpAny (model prog w) A (updateSeq T (·.setIfInBounds k x)) Q E s := by
  have z1 : xs.toArray.size ≤ sizeLine := by rw [List.size_toArray]; exact Nat.le_trans hl (by decide)
  have z2 : (xs.toArray.setIfInBounds k x).size ≤ sizeLine + 1 := by rw [Array.size_setIfInBounds]; exact Nat.le_succ_of_le z1
  refine wpAny_updateSeq (hz := z1) (_hz' := z2) hT rfl (h _ ?_ (Heap.SameBut.update ..))
  show Heap.get? _ _ = _
  rw [Heap.get?_update_self _ hT rfl]
  simp [Obj.mapSeq]
/-- as far as the draws of a turn: k columns drawn -/
structure ZMid (s : Shared) (z TI TO : Addr) (cs : List Col) (i k : Nat) (f0 : Value) (b : Bool) (arr : List Value) (g : Heap) : Prop where
  zo : ZO g z TI TO f0 b
  to : TupO g TO arr
  ti : TupO g TI (cs.map fun c => .ref c.1)
  len : arr.length = cs.length
  mid : MidC cs i k g
  sz : g.objs.size = s.heap.objs.size
  kp : ∀ c o, c ≠ z → c ≠ TO → c ∉ cs.map (·.1) → s.heap.get? c = some o → g.get? c = some o
theorem ZMid.col {k : Nat} {f0 : Value} {b : Bool} {arr : List Value} {g g' : Heap} {c : Col} (m : ZMid s z TI TO cs i k f0 b arr g) (S : ZSep z TI TO cs) (hc : c ∈ cs) (mid : MidC cs i (k + 1) g') (sb : Heap.SameBut c.1 g g') : ZMid s z TI TO cs i (k + 1) f0 b arr g' := by
  have hn := S.it_ne hc
  exact ⟨sb.extBut _ _ hn.1.symm m.zo, sb.extBut _ _ hn.2.2.symm m.to, sb.extBut _ _ hn.2.1.symm m.ti, m.len, mid, sb.1.trans m.sz, fun d o h1 h2 h3 e => sb.extBut _ _ (fun q => h3 (q ▸ List.mem_map.mpr ⟨c, hc, rfl⟩)) (m.kp d o h1 h2 h3 e)⟩
theorem ZMid.put {k : Nat} {f0 : Value} {b : Bool} {arr arr' : List Value} {g g' : Heap} (m : ZMid s z TI TO cs i k f0 b arr g) (S : ZSep z TI TO cs) (hT : TupO g' TO arr') (hl : arr'.length = cs.length) (sb : Heap.SameBut TO g g') : ZMid s z TI TO cs i k f0 b arr' g' := by
  have hn := S.z_ne
  exact ⟨sb.extBut _ _ hn.2.1 m.zo, hT, sb.extBut _ _ hn.2.2 m.ti, hl, m.mid.frame TO sb fun c hc => ⟨(S.it_ne hc).2.2, (S.src_ne hc hc).2.2⟩, sb.1.trans m.sz, fun d o h1 h2 h3 e => sb.extBut _ _ h2 (m.kp d o h1 h2 h3 e)⟩
theorem ZMid.own {k : Nat} {f0 f1 : Value} {b b1 : Bool} {arr : List Value} {g g' : Heap} (m : ZMid s z TI TO cs i k f0 b arr g) (S : ZSep z TI TO cs) (hz : ZO g' z TI TO f1 b1) (sb : Heap.SameBut z g g') : ZMid s z TI TO cs i k f1 b1 arr g' := by
  have hn := S.z_ne
  exact ⟨hz, sb.extBut _ _ hn.2.1.symm m.to, sb.extBut _ _ hn.1.symm m.ti, m.len, m.mid.frame z sb fun c hc => ⟨(S.it_ne hc).1, (S.src_ne hc hc).2.1⟩, sb.1.trans m.sz, fun d o h1 h2 h3 e => sb.extBut _ _ h1 (m.kp d o h1 h2 h3 e)⟩
theorem wpAny_alive {M : Model} {A : Around} {E : Value → Shared → Prop} {s : Shared} {a : Addr} {Q : Option Obj → Shared → Prop} (h : Q (s.heap.get? a) s) : wpAny M A (loadIfAlive a) Q E s := fun Γ p _ => by
  show Sem.wp M Γ (Sem.loadIfAlive a Sem.pure) _ _ p s
  rw [Sem.wp_loadIfAlive, Sem.wp_pure]
  exact h
theorem zfree {Q : Bool → Shared → Prop} {f0 : Value} {b : Bool} (hz : ZO s.heap z TI TO f0 b) (hf : f0 = .none ∨ ∃ T : Nat, f0 = rawInt T) (h1 : Q true s) (h2 : ∀ h', ZO h' z TI TO f0 true → Heap.SameBut z s.heap h' → Q false { s with heap := h' }) :
    wpAny (model prog w) A (Builtin.SmallTypes.ownedTupleIsFree (.ref z)) Q E s := by
  unfold Builtin.SmallTypes.ownedTupleIsFree
  refine wpAny_bind (wpAny_field hz rfl (x := f0) rfl ?_)
  rcases hf with rfl | ⟨T, rfl⟩
  · exact wpAny_pure h1
  · show wpAny _ _ (loadIfAlive _ >>= _) _ _ _
    refine wpAny_bind (wpAny_alive ?_)
    cases s.heap.get? (Int.toNat (T : Int)) with
    | none => exact wpAny_pure h1
    | some o =>
      show wpAny _ _ (field (.ref z) 1 >>= _) _ _ _
      refine wpAny_bind (wpAny_field hz rfl (x := .bool b) rfl ?_)
      cases b with
      | true => exact wpAny_pure (h2 s.heap hz (Heap.SameBut.refl _ _))
      | false =>
        show wpAny _ _ (setField (.ref z) 1 (.bool true) >>= _) _ _ _
        exact wpAny_bind (wpAny_setField_rec hz (by simp) fun h' hz' hs' => wpAny_pure (h2 h' hz' hs'))
theorem row_len (cs : List Col) (i : Nat) : (rowAt cs i).length = cs.length := by simp [rowAt]
theorem row_get {cs : List Col} {i j : Nat} {c : Col} (h : cs[j]? = some c) : (rowAt cs i)[j]? = some (c.2.2.getD i .none) := by simp [rowAt, h]
theorem take_set {arr row : List Value} {j : Nat} {v : Value} (ht : arr.take j = row.take j) (hr : row[j]? = some v) (hl : j < arr.length) : (arr.set j v).take (j + 1) = row.take (j + 1) := by
  rw [List.take_add_one, List.take_add_one, hr, List.getElem?_set_self hl, List.take_set_of_le (Nat.le_refl _), ht]
theorem zipN_next_item {Q : Value → Shared → Prop} {f0 : Value} {b : Bool} {arr : List Value} (hh : A.handled = none) (S : ZSep z TI TO cs) (hcs : cs ≠ []) (h100 : cs.length ≤ 100) (hn : ∀ c ∈ cs, i < c.2.2.size) (hf : f0 = .none ∨ ∃ T : Nat, f0 = rawInt T)
    (m0 : ZMid s z TI TO cs i 0 f0 b arr s.heap)
    (hQ : ∀ h' tk f1 b1 arr1, (f1 = .none ∨ ∃ T : Nat, f1 = rawInt T) → ZO h' z TI TO f1 b1 → TupO h' TO arr1 → TupO h' TI (cs.map fun c => .ref c.1) → arr1.length = cs.length → MidC cs i cs.length h' →
      (∀ c o, c ≠ z → c ≠ TO → c ∉ cs.map (·.1) → s.heap.get? c = some o → h'.get? c = some o) → TupO h' s.heap.objs.size (rowAt cs i) → Q (.ref s.heap.objs.size) { s with heap := h', toks := tk }) :
    wpAny (model prog w) A (Builtin.«zip.__next__» ⟨[.ref z], []⟩) (fun fin s' => ∃ v, fin = .done (.ret v) ∧ Q v s') E s := by
  obtain ⟨hp, g, d, tk0, os⟩ := s
  show wpAny _ _ (field (.ref z) 2 >>= _) _ _ _
  refine wpAny_bind (wpAny_field m0.zo rfl (x := .bool false) rfl ?_)
  show wpAny _ _ (field (.ref z) 3 >>= _) _ _ _
  refine wpAny_bind (wpAny_field m0.zo rfl (x := .ref TI) rfl ?_)
  refine wpAny_bind (wpAny_seqItems m0.ti rfl ?_)
  have ne : (cs.map fun c => Value.ref c.1).toArray.isEmpty = false := by
    cases cs with
    | nil => exact absurd rfl hcs
    | cons c cs => rfl
  simp only [ne, Bool.false_eq_true, if_false]
  have h16 : (rowAt cs i).length ≤ sizeLine := by rw [row_len]; exact Nat.le_trans h100 (by decide)
  refine wpAny_bind (zfree m0.zo hf ?_ fun g0 hz0 hs0 => ?_)
  · simp only [if_true]
    refine wpAny_bind (wpAny_rule ?_)
    refine wpAny_bind (wpAny_field m0.zo rfl (x := .ref TO) rfl ?_)
    refine wpAny_bind (wpAny_setField_rec m0.zo (by simp) fun g0 hz0 hs0 => ?_)
    have m1 : ZMid ⟨hp, g, d, tk0, os⟩ z TI TO cs i 0 .ellipsis b arr g0 := m0.own S hz0 hs0
    refine wpAny_bind (forIn_all (fun k bb s' => bb = (none, ()) ∧ ∃ g1 tk arr1, s' = ⟨g1, g, d, tk, os⟩ ∧ ZMid ⟨hp, g, d, tk0, os⟩ z TI TO cs i k .ellipsis b arr1 g1 ∧ arr1.take k = (rowAt cs i).take k) _ 0 _ _ ⟨rfl, g0, tk0, arr, rfl, m1, rfl⟩ ?_ ?_)
    · rintro j x bb s' hx ⟨rfl, g1, tk, arr1, rfl, m, ht⟩
      rw [Nat.zero_add] at m ht ⊢
      simp only [List.toList_toArray, List.getElem?_zipIdx, List.getElem?_map, Option.map_map] at hx
      cases hc : cs[j]? with
      | none => rw [hc] at hx; cases hx
      | some c =>
        rw [hc] at hx
        have hx : (Value.ref c.1, 0 + j) = x := Option.some.inj hx
        subst hx
        have hm := List.mem_of_getElem? hc
        refine wpAny_bind (wpAny_onRaise ?_)
        show wpAny _ _ (Builtin.SmallTypes.nextOf (.ref c.1) >>= _) _ _ ⟨g1, g, d, tk, os⟩
        refine wpAny_bind (col_draw hh S hc (hn c hm) m.mid fun g2 tk2 mid2 sb2 => wpAny_pure ?_)
        have m2 := m.col S hm mid2 sb2
        refine wpAny_bind (wpAny_seqItems (s := ⟨g2, g, d, tk2, os⟩) m2.to rfl ?_)
        refine wpAny_bind (updSeq_tup (s := ⟨g2, g, d, tk2, os⟩) m2.to (by rw [m2.len]; exact h100) fun g3 hT3 sb3 => ?_)
        have m3 := m2.put S hT3 (by rw [List.length_set]; exact m2.len) sb3
        refine wpAny_bind (wpAny_letGo (wpAny_pure ⟨_, rfl, rfl, g3, tk2, _, rfl, m3, ?_⟩))
        rw [Nat.zero_add]
        exact take_set ht (row_get hc) (by rw [m2.len]; exact (List.getElem?_eq_some_iff.mp hc).1)
    · rintro bb s' ⟨rfl, g1, tk, arr1, rfl, m, ht⟩
      simp only [List.toList_toArray, List.length_zipIdx, List.length_map, Nat.zero_add] at m ht
      have e1 : arr1 = rowAt cs i := by
        rw [List.take_of_length_le (Nat.le_of_eq m.len), List.take_of_length_le (Nat.le_of_eq (row_len cs i))] at ht
        exact ht
      subst e1
      refine wpAny_bind (wpAny_seqItems (s := ⟨g1, g, d, tk, os⟩) m.to rfl ?_)
      refine wpAny_bind (wpAny_newTuple (hsz := by simpa using h16) ?_)
      have hzlt : z < g1.objs.size := Heap.lt_size m.zo
      refine wpAny_bind ?_
      show wpAny _ _ (Builtin.SmallTypes.ownedTupleHandOut (.ref z) (.ref g1.objs.size)) _ _ ⟨g1.push { cls := .type "tuple", data := .seq (rowAt cs i).toArray.toList.toArray }, g, d, tk, os⟩
      unfold Builtin.SmallTypes.ownedTupleHandOut
      have up : ∀ {c o}, g1.get? c = some o → (g1.push { cls := .type "tuple", data := .seq (rowAt cs i).toArray.toList.toArray }).get? c = some o := fun e => Heap.get?_push_of_some _ e
      have hz6 : ZO (g1.push { cls := .type "tuple", data := .seq (rowAt cs i).toArray.toList.toArray }) z TI TO .ellipsis b := up m.zo
      refine wpAny_bind (wpAny_setField_rec hz6 (by simp) fun h7 hz7 hs7 => ?_)
      replace hz7 : ZO h7 z TI TO (rawInt g1.objs.size) b := hz7
      refine wpAny_setField_rec hz7 (by simp) fun h8 hz8 hs8 => ?_
      replace hz8 : ZO h8 z TI TO (rawInt g1.objs.size) false := hz8
      have un := S.z_ne
      have kz : ∀ c o, c ≠ z → g1.get? c = some o → h8.get? c = some o := fun c o hc e => hs8.extBut _ _ hc (hs7.extBut _ _ hc (up e))
      have hT8 : TupO h8 g1.objs.size (rowAt cs i) := hs8.extBut _ _ (Nat.ne_of_gt hzlt) (hs7.extBut _ _ (Nat.ne_of_gt hzlt) (by
        have := Heap.get?_push_size g1 (o := { cls := .type "tuple", data := .seq (rowAt cs i).toArray.toList.toArray }) rfl
        simpa using this))
      have hsz : g1.objs.size = hp.objs.size := m.sz
      refine wpAny_pure ⟨_, rfl, ?_⟩
      show Q (.ref g1.objs.size) ⟨h8, g, d, tk, os⟩
      rw [hsz] at hT8 hz8 ⊢
      exact hQ h8 tk _ _ _ (.inr ⟨_, rfl⟩) hz8 (kz _ _ un.2.1.symm m.to) (kz _ _ un.1.symm m.ti) m.len (fun j c hc => (m.mid j c hc).frame fun b hb o e => kz b o (by
        have hm := List.mem_of_getElem? hc
        rcases hb with rfl | rfl
        · exact (S.it_ne hm).1
        · exact (S.src_ne hm hm).2.1) e) (fun c o h1 h2 h3 e => kz c o h1 (m.kp c o h1 h2 h3 e)) hT8
  · simp only [Bool.false_eq_true, if_false]
    have m1 : ZMid ⟨hp, g, d, tk0, os⟩ z TI TO cs i 0 f0 true arr g0 := m0.own S hz0 hs0
    rw [List.forIn_toArray]
    refine wpAny_bind (forIn_all (fun k bb s' => bb.1 = none ∧ bb.2.toList = (rowAt cs i).take k ∧ ∃ g1 tk, s' = ⟨g1, g, d, tk, os⟩ ∧ ZMid ⟨hp, g, d, tk0, os⟩ z TI TO cs i k f0 true arr g1) _ 0 _ _ ⟨rfl, rfl, g0, tk0, rfl, m1⟩ ?_ ?_)
    · rintro j x ⟨o1, items⟩ s' hx ⟨h1, h2, g1, tk, rfl, m⟩
      rw [Nat.zero_add] at m h2 ⊢
      have h1 : o1 = none := h1
      subst h1
      simp only [List.getElem?_map] at hx
      cases hc : cs[j]? with
      | none => rw [hc] at hx; cases hx
      | some c =>
        rw [hc] at hx
        cases hx
        have hm := List.mem_of_getElem? hc
        refine wpAny_bind (wpAny_holding ?_)
        show wpAny _ _ (Builtin.SmallTypes.nextOf (.ref c.1) >>= _) _ _ ⟨g1, g, d, tk, os⟩
        refine wpAny_bind (col_draw hh S hc (hn c hm) m.mid fun g2 tk2 mid2 sb2 => wpAny_pure ?_)
        refine wpAny_pure ⟨_, rfl, rfl, ?_, g2, tk2, rfl, m.col S hm mid2 sb2⟩
        show (items.push _).toList = _
        rw [Array.toList_push, h2, List.take_add_one, row_get hc]
        rfl
    · rintro ⟨o1, items⟩ s' ⟨h1, h2, g1, tk, rfl, m⟩
      simp only [List.length_map, Nat.zero_add] at m h2
      have h1 : o1 = none := h1
      subst h1
      have h2 : items.toList = rowAt cs i := by rw [h2, List.take_of_length_le (Nat.le_of_eq (row_len cs i))]
      refine wpAny_bind (wpAny_newTuple (hsz := by show items.toList.length ≤ _; rw [h2]; exact h16) ?_)
      refine wpAny_pure ⟨_, rfl, ?_⟩
      show Q (.ref g1.objs.size) ⟨g1.push { cls := .type "tuple", data := .seq items.toList.toArray }, g, d, tk, os⟩
      rw [h2]
      have up : ∀ {c o}, g1.get? c = some o → (g1.push { cls := .type "tuple", data := .seq (rowAt cs i).toArray }).get? c = some o := fun e => Heap.get?_push_of_some _ e
      have hT := Heap.get?_push_size g1 (o := { cls := .type "tuple", data := .seq (rowAt cs i).toArray }) rfl
      have hsz : g1.objs.size = hp.objs.size := m.sz
      rw [hsz] at hT ⊢
      exact hQ _ tk _ _ _ hf (up m.zo) (up m.to) (up m.ti) m.len (fun j c hc => (m.mid j c hc).frame fun b hb o e => up e) (fun c o h1 h2 h3 e => up (m.kp c o h1 h2 h3 e)) hT
end
end Dl
set_option maxRecDepth 100000
set_option maxHeartbeats 4000000
namespace Dl
open PySem L2 PySem.Spec PyProof.Rows
section
variable {prog : Program} {w : World} {A : Around} {E : Value → Shared → Prop} {s : Shared} {z TI TO : Addr} {cs : List Col} {n i : Nat}
theorem zipN_next_end {Q : Fin → Shared → Prop} {f0 : Value} {b : Bool} {arr : List Value} (hh : A.handled = none) (S : ZSep z TI TO cs) {c : Col} (hc0 : cs[0]? = some c) (hn : c.2.2.size = i) (hf : f0 = .none ∨ ∃ T : Nat, f0 = rawInt T)
    (m0 : ZMid s z TI TO cs i 0 f0 b arr s.heap)
    (hE : ∀ h' tk e, (∀ c o, c ≠ z → c ≠ TO → c ∉ cs.map (·.1) → s.heap.get? c = some o → h'.get? c = some o) → (∃ o, h'.get? e = some o ∧ o.cls = .type "StopIteration") → E (.ref e) { s with heap := h', toks := tk }) :
    wpAny (model prog w) A (Builtin.«zip.__next__» ⟨[.ref z], []⟩) Q E s := by
  obtain ⟨hp, g, d, tk0, os⟩ := s
  have hm := List.mem_of_getElem? hc0
  show wpAny _ _ (field (.ref z) 2 >>= _) _ _ _
  refine wpAny_bind (wpAny_field m0.zo rfl (x := .bool false) rfl ?_)
  show wpAny _ _ (field (.ref z) 3 >>= _) _ _ _
  refine wpAny_bind (wpAny_field m0.zo rfl (x := .ref TI) rfl ?_)
  refine wpAny_bind (wpAny_seqItems m0.ti rfl ?_)
  obtain ⟨rest, ec⟩ : ∃ rest, cs = c :: rest := by
    cases cs with
    | nil => cases hc0
    | cons c' r => cases hc0; exact ⟨r, rfl⟩
  have ne : (cs.map fun c => Value.ref c.1).toArray.isEmpty = false := by rw [ec]; rfl
  simp only [ne, Bool.false_eq_true, if_false]
  refine wpAny_bind (zfree m0.zo hf ?_ fun g0 hz0 hs0 => ?_)
  · simp only [if_true]
    refine wpAny_bind (wpAny_rule ?_)
    refine wpAny_bind (wpAny_field m0.zo rfl (x := .ref TO) rfl ?_)
    refine wpAny_bind (wpAny_setField_rec m0.zo (by simp) fun g0 hz0 hs0 => ?_)
    have m1 : ZMid ⟨hp, g, d, tk0, os⟩ z TI TO cs i 0 .ellipsis b arr g0 := m0.own S hz0 hs0
    have st := m1.mid 0 c hc0
    rw [if_neg (Nat.lt_irrefl _)] at st
    refine wpAny_bind ?_
    have el : (cs.map fun c => Value.ref c.1).toArray.toList.zipIdx = (Value.ref c.1, 0) :: (rest.map fun c => Value.ref c.1).zipIdx 1 := by rw [ec]; rfl
    rw [el, List.forIn_cons]
    refine wpAny_bind (wpAny_bind (wpAny_onRaise ?_))
    show wpAny _ _ (Builtin.SmallTypes.nextOf (.ref c.1) >>= _) _ _ ⟨g0, g, d, tk0, os⟩
    refine wpAny_bind ((draws_src (prog := prog) (w := w) (A := A) false hh c.1 c.2.1 (S.src_ne hm hm).1 c.2.2).done ⟨g0, g, d, tk0, os⟩ _ _ (by rw [hn]; exact st) fun q e hq he => ?_)
    obtain ⟨oe, hoe, hce⟩ := he
    replace hoe : q.get? e = some oe := hoe
    have hzq : ZO q z TI TO .ellipsis b := hq _ _ (S.it_ne hm).1.symm m1.zo
    have hez : e ≠ z := fun x => by subst x; rw [hzq] at hoe; cases hoe; simp at hce
    refine wpAny_setField_rec (s := ⟨q, g, d, tk0, os⟩) hzq (by simp) fun q' _ hq' => ?_
    replace hq' : Heap.SameBut z q q' := hq'
    exact hE q' tk0 e (fun c' o h1 h2 h3 x => hq'.extBut _ _ h1 (hq _ _ (fun q => h3 (q ▸ List.mem_map.mpr ⟨c, hm, rfl⟩)) (m1.kp c' o h1 h2 h3 x))) ⟨oe, hq'.extBut _ _ hez hoe, hce⟩
  · simp only [Bool.false_eq_true, if_false]
    have m1 : ZMid ⟨hp, g, d, tk0, os⟩ z TI TO cs i 0 f0 true arr g0 := m0.own S hz0 hs0
    have st := m1.mid 0 c hc0
    rw [if_neg (Nat.lt_irrefl _)] at st
    rw [List.forIn_toArray]
    refine wpAny_bind ?_
    have el : (cs.map fun c => Value.ref c.1) = Value.ref c.1 :: (rest.map fun c => Value.ref c.1) := by rw [ec]; rfl
    rw [el, List.forIn_cons]
    refine wpAny_bind (wpAny_bind (wpAny_holding ?_))
    show wpAny _ _ (Builtin.SmallTypes.nextOf (.ref c.1) >>= _) _ _ ⟨g0, g, d, tk0, os⟩
    refine wpAny_bind ((draws_src (prog := prog) (w := w) (A := A) false hh c.1 c.2.1 (S.src_ne hm hm).1 c.2.2).done ⟨g0, g, d, tk0, os⟩ _ _ (by rw [hn]; exact st) fun q e hq he => ?_)
    exact hE q tk0 e (fun c' o h1 h2 h3 x => hq _ _ (fun q => h3 (q ▸ List.mem_map.mpr ⟨c, hm, rfl⟩)) (m1.kp c' o h1 h2 h3 x)) he
theorem pyNext_zipN_item {Q : Option Value → Shared → Prop} {f0 : Value} {b : Bool} {arr : List Value} (hh : A.handled = none) (S : ZSep z TI TO cs) (hcs : cs ≠ []) (h100 : cs.length ≤ 100) (hn : ∀ c ∈ cs, i < c.2.2.size) (hf : f0 = .none ∨ ∃ T : Nat, f0 = rawInt T)
    (m0 : ZMid s z TI TO cs i 0 f0 b arr s.heap)
    (hQ : ∀ h' tk f1 b1 arr1, (f1 = .none ∨ ∃ T : Nat, f1 = rawInt T) → ZO h' z TI TO f1 b1 → TupO h' TO arr1 → TupO h' TI (cs.map fun c => .ref c.1) → arr1.length = cs.length → MidC cs i cs.length h' →
      (∀ c o, c ≠ z → c ≠ TO → c ∉ cs.map (·.1) → s.heap.get? c = some o → h'.get? c = some o) → TupO h' s.heap.objs.size (rowAt cs i) → Q (some (.ref s.heap.objs.size)) { s with heap := h', toks := tk }) :
    wpAny (model prog w) A (pyNext (.ref z)) Q E s := by
  have hT : s.TypeIs (.ref z) "zip" := ⟨_, m0.zo, rfl⟩
  unfold pyNext
  exact wpAny_bind (wpAny_attempt (wpAny_callSpecial?_slot (name := Str.ofString "__next__") hT F.slot_zip_next
    (wpAny_call_entry F.slot_zip_next hT F.entry_zip_next
      (zipN_next_item (A := A.in1) hh S hcs h100 hn hf m0 fun h' tk f1 b1 arr1 a1 a2 a3 a4 a5 a6 a7 a8 => wpAny_pure (hQ h' tk f1 b1 arr1 a1 a2 a3 a4 a5 a6 a7 a8)) (F.args_zip_next_1 _))))
theorem pyNext_zipN_end {Q : Option Value → Shared → Prop} {f0 : Value} {b : Bool} {arr : List Value} (hh : A.handled = none) (S : ZSep z TI TO cs) {c : Col} (hc0 : cs[0]? = some c) (hn : c.2.2.size = i) (hf : f0 = .none ∨ ∃ T : Nat, f0 = rawInt T)
    (m0 : ZMid s z TI TO cs i 0 f0 b arr s.heap)
    (hQ : ∀ h' tk, (∀ c o, c ≠ z → c ≠ TO → c ∉ cs.map (·.1) → s.heap.get? c = some o → h'.get? c = some o) → Q none { s with heap := h', toks := tk }) : wpAny (model prog w) A (pyNext (.ref z)) Q E s := by
  have hT : s.TypeIs (.ref z) "zip" := ⟨_, m0.zo, rfl⟩
  unfold pyNext
  refine wpAny_bind (wpAny_attempt (wpAny_callSpecial?_slot (name := Str.ofString "__next__") hT F.slot_zip_next
    (wpAny_call_entry F.slot_zip_next hT F.entry_zip_next (zipN_next_end (A := A.in1) hh S hc0 hn hf m0 fun h' tk e hk he => ?_) (F.args_zip_next_1 _))))
  obtain ⟨o, ho, hc⟩ := he
  refine wpAny_bind (wpAny_isInstance (T := "StopIteration") (b := true) ⟨o, ho, hc⟩ isSubtype_stop ?_)
  exact wpAny_pure (hQ _ _ hk)
end
/-! ### the turn -/
def itemsOf (h : Heap) (a : Addr) : Array Value := match h.get? a with
  | some o => match o.data with
    | .seq its _ => its
    | _ => #[]
  | none => #[]
theorem itemsOf_src {h : Heap} {a : Addr} {its : Array Value} (x : IsSrc false h a its) : itemsOf h a = its := by
  obtain ⟨o, ho, _, n, hd⟩ := x
  unfold itemsOf
  rw [ho]
  simp only [hd]
abbrev RowsAt (K : PySem.W.Frag) (H : Hp) (as : List Addr) (xss : List (List V)) : Prop := Paired (fun a xs => SqT K H a xs) as xss
def ItN (K : PySem.W.Frag) (as : List Addr) : It :=
  ⟨fun i H => ∃ xss n, RowsAt K H as xss ∧ (∀ xs ∈ xss, xs.length = n) ∧ i < n,
   fun i H v H' => ∃ T row, v = .ref T ∧ H T = none ∧ H' = upd H T (.tup row) ∧ ∀ xss, RowsAt K H as xss → Paired (fun xs x => xs[i]? = some x) xss row,
   fun i H => ∃ xss, RowsAt K H as xss ∧ ∀ xs ∈ xss, xs.length = i⟩
theorem tupO_data {h : Heap} {T : Addr} {xs : List Value} (e : TupO h T xs) : ∃ o, h.get? T = some o ∧ ∀ v, o.data ≠ .cell v := ⟨_, e, fun v q => nomatch q⟩
theorem rows_vals {X : Cx} {pins : List (Addr × Obj)} {σ : L2.St} {H : Hp} {s : Shared} (J : Inv X pins σ H s) : ∀ {as : List Addr} {xss : List (List V)}, RowsAt X.K H as xss → ∀ (i n : Nat), (∀ xs ∈ xss, xs.length = n) → i < n →
    ∃ row, Paired (fun xs x => xs[i]? = some x) xss row ∧ Vals row (as.map fun a => (itemsOf s.heap a).getD i .none)
  | [], [], _, i, n, _, _ => ⟨[], .nil, .nil⟩
  | a :: as, xs :: xss, .cons h r, i, n, hl, hi => by
    obtain ⟨row, h1, h2⟩ := rows_vals J r i n (fun ys hy => hl ys (List.mem_cons_of_mem _ hy)) hi
    obtain ⟨its, rv, hs, _, _⟩ := inv_src (l := false) J h
    have hlt : i < xs.length := by rw [hl xs List.mem_cons_self]; exact hi
    obtain ⟨u, hu, ru⟩ := rv.get (List.getElem?_eq_getElem hlt)
    refine ⟨xs[i] :: row, .cons (List.getElem?_eq_getElem hlt) h1, .cons ?_ h2⟩
    show L2.RelV xs[i] ((itemsOf s.heap a).getD i Value.none)
    rw [itemsOf_src hs]
    have : its.toArray.getD i .none = u := by
      rw [Array.getD_eq_getD_getElem?]
      simp [hu]
    rw [this]
    exact ru
theorem rows_src {X : Cx} {pins : List (Addr × Obj)} {σ : L2.St} {H : Hp} {s : Shared} (J : Inv X pins σ H s) : ∀ {as : List Addr} {xss : List (List V)}, RowsAt X.K H as xss → ∀ (n : Nat), (∀ xs ∈ xss, xs.length = n) → ∀ a ∈ as, IsSrc false s.heap a (itemsOf s.heap a) ∧ (itemsOf s.heap a).size = n
  | a :: as, xs :: xss, .cons h r, n, hl, b, hb => by
    rcases List.mem_cons.mp hb with rfl | hb
    · obtain ⟨its, rv, hs, _, _⟩ := inv_src (l := false) J h
      rw [itemsOf_src hs]
      exact ⟨hs, by rw [List.size_toArray, ← rv.length]; exact hl xs List.mem_cons_self⟩
    · exact rows_src J r n (fun ys hy => hl ys (List.mem_cons_of_mem _ hy)) b hb
theorem rows_inj {X : Cx} {pins : List (Addr × Obj)} {σ : L2.St} {H : Hp} {s : Shared} (J : Inv X pins σ H s) : ∀ {as : List Addr} {xss yss : List (List V)}, RowsAt X.K H as xss → RowsAt X.K H as yss → xss = yss
  | [], [], [], .nil, .nil => rfl
  | a :: as, xs :: xss, ys :: yss, .cons h r, .cons h' r' => by rw [J.tuple_inj h h', rows_inj J r r']
theorem turn_zipN {P : Program} {w : World} {K : PySem.W.Frag} {x : Str} {tpos : Pos} (ps : List (Addr × Addr)) (hps : ps ≠ []) (h100 : ps.length ≤ 100) {z TI TO : Addr} (nd : (z :: TI :: TO :: ps.map (·.1)).Nodup) (sp : ∀ p ∈ ps, p.2 ∉ (z :: TI :: TO :: ps.map (·.1))) :
    Turn P w K (.Name x tpos) (ItN K (ps.map (·.2))) (z :: TI :: TO :: ps.map (·.1)) z (fun i h => (∃ f0 b, (f0 = .none ∨ ∃ T : Nat, f0 = rawInt T) ∧ ZO h z TI TO f0 b) ∧ (∃ arr, TupO h TO arr ∧ arr.length = ps.length) ∧ TupO h TI (ps.map fun p => .ref p.1) ∧ ∀ p ∈ ps, IsIt false h p.1 p.2 i) where
  mem := List.mem_cons_self
  obj := fun i h st c hc => by
    obtain ⟨⟨f0, b, _, hz⟩, ⟨arr, hTO, _⟩, hTI, hit⟩ := st
    simp only [List.mem_cons, List.mem_map] at hc
    rcases hc with rfl | rfl | rfl | ⟨p, hp, rfl⟩
    · exact ⟨_, hz, fun v q => nomatch q⟩
    · exact tupO_data hTI
    · exact tupO_data hTO
    · exact (hit p hp).obj
  keep := fun i h h' st k => by
    obtain ⟨⟨f0, b, hf, hz⟩, ⟨arr, hTO, hl⟩, hTI, hit⟩ := st
    exact ⟨⟨f0, b, hf, k z (by simp) _ hz⟩, ⟨arr, k TO (by simp) _ hTO, hl⟩, k TI (by simp) _ hTI, fun p hp => (hit p hp).at fun o q => k p.1 (by simp only [List.mem_cons, List.mem_map]; exact .inr (.inr (.inr ⟨p, hp, rfl⟩))) o q⟩
  item := by
    intro X hP hw hK hc i pins s σ H E J hf st hg
    subst hP hw hK
    obtain ⟨⟨f0, b, hf0, hz⟩, ⟨arr, hTO, hal⟩, hTI, hit⟩ := st
    obtain ⟨xss, n, hrows, hlen, hin⟩ := hg
    have hsrc := rows_src J hrows n hlen
    have e1 : (ps.map fun p => ((p.1, p.2, itemsOf s.heap p.2) : Col)).map (·.1) = ps.map (·.1) := by simp
    have S : ZSep z TI TO (ps.map fun p => ((p.1, p.2, itemsOf s.heap p.2) : Col)) := ⟨by rw [e1]; exact nd, fun c hc => by
      obtain ⟨p, hp, rfl⟩ := List.mem_map.mp hc
      rw [e1]
      exact sp p hp⟩
    have m0 : ZMid s z TI TO (ps.map fun p => ((p.1, p.2, itemsOf s.heap p.2) : Col)) i 0 f0 b arr s.heap := ⟨hz, hTO, by rw [List.map_map]; exact hTI, by rw [List.length_map]; exact hal, fun j c hc => by
      rw [if_neg (Nat.not_lt_zero _)]
      obtain ⟨p, hp, rfl⟩ := List.mem_map.mp (List.mem_of_getElem? hc)
      exact ⟨hit p hp, (hsrc p.2 (List.mem_map.mpr ⟨p, hp, rfl⟩)).1⟩, rfl, fun _ _ _ _ _ e => e⟩
    refine pyNext_zipN_item (A := X.A) (J.ok.hd hc) S (by simpa using hps) (by simpa using h100) (fun c hc => by
      obtain ⟨p, hp, rfl⟩ := List.mem_map.mp hc
      show i < (itemsOf s.heap p.2).size
      rw [(hsrc p.2 (List.mem_map.mpr ⟨p, hp, rfl⟩)).2]
      exact hin) hf0 m0 fun h' tk f1 b1 arr1 a1 a2 a3 a4 a5 a6 a7 a8 => ?_
    refine ⟨_, rfl, ?_⟩
    show wpAny _ _ (pure ()) _ _ _
    refine wpAny_pure ?_
    obtain ⟨row, r1, r2⟩ := rows_vals J hrows i n hlen hin
    have er : rowAt (ps.map fun p => ((p.1, p.2, itemsOf s.heap p.2) : Col)) i = (ps.map (·.2)).map fun a => (itemsOf s.heap a).getD i .none := by simp [rowAt, List.map_map]
    rw [er] at a8
    have hrl : row.length ≤ sizeLine := by
      have := r2.length
      simp only [List.length_map] at this
      rw [this]
      exact Nat.le_trans h100 (by decide)
    have new : ObjOk X.prog X.w (upd H s.heap.objs.size (.tup row)) h' s.heap.objs.size (.tup row) := ⟨hrl, _, r2, ⟨_, a8, rfl, _, rfl⟩⟩
    have J1 : Inv X pins σ (upd H s.heap.objs.size (.tup row)) { s with heap := h', toks := tk } :=
      J.turnedNew (ch := z :: TI :: TO :: ps.map (·.1)) (fun c o hb q => a7 c o (fun q' => hb (by simp [q'])) (fun q' => hb (by simp [q'])) (fun q' => hb (by rw [e1] at q'; exact List.mem_cons_of_mem _ (List.mem_cons_of_mem _ (List.mem_cons_of_mem _ q')))) q) hf (Nat.le_refl _) new
    refine ⟨.ref s.heap.objs.size, _, J1, rfl, ⟨_, row, rfl, J.hok.fresh (Nat.le_refl _), rfl, fun yss hy => by rw [rows_inj J hy hrows]; exact r1⟩, ⟨⟨f1, b1, a1, a2⟩, ⟨arr1, a3, by simpa using a5⟩, by rw [List.map_map] at a4; exact a4, fun p hp => ?_⟩, fun c hcm => ?_⟩
    · obtain ⟨j, hj, ej⟩ := List.mem_iff_getElem.mp hp
      have := a6 j (p.1, p.2, itemsOf s.heap p.2) (by rw [List.getElem?_map, List.getElem?_eq_getElem hj, ej]; rfl)
      rw [List.length_map, if_pos hj] at this
      exact this.1
    · have hlt : c < s.heap.objs.size := by
        simp only [List.mem_cons, List.mem_map] at hcm
        rcases hcm with rfl | rfl | rfl | ⟨p, hp, rfl⟩
        · exact Heap.lt_size hz
        · exact Heap.lt_size hTI
        · exact Heap.lt_size hTO
        · exact (hit p hp).lt
      rw [upd_ne (Nat.ne_of_lt hlt)]
      exact (hf c hcm).1
  done := by
    intro X hP hw hK hc i pins s σ H E J hf st hg
    subst hP hw hK
    obtain ⟨⟨f0, b, hf0, hz⟩, ⟨arr, hTO, hal⟩, hTI, hit⟩ := st
    obtain ⟨xss, hrows, hlen⟩ := hg
    have hsrc := rows_src J hrows i hlen
    have e1 : (ps.map fun p => ((p.1, p.2, itemsOf s.heap p.2) : Col)).map (·.1) = ps.map (·.1) := by simp
    have S : ZSep z TI TO (ps.map fun p => ((p.1, p.2, itemsOf s.heap p.2) : Col)) := ⟨by rw [e1]; exact nd, fun c hc => by
      obtain ⟨p, hp, rfl⟩ := List.mem_map.mp hc
      rw [e1]
      exact sp p hp⟩
    have m0 : ZMid s z TI TO (ps.map fun p => ((p.1, p.2, itemsOf s.heap p.2) : Col)) i 0 f0 b arr s.heap := ⟨hz, hTO, by rw [List.map_map]; exact hTI, by rw [List.length_map]; exact hal, fun j c hc => by
      rw [if_neg (Nat.not_lt_zero _)]
      obtain ⟨p, hp, rfl⟩ := List.mem_map.mp (List.mem_of_getElem? hc)
      exact ⟨hit p hp, (hsrc p.2 (List.mem_map.mpr ⟨p, hp, rfl⟩)).1⟩, rfl, fun _ _ _ _ _ e => e⟩
    obtain ⟨p0, rest, ep⟩ : ∃ p0 rest, ps = p0 :: rest := by
      cases ps with
      | nil => exact absurd rfl hps
      | cons p r => exact ⟨p, r, rfl⟩
    refine pyNext_zipN_end (A := X.A) (J.ok.hd hc) S (c := (p0.1, p0.2, itemsOf s.heap p0.2)) (by rw [ep]; rfl) (hsrc p0.2 (by rw [ep]; exact List.mem_cons_self)).2 hf0 m0 fun h' tk a7 => ⟨rfl, ?_⟩
    exact J.turnedL (t' := tk) (ch := z :: TI :: TO :: ps.map (·.1)) (fun c o hb q => a7 c o (fun q' => hb (by simp [q'])) (fun q' => hb (by simp [q'])) (fun q' => hb (by rw [e1] at q'; exact List.mem_cons_of_mem _ (List.mem_cons_of_mem _ (List.mem_cons_of_mem _ q')))) q) hf
  self := fun A i s Q E st h => by
    obtain ⟨⟨f0, b, _, hz⟩, _⟩ := st
    have hT : s.TypeIs (.ref z) "zip" := ⟨_, hz, rfl⟩
    refine wpAny_pyIter_slot hT F.slot_zip_iter (wpAny_call_entry F.slot_zip_iter hT F.entry_zip_iter ?_ (F.args_zip_iter_1 _))
    show wpAny _ _ (ret (.ref z)) _ _ s
    exact wpAny_pure ⟨_, rfl, "zip", _, hT, F.slot_zip_next.lookup, h⟩
/-! ### how it begins -/
def pushIts (h : Heap) (as : List Addr) : Heap := as.foldl (fun h a => h.push (itObj false a)) h
theorem push_size : ∀ (as : List Addr) (h : Heap), (pushIts h as).objs.size = h.objs.size + as.length
  | [], h => rfl
  | a :: as, h => by
    show (pushIts (h.push _) as).objs.size = _
    rw [push_size as, Heap.size_push, List.length_cons]; omega
theorem push_kp : ∀ (as : List Addr) (h : Heap) {b : Addr} {o : Obj}, h.get? b = some o → (pushIts h as).get? b = some o
  | [], h, _, _, e => e
  | a :: as, h, _, _, e => push_kp as (h.push _) (Heap.get?_push_of_some _ e)
theorem push_get : ∀ (as : List Addr) (h : Heap) {j : Nat} {a : Addr}, as[j]? = some a → (pushIts h as).get? (h.objs.size + j) = some (itObj false a)
  | a :: as, h, 0, b, e => by
    cases e
    exact push_kp as _ (Heap.get?_push_size _ rfl)
  | a :: as, h, j + 1, b, e => by
    have := push_get as (h.push (itObj false a)) (j := j) (a := b) (by simpa using e)
    rw [Heap.size_push, show h.objs.size + 1 + j = h.objs.size + (j + 1) by omega] at this
    exact this
theorem push_snoc (as : List Addr) (a : Addr) (h : Heap) : pushIts h (as ++ [a]) = (pushIts h as).push (itObj false a) := by simp [pushIts]
def itRefs (N n : Nat) : List Value := (List.range n).map fun j => Value.ref (N + j)
section
variable {prog : Program} {w : World} {A : Around} {E : Value → Shared → Prop} {hp : Heap} {g : Array GenState} {d : Drawn} {tk : Nat} {os : OsState}
theorem iterAll_tups (as : List Addr) (hs : ∀ a ∈ as, ∃ its, IsSrc false hp a its) {Q : List Value → Shared → Prop} (h : Q (itRefs hp.objs.size as.length) ⟨pushIts hp as, g, d, tk, os⟩) :
    wpAny (model prog w) A (Builtin.SmallTypes.iterAll (as.map Value.ref)) Q E ⟨hp, g, d, tk, os⟩ := by
  unfold Builtin.SmallTypes.iterAll
  refine wpAny_bind (forIn_all (fun k acc s' => acc.toList = itRefs hp.objs.size k ∧ s' = ⟨pushIts hp (as.take k), g, d, tk, os⟩) _ 0 _ _ ⟨rfl, rfl⟩ ?_ ?_)
  · rintro j x acc s' hx ⟨h1, rfl⟩
    rw [Nat.zero_add] at h1 ⊢
    rw [List.getElem?_map] at hx
    cases hj : as[j]? with
    | none => rw [hj] at hx; cases hx
    | some a =>
      rw [hj] at hx
      cases hx
      obtain ⟨its, hi⟩ := hs a (List.mem_of_getElem? hj)
      refine wpAny_bind (wpAny_holding ((begins_src false a its).iter prog w _ _ _ _ ((begins_src false a its).keeps _ _ hi fun b o e => push_kp _ _ e) ?_))
      refine wpAny_pure ⟨_, rfl, ?_, ?_⟩
      · rw [Array.toList_push, h1]
        have hl := (List.getElem?_eq_some_iff.mp hj).1
        show _ ++ [Value.ref (pushIts hp (as.take j)).objs.size] = _
        rw [push_size, List.length_take, Nat.min_eq_left (Nat.le_of_lt hl)]
        simp [itRefs, List.range_succ]
      · rw [List.take_add_one, hj, Option.toList_some, push_snoc]
  · rintro acc s' ⟨h1, rfl⟩
    simp only [List.length_map, Nat.zero_add, List.take_length] at h1 ⊢
    refine wpAny_pure ?_
    rw [h1]
    exact h
abbrev znT (h : Heap) (as : List Addr) : Heap := (pushIts h as).push { cls := .type "tuple", data := .seq (itRefs h.objs.size as.length).toArray }
abbrev znO (h : Heap) (as : List Addr) : Heap := (znT h as).push { cls := .type "tuple", data := .seq ((itRefs h.objs.size as.length).map fun _ => Value.none).toArray }
abbrev znZ (h : Heap) (as : List Addr) : Heap := (znO h as).push { cls := .type "zip", data := .fields #[.none, .bool false, .bool false, .ref (pushIts h as).objs.size, .ref (znT h as).objs.size] }
theorem meets_zip_newN (as : List Addr) (h100 : as.length ≤ 100) : Meets (Builtin.«zip.__new__» ⟨.type "zip" :: as.map Value.ref, []⟩) (fun _ R s => (∀ a ∈ as, ∃ its, IsSrc false s.heap a its) ∧
      R (.ok (.ret (.ref (znO s.heap as).objs.size))) { s with heap := znZ s.heap as }) :=
  .of_wp fun prog w A R s h => by
    obtain ⟨hp, g, d, tk, os⟩ := s; obtain ⟨h1, h⟩ := h
    have hsub := sub_zip
    have q1 : ∀ {A' : Around} {E : Value → Shared → Prop} {Q : List Value → Shared → Prop}, Q (itRefs hp.objs.size as.length) ⟨pushIts hp as, g, d, tk, os⟩ → wpAny (model prog w) A' (Builtin.SmallTypes.iterAll (as.map Value.ref)) Q E ⟨hp, g, d, tk, os⟩ := fun q => iterAll_tups as h1 q
    have z1 : (itRefs hp.objs.size as.length).length ≤ sizeLine := by simp [itRefs]; exact Nat.le_trans h100 (by decide)
    have z2 : ((itRefs hp.objs.size as.length).map fun _ => Value.none).length ≤ sizeLine := by rw [List.length_map]; exact z1
    wp_walk using q1
    exact ⟨_, rfl, h⟩
theorem tc_zip (vs : List Value) : checkTypeCall "zip" ⟨vs, []⟩ = pure () := by kernel_rfl
theorem nc_zip1 (a : Value) : checkBuiltinCall "zip.__new__" ⟨.type "zip" :: [a], []⟩ = pure () := by kernel_rfl
theorem nc_zip2 (a b : Value) : checkBuiltinCall "zip.__new__" ⟨.type "zip" :: [a, b], []⟩ = pure () := by kernel_rfl
theorem nc_zip3 (a b c : Value) : checkBuiltinCall "zip.__new__" ⟨.type "zip" :: [a, b, c], []⟩ = pure () := by kernel_rfl
theorem nc_zip4 (a b c d : Value) : checkBuiltinCall "zip.__new__" ⟨.type "zip" :: [a, b, c, d], []⟩ = pure () := by kernel_rfl
theorem nc_zip : ∀ (vs : List Value), 1 ≤ vs.length → vs.length ≤ 4 → checkBuiltinCall "zip.__new__" ⟨.type "zip" :: vs, []⟩ = pure ()
  | [a], _, _ => nc_zip1 a
  | [a, b], _, _ => nc_zip2 a b
  | [a, b, c], _, _ => nc_zip3 a b c
  | [a, b, c, d], _, _ => nc_zip4 a b c d
  | [], h, _ => absurd h (by decide)
  | _ :: _ :: _ :: _ :: _ :: l, _, h => absurd h (by simp)
theorem ao_1 (o a : Value) : argsOk "object.__init__" ⟨[o, a], []⟩ := by unfold argsOk; kernel_rfl
theorem ao_2 (o a b : Value) : argsOk "object.__init__" ⟨[o, a, b], []⟩ := by unfold argsOk; kernel_rfl
theorem ao_3 (o a b c : Value) : argsOk "object.__init__" ⟨[o, a, b, c], []⟩ := by unfold argsOk; kernel_rfl
theorem ao_4 (o a b c d : Value) : argsOk "object.__init__" ⟨[o, a, b, c, d], []⟩ := by unfold argsOk; kernel_rfl
theorem ao_zip (obj : Value) : ∀ (vs : List Value), 1 ≤ vs.length → vs.length ≤ 4 → argsOk "object.__init__" ⟨obj :: vs, []⟩
  | [a], _, _ => ao_1 _ _
  | [a, b], _, _ => ao_2 _ _ _
  | [a, b, c], _, _ => ao_3 _ _ _ _
  | [a, b, c, d], _, _ => ao_4 _ _ _ _ _
  | [], h, _ => absurd h (by decide)
  | _ :: _ :: _ :: _ :: _ :: l, _, h => absurd h (by simp)
theorem zipN_begins {s : Shared} (as : List Addr) (h1 : 1 ≤ as.length) (h4 : as.length ≤ 4) (hs : ∀ a ∈ as, ∃ its, IsSrc false s.heap a its) {Q : Value → Shared → Prop}
    (h : ∀ h', ZO h' (s.heap.objs.size + as.length + 2) (s.heap.objs.size + as.length) (s.heap.objs.size + as.length + 1) .none false → TupO h' (s.heap.objs.size + as.length) (itRefs s.heap.objs.size as.length) → TupO h' (s.heap.objs.size + as.length + 1) ((itRefs s.heap.objs.size as.length).map fun _ => Value.none) →
      (∀ j a, as[j]? = some a → h'.get? (s.heap.objs.size + j) = some (itObj false a)) → (∀ b o, s.heap.get? b = some o → h'.get? b = some o) → Q (.ref (s.heap.objs.size + as.length + 2)) { s with heap := h' }) :
    wpAny (model prog w) A (call (.type "zip") (as.map Value.ref)) Q E s := by
  refine callType_new F.called_zip (by decide) (tc_zip _) (nc_zip _ (by simpa using h1) (by simpa using h4)) (fun obj => ao_zip obj _ (by simpa using h1) (by simpa using h4)) F.entry_zip_new (meets_zip_newN as (by omega)) ⟨hs, ?_⟩
  have z1 : (pushIts s.heap as).objs.size = s.heap.objs.size + as.length := push_size _ _
  have z2 : (znT s.heap as).objs.size = s.heap.objs.size + as.length + 1 := by rw [Heap.size_push, z1]
  have z3 : (znO s.heap as).objs.size = s.heap.objs.size + as.length + 2 := by rw [Heap.size_push, z2]
  have gZ : (znZ s.heap as).get? (znO s.heap as).objs.size = some { cls := .type "zip", data := .fields #[.none, .bool false, .bool false, .ref (pushIts s.heap as).objs.size, .ref (znT s.heap as).objs.size] } := Heap.get?_push_size _ rfl
  have gO : (znZ s.heap as).get? (znT s.heap as).objs.size = some { cls := .type "tuple", data := .seq ((itRefs s.heap.objs.size as.length).map fun _ => Value.none).toArray } := Heap.get?_push_of_some _ (Heap.get?_push_size _ rfl)
  have gT : (znZ s.heap as).get? (pushIts s.heap as).objs.size = some { cls := .type "tuple", data := .seq (itRefs s.heap.objs.size as.length).toArray } := Heap.get?_push_of_some _ (Heap.get?_push_of_some _ (Heap.get?_push_size _ rfl))
  have up : ∀ {b o}, (pushIts s.heap as).get? b = some o → (znZ s.heap as).get? b = some o := fun e => Heap.get?_push_of_some _ (Heap.get?_push_of_some _ (Heap.get?_push_of_some _ e))
  rw [z1, z2] at gZ
  rw [z3] at gZ
  rw [z2] at gO
  rw [z1] at gT
  show _ ∧ _
  rw [z3]
  exact ⟨⟨_, gZ, rfl⟩, h _ gZ gT gO (fun j a e => up (push_get _ _ e)) fun b o e => up (push_kp _ _ e)⟩
end
theorem callWith_Sty {M : Model} {A : Around} {E : Value → Shared → Prop} {s : Shared} {env : Env} {pos p : Pos} {T : String} {e : Expr} {Q : Value → Shared → Prop}
    (h : wpAny M A (eval e env) (fun v s₁ => PySem.W.StarOf M A E v (fun vs s₂ => wpAny M A (call (.type T) vs) Q E s₂) s₁) E s) (he : starEach [.Starred e p] env = [(true, eval e env)] := by rfl) :
    wpAny M A (callWith pos (.type T) [] (backTo pos (starEach [.Starred e p] env)) []) Q E s := by
  rw [he]
  refine PySem.W.ks_call (P := fun _ => True) rfl (fun h _ => ⟨.machine, .inr (.inl rfl), fun A Q E s _ q => wpAny_pure q⟩) (PySem.W.ks_lone (wpAny_mono h (fun v s1 h1 => ?_) fun _ _ x => x))
  unfold PySem.W.StarOf at h1 ⊢
  exact wpAny_mono h1 (fun b s2 h2 => ⟨h2.1, wpAny_mono h2.2 (fun vs s3 h3 => ⟨trivial, h3⟩) fun _ _ x => x⟩) fun _ _ x => x
def iZipN (K : PySem.W.Frag) (te : TE) : TI := fun σ H R => te σ H fun x H1 => ∃ p as xss, x = .ref p ∧ SqT K H1 p (as.map V.ref) ∧ RowsAt K H1 as xss ∧ 1 ≤ as.length ∧ as.length ≤ 4 ∧ R (ItN K as) H1
theorem vals_refs : ∀ {as : List Addr} {us : List Value}, Vals (as.map V.ref) us → us = as.map Value.ref
  | [], [], .nil => rfl
  | a :: as, u :: us, .cons h r => by
    have h : u = Value.ref a := h
    rw [List.map_cons, vals_refs r, h]
theorem pi_zipN {X : Cx} {e : Expr} {te : TE} {p pos sp tpos : Pos} {x : Str} (hg : Gl X "zip") (hm : X.mg "zip" = none) (he : PE X e te) (hs : starEach [.Starred e sp] X.env = [(true, eval e X.env)] := by rfl) :
    PI X (.Name x tpos) (.Call (.Name "zip" p) [.Starred e sp] [] pos) (iZipN X.K te) := by
  refine ⟨fun pins s σ H R J h => Call_ (ld_blt J hg hm PyProof.Rows.boot_zip (callWith_Sty (thn (he.run pins s σ H _ J h) fun v s1 ⟨y, H1, J1, ry, q1⟩ => ?_) hs))⟩
  obtain ⟨a, as, xss, ey, hT, hR, h1, h4, q⟩ := q1
  subst ey
  obtain rfl : v = Value.ref a := ry
  refine StX.star_any J1 (.inl hT) fun us s2 J2 rv => ?_
  rw [vals_refs rv]
  have hsrc : ∀ b ∈ as, ∃ its, IsSrc false s2.heap b its ∧ b < s2.heap.objs.size := by
    clear rv hT h1 h4 q
    intro b hb
    induction hR with
    | nil => cases hb
    | @cons a xs as xss h r ih =>
      rcases List.mem_cons.mp hb with rfl | hb
      · obtain ⟨its, _, hs, _, hl⟩ := inv_src (l := false) J2 h
        exact ⟨_, hs, hl⟩
      · exact ih hb
  refine zipN_begins as h1 h4 (fun b hb => let ⟨its, h, _⟩ := hsrc b hb; ⟨its, h⟩) fun h' hz hTI hTO hit hk => ?_
  have em : (List.range as.length).map (fun j => s2.heap.objs.size + j) = ((List.range as.length).map fun j => (s2.heap.objs.size + j, as.getD j 0)).map (·.1) := by simp
  have ea : ((List.range as.length).map fun j => (s2.heap.objs.size + j, as.getD j 0)).map (·.2) = as := by
    apply List.ext_getElem
    · simp
    · intro j h1 h2
      simp only [List.map_map, List.getElem_map, List.getElem_range, Function.comp]
      rw [List.getD_eq_getElem?_getD, List.getElem?_eq_getElem h2]; rfl
  have fpm : ∀ c, c ∈ (s2.heap.objs.size + as.length + 2) :: (s2.heap.objs.size + as.length) :: (s2.heap.objs.size + as.length + 1) :: ((List.range as.length).map fun j => (s2.heap.objs.size + j, as.getD j 0)).map (·.1) → s2.heap.objs.size ≤ c := fun c hc => by
    rw [← em] at hc
    simp only [List.mem_cons, List.mem_map, List.mem_range] at hc
    rcases hc with rfl | rfl | rfl | ⟨j, hj, rfl⟩ <;> omega
  have nd : ((s2.heap.objs.size + as.length + 2) :: (s2.heap.objs.size + as.length) :: (s2.heap.objs.size + as.length + 1) :: ((List.range as.length).map fun j => (s2.heap.objs.size + j, as.getD j 0)).map (·.1)).Nodup := by
    rw [← em]
    simp only [List.nodup_cons, List.mem_cons, List.mem_map, List.mem_range, not_or, not_exists, not_and]
    refine ⟨⟨by omega, by omega, fun j hj e => ?_⟩, ⟨by omega, fun j hj e => ?_⟩, fun j hj e => ?_, ?_⟩
    · have : s2.heap.objs.size + j = s2.heap.objs.size + as.length + 2 := e
      omega
    · have : s2.heap.objs.size + j = s2.heap.objs.size + as.length := e
      omega
    · have : s2.heap.objs.size + j = s2.heap.objs.size + as.length + 1 := e
      omega
    · exact List.Pairwise.map _ (fun a b h e => h (Nat.add_left_cancel e)) List.nodup_range
  have T := turn_zipN (P := X.prog) (w := X.w) (K := X.K) (x := x) (tpos := tpos) ((List.range as.length).map fun j => (s2.heap.objs.size + j, as.getD j 0)) (by
    intro z
    have := congrArg List.length z
    rw [List.length_map, List.length_range, List.length_nil] at this
    omega) (by simp; omega) (z := s2.heap.objs.size + as.length + 2) (TI := s2.heap.objs.size + as.length) (TO := s2.heap.objs.size + as.length + 1) nd (fun p hp hc => by
    have h1 := fpm _ hc
    have h2 : p.2 ∈ as := by rw [← ea]; exact List.mem_map.mpr ⟨p, hp, rfl⟩
    obtain ⟨_, _, h3⟩ := hsrc p.2 h2
    exact absurd h3 (Nat.not_lt.mpr h1))
  rw [ea] at T
  have st : (∃ f0 b, (f0 = Value.none ∨ ∃ T : Nat, f0 = rawInt T) ∧ ZO h' (s2.heap.objs.size + as.length + 2) (s2.heap.objs.size + as.length) (s2.heap.objs.size + as.length + 1) f0 b) ∧ (∃ arr, TupO h' (s2.heap.objs.size + as.length + 1) arr ∧ arr.length = ((List.range as.length).map fun j => (s2.heap.objs.size + j, as.getD j 0)).length) ∧
      TupO h' (s2.heap.objs.size + as.length) (((List.range as.length).map fun j => (s2.heap.objs.size + j, as.getD j 0)).map fun p => .ref p.1) ∧ ∀ p ∈ ((List.range as.length).map fun j => (s2.heap.objs.size + j, as.getD j 0)), IsIt false h' p.1 p.2 0 := by
    refine ⟨⟨_, _, .inl rfl, hz⟩, ⟨_, hTO, by simp [itRefs]⟩, by rw [List.map_map]; exact hTI, fun p hp => ?_⟩
    obtain ⟨j, hj, rfl⟩ := List.mem_map.mp hp
    have hj := List.mem_range.mp hj
    refine IsIt.new (hit j _ ?_)
    rw [List.getD_eq_getElem?_getD, List.getElem?_eq_getElem hj]; rfl
  refine T.self X.A 0 _ _ _ st ?_
  refine ⟨_, _, _, _, H1, rfl, J2.kept (t' := s2.toks) hk, T, st, fun b hb => ?_, q⟩
  exact J2.fpOk (fpm b hb) (J2.hok.fresh (fpm b hb))
/-! ### as data -/
def tupsOf : List PyData → Option (List (List PyData))
  | [] => some []
  | .tuple xs :: r => (tupsOf r).map (xs :: ·)
  | _ :: _ => none
def zipRows (xss : List (List PyData)) : List PyData := match xss with
  | [] => []
  | x :: _ => (List.range x.length).map fun i => .tuple (xss.map fun ys => ys.getD i .none)
section
variable {S : Type}
def iZpN (a : Rho → S → Res S Val) : Rho → S → Res S (List PyData) := fun ρ st => (a ρ st).bind fun x st1 => match x with
  | .d (.tuple ds) => match tupsOf ds with
    | some xss => if 1 ≤ xss.length ∧ xss.length ≤ 4 ∧ ∀ ys ∈ xss, ys.length = (xss.headD []).length then .ok (zipRows xss) st1 else .stuck
    | none => .stuck
  | _ => .stuck
end
theorem tups_read {K : PySem.W.Frag} {I : Hp} : ∀ {vs : List V} {ds : List PyData} {xss : List (List PyData)}, RpAll K I vs ds → tupsOf ds = some xss → ∃ as uss, vs = as.map V.ref ∧ RowsAt K I as uss ∧ Paired (fun us xs => RpAll K I us xs) uss xss
  | _, [], xss, .nil, e => by cases e; exact ⟨[], [], rfl, .nil, .nil⟩
  | _, .tuple xs :: ds, xss, .cons (x := v) h r, e => by
    have e : (tupsOf ds).map (xs :: ·) = some xss := e
    obtain ⟨yss, e1, rfl⟩ := map_some e
    obtain ⟨as, uss, h1, h2, h3⟩ := tups_read r e1
    cases h with
    | tup a r' => exact ⟨_ :: as, _ :: uss, by rw [h1]; rfl, .cons a h2, .cons r' h3⟩
theorem rows_mono {K : PySem.W.Frag} {I J : Hp} (e : Same I J) {as : List Addr} {uss : List (List V)} (h : RowsAt K I as uss) : RowsAt K J as uss := by
  induction h with
  | nil => exact .nil
  | cons a _ ih => exact .cons (sqT_mono e a) ih
theorem row_rp {K : PySem.W.Frag} {I : Hp} {i : Nat} : ∀ {uss : List (List V)} {xss : List (List PyData)} {row : List V}, Paired (fun us xs => RpAll K I us xs) uss xss → Paired (fun xs x => xs[i]? = some x) uss row → (∀ ys ∈ xss, i < ys.length) → RpAll K I row (xss.map fun ys => ys.getD i .none)
  | [], [], [], .nil, .nil, _ => .nil
  | us :: uss, xs :: xss, x :: row, .cons h r, .cons h' r', hl => by
    refine .cons ?_ (row_rp r r' fun ys hy => hl ys (List.mem_cons_of_mem _ hy))
    have hi := hl xs List.mem_cons_self
    obtain ⟨y, h1, h2⟩ := h.get (List.getElem?_eq_getElem hi)
    rw [h'] at h1
    cases h1
    show Rp K I x (xs.getD i .none)
    rw [List.getD_eq_getElem?_getD, List.getElem?_eq_getElem hi]
    exact h2
theorem paired_len {K : PySem.W.Frag} {I : Hp} {uss : List (List V)} {xss : List (List PyData)} (h : Paired (fun us xs => RpAll K I us xs) uss xss) {n : Nat} (hl : ∀ ys ∈ xss, ys.length = n) : ∀ us ∈ uss, us.length = n := by
  induction h with
  | nil => intro us hu; cases hu
  | @cons us xs uss xss h r ih =>
    intro vs hv
    rcases List.mem_cons.mp hv with rfl | hv
    · rw [h.len]; exact hl _ List.mem_cons_self
    · exact ih (fun ys hy => hl ys (List.mem_cons_of_mem _ hy)) vs hv
theorem itd_zipN {K : PySem.W.Frag} {I : Hp} {as : List Addr} {uss : List (List V)} {xss : List (List PyData)} (h : RowsAt K I as uss) (r : Paired (fun us xs => RpAll K I us xs) uss xss) (h1 : 1 ≤ xss.length) (hl : ∀ ys ∈ xss, ys.length = (xss.headD []).length) : ItD K (ItN K as) I (zipRows xss) := by
  obtain ⟨x0, rest, rfl⟩ : ∃ x0 rest, xss = x0 :: rest := by
    cases xss with
    | nil => simp at h1
    | cons x r2 => exact ⟨x, r2, rfl⟩
  have hl : ∀ ys ∈ x0 :: rest, ys.length = x0.length := hl
  have hlen : (zipRows (x0 :: rest)).length = x0.length := by simp [zipRows]
  refine ⟨fun i I2 M2 H2 e k hi => ?_, fun I2 M2 H2 e k => ?_, fun i I2 M2 H2 x H3 e k hi y => ?_⟩
  · rw [hlen] at hi
    exact ⟨uss, x0.length, rows_mono (e.trans k.ih) h, paired_len r hl, hi⟩
  · rw [hlen]
    exact ⟨uss, rows_mono (e.trans k.ih) h, paired_len r hl⟩
  · rw [hlen] at hi
    obtain ⟨T, row, rfl, hT, rfl, hr⟩ := y
    have hrow := hr uss (rows_mono (e.trans k.ih) h)
    have rr := row_rp r hrow (fun ys hy => by rw [hl ys hy]; exact hi)
    obtain ⟨g, k'⟩ := Grow.alloc (o := .tup row) k hT
    refine ⟨.tuple ((x0 :: rest).map fun ys => ys.getD i .none), _, ?_, g, k', .tup (SqT.of upd_same) (rr.mono (e.trans g.i))⟩
    show ((List.range x0.length).map _)[i]? = _
    rw [List.getElem?_map, List.getElem?_range hi]
    rfl
theorem pid_zipN {U : Uni} {X : Cx} {W : WX} {e : Expr} {Fe : Rho → U.S → Res U.S Val} {p pos sp tpos : Pos} {x : Str} (hg : Gl X "zip") (hm : X.mg "zip" = none) (he : PEd U X W e Fe) (hs : starEach [.Starred e sp] X.env = [(true, eval e X.env)] := by rfl) :
    PId U X W (.Name x tpos) (.Call (.Name "zip" p) [.Starred e sp] [] pos) (iZpN Fe) := by
  refine pi_imp (pi_zipN hg hm he hs) fun σ H R h => ?_
  refine tG.bind h fun Z ρ st1 y u I1 M1 H1 ft hx ps => ?_
  match u, hx, ps with
  | .d (.tuple ds), hx, ps =>
    simp only at ps
    cases e1 : tupsOf ds with
    | none => rw [e1] at ps; exact False.elim ps
    | some xss =>
      rw [e1] at ps
      simp only at ps
      by_cases hc : 1 ≤ xss.length ∧ xss.length ≤ 4 ∧ ∀ ys ∈ xss, ys.length = (xss.headD []).length
      · rw [if_pos hc] at ps
        have hx : Rp X.K I1 y (.tuple ds) := hx
        cases hx with
        | tup a r =>
          obtain ⟨as, uss, rfl, h2, h3⟩ := tups_read r e1
          have l1 := Paired.length h2
          have l2 := Paired.length h3
          exact ⟨_, as, uss, rfl, sqT_mono ft.ok.ih a, rows_mono ft.ok.ih h2, by omega, by omega, ps _ I1 M1 H1 (Grow.refl _ _ _) ft.ok ft.rs (itd_zipN h2 h3 hc.1 hc.2.2)⟩
      · rw [if_neg hc] at ps
        exact False.elim ps
section
variable {U : Uni} {X : Cx} {W : WX} {a : Expr} {Fa : Rho → U.S → Res U.S Val} {pos p : Pos} {x : Str} {ad : Addr} {tb : List (Str × Addr)} {ks : List Str}
theorem ptd_inK (T : TabF X.w X.K X.mg x ad tb) (hk : tb.map (·.1) = ks) (hg : Gl X x) (ha : PEd U X W a Fa) (hm : behindInMarks .In (.Name x p) = false) (hdb : (x == ("__debug__" : Str)) = false := by decide) : PTd U X W (.Compare a [.In] [.Name x p] pos) (tInT ks Fa) := hk ▸ ptd_inT T hg ha hm hdb
theorem ped_inK (T : TabF X.w X.K X.mg x ad tb) (hk : tb.map (·.1) = ks) (hg : Gl X x) (ha : PEd U X W a Fa) (hm : behindInMarks .In (.Name x p) = false) (hdb : (x == ("__debug__" : Str)) = false := by decide) : PEd U X W (.Compare a [.In] [.Name x p] pos) (eB (tInT ks Fa)) := hk ▸ ped_inT T hg ha hm hdb
end
end Dl
set_option maxRecDepth 100000
namespace Dl
open PySem L2 PySem.Spec PyProof.Rows
/-! ### the sum of a tuple -/
def rSumT (K : PySem.W.Frag) : List V → Hp → VK → Prop := fun vs H Q => ∃ (a : Addr) (ns : List Int), vs = [V.ref a] ∧ SqT K H a (ns.map V.int) ∧ Q (.int ns.sum) H
theorem cr_sumT {X : Cx} (hc : X.calm = true) : CallR X (.builtin "sum") (rSumT X.K) := by
  intro pins s σ H vs us Q I r h
  obtain ⟨a, ns, rfl, hs, q⟩ := h
  obtain ⟨its, rv, hl, _⟩ := I.tuple hs
  rw [Vals.ref1 r]
  have hi := ints_of_vals rv
  obtain ⟨xs, hx⟩ := hi.allInts.items
  have hn : numsOf (intItems xs).toList = ns := by rw [← hx]; exact hi.numsOf
  rw [hx] at hl
  rw [nums_intItems] at hn
  refine PySem.W.ktm_sumG (I.ok.hd hc) hl fun h' tk t' hk => ?_
  refine ⟨.int _, H, I.kept hk, ⟨_, rfl⟩, ?_⟩
  rw [preSum_eq, List.take_of_length_le (by simp), hn]
  exact q
def bSumT : List Val → Option PyData
  | [.d (.tuple ds)] => (allInts ds).map fun ns => .int ns.sum
  | _ => none
theorem d_sumT {K : PySem.W.Frag} : CallD K (rSumT K) bSumT := by
  intro xs vs w I M H Q k hs e q
  unfold bSumT at e
  split at e
  · obtain ⟨x, rfl, hx⟩ := VRs.one hs
    obtain ⟨ns, e3, rfl⟩ := map_some e
    rename_i ds
    cases hx with
    | tup a r =>
      rw [allInts_eq e3] at r
      refine ⟨_, ns, rfl, ?_, q _ I H (Grow.refl _ _ _) k (.int _)⟩
      rw [← r.ints]
      exact sqT_mono k.ih a
  · cases e
end Dl
set_option maxRecDepth 100000
set_option maxHeartbeats 4000000
namespace Dl
open PySem L2 PySem.Spec PyProof.Rows
/-! ### defs with one keyword-only default -/
section
variable {S : Type}
/-- f(a, ..), the default put behind -/
def eAppD (F : List Val → S → Res S Val) (n : Nat) (d : PyData) (a : Rho → S → Res S (List Val)) : Rho → S → Res S Val := fun ρ st => (a ρ st).bind fun xs st1 => if xs.all isDR = true ∧ xs.length = n then F (xs ++ [.d d]) st1 else .stuck
/-- f(a, .., k = b) -/
def eAppK (F : List Val → S → Res S Val) (n : Nat) (a b : Rho → S → Res S (List Val)) : Rho → S → Res S Val := fun ρ st => (a ρ st).bind fun xs st1 => (b ρ st1).bind fun ys st2 => if xs.all isDR = true ∧ xs.length = n ∧ ys.all isDR = true ∧ ys.length = 1 then F (xs ++ ys) st2 else .stuck
end
structure KF (K : PySem.W.Frag) (mg : Str → Option Value) (x : Str) (st : Stmt) (ps : List Str) (n : Nat) (kw : Str) (dd : PyData) (f : Addr) (fd : FuncData) : Prop where
  fn : Fun K x x st f fd
  m : mg x = some (.ref f)
  len : ps.length = n + 1
  bd : ∃ (v : V) (u : Value), RelV v u ∧ Binds K fd ps [u] ∧ ∀ I, Rp K I v dd
  bk : KBn K fd ps n [kw] (fun us ws => us ++ ws) (fun vs zs => vs ++ zs)
theorem Vals.snoc {xs : List V} {us : List Value} {v : V} {u : Value} (r : Vals xs us) (h : RelV v u) : Vals (xs ++ [v]) (us ++ [u]) := r.append (.cons h .nil)
theorem VRs.append {K : PySem.W.Frag} {I : Hp} {M : Mw} {H : Hp} {xs ys : List V} {vs ws : List Val} (a : VRs K I M H xs vs) (b : VRs K I M H ys ws) : VRs K I M H (xs ++ ys) (vs ++ ws) := by
  induction a with
  | nil => exact b
  | cons h _ ih => exact .cons h ih
section
variable {U : Uni} {X : Cx} {W : WX} {k n : Nat} {f : Addr} {fd : FuncData} {ps : List Str} {F : List Val → U.S → Res U.S Val} {x kw : Str} {dd : PyData} {st0 : Stmt} {p pos : Pos} {e : Expr} {es : List Expr} {A B : Rho → U.S → Res U.S (List Val)}
theorem ped_callD (G : FnG U X.prog X.w X.K X.mg X.base k f fd ps F) (hr : Room k X.A) (hgd : X.A.guards = some []) (hg : Gl X x) (T : KF X.K X.mg x st0 ps n kw dd f fd) (tk : Takes X W)
    (ha : PAd U X W (e :: es) A) (hdb : (x == ("__debug__" : Str)) = false := by decide) (he : starEach (e :: es) X.env = (false, eval e X.env) :: starEach es X.env := by rfl) (hpl : (backTo pos (starEach es X.env)).any (·.1) = false := by rfl) :
    PEd U X W (.Call (.Name x p) (e :: es) [] pos) (eAppD F n dd A) := by
  obtain ⟨dv, du, hdr, hbd, hrp⟩ := T.bd
  refine ⟨fun pins s σ H Q J h => wpAny_Call_Name_kw (ld_glob J hg T.m ?_ hdb)⟩
  have h1 : tAs U X.K W A σ H (fun xs H1 => ∃ vs st1 I1 M1, Ok I1 M1 H1 ∧ U.R st1 M1 ∧ VRs X.K I1 M1 H1 xs vs ∧ vs.all isDR = true ∧ vs.length = n ∧ Post U X.K (VR X.K) (F (vs ++ [.d dd]) st1) I1 M1 H1 Q (fun cls d H' => W cls d σ H')) := by
    refine tG.bind h fun Z ρ st1 xs vs I1 M1 H1 ft hx ps1 => ?_
    by_cases hc : vs.all isDR = true ∧ vs.length = n
    · rw [if_pos hc] at ps1
      exact ⟨vs, st1, I1, M1, ft.ok, ft.rs, hx, hc.1, hc.2, ps1⟩
    · rw [if_neg hc] at ps1
      exact False.elim ps1
  refine PySem.W.callWith_K (h₀ := X.base) J.ok.mod.kin T.fn.kp (thn (ha.run pos pins s σ H _ J h1) fun us s1 ⟨xs, H1, J1, r, q⟩ => ⟨J1.kIn, ?_⟩) he hpl
  obtain ⟨vs, st1, I1, M1, ok, rs, hv, hd, hl, ps1⟩ := q
  have hl1 : xs.length = n := hv.len.trans hl
  have hbs : BindsTo s1 fd ⟨us, []⟩ (ps.zip (us ++ [du])) := hbd s1 us J1.kIn (by rw [List.length_append, ← r.length, hl1, T.len]; rfl)
  refine wpAny_call (codeAny_mono (G.run X.A X.stack s1 H1 ⟨us, []⟩ (us ++ [du]) (xs ++ [dv]) Q (WE W σ) (vs ++ [.d dd]) st1 I1 M1 hr hgd J1.env0 hbs (Vals.snoc r hdr) (by rw [List.length_append, hl1, T.len]; rfl) ok rs (hv.append (VRs.cons (v := .d dd) (hrp I1) .nil)) (by rw [List.all_append, hd]; rfl) ps1) fun res s' hq => ?_)
  match res, hq with
  | .error er, hq => exact passAt tk σ pins H1 s1 er s' J1 hq
  | .ok (.ret u), hq => exact J1.after hq
abbrev PKd (U : Uni) (X : Cx) (W : WX) (kws : List Keyword) (B : Rho → U.S → Res U.S (List Val)) : Prop := PK X kws (tAs U X.K W B)
theorem pkd_one {nm : Option Str} {kpos : Pos} {Fe : Rho → U.S → Res U.S Val} (h : PEd U X W e Fe) : PKd U X W [⟨nm, e, kpos⟩] (aCons Fe aNil) := by
  have key := pk_cons (nm := nm) (kpos := kpos) h (pk_nil (X := X))
  refine ⟨fun pos pins s σ H Q I hq => key.run pos pins s σ H Q I ?_⟩
  refine tG.bind hq fun Z ρ st1 v u I1 M1 H1 ft hx ps => ?_
  exact ps [v] I1 M1 H1 (Grow.refl _ _ _) ft.ok ft.rs (.cons hx .nil)
theorem ped_callKw (G : FnG U X.prog X.w X.K X.mg X.base k f fd ps F) (hr : Room k X.A) (hgd : X.A.guards = some []) (hg : Gl X x) (T : KF X.K X.mg x st0 ps n kw dd f fd) (tk : Takes X W)
    {kws : List Keyword} (ha : PAd U X W (e :: es) A) (hkw : PKd U X W kws B) (hall : (backToKw pos (keywordEach kws X.env)).all (·.1.isSome) = true := by rfl) (hks : (backToKw pos (keywordEach kws X.env)).filterMap (·.1) = [kw] := by rfl)
    (hdb : (x == ("__debug__" : Str)) = false := by decide) (he : starEach (e :: es) X.env = (false, eval e X.env) :: starEach es X.env := by rfl)
    (hpl : ((backTo pos (starEach (e :: es) X.env)).any (·.1) || (backToKw pos (keywordEach kws X.env)).any (·.1.isNone)) = false := by rfl) :
    PEd U X W (.Call (.Name x p) (e :: es) kws pos) (eAppK F n A B) := by
  refine ⟨fun pins s σ H Q J h => wpAny_Call_Name_kw (ld_glob J hg T.m ?_ hdb)⟩
  have h1 : tAs U X.K W A σ H (fun xs H1 => tAs U X.K W B σ H1 fun ys H2 => ∃ vs ws st2 I2 M2, Ok I2 M2 H2 ∧ U.R st2 M2 ∧ VRs X.K I2 M2 H2 xs vs ∧ VRs X.K I2 M2 H2 ys ws ∧ vs.all isDR = true ∧ vs.length = n ∧ ws.all isDR = true ∧ ws.length = 1 ∧ Post U X.K (VR X.K) (F (vs ++ ws) st2) I2 M2 H2 Q (fun cls d H' => W cls d σ H')) := by
    refine tG.bind h fun Z ρ st1 xs vs I1 M1 H1 ft hx ps1 => ?_
    refine Post.next ft ps1 fun st2 ys ws I2 M2 H2 g ft2 hy ps2 => ?_
    by_cases hc : vs.all isDR = true ∧ vs.length = n ∧ ws.all isDR = true ∧ ws.length = 1
    · rw [if_pos hc] at ps2
      exact ⟨vs, ws, st2, I2, M2, ft2.ok, ft2.rs, hx.grow g, hy, hc.1, hc.2.1, hc.2.2.1, hc.2.2.2, ps2⟩
    · rw [if_neg hc] at ps2
      exact False.elim ps2
  refine PySem.W.callWith_KW (h₀ := X.base) J.ok.mod.kin T.fn.kp hall (thn (ha.run pos pins s σ H _ J h1) fun us s1 ⟨xs, H1, J1, r, q⟩ => ?_) hpl he
  refine thn (hkw.run pos pins s1 σ H1 _ J1 q) fun us' s2 ⟨ys, H2, J2, r', q2⟩ => ⟨J2.kIn, ?_⟩
  obtain ⟨vs, ws, st2, I2, M2, ok, rs, hv, hw, hd, hl, hd', hl', ps2⟩ := q2
  rw [hks]
  have hl1 : xs.length = n := hv.len.trans hl
  have hl2 : ys.length = 1 := hw.len.trans hl'
  have hbs := T.bk.to s2 us us' J2.kIn (r.length.symm.trans hl1) (r'.length.symm.trans hl2)
  refine wpAny_call (codeAny_mono (G.run X.A X.stack s2 H2 ⟨us, ([kw] : List Str).zip us'⟩ (us ++ us') (xs ++ ys) Q (WE W σ) (vs ++ ws) st2 I2 M2 hr hgd J2.env0 hbs (r.append r') (by rw [List.length_append, hl1, hl2, T.len]) ok rs (hv.append hw) (by rw [List.all_append, hd, hd']; rfl) ps2) fun res s' hq => ?_)
  match res, hq with
  | .error er, hq => exact passAt tk σ pins H2 s2 er s' J2 hq
  | .ok (.ret u), hq => exact J2.after hq
end
/-- a def and its one default, as the top left them -/
theorem kf_mk {K : PySem.W.Frag} {mg : Str → Option Value} {x kw : Str} {st : Stmt} {ps : List Str} {n : Nat} {dd : PyData} {f D a : Addr} {od an : Option Addr} {osl : Array (Option Value)} {oc doc pm cdv ct : Value}
    (l : K.lookup f = some ⟨oc, od, .func (PySem.W.fnOf x x (defArgs st) (defBody st) (defScope st) .none (.ref D) doc pm an cdv ct), osl⟩) (c : PySem.W.codeIn K cdv x = true) (kp : PySem.W.keepIn K (.ref f) = true) (m : mg x = some (.ref f))
    (hD : PySem.W.nsIn K D kw = some (some (.ref a))) (hc : conIn K 6 (.ref a) dd = true) (hlen : ps.length = n + 1)
    (h0 : ∀ (D : Addr) (doc pm : Value) (an : Option Addr) (cdv ct : Value) (us ks : List Value), us.length = n → ks.length = 1 → KwChain D ([kw].zip ks) (bindArgs (PySem.W.fnOf x x (defArgs st) (defBody st) (defScope st) .none (.ref D) doc pm an cdv ct) ⟨us, []⟩) (ps.zip (us ++ ks)))
    (h1 : ∀ (D : Addr) (doc pm : Value) (an : Option Addr) (cdv ct : Value) (us ws : List Value), us.length = n → ws.length = 1 → KwChain D [] (bindArgs (PySem.W.fnOf x x (defArgs st) (defBody st) (defScope st) .none (.ref D) doc pm an cdv ct) ⟨us, [kw].zip ws⟩) (ps.zip (us ++ ws))) :
    KF K mg x st ps n kw dd f (PySem.W.fnOf x x (defArgs st) (defBody st) (defScope st) .none (.ref D) doc pm an cdv ct) := by
  have FD : FunD K x x (defArgs st) (defBody st) (defScope st) [] [(kw, .ref a)] f (PySem.W.fnOf x x (defArgs st) (defBody st) (defScope st) .none (.ref D) doc pm an cdv ct) :=
    ⟨⟨oc, od, .none, .ref D, doc, pm, an, cdv, ct, osl, rfl, l, c, .inl ⟨rfl, rfl⟩, .inr ⟨D, rfl, fun q hq => by
      rcases List.mem_singleton.mp hq with rfl
      exact ⟨_, hD, rfl⟩⟩⟩, kp⟩
  refine ⟨fun_mk l c kp, m, hlen, ?_, ?_⟩
  · obtain ⟨ds, hv, hb⟩ := FD.binds0 n (by simp) (by rw [hlen]; rfl) (fun D doc pm an cdv ct us ks a b => h0 D doc pm an cdv ct us ks a b)
    obtain ⟨u, rfl, ru⟩ := vals1 hv
    exact ⟨.ref a, u, ru, hb, conIn_ref hc⟩
  · obtain ⟨mv, hb⟩ := FD.kbinds0 n [kw] [] (fun vs _ zs => vs ++ zs) (by simp) (fun q hq => nomatch hq) (fun r1 _ r3 => r1.append r3) (fun D doc pm an cdv ct us mv ws a _ b => by
      have := h1 D doc pm an cdv ct us ws a b
      exact this)
    exact hb
end Dl
set_option maxRecDepth 100000
set_option maxHeartbeats 4000000
namespace Dl
open PySem L2 PySem.Spec PyProof.Rows
/-! ### x is True, x is not False .. -/
def rIsB (neg : Bool) : R2 := fun x y H Q => ∃ b : Bool, y = .bl b ∧ Q (.bl (if neg then !decide (x = .bl b) else decide (x = .bl b))) H
theorem bl_eq (c b : Bool) : decide ((V.bl c) = V.bl b) = (Value.bool c == Value.bool b) := by cases c <;> cases b <;> rfl
theorem bl_eqN (c b : Bool) : (!decide ((V.bl c) = V.bl b)) = !(Value.bool c == Value.bool b) := by cases c <;> cases b <;> rfl
def vIs (u v : Val) : Option Bool := match u, v with
  | .d (.bool c), .d (.bool b) => some (decide (c = b))
  | .d .none, .d (.bool _) => some false
  | .d (.int _), .d (.bool _) => some false
  | .d (.str _), .d (.bool _) => some false
  | _, _ => none
def vIsNt (u v : Val) : Option Bool := (vIs u v).map (!·)
def rIsF (neg : Bool) : R2 := fun x y H Q => ∃ b : Bool, y = .bl b ∧ ((∃ c, x = .bl c ∧ Q (.bl (neg != decide (c = b))) H) ∨ ((x = .non ∨ (∃ i, x = .int i) ∨ ∃ z, x = .str z) ∧ Q (.bl neg) H))
theorem op_isF {X : Cx} : OpR X (compareOp .Is) (rIsF false) := by
  intro pins s σ H x y v u Q I rx ry h
  obtain ⟨b, rfl, h⟩ := h
  cases ry
  rcases h with ⟨c, rfl, q⟩ | ⟨hx, q⟩
  · cases rx
    exact wpAny_pure (fin_bl I q (by cases c <;> cases b <;> rfl))
  · rcases hx with rfl | ⟨i, rfl⟩ | ⟨z, rfl⟩
    · cases rx
      exact wpAny_pure (fin_bl I q (by cases b <;> rfl))
    · obtain ⟨t, rfl⟩ := rx
      exact wpAny_pure (fin_bl I q (by cases b <;> rfl))
    · obtain ⟨t, rfl⟩ := rx
      exact wpAny_pure (fin_bl I q (by cases b <;> rfl))
theorem op_isNF {X : Cx} : OpR X (compareOp .IsNot) (rIsF true) := by
  intro pins s σ H x y v u Q I rx ry h
  obtain ⟨b, rfl, h⟩ := h
  cases ry
  rcases h with ⟨c, rfl, q⟩ | ⟨hx, q⟩
  · cases rx
    exact wpAny_pure (fin_bl I q (by cases c <;> cases b <;> rfl))
  · rcases hx with rfl | ⟨i, rfl⟩ | ⟨z, rfl⟩
    · cases rx
      exact wpAny_pure (fin_bl I q (by cases b <;> rfl))
    · obtain ⟨t, rfl⟩ := rx
      exact wpAny_pure (fin_bl I q (by cases b <;> rfl))
    · obtain ⟨t, rfl⟩ := rx
      exact wpAny_pure (fin_bl I q (by cases b <;> rfl))
theorem d_isF {K : PySem.W.Frag} : Cmp2D K (rIsF false) vIs := by
  intro x y u v w I M H Q k hx hy e q
  unfold vIs at e
  split at e
  · cases e
    exact ⟨_, Rp.bool_inv hy, .inl ⟨_, Rp.bool_inv hx, by simpa using q⟩⟩
  · cases e
    exact ⟨_, Rp.bool_inv hy, .inr ⟨.inl (Rp.non_inv hx), q⟩⟩
  · cases e
    exact ⟨_, Rp.bool_inv hy, .inr ⟨.inr (.inl ⟨_, Rp.int_inv hx⟩), q⟩⟩
  · cases e
    exact ⟨_, Rp.bool_inv hy, .inr ⟨.inr (.inr ⟨_, Rp.str_inv hx⟩), q⟩⟩
  · cases e
theorem d_isNF {K : PySem.W.Frag} : Cmp2D K (rIsF true) vIsNt := by
  intro x y u v w I M H Q k hx hy e q
  unfold vIsNt vIs at e
  split at e
  · cases e
    exact ⟨_, Rp.bool_inv hy, .inl ⟨_, Rp.bool_inv hx, by simpa using q⟩⟩
  · cases e
    exact ⟨_, Rp.bool_inv hy, .inr ⟨.inl (Rp.non_inv hx), q⟩⟩
  · cases e
    exact ⟨_, Rp.bool_inv hy, .inr ⟨.inr (.inl ⟨_, Rp.int_inv hx⟩), q⟩⟩
  · cases e
    exact ⟨_, Rp.bool_inv hy, .inr ⟨.inr (.inr ⟨_, Rp.str_inv hx⟩), q⟩⟩
  · cases e
end Dl
set_option maxRecDepth 100000
set_option maxHeartbeats 4000000
namespace Dl
open PySem L2 PySem.Spec PyProof.Rows HT
/-! ### a[::-1], a[i::k] -/
def ixS (n : Nat) : Option Int → Int → List Nat
  | none, _ => (List.range n).reverse
  | some i, k => (List.range n).map fun m => i.toNat + m * k.toNat
def stpL {α : Type} (xs : List α) (lo : Option Int) (k : Int) : List α := (ixS xs.length lo k).filterMap (xs[·]?)
def stOk : Option Int → Int → Bool
  | none, k => decide (k = -1)
  | some i, k => decide (0 ≤ i ∧ 1 ≤ k)
theorem pairs_pick {xs : List V} {us : List Value} (r : Vals xs us) : ∀ (is : List Nat), Vals (is.filterMap (xs[·]?)) (is.filterMap (us[·]?))
  | [] => .nil
  | i :: is => by
    rw [List.filterMap_cons, List.filterMap_cons]
    cases h : xs[i]? with
    | none => rw [Vals.none_of r h]; exact pairs_pick r is
    | some x =>
      obtain ⟨u, hu, rx⟩ := Vals.get r h
      rw [hu]
      exact .cons rx (pairs_pick r is)
theorem RpAll.pick {K : PySem.W.Frag} {I : Hp} {xs : List V} {ds : List PyData} (r : RpAll K I xs ds) : ∀ (is : List Nat), RpAll K I (is.filterMap (xs[·]?)) (is.filterMap (ds[·]?))
  | [] => .nil
  | i :: is => by
    rw [List.filterMap_cons, List.filterMap_cons]
    cases h : ds[i]? with
    | none =>
      have : xs[i]? = none := by
        rw [List.getElem?_eq_none_iff] at h ⊢
        rw [r.len]; exact h
      rw [this]; exact RpAll.pick r is
    | some d =>
      obtain ⟨x, hx, rx⟩ := r.get h
      rw [hx]
      exact .cons rx (RpAll.pick r is)
theorem RpAll.stp {K : PySem.W.Frag} {I : Hp} {xs : List V} {ds : List PyData} (r : RpAll K I xs ds) (lo : Option Int) (k : Int) : RpAll K I (stpL xs lo k) (stpL ds lo k) := by
  unfold stpL
  rw [r.len]
  exact r.pick _
def wholeS (n : Nat) (lo : Option Int) (k : Int) : Prop := (lo = some 0 ∧ k = 1) ∨ n = 0
theorem ixs_all {α : Type} : ∀ (xs : List α), (List.range xs.length).filterMap (xs[·]?) = xs
  | [] => rfl
  | x :: xs => by
    rw [List.length_cons, List.range_succ_eq_map, List.filterMap_cons, List.filterMap_map]
    show x :: (List.range xs.length).filterMap (xs[·]?) = _
    rw [ixs_all xs]
theorem stp_id {α : Type} {xs : List α} {lo : Option Int} {k : Int} (h : wholeS xs.length lo k) : stpL xs lo k = xs := by
  rcases h with ⟨rfl, rfl⟩ | h
  · unfold stpL ixS
    have : ((List.range xs.length).map fun m => (0 : Int).toNat + m * (1 : Int).toNat) = List.range xs.length := by simp
    show ((List.range xs.length).map fun m => (0 : Int).toNat + m * (1 : Int).toNat).filterMap (xs[·]?) = xs
    rw [this]
    exact ixs_all xs
  · have := List.eq_nil_of_length_eq_zero h
    subst this
    cases lo <;> rfl
theorem stp_back {α : Type} (xs : List α) (k : Int) : stpL xs none k = xs.reverse := by
  unfold stpL ixS
  rw [List.filterMap_reverse, ixs_all]
theorem stp_len {α : Type} (xs : List α) (lo : Option Int) (k : Int) : (stpL xs lo k).length ≤ xs.length := by
  unfold stpL
  refine Nat.le_trans (List.length_filterMap_le _ _) ?_
  cases lo <;> simp [ixS]
theorem range_back (n : Nat) : (List.range n).map (fun m => n - 1 - m) = (List.range n).reverse := by
  refine List.ext_getElem (by simp) fun i h1 h2 => ?_
  rw [List.getElem_map, List.getElem_reverse, List.getElem_range, List.getElem_range, List.length_range]
theorem pick_tail {α : Type} (f : Nat → Option α) {c n : Nat} (h : c ≤ n) (hn : ∀ m, c ≤ m → f m = none) : (List.range n).filterMap f = (List.range c).filterMap f := by
  obtain ⟨d, rfl⟩ := Nat.exists_eq_add_of_le h
  rw [List.range_add, List.filterMap_append, List.filterMap_map]
  have : (List.range d).filterMap (f ∘ fun x => c + x) = [] := by
    rw [List.filterMap_eq_nil_iff]
    intro a _
    exact hn (c + a) (by omega)
  rw [this, List.append_nil]
theorem pick_congr {α : Type} {f g : Nat → Option α} : ∀ {l : List Nat}, (∀ m ∈ l, f m = g m) → l.filterMap f = l.filterMap g
  | [], _ => rfl
  | a :: l, h => by
    rw [List.filterMap_cons, List.filterMap_cons, h a List.mem_cons_self, pick_congr fun m hm => h m (List.mem_cons_of_mem _ hm)]
/-- what the model picks -/
theorem pick_model (xs : List Value) (lo : Option Int) (k : Int) (hk : stOk lo k = true) :
    (List.range (Builtin.Slice.slicePlaces (Builtin.Slice.sliceAdjust lo none k (xs.length : Int)).1 (Builtin.Slice.sliceAdjust lo none k (xs.length : Int)).2 k)).filterMap (fun (m : Nat) => xs[((Builtin.Slice.sliceAdjust lo none k (xs.length : Int)).1 + (m : Int) * k).toNat]?) = stpL xs lo k := by
  cases lo with
  | none =>
    have hk : k = -1 := of_decide_eq_true hk
    subst hk
    have e1 : Builtin.Slice.sliceAdjust none none (-1) (xs.length : Int) = ((xs.length : Int) - 1, -1) := rfl
    rw [e1]
    have e2 : Builtin.Slice.slicePlaces ((xs.length : Int) - 1) (-1) (-1) = xs.length := by
      unfold Builtin.Slice.slicePlaces
      have h1 : ¬ ((-1 : Int) > 0) := by decide
      have h2 : (- (-1) : Int) = 1 := by decide
      simp only [h1, if_false, h2, Int.ediv_one]
      split <;> omega
    show (List.range (Builtin.Slice.slicePlaces ((xs.length : Int) - 1) (-1) (-1))).filterMap (fun (m : Nat) => xs[((xs.length : Int) - 1 + (m : Int) * -1).toNat]?) = _
    rw [e2]
    unfold stpL ixS
    rw [← range_back, List.filterMap_map]
    refine pick_congr fun m hm => ?_
    have : ((xs.length : Int) - 1 + (m : Int) * -1).toNat = xs.length - 1 - m := by omega
    rw [this]; rfl
  | some i =>
    obtain ⟨h0, h1⟩ : 0 ≤ i ∧ 1 ≤ k := of_decide_eq_true hk
    obtain ⟨i, rfl⟩ := Int.eq_ofNat_of_zero_le h0
    obtain ⟨k, rfl⟩ := Int.eq_ofNat_of_zero_le (show 0 ≤ k by omega)
    have e1 : Builtin.Slice.sliceAdjust (some (i : Int)) none (k : Int) (xs.length : Int) = (min (i : Int) (xs.length : Int), (xs.length : Int)) := by
      unfold Builtin.Slice.sliceAdjust
      have a1 : ¬ ((k : Int) < 0) := by omega
      have a2 : ¬ ((i : Int) < 0) := by omega
      simp only [a1, a2, if_false]
    rw [e1]
    show (List.range (Builtin.Slice.slicePlaces (min (i : Int) (xs.length : Int)) (xs.length : Int) (k : Int))).filterMap (fun (m : Nat) => xs[(min (i : Int) (xs.length : Int) + (m : Int) * (k : Int)).toNat]?) = _
    unfold stpL ixS
    rw [List.filterMap_map]
    have hk0 : (k : Int) > 0 := by omega
    by_cases hi : i < xs.length
    · have e2 : Builtin.Slice.slicePlaces (min (i : Int) (xs.length : Int)) (xs.length : Int) (k : Int) = (xs.length - i - 1) / k + 1 := by
        unfold Builtin.Slice.slicePlaces
        have e3 : min (i : Int) (xs.length : Int) = (i : Int) := by omega
        have e4 : (i : Int) < (xs.length : Int) := by omega
        have e5 : (xs.length : Int) - (i : Int) - 1 = ((xs.length - i - 1 : Nat) : Int) := by omega
        simp only [e3, hk0, e4, if_true, e5]
        have e6 : ((xs.length - i - 1 : Nat) : Int) / (k : Int) = (((xs.length - i - 1) / k : Nat) : Int) := (Int.natCast_ediv _ _).symm
        rw [e6]
        generalize (xs.length - i - 1) / k = z
        omega
      have hc : (xs.length - i - 1) / k + 1 ≤ xs.length := by
        have := Nat.div_le_self (xs.length - i - 1) k
        omega
      rw [e2, pick_tail _ hc]
      · refine pick_congr fun m hm => ?_
        have : (min (i : Int) (xs.length : Int) + (m : Int) * (k : Int)).toNat = i + m * k := by
          have : (m : Int) * (k : Int) = ((m * k : Nat) : Int) := by rw [Int.natCast_mul]
          omega
        rw [this]; simp
      · intro m hm
        have hkp : 0 < k := by omega
        have : (xs.length - i - 1) / k < m := by omega
        have := (Nat.div_lt_iff_lt_mul hkp).mp this
        simp only [Function.comp, Int.toNat_natCast]
        rw [List.getElem?_eq_none_iff]
        omega
    · have e2 : Builtin.Slice.slicePlaces (min (i : Int) (xs.length : Int)) (xs.length : Int) (k : Int) = 0 := by
        unfold Builtin.Slice.slicePlaces
        have e4 : ¬ (min (i : Int) (xs.length : Int) < (xs.length : Int)) := by omega
        simp only [hk0, e4, if_true, if_false]
        rfl
      rw [e2]
      symm
      refine (pick_tail (c := 0) _ (by omega) ?_).trans rfl
      intro m hm
      simp only [Function.comp, Int.toNat_natCast]
      rw [List.getElem?_eq_none_iff]
      omega
section
variable {prog : Program} {w : World} {A : Around} {E : Value → Shared → Prop} {s : Shared}
theorem applied_step {sl : Addr} {vl vk : Value} {lo : Option Int} {k : Int} {n : Nat} {Q : Int × Int × Nat → Shared → Prop} (hs : s.heap.IsSliceOf sl vl .none vk) (pl : IsPart vl lo) (pk : IsPart vk (some k)) (h0 : k ≠ 0)
    (h : Q ((Builtin.Slice.sliceAdjust lo none k (n : Int)).1, k, Builtin.Slice.slicePlaces (Builtin.Slice.sliceAdjust lo none k (n : Int)).1 (Builtin.Slice.sliceAdjust lo none k (n : Int)).2 k) s) : wpAny (model prog w) A (Builtin.Slice.sliceApplied (.ref sl) (pure (n : Int))) Q E s := by
  obtain ⟨os, hos, hcs, hds⟩ := id hs
  unfold Builtin.Slice.sliceApplied Builtin.Slice.sliceFields
  refine wpAny_bind (wpAny_bind (wpAny_field hos hds (x := vl) rfl (wpAny_bind (wpAny_field hos hds (x := .none) rfl (wpAny_bind (wpAny_field hos hds (x := vk) rfl (wpAny_pure ?_)))))))
  refine wpAny_bind (slicePart_ pk ?_)
  have hne : ¬ ((k == 0) = true) := fun e => h0 (eq_of_beq e)
  show wpAny _ _ (if (k == 0) = true then _ else _) _ _ s
  rw [if_neg hne]
  refine wpAny_bind (slicePart_ pl (wpAny_bind (slicePart_none (wpAny_bind (wpAny_pure ?_)))))
  exact wpAny_pure h
theorem getItem_tuple_step {t sl : Addr} {items : List Value} {vl vk : Value} {lo : Option Int} {k : Int} {Q : Value → Shared → Prop} (ht : IsTup s.heap t items.toArray) (hs : s.heap.IsSliceOf sl vl .none vk) (pl : IsPart vl lo) (pk : IsPart vk (some k)) (hk : stOk lo k = true)
    (hsame : wholeS items.length lo k → Q (.ref t) s)
    (h : Q (.ref s.heap.objs.size) { s with heap := s.heap.push { cls := .type "tuple", data := .seq (stpL items lo k).toArray } })
    (hsz : items.length ≤ sizeLine) : wpAny (model prog w) A (getItem (.ref t) (.ref sl)) Q E s := by
  have htake : sizeOk (.seq (stpL items lo k).toArray) := by
    show (stpL items lo k).toArray.size ≤ sizeLine
    rw [List.size_toArray]
    exact Nat.le_trans (stp_len _ _ _) hsz
  have h0 : k ≠ 0 := by
    cases lo with
    | none => have : k = -1 := of_decide_eq_true hk; omega
    | some i => have : 0 ≤ i ∧ 1 ≤ k := of_decide_eq_true hk; omega
  obtain ⟨os, hos, hcs, hds⟩ := id hs
  have hTs : s.TypeIs (.ref sl) "slice" := ⟨os, hos, hcs⟩
  unfold getItem
  try with_reducible refine wpAny_holding ?_
  first | refine wpAny_bind (wpAny_pure ?_) | skip
  refine wpAny_bind (wpAny_sequenceKey ht.typeIs (by decide) ?_)
  refine wpAny_bind (wpAny_callSpecial?_slot ht.typeIs (name := Str.ofString "__getitem__") PyProof.Rows.slot_tuple_getitem
    (wpAny_call_entry PyProof.Rows.slot_tuple_getitem ht.typeIs entry_tuple_getitem ?_ (args_tuple_getitem _ _)))
  show wpAny _ _ (Builtin.Tuple.tupleItemsOf (.ref t) >>= _) _ _ s
  refine wpAny_bind (tupleItemsOf_ ht ?_)
  refine wpAny_bind (wpAny_typeOf hTs ?_)
  rw [if_pos (by decide)]
  refine wpAny_bind (applied_step hs pl pk h0 ?_)
  have hsz' : items.toArray.size = items.length := List.size_toArray ..
  have hm := pick_model items lo k hk
  have hm' : ((List.range (Builtin.Slice.slicePlaces (Builtin.Slice.sliceAdjust lo none k (items.toArray.size : Int)).1 (Builtin.Slice.sliceAdjust lo none k (items.toArray.size : Int)).2 k)).filterMap (fun (m : Nat) => items.toArray[((Builtin.Slice.sliceAdjust lo none k (items.toArray.size : Int)).1 + (m : Int) * k).toNat]?)).toArray = (stpL items lo k).toArray := by
    rw [hsz', ← hm]
    simp only [List.getElem?_toArray]
  generalize ha : Builtin.Slice.sliceAdjust lo none k (items.toArray.size : Int) = ad at hm' ⊢
  show wpAny _ _ (if (ad.1 == 0 && k == 1 && Builtin.Slice.slicePlaces ad.1 ad.2 k == items.toArray.size) = true then _ else _) _ _ s
  by_cases hc : (ad.1 == 0 && k == 1 && Builtin.Slice.slicePlaces ad.1 ad.2 k == items.toArray.size) = true
  · rw [if_pos hc]
    have hst : wholeS items.length lo k := by
      rw [Bool.and_eq_true, Bool.and_eq_true] at hc
      have q1 : ad.1 = 0 := eq_of_beq hc.1.1
      have q2 : k = 1 := eq_of_beq hc.1.2
      subst q2
      cases lo with
      | none => exact absurd (show (1 : Int) = -1 from of_decide_eq_true hk) (by decide)
      | some i =>
        obtain ⟨h5, _⟩ : 0 ≤ i ∧ (1 : Int) ≤ 1 := of_decide_eq_true hk
        have : ad.1 = min i (items.length : Int) := by
          rw [← ha, hsz']
          unfold Builtin.Slice.sliceAdjust
          have a1 : ¬ ((1 : Int) < 0) := by decide
          have a2 : ¬ (i < 0) := by omega
          simp only [a1, a2, if_false]
        by_cases h6 : items.length = 0
        · exact .inr h6
        · exact .inl ⟨congrArg some (show i = 0 by omega), rfl⟩
    refine wpAny_bind ?_
    show wpAny _ _ (typeOf (.ref t) >>= fun T => pure (T == .type "tuple")) _ _ s
    refine wpAny_bind (wpAny_typeOf ht.typeIs (wpAny_pure ?_))
    first
      | rw [if_pos (by decide)]
      | simp only [beq_self_eq_true, if_true]
    first
      | exact wpAny_bind (wpAny_rule (wpAny_pure ⟨_, rfl, wpAny_pure (hsame hst)⟩))
      | exact wpAny_bind (wpAny_rule (wpAny_bind (wpAny_pure (wpAny_pure ⟨_, rfl, wpAny_pure (hsame hst)⟩))))
  · rw [if_neg hc, hm']
    first
      | exact wpAny_bind (m := Builtin.Tuple.tupleExact _) (wpAny_newObj_type (wpAny_pure ⟨_, rfl, wpAny_pure h⟩) htake)
      | exact wpAny_bind (m := Builtin.Tuple.tupleExact _) (wpAny_newObj_type (wpAny_bind (wpAny_pure (wpAny_pure ⟨_, rfl, wpAny_pure h⟩))) htake)
      | exact wpAny_bind (wpAny_bind (m := Builtin.Tuple.tupleExact _) (wpAny_newObj_type (wpAny_pure (wpAny_pure ⟨_, rfl, wpAny_pure h⟩)) htake))
      | exact wpAny_bind (wpAny_bind (m := Builtin.Tuple.tupleExact _) (wpAny_newObj_type (wpAny_pure ⟨_, rfl, wpAny_pure h⟩) htake))
end

section
variable {X : Cx}
def SlS (X : Cx) (r : V → Option Int → Int → Hp → VK → Prop) : Prop :=
  ∀ (pins : List (Addr × Obj)) (s : Shared) (σ : L2.St) (H : Hp) (x : V) (v vl vk : Value) (lo : Option Int) (k : Int) (sl : Addr) (Q : VK), Inv X pins σ H s → RelV x v → s.heap.IsSliceOf sl vl .none vk → IsPart vl lo → IsPart vk (some k) → r x lo k H Q →
    ∃ T id, typeLookup (.type T) "__getitem__" = pure (some (.builtin id)) ∧ s.TypeIs v T ∧ wpAny (model X.prog X.w) X.A (getItem v (.ref sl)) (EP X pins σ Q) X.xe s
def rStT (K : PySem.W.Frag) : V → Option Int → Int → Hp → VK → Prop := fun x lo k H Q => ∃ a xs, x = .ref a ∧ SqT K H a xs ∧ stOk lo k = true ∧
  (wholeS xs.length lo k → Q (.ref a) H) ∧ ∀ p, H p = none → Q (.ref p) (upd H p (.tup (stpL xs lo k)))
theorem vals_stp {xs : List V} {us : List Value} (r : Vals xs us) (lo : Option Int) (k : Int) : Vals (stpL xs lo k) (stpL us lo k) := by
  unfold stpL
  rw [Vals.length r]
  exact pairs_pick r _
theorem sl_stepT : SlS X (rStT X.K) := by
  intro pins s σ H x v vl vk lo k sl Q I rx hs pl pk h
  obtain ⟨a, xs, rfl, hx, hk, q1, q2⟩ := h
  cases rx
  obtain ⟨its, r, ht, hz⟩ := I.tuple hx
  have hlen := r.length
  refine ⟨"tuple", _, PyProof.Rows.slot_tuple_getitem.lookup, ht.typeIs, ?_⟩
  have r' := vals_stp r lo k
  refine getItem_tuple_step ht hs pl pk hk (fun e => ?_) ?_ (by omega)
  · refine ⟨.ref a, H, I, rfl, q1 ?_⟩
    rw [hlen]
    exact e
  · refine ⟨.ref s.heap.objs.size, _, I.laid (t' := s.toks) (o := .tup (stpL xs lo k)) (fun b ob q => Heap.get?_push_of_some _ q) (Nat.le_refl _) ?_, rfl, q2 _ (I.hok.fresh (Nat.le_refl _))⟩
    exact ⟨Nat.le_trans (stp_len xs lo k) hz, _, r', IsTup.new _ _⟩
def rStL (K : PySem.W.Frag) : V → Option Int → Int → Hp → VK → Prop := fun x lo k H Q => ∃ a xs, x = .ref a ∧ SqL K H a xs ∧ lo = none ∧ k = -1 ∧ ∀ p, H p = none → Q (.ref p) (upd H p (.lst xs.reverse))
theorem picked_back (its : List Value) : slicePick its.toArray none none (some (-1)) = its.reverse.toArray := by
  have e1 : sliceRange ((its.length : Int) - 1) (-1) (-1) = (List.range its.length).reverse := by
    rw [← range_back]
    unfold sliceRange
    have h1 : ¬ ((-1 : Int) > 0) := by decide
    have h2 : (- (-1) : Int) = 1 := by decide
    simp only [h1, if_false, h2, Int.ediv_one]
    have hc : (if (its.length : Int) - 1 > -1 then (its.length : Int) - 1 - -1 - -1 - 1 else 0).toNat = its.length := by split <;> omega
    rw [hc]
    refine List.map_congr_left fun m hm => ?_
    have := List.mem_range.mp hm
    omega
  have e2 : sliceBounds none none (some (-1)) its.toArray.size = ((its.length : Int) - 1, -1, -1) := by
    simp [sliceBounds]
  unfold slicePick
  rw [e2]
  show ((sliceRange ((its.length : Int) - 1) (-1) (-1)).filterMap (its.toArray[·]?)).toArray = _
  rw [e1, List.filterMap_reverse]
  congr 2
  have := pick_run its.toArray 0 its.length
  have e3 : (List.range its.length).map (0 + ·) = List.range its.length := by simp
  rw [e3] at this
  simpa using this
theorem sl_stepL : SlS X (rStL X.K) := by
  intro pins s σ H x v vl vk lo k sl Q I rx hs pl pk h
  obtain ⟨a, xs, rfl, hx, rfl, rfl, q⟩ := h
  cases rx
  obtain ⟨its, r, ht, hz⟩ := I.list hx
  have hlen := r.length
  refine ⟨"list", _, slot_list_getitem.lookup, ht.isList.typeIs, ?_⟩
  refine wpAny_getItem_list_slice ht.isList hs pl .none pk (by simp) ?_ (by rw [List.size_toArray]; omega)
  rw [picked_back]
  refine ⟨.ref s.heap.objs.size, _, I.laid (t' := s.toks) (o := .lst xs.reverse) (fun b ob q => Heap.get?_push_of_some _ q) (Nat.le_refl _) ?_, rfl, q _ (I.hok.fresh (Nat.le_refl _))⟩
  exact ⟨by rw [List.length_reverse]; exact hz, _, 0, Vals.reverse r, Heap.get?_push_size _ rfl⟩
theorem SlS.or {r r' : V → Option Int → Int → Hp → VK → Prop} (h : SlS X r) (h' : SlS X r') : SlS X (fun x lo k H Q => r x lo k H Q ∨ r' x lo k H Q) := by
  intro pins s σ H x v vl vk lo k sl Q I rx hs pl pk q
  rcases q with q | q
  · exact h pins s σ H x v vl vk lo k sl Q I rx hs pl pk q
  · exact h' pins s σ H x v vl vk lo k sl Q I rx hs pl pk q
def tSt (r : V → Option Int → Int → Hp → VK → Prop) (te : TE) (tl tk : TO) : TE := fun σ H Q => te σ H fun x H1 => tl σ H1 fun l H2 => tk σ H2 fun u H3 => ∃ k, u = some k ∧ r x l k H3 Q
theorem pe_step {e : Expr} {lo : Option Expr} {st : Expr} {te : TE} {tl tk : TO} {pos p2 : Pos} {r : V → Option Int → Int → Hp → VK → Prop} (hr : SlS X r) (he : PE X e te) (hl : PO X lo tl) (hk : PO X (some st) tk) : PE X (.Subscript e (.Slice lo none (some st) p2) pos) (tSt r te tl tk) := by
  refine ⟨fun pins s σ H Q I h => ?_⟩
  refine Subscript_ (thn (he.run pins s σ H _ I h) fun v s1 ⟨x, H1, I1, r1, q1⟩ => ?_)
  refine wpAny_Slice (thn (hl.run pins s1 σ H1 _ I1 q1) fun vl s2 ⟨l, H2, I2, pl, q2⟩ => ?_)
  rw [evalPart_none]
  refine wpAny_pure (thn (hk.run pins s2 σ H2 _ I2 q2) fun vk s3 ⟨u, H3, I3, pk, q3⟩ => ?_)
  obtain ⟨k, rfl, q3⟩ := q3
  have I4 : Inv X pins σ H3 { s3 with heap := s3.heap.push { cls := .type "slice", data := .fields #[vl, .none, vk] } } := I3.kept (t' := s3.toks) fun b ob q => Heap.get?_push_of_some _ q
  obtain ⟨T, id, hT, ht, hg⟩ := hr pins { s3 with heap := s3.heap.push { cls := .type "slice", data := .fields #[vl, .none, vk] } } σ H3 x v vl vk l k s3.heap.objs.size Q I4 r1 (Heap.IsSliceOf.new ..) pl pk q3
  show wpAny (model X.prog X.w) X.A (subscriptTail e (.Slice lo none (some st) p2) v (.ref s3.heap.objs.size)) (EP X pins σ Q) X.xe { s3 with heap := s3.heap.push { cls := .type "slice", data := .fields #[vl, .none, vk] } }
  exact tail_any ht (ops := [v, .ref s3.heap.objs.size]) hT hg (by with_unfolding_all rfl)
end
def vSt : Val → Option Int → Option Int → Option PyData
  | .d (.tuple xs), lo, some k => if stOk lo k then some (.tuple (stpL xs lo k)) else none
  | .d (.list xs), none, some k => if k = -1 then some (.list xs.reverse) else none
  | .own xs, none, some k => if k = -1 then some (.list xs.reverse) else none
  | _, _, _ => none
theorem RpAll.back {K : PySem.W.Frag} {I : Hp} : ∀ {xs : List V} {ds : List PyData}, RpAll K I xs ds → RpAll K I xs.reverse ds.reverse
  | _, _, .nil => .nil
  | _, _, .cons h r => by
    rw [List.reverse_cons, List.reverse_cons]
    exact r.back.append (.cons h .nil)
section
variable {U : Uni} {X : Cx} {W : WX} {a b : Expr} {Fa Fb : Rho → U.S → Res U.S Val} {G1 G2 : Rho → U.S → Res U.S (Option Int)} {lo : Option Expr} {st : Expr} {pos p2 : Pos}
theorem ped_st (ha : PEd U X W a Fa) (hl : POd U X W lo G1) (hh : POd U X W (some st) G2) : PEd U X W (.Subscript a (.Slice lo none (some st) p2) pos) (eSl vSt Fa G1 G2) := by
  refine pe_imp (pe_step (SlS.or sl_stepT sl_stepL) ha hl hh) fun σ H Q h => ?_
  refine tG.bind h fun Z ρ st1 x u I1 M1 H1 ft hx ps => ?_
  refine Post.next ft ps fun st2 y l I2 M2 H2 g2 ft2 hy ps2 => ?_
  refine Post.next ft2 ps2 fun st3 z m I3 M3 H3 g3 ft3 hz ps3 => ?_
  have hy : y = l := hy
  have hz : z = m := hz
  subst hy hz
  have hx3 := VR.grow (g2.trans g3) hx
  obtain ⟨w, e, q⟩ := Post.liftE ps3 ft3.rs
  unfold vSt at e
  split at e
  · rename_i xs k
    split at e
    · rename_i hk
      cases e
      obtain ⟨p, vs, rfl, h1, r⟩ := VR.tup ft3.ok hx3
      refine ⟨_, rfl, .inl ⟨p, vs, rfl, h1, hk, fun hw => ?_, fun l hl => new_tup ft3.ok (r.stp y k) hl q⟩⟩
      have hx4 : Rp X.K I3 (.ref p) (.tuple xs) := hx3
      have e2 : stpL xs y k = xs := stp_id (by rw [← r.len]; exact hw)
      rw [e2] at q
      exact q _ I3 H3 (Grow.refl _ _ _) ft3.ok hx4
    · cases e
  · rename_i xs k
    split at e
    · rename_i hk
      cases e
      obtain ⟨p, vs, rfl, h1, r⟩ := VR.lst ft3.ok hx3 rfl
      exact ⟨_, rfl, .inr ⟨p, vs, rfl, SqL.of h1, rfl, hk, fun l hl => new_lst ft3.ok r.back hl q⟩⟩
    · cases e
  · rename_i xs k
    split at e
    · rename_i hk
      cases e
      obtain ⟨p, vs, rfl, h1, r⟩ := VR.lst ft3.ok hx3 rfl
      exact ⟨_, rfl, .inr ⟨p, vs, rfl, SqL.of h1, rfl, hk, fun l hl => new_lst ft3.ok r.back hl q⟩⟩
    · cases e
  · cases e
end
end Dl
set_option maxRecDepth 100000
set_option maxHeartbeats 4000000
namespace Dl
open PySem L2 PySem.Spec PyProof.Rows
/-! ### a comprehension within a comprehension -/
def FrAll (sc : Scope) : List Str → Prop
  | [] => True
  | f :: fs => (sc.names.lookup f = some .cell ∨ sc.names.lookup f = some .free) ∧ FrAll sc fs
def frSc (fs : List Str) : Scope := { kind := .function, names := fs.map fun f => (f, NameKind.free), isGenerator := false, isCoroutine := false }
theorem fr_mem {sc : Scope} : ∀ {fs : List Str} {y : Str} {k : NameKind}, FrAll sc fs → (fs.map fun f => (f, NameKind.free)).lookup y = some k → sc.names.lookup y = some .cell ∨ sc.names.lookup y = some .free
  | [], _, _, _, h => by cases h
  | f :: fs, y, k, a, h => by
    rw [List.map_cons, List.lookup_cons] at h
    by_cases e : (y == f) = true
    · have e' : y = f := eq_of_beq e
      rw [e']; exact a.1
    · have e2 : (y == f) = false := by cases z : (y == f) <;> simp_all
      rw [e2] at h
      exact fr_mem a.2 h
theorem blkOk_fr {N : List Str} {sc scope : Scope} {own : List (Str × Nat)} (fs : List Str) (a : FrAll sc fs) (h : blkC N (frSc fs) scope own = true) : BlkOk N sc scope own := by
  have b := blkOk_by h
  refine ⟨b.kind, b.uniq, b.ix, fun y hy e => ?_, b.own⟩
  rcases b.free y hy e with z | z
  · exact fr_mem a z
  · exact fr_mem a z
end Dl
namespace Dl
open PySem L2 PySem.Spec PyProof.Rows
/-! ### a slice as a new list -/
section
variable {S : Type}
def nSl (a : Rho → S → Res S Val) (lo hi : Rho → S → Res S (Option Int)) : Rho → S → Res S (List PyData) := fun ρ st => (a ρ st).bind fun x st1 => (lo ρ st1).bind fun l st2 => (hi ρ st2).bind fun h st3 => match lstOf x with
  | some ds => .ok (cutD ds l h) st3
  | none => .stuck
theorem x_nSl {a : Rho → S → Res S Val} {lo hi : Rho → S → Res S (Option Int)} {ρ : Rho} {st : S} : nSl a lo hi ρ st = @bnd _ _ _ (a ρ st) fun x st1 => @bnd _ _ _ (lo ρ st1) fun l st2 => @bnd _ _ _ (hi ρ st2) fun h st3 => match lstOf x with
  | some ds => .ok (cutD ds l h) st3
  | none => .stuck := rfl
end
section
variable {U : Uni} {X : Cx} {W : WX} {a : Expr} {Fa : Rho → U.S → Res U.S Val} {G1 G2 : Rho → U.S → Res U.S (Option Int)} {lo hi : Option Expr} {pos p2 : Pos}
theorem pnd_sl (ha : PEd U X W a Fa) (hl : POd U X W lo G1) (hh : POd U X W hi G2) : PNd U X W (.Subscript a (.Slice lo hi none p2) pos) (nSl Fa G1 G2) := by
  refine pe_imp (pe_slice sl_list ha hl hh) fun σ H Q h => ?_
  refine tN.bind h fun Z ρ st1 x v I1 M1 H1 ft hx ps => ?_
  refine PostN.next ft ps fun st2 y l I2 M2 H2 g2 ft2 hy ps2 => ?_
  refine PostN.next ft2 ps2 fun st3 z m I3 M3 H3 g3 ft3 hz ps3 => ?_
  have hy : y = l := hy
  have hz : z = m := hz
  subst hy hz
  have hx3 := VR.grow (g2.trans g3) hx
  cases e : lstOf v with
  | none => simp only [e] at ps3; exact False.elim ps3
  | some ds =>
    simp only [e] at ps3
    obtain ⟨p, xs, rfl, h1, r1⟩ := VR.lst ft3.ok hx3 e
    exact ⟨p, xs, rfl, SqL.of h1, fun q hq => PostN.fin ps3 ft3.ok ft3.rs (r1.cut y z) hq⟩
end
end Dl
set_option maxRecDepth 100000
set_option maxHeartbeats 4000000
namespace Dl
open PySem L2 PySem.Spec PyProof.Rows
/-! ### dicts of a slot's own -/
def eqK (t : Bool) (a b : List Int) : Bool := if t then decide (a = b) else decide (a.headD 0 = b.headD 0)
def putKs (t : Bool) (ks : List (List Int)) (k : List Int) : List (List Int) := if ks.any (fun a => eqK t a k) then ks else ks ++ [k]
def putDs {α : Type} (t : Bool) (ks : List (List Int)) (xs : List α) (k : List Int) (x : α) : List α := if ks.any (fun a => eqK t a k) then List.zipWith (fun a y => if eqK t a k then x else y) ks xs else xs ++ [x]
def getDs {α : Type} (t : Bool) (ks : List (List Int)) (xs : List α) (k : List Int) : Option α := ((ks.zip xs).find? fun p => eqK t p.1 k).map (·.2)
theorem any_zip {κ : Type} {f : List Int → κ} {p : κ → Bool} : ∀ {ks : List (List Int)} {vs : List V}, ks.length = vs.length → (((ks.map f).zip vs).any fun kv => p kv.1) = ks.any fun a => p (f a)
  | [], [], _ => rfl
  | [], _ :: _, h => by simp at h
  | _ :: _, [], h => by simp at h
  | k :: ks, v :: vs, h => by
    simp only [List.map_cons, List.zip_cons_cons, List.any_cons]
    rw [any_zip (by simpa using h)]
theorem map_zip {κ : Type} [DecidableEq κ] {f : List Int → κ} {k : κ} {v : V} : ∀ {ks : List (List Int)} {vs : List V}, ks.length = vs.length → (((ks.map f).zip vs).map fun kv => if kv.1 = k then (kv.1, v) else kv) = (ks.map f).zip (List.zipWith (fun a y => if decide (f a = k) then v else y) ks vs)
  | [], [], _ => rfl
  | [], _ :: _, h => by simp at h
  | _ :: _, [], h => by simp at h
  | a :: ks, w :: vs, h => by
    simp only [List.map_cons, List.zip_cons_cons, List.zipWith_cons_cons]
    rw [map_zip (by simpa using h)]
    by_cases e : f a = k <;> simp [e]
theorem putK_zip {κ : Type} [DecidableEq κ] {f : List Int → κ} {t : Bool} {k : List Int} {v : V} {ks : List (List Int)} {vs : List V} (h : ks.length = vs.length) (e : ∀ a, decide (f a = f k) = eqK t a k) : putK ((ks.map f).zip vs) (f k) v = ((putKs t ks k).map f).zip (putDs t ks vs k v) := by
  unfold putK putKs putDs
  have e1 : (((ks.map f).zip vs).any fun kv => decide (kv.1 = f k)) = ks.any fun a => eqK t a k := by
    rw [any_zip (p := fun x => decide (x = f k)) h]
    congr 1
    funext a
    exact e a
  rw [e1]
  by_cases q : (ks.any fun a => eqK t a k) = true
  · rw [if_pos q, if_pos q, if_pos q, map_zip h]
    congr 1
    have : (fun a (y : V) => if decide (f a = f k) = true then v else y) = fun a y => if eqK t a k = true then v else y := by
      funext a y
      rw [e a]
    rw [this]
  · rw [if_neg q, if_neg q, if_neg q, List.map_append, List.zip_append (by simpa using h)]
    rfl
theorem find_zip {κ : Type} [DecidableEq κ] {f : List Int → κ} {t : Bool} {k : List Int} (e : ∀ a, decide (f a = f k) = eqK t a k) : ∀ {ks : List (List Int)} {vs : List V}, valV ((ks.map f).zip vs) (f k) = getDs t ks vs k
  | [], _ => rfl
  | _ :: _, [] => rfl
  | a :: ks, w :: vs => by
    unfold valV getDs
    simp only [List.map_cons, List.zip_cons_cons, List.find?_cons, e a]
    cases eqK t a k with
    | true => rfl
    | false => exact find_zip e
theorem put_len {α : Type} {t : Bool} {ks : List (List Int)} {xs : List α} {k : List Int} {x : α} (h : ks.length = xs.length) : (putKs t ks k).length = (putDs t ks xs k x).length := by
  unfold putKs putDs
  by_cases q : (ks.any fun a => eqK t a k) = true
  · rw [if_pos q, if_pos q, List.length_zipWith]; omega
  · rw [if_neg q, if_neg q]; simp [h]
theorem keyT (a k : List Int) : decide ((a.map Sum.inl : List Key) = k.map Sum.inl) = eqK true a k := by
  have : ((a.map Sum.inl : List Key) = k.map Sum.inl) ↔ a = k := by
    constructor
    · intro h
      induction a generalizing k with
      | nil => cases k with
        | nil => rfl
        | cons x k => simp at h
      | cons x a ih => cases k with
        | nil => simp at h
        | cons y k =>
          simp only [List.map_cons, List.cons.injEq, Sum.inl.injEq] at h
          rw [h.1, ih k h.2]
    · intro h; rw [h]
  unfold eqK
  simp [this]
theorem keyI (a k : List Int) : decide ((Sum.inl (a.headD 0) : Key) = Sum.inl (k.headD 0)) = eqK false a k := by
  unfold eqK
  simp
section
variable {U : Uni} {K : PySem.W.Frag}
theorem RpAll.zipW {I : Hp} {t : Bool} {k : List Int} {v : V} {d : PyData} (hv : Rp K I v d) : ∀ (ks : List (List Int)) {vs : List V} {ds : List PyData}, RpAll K I vs ds → RpAll K I (List.zipWith (fun a y => if eqK t a k then v else y) ks vs) (List.zipWith (fun a y => if eqK t a k then d else y) ks ds)
  | [], _, _, _ => .nil
  | _ :: _, _, _, .nil => .nil
  | a :: ks, _, _, .cons h r => by
    rw [List.zipWith_cons_cons, List.zipWith_cons_cons]
    refine .cons ?_ (RpAll.zipW hv ks r)
    cases eqK t a k
    · exact h
    · exact hv
theorem RpAll.put {I : Hp} {t : Bool} {ks : List (List Int)} {k : List Int} {v : V} {d : PyData} {vs : List V} {ds : List PyData} (r : RpAll K I vs ds) (hv : Rp K I v d) : RpAll K I (putDs t ks vs k v) (putDs t ks ds k d) := by
  unfold putDs
  by_cases q : (ks.any fun a => eqK t a k) = true
  · rw [if_pos q, if_pos q]; exact RpAll.zipW hv ks r
  · rw [if_neg q, if_neg q]; exact r.append (.cons hv .nil)
theorem RpAll.getD {I : Hp} {t : Bool} {k : List Int} {d : PyData} : ∀ {ks : List (List Int)} {vs : List V} {ds : List PyData}, RpAll K I vs ds → getDs t ks ds k = some d → ∃ v, getDs t ks vs k = some v ∧ Rp K I v d
  | [], _, _, _, e => by cases e
  | _ :: _, _, _, .nil, e => by cases e
  | a :: ks, _, _, .cons h r, e => by
    unfold getDs at e ⊢
    simp only [List.zip_cons_cons, List.find?_cons] at e ⊢
    cases z : eqK t a k with
    | true => rw [z] at e; cases e; exact ⟨_, rfl, h⟩
    | false => rw [z] at e; exact RpAll.getD r e
theorem Fit.ownd {Z : Base} {σ : L2.St} {ρ : Rho} {st : U.S} {I : Hp} {M : Mw} {H : Hp} (f : Fit U K Z σ ρ st I M H) {i : Nat} {t : Bool} {ks : List (List Int)} {ds : List PyData} (e : ρ[i]? = some (some (.ownd t ks ds))) : ∃ p vs, σ[i]? = some (some (.ref p)) ∧ H p = some (dHO t ks vs) ∧ I p = none ∧ M.h p = none ∧ ks.length = vs.length ∧ RpAll K I vs ds := by
  obtain ⟨x, h, p, vs, rfl, a, b, c, l, r⟩ := f.env i _ e
  exact ⟨p, vs, h, a, b, c, l, r⟩
theorem Fit.setNewD {Z : Base} {σ : L2.St} {ρ : Rho} {st : U.S} {I : Hp} {M : Mw} {H : Hp} (f : Fit U K Z σ ρ st I M H) (i : Nat) {t : Bool} {p : Addr} {ks : List (List Int)} {vs : List V} {ds : List PyData} (hz : Z.H p = none) (hq : ∀ (j : Nat) t' ks' es q, ρ[j]? = some (some (.ownd t' ks' es)) → σ[j]? = some (some (.ref q)) → q ≠ p)
    (hp : H p = some (dHO t ks vs)) (hi : I p = none) (hm : M.h p = none) (hl : ks.length = vs.length) (r : RpAll K I vs ds) : Fit U K Z (σ.set i (some (.ref p))) (ρ.set i (some (.ownd t ks ds))) st I M H := by
  refine ⟨f.g, f.ok, f.rs, by rw [List.length_set, List.length_set]; exact f.len, fun j w e => ?_, fun j es q e1 e2 => ?_, fun j l es fs q e1 e2 e3 e4 => ?_, fun j t' ks' es q e1 e2 => ?_, fun j l t1 k1 es t2 k2 fs q e1 e2 e3 e4 => ?_⟩
  · rcases set_key (x := some (V.ref p)) f.len e with ⟨_, h1, h2⟩ | ⟨_, h1, h2⟩
    · cases h1
      exact ⟨_, h2, p, vs, rfl, hp, hi, hm, hl, r⟩
    · rw [h2]; exact f.env j w h1
  · rcases set_key (x := some (V.ref p)) f.len e1 with ⟨_, h1, h2⟩ | ⟨_, h1, h2⟩
    · cases h1
    · rw [h2] at e2; exact f.new j es q h1 e2
  · rcases set_key (x := some (V.ref p)) f.len e1 with ⟨_, h1, h2⟩ | ⟨_, h1, h2⟩
    · cases h1
    · rcases set_key (x := some (V.ref p)) f.len e2 with ⟨_, h3, h4⟩ | ⟨_, h3, h4⟩
      · cases h3
      · rw [h2] at e3
        rw [h4] at e4
        exact f.sep j l es fs q h1 h3 e3 e4
  · rcases set_key (x := some (V.ref p)) f.len e1 with ⟨_, h1, h2⟩ | ⟨_, h1, h2⟩
    · rw [h2] at e2
      cases e2
      exact hz
    · rw [h2] at e2; exact f.newd j t' ks' es q h1 e2
  · rcases set_key (x := some (V.ref p)) f.len e1 with ⟨a1, h1, h2⟩ | ⟨_, h1, h2⟩
    · rcases set_key (x := some (V.ref p)) f.len e2 with ⟨a2, h3, h4⟩ | ⟨_, h3, h4⟩
      · rw [a1, a2]
      · rw [h2] at e3
        rw [h4] at e4
        cases e3
        exact absurd rfl (hq l t2 k2 fs p h3 e4)
    · rcases set_key (x := some (V.ref p)) f.len e2 with ⟨a2, h3, h4⟩ | ⟨_, h3, h4⟩
      · rw [h4] at e4
        rw [h2] at e3
        cases e4
        exact absurd rfl (hq j t1 k1 es p h1 e3)
      · rw [h2] at e3
        rw [h4] at e4
        exact f.sepd j l t1 k1 es t2 k2 fs q h1 h3 e3 e4
/-- an owned dict changes -/
theorem Fit.updD {Z : Base} {σ : L2.St} {ρ : Rho} {st : U.S} {I : Hp} {M : Mw} {H : Hp} (f : Fit U K Z σ ρ st I M H) {i : Nat} {p : Addr} {t : Bool} {ks ks' : List (List Int)} {vs vs' : List V} {ds ds' : List PyData} (e : ρ[i]? = some (some (.ownd t ks ds))) (e' : σ[i]? = some (some (.ref p))) (hp : H p = some (dHO t ks vs)) (hi : I p = none) (hm : M.h p = none) (hl : ks'.length = vs'.length) (r : RpAll K I vs' ds') :
    Fit U K Z σ (ρ.set i (some (.ownd t ks' ds'))) st I M (upd H p (dHO t ks' vs')) := by
  have hz := f.newd i t ks ds p e e'
  have hset : σ.set i (some (.ref p)) = σ := by
    obtain ⟨hlt, hx⟩ := List.getElem?_eq_some_iff.mp e'
    rw [← hx]
    exact List.set_getElem_self hlt
  have hg : Grow Z.I Z.M Z.H I M (upd H p (dHO t ks' vs')) := ⟨f.g.i, f.g.ni, f.g.nm, fun a o h m => by rw [upd_ne (ne_of_none h hz)]; exact f.g.kp a o h m, fun a h => by
    rw [upd_ne (fun z => h (by rw [z]; exact hz))]
    exact f.g.th a h, f.g.ad⟩
  have hk : Ok I M (upd H p (dHO t ks' vs')) := ⟨fun a o h => by rw [upd_ne (ne_of_none h hi)]; exact f.ok.ih a o h, fun a o h => by rw [upd_ne (ne_of_none h hm)]; exact f.ok.mh a o h, f.ok.dj⟩
  have f1 : Fit U K Z σ (ρ.set i none) st I M (upd H p (dHO t ks' vs')) := by
    have f0 := f.setNone i (some (.ref p))
    rw [hset] at f0
    have ne : ∀ (j : Nat) t1 k1 es, (ρ.set i none)[j]? = some (some (.ownd t1 k1 es)) → j ≠ i ∧ ρ[j]? = some (some (.ownd t1 k1 es)) := fun j t1 k1 es h => by
      rcases set_key (x := some (V.ref p)) f.len h with ⟨_, h1, _⟩ | ⟨hj, h1, _⟩
      · cases h1
      · exact ⟨hj, h1⟩
    refine ⟨hg, hk, f.rs, f0.len, fun j w h => ?_, f0.new, f0.sep, f0.newd, f0.sepd⟩
    obtain ⟨x, h3, h4⟩ := f0.env j w h
    refine ⟨x, h3, ?_⟩
    match w, h, h4 with
    | .d _, _, h4 => exact h4
    | .ref _, _, h4 => exact h4
    | .exc _ _, _, h4 => exact h4
    | .own es, h, ⟨q, us, z, a, b, c, r⟩ =>
      have hne : q ≠ p := fun z => by
        subst z
        rw [hp] at a
        exact dHO_lst a
      exact ⟨q, us, z, by rw [upd_ne hne]; exact a, b, c, r⟩
    | .ownd t1 k1 es, h, ⟨q, us, z, a, b, c, l, r⟩ =>
      obtain ⟨hj, h5⟩ := ne j t1 k1 es h
      have hne : q ≠ p := fun y => by
        subst y
        rw [z] at h3
        exact hj (f.sepd j i t1 k1 es t ks ds q h5 e h3 e')
      exact ⟨q, us, z, by rw [upd_ne hne]; exact a, b, c, l, r⟩
  have f2 := f1.setNewD i (p := p) (t := t) (ks := ks') (vs := vs') (ds := ds') hz (fun j t1 k1 es q h1 h2 => by
    rcases set_key (x := some (V.ref p)) f.len h1 with ⟨_, h3, _⟩ | ⟨hj, h3, _⟩
    · cases h3
    · intro y
      subst y
      exact hj (f.sepd j i t1 k1 es t ks ds q h3 e h2 e')) upd_same hi hm hl r
  rw [hset, List.set_set] at f2
  exact f2
end
end Dl
set_option maxRecDepth 100000
set_option maxHeartbeats 4000000
namespace Dl
open PySem L2 PySem.Spec PyProof.Rows
section
variable {S : Type}
def sNewD (i : Nat) (t : Bool) : Rho → S → SRes S := fun ρ st => .next (ρ.set i (some (.ownd t [] []))) st
def sPutI (i : Nat) (Fv Fk : Rho → S → Res S Val) : Rho → S → SRes S := fun ρ st => match ρ[i]? with
  | some (some (.ownd false ks ds)) => sBind (Fv ρ st) ρ fun v st1 => sBind (Fk ρ st1) ρ fun k st2 => (match v, k with
    | .d d, .d (.int z) => if ds.length < 1000000 then .next (ρ.set i (some (.ownd false (putKs false ks [z]) (putDs false ks ds [z] d)))) st2 else .stuck
    | _, _ => .stuck)
  | _ => .stuck
def intsOf : List PyData → Option (List Int)
  | [] => some []
  | .int z :: r => (intsOf r).map (z :: ·)
  | _ :: _ => none
def sPutT (i : Nat) (Fv : Rho → S → Res S Val) (A : Rho → S → Res S (List Val)) : Rho → S → SRes S := fun ρ st => match ρ[i]? with
  | some (some (.ownd true ks ds)) => sBind (Fv ρ st) ρ fun v st1 => sBind (A ρ st1) ρ fun k st2 => (match v, (datas k).bind intsOf with
    | .d d, some zs => if ds.length < 1000000 ∧ zs.length ≤ 1000 then .next (ρ.set i (some (.ownd true (putKs true ks zs) (putDs true ks ds zs d)))) st2 else .stuck
    | _, _ => .stuck)
  | _ => .stuck
def eGetO (i : Nat) (Fk : Rho → S → Res S Val) : Rho → S → Res S Val := fun ρ st => match ρ[i]? with
  | some (some (.ownd false ks ds)) => (Fk ρ st).bind fun k st1 => (match k with
    | .d (.int z) => lift (getDs false ks ds [z]) st1
    | _ => .stuck)
  | _ => .stuck
def eLenO (i : Nat) : Rho → S → Res S Val := fun ρ st => match ρ[i]? with
  | some (some (.ownd true ks _)) => .ok (.d (.int (ks.length : Nat))) st
  | _ => .stuck
end
section
variable {U : Uni} {X : Cx} {W : WX} {e f : Expr} {F G : Rho → U.S → Res U.S Val} {A : Rho → U.S → Res U.S (List Val)} {pos pos' pp : Pos}
theorem newD_fit {t : Bool} {i : Nat} {D : Ends} {σ : L2.St} {H : Hp} (h : tS U X.K W (sNewD i t) D σ H) : ∀ p, H p = none → D.nx (σ.set i (some (.ref p))) (upd H p (dHO t [] [])) := by
  obtain ⟨Z, ρ, st, I, M, ft, ps⟩ := h
  intro p hp
  obtain ⟨g0, k0⟩ := Grow.allocO (o := dHO t [] []) ft.ok hp
  refine ps _ I M _ (Same.refl I) ((ft.grow g0 k0 ft.rs).setNewD i (t := t) (ks := []) (vs := []) (ds := []) ?_ (fun j t' ks' es q e1 e2 => ?_) upd_same (ft.ok.ih.free hp) (ft.ok.mh.free hp) rfl .nil)
  · cases w : Z.H p with
    | none => rfl
    | some o => exact absurd hp (ft.g.th p (ne_none_of w))
  · obtain ⟨q', us, e3, h1, _⟩ := ft.ownd e1
    rw [e3] at e2
    cases e2
    exact ne_of_none h1 hp
theorem psd_newDK {i : Nat} {x : Str} (hN : X.N.Nodup) (hi : X.N[i]? = some x) (hx : Loc X.env.scope x) (hs : swapsWith (.Dict [] [] pp) (some (.Name x pos')) pos.line X.env = pure false := by rfl)
    (hf : X.fn x = true ∨ X.env.scope.names.lookup x = some .local := by first | exact .inl rfl | exact .inr rfl | assumption) : PSd U X W (.Assign [.Name x pos'] (.Dict [] [] pp) pos) (sNewD i false) :=
  ps_imp (ps_set hN hi hx pe_dnewK hs hf) fun D σ H h => newD_fit (t := false) h
theorem psd_newDT {i : Nat} {x : Str} (hN : X.N.Nodup) (hi : X.N[i]? = some x) (hx : Loc X.env.scope x) (hs : swapsWith (.Dict [] [] pp) (some (.Name x pos')) pos.line X.env = pure false := by rfl)
    (hf : X.fn x = true ∨ X.env.scope.names.lookup x = some .local := by first | exact .inl rfl | exact .inr rfl | assumption) : PSd U X W (.Assign [.Name x pos'] (.Dict [] [] pp) pos) (sNewD i true) :=
  ps_imp (ps_set hN hi hx pe_dnewT hs hf) fun D σ H h => newD_fit (t := true) h
theorem psd_putI {i : Nat} {x : Str} {p : Pos} (hu : X.A.units + 1 < cLine) (hv : PEd U X W f F) (hk : PEd U X W e G) (hN : X.N[i]? = some x := by rfl) (hvi : Vis X.env.scope x := by first | exact Or.inl rfl | exact Or.inr (Or.inl rfl) | exact Or.inr (Or.inr rfl)) (hd : (x == ("__debug__" : Str)) = false := by decide) (hcd : (x == ("__classdict__" : Str)) = false := by decide)
    (hs : swapsWith f (some (.Subscript (.Name x p) e pos')) pos.line X.env = pure false := by rfl) : PSd U X W (.Assign [.Subscript (.Name x p) e pos'] f pos) (sPutI i F G) := by
  refine ps_imp (ps_dput hu (pe_var hN hvi hd hcd) hk hv hs) fun D σ H h => ?_
  obtain ⟨Z, ρ, st, I, M, ft, ps⟩ := h
  unfold sPutI at ps
  split at ps
  · rename_i ks ds e
    refine SPost.next (rel := VR X.K) ft ps fun st1 y v I1 M1 H1 g1 ft1 hy ps1 => ?_
    obtain ⟨q, vs, e', hp, hi, hm, hl, r⟩ := ft1.ownd e
    refine ⟨_, e', ?_⟩
    refine SPost.next (rel := VR X.K) ft1 ps1 fun st2 y2 k I2 M2 H2 g2 ft2 hy2 ps2 => ?_
    obtain ⟨q', vs', e2', hp', hi', hm', hl', r'⟩ := ft2.ownd e
    rw [e'] at e2'
    cases e2'
    have hy3 := VR.grow g2 hy
    match v, k, hy3, hy2, ps2 with
    | .d d, .d (.int z), hy3, hy2, ps2 =>
      simp only at ps2
      by_cases hc : ds.length < 1000000
      · rw [if_pos hc] at ps2
        cases Rp.int_inv hy2
        have hlen : ((ks.map fun k => (Sum.inl (k.headD 0) : Key)).zip vs').length < sizeLine := by
          rw [List.length_zip, List.length_map, hl', Nat.min_self, r'.len]
          exact szl hc
        have hput := putK_zip (f := fun k => (Sum.inl (k.headD 0) : Key)) (t := false) (k := [z]) (v := y) hl' (fun a => keyI a [z])
        refine ⟨q, _, rfl, DPut.k (k := Sum.inl z) hp' hlen, ?_⟩
        have := ps2 σ I2 M2 _ (Same.refl _) (ft2.updD e e' hp' hi' hm' (put_len hl') (r'.put (k := [z]) hy3))
        have e9 : dHO false (putKs false ks [z]) (putDs false ks vs' [z] y) = .dK (putK ((ks.map fun k => (Sum.inl (k.headD 0) : Key)).zip vs') (Sum.inl z) y) := by
          show HO.dK _ = _
          exact congrArg HO.dK hput.symm
        rw [e9] at this
        exact this
      · rw [if_neg hc] at ps2
        exact False.elim ps2
  · exact False.elim ps
theorem ints_vals {I : Hp} {K : PySem.W.Frag} : ∀ {xs : List V} {ds : List PyData} {zs : List Int}, RpAll K I xs ds → intsOf ds = some zs → xs = zs.map V.int
  | _, _, _, .nil, e => by cases e; rfl
  | _, _, _, .cons (d := d) h r, e => by
    cases d with
    | int z =>
      obtain ⟨ys, e1, rfl⟩ := map_some (show (intsOf _).map (z :: ·) = some _ from e)
      rw [List.map_cons, ← ints_vals r e1, Rp.int_inv h]
    | none => cases e
    | bool b => cases e
    | str b => cases e
    | list b => cases e
    | tuple b => cases e
    | dict b => cases e
theorem psd_putT {i : Nat} {x : Str} {es : List Expr} {x1} {p pt : Pos} (hu : X.A.units + 1 < cLine) (hv : PEd U X W f F) (hk : PAd U X W es A) (hN : X.N[i]? = some x := by rfl) (hvi : Vis X.env.scope x := by first | exact Or.inl rfl | exact Or.inr (Or.inl rfl) | exact Or.inr (Or.inr rfl)) (hd : (x == ("__debug__" : Str)) = false := by decide) (hcd : (x == ("__classdict__" : Str)) = false := by decide)
    (hs : swapsWith f (some (.Subscript (.Name x p) (.Tuple es x1 pt) pos')) pos.line X.env = pure false := by rfl) : PSd U X W (.Assign [.Subscript (.Name x p) (.Tuple es x1 pt) pos'] f pos) (sPutT i F A) := by
  refine ps_imp (ps_dput hu (pe_var hN hvi hd hcd) (pe_tup hk) hv hs) fun D σ H h => ?_
  obtain ⟨Z, ρ, st, I, M, ft, ps⟩ := h
  unfold sPutT at ps
  split at ps
  · rename_i ks ds e
    refine SPost.next (rel := VR X.K) ft ps fun st1 y v I1 M1 H1 g1 ft1 hy ps1 => ?_
    obtain ⟨q, vs, e', hp, hi, hm, hl, r⟩ := ft1.ownd e
    refine ⟨_, e', ?_⟩
    refine SPost.next (rel := VRs X.K) ft1 ps1 fun st2 ys k I2 M2 H2 g2 ft2 hy2 ps2 => ?_
    have hy3 := VR.grow g2 hy
    cases zd : (datas k).bind intsOf with
    | none =>
      rw [zd] at ps2
      cases v <;> exact False.elim ps2
    | some zs =>
      rw [zd] at ps2
      obtain ⟨dk, e1, e2⟩ := bind_some zd
      have hys := ints_vals (VRs.datas hy2 e1) e2
      match v, hy3, ps2 with
      | .d d, hy3, ps2 =>
        simp only at ps2
        by_cases hc : ds.length < 1000000 ∧ zs.length ≤ 1000
        · rw [if_pos hc] at ps2
          refine ⟨by rw [hys, List.length_map]; exact sz (by omega), fun p hpn => ?_⟩
          obtain ⟨g0, k0⟩ := Grow.alloc (o := .tup ys) ft2.ok hpn
          have ft3 := ft2.grow g0 k0 ft2.rs
          obtain ⟨q', vs', e2', hp', hi', hm', hl', r'⟩ := ft3.ownd e
          rw [e'] at e2'
          cases e2'
          have hkt : (upd H2 p (.tup ys)) p = some (.tup ((zs.map Sum.inl : List Key).map kV)) := by
            rw [upd_same, hys, List.map_map]; rfl
          have hlen : ((ks.map fun k => (k.map Sum.inl : List Key)).zip vs').length < sizeLine := by
            rw [List.length_zip, List.length_map, hl', Nat.min_self, r'.len]
            exact szl hc.1
          have hput := putK_zip (f := fun k => (k.map Sum.inl : List Key)) (t := true) (k := zs) (v := y) hl' (fun a => keyT a zs)
          refine ⟨q, _, rfl, DPut.t (k := zs.map Sum.inl) hp' hkt hlen, ?_⟩
          have := ps2 σ _ M2 _ g0.i (ft3.updD e e' hp' hi' hm' (put_len hl') (r'.put (k := zs) (Rp.mono g0.i hy3)))
          have e9 : dHO true (putKs true ks zs) (putDs true ks vs' zs y) = .dT (putK ((ks.map fun k => (k.map Sum.inl : List Key)).zip vs') (zs.map Sum.inl) y) := by
            show HO.dT _ = _
            exact congrArg HO.dT hput.symm
          rw [e9] at this
          exact this
        · rw [if_neg hc] at ps2
          exact False.elim ps2
  · exact False.elim ps
theorem ped_getO {i : Nat} {x : Str} {p : Pos} (hu : X.A.units + 1 < cLine) (hk : PEd U X W e G) (hsl : PlainIx e) (hN : X.N[i]? = some x := by rfl) (hvi : Vis X.env.scope x := by first | exact Or.inl rfl | exact Or.inr (Or.inl rfl) | exact Or.inr (Or.inr rfl)) (hd : (x == ("__debug__" : Str)) = false := by decide) (hcd : (x == ("__classdict__" : Str)) = false := by decide) :
    PEd U X W (.Subscript (.Name x p) e pos) (eGetO i G) := by
  refine pe_imp (pe_dget hu (pe_var hN hvi hd hcd) hk hsl) fun σ H Q ⟨Z, ρ, st, I, M, ft, ps⟩ => ?_
  unfold eGetO at ps
  split at ps
  · rename_i ks ds e
    obtain ⟨q, vs, e', hp, hi, hm, hl, r⟩ := ft.ownd e
    refine ⟨_, e', ?_⟩
    refine Post.next ft ps fun st1 y k I1 M1 H1 g1 ft1 hy ps1 => ?_
    obtain ⟨q', vs', e2', hp', hi', hm', hl', r'⟩ := ft1.ownd e
    rw [e'] at e2'
    cases e2'
    match k, hy, ps1 with
    | .d (.int z), hy, ps1 =>
      cases Rp.int_inv hy
      obtain ⟨d, ed, q2⟩ := Post.liftE ps1 ft1.rs
      obtain ⟨v, hv, rv⟩ := r'.getD ed
      refine ⟨q, v, rfl, ?_, q2 v I1 H1 (Grow.refl _ _ _) ft1.ok rv⟩
      have := DGet.k (k := Sum.inl z) hp'
      have hf := find_zip (f := fun k => (Sum.inl (k.headD 0) : Key)) (t := false) (k := [z]) (fun a => keyI a [z]) (ks := ks) (vs := vs')
      rw [← hv, ← hf]
      exact this
  · exact False.elim ps
end
end Dl
namespace Dl
open PySem L2 PySem.Spec PyProof.Rows
section
variable {U : Uni} {X : Cx} {W : WX} {pos p q : Pos}
theorem ped_lenO {i : Nat} {x : Str} (hg : Gl X "len") (hm : X.mg "len" = none) (hN : X.N[i]? = some x := by rfl) (hvi : Vis X.env.scope x := by first | exact Or.inl rfl | exact Or.inr (Or.inl rfl) | exact Or.inr (Or.inr rfl)) (hd : (x == ("__debug__" : Str)) = false := by decide) (hcd : (x == ("__classdict__" : Str)) = false := by decide)
    (hs : starEach [.Name x q] X.env = (false, eval (.Name x q) X.env) :: starEach [] X.env := by rfl) : PEd U X W (.Call (.Name "len" p) [.Name x q] [] pos) (eLenO i) := by
  refine pe_imp (pe_callB call_len_dT hg hm (by decide +kernel) (pa_cons (pe_var hN hvi hd hcd) pa_nil hs) (by decide) (by decide) hs) fun σ H Q ⟨Z, ρ, st, I, M, ft, ps⟩ => ?_
  unfold eLenO at ps
  split at ps
  · rename_i ks ds e
    obtain ⟨a, vs, e', hp, hi, hm, hl, r⟩ := ft.ownd e
    refine ⟨_, e', a, _, rfl, hp, ?_⟩
    have := Post.okE ps ft.ok ft.rs (.int _)
    rw [List.length_zip, List.length_map, hl, Nat.min_self, ← hl]
    exact this
  · exact False.elim ps
end
end Dl
namespace Dl
open PySem L2
/-! ### reading these mirrors -/
section
variable {S : Type} {E : En S} {ρ : Rho} {st : S} {i : Nat} {Fv Fk : Rho → S → Res S Val} {A : Rho → S → Res S (List Val)}
theorem w_newD {t : Bool} : @Ws _ (sNewD i t ρ st) E = E.n (ρ.set i (some (.ownd t [] []))) st := rfl
theorem w_putT : @Ws _ (sPutT i Fv A ρ st) E = match ρ[i]? with
  | some (some (.ownd true ks ds)) => @Wp _ _ (Fv ρ st) (fun c fs s => E.x c fs ρ s) fun v st1 => @Wp _ _ (A ρ st1) (fun c fs s => E.x c fs ρ s) fun k st2 => (match v, (datas k).bind intsOf with
    | .d d, some zs => (ds.length < 1000000 ∧ zs.length ≤ 1000) ∧ E.n (ρ.set i (some (.ownd true (putKs true ks zs) (putDs true ks ds zs d)))) st2
    | _, _ => False)
  | _ => False := by
  unfold sPutT
  split
  · rename_i ks ds e
    rw [show (@Ws _ (sBind (Fv ρ st) ρ _) E) = _ from propext ws_bind]
    congr 1
    funext v st1
    rw [show (@Ws _ (sBind (A ρ st1) ρ _) E) = _ from propext ws_bind]
    congr 1
    funext k st2
    split
    · rename_i d zs e2
      by_cases h : ds.length < 1000000 ∧ zs.length ≤ 1000
      · rw [if_pos h]; simp [Ws, h]
      · rw [if_neg h]; simp only [Ws]
        exact propext ⟨False.elim, fun z => h z.1⟩
    · rfl
  · rfl
theorem x_lenO : eLenO i ρ st = match ρ[i]? with
  | some (some (.ownd true ks _)) => .ok (.d (.int (ks.length : Nat))) st
  | _ => .stuck := rfl
theorem x_getO : eGetO i Fk ρ st = match ρ[i]? with
  | some (some (.ownd false ks ds)) => @bnd _ _ _ (Fk ρ st) fun k st1 => (match k with
    | .d (.int z) => lift (getDs false ks ds [z]) st1
    | _ => .stuck)
  | _ => .stuck := rfl
theorem w_putI : @Ws _ (sPutI i Fv Fk ρ st) E = match ρ[i]? with
  | some (some (.ownd false ks ds)) => @Wp _ _ (Fv ρ st) (fun c fs s => E.x c fs ρ s) fun v st1 => @Wp _ _ (Fk ρ st1) (fun c fs s => E.x c fs ρ s) fun k st2 => (match v, k with
    | .d d, .d (.int z) => ds.length < 1000000 ∧ E.n (ρ.set i (some (.ownd false (putKs false ks [z]) (putDs false ks ds [z] d)))) st2
    | _, _ => False)
  | _ => False := by
  unfold sPutI
  split
  · rename_i ks ds e
    rw [show (@Ws _ (sBind (Fv ρ st) ρ _) E) = _ from propext ws_bind]
    congr 1
    funext v st1
    rw [show (@Ws _ (sBind (Fk ρ st1) ρ _) E) = _ from propext ws_bind]
    congr 1
    funext k st2
    split
    · rename_i d z
      by_cases h : ds.length < 1000000
      · rw [if_pos h]; simp [Ws, h]
      · rw [if_neg h]; simp only [Ws]
        exact propext ⟨False.elim, fun z => h z.1⟩
    · rfl
  · rfl
end
end Dl
set_option maxRecDepth 100000
set_option maxHeartbeats 4000000
namespace Dl
open PySem L2 PySem.Spec PyProof.Rows
/-! ### an own dict as the argument of a def that only reads it -/
mutual
def noDict : PyData → Bool
  | .dict _ => false
  | .list xs => noDicts xs
  | .tuple xs => noDicts xs
  | _ => true
def noDicts : List PyData → Bool
  | [] => true
  | x :: xs => noDict x && noDicts xs
end
section
variable {K : PySem.W.Frag} {I : Hp} {p : Addr} {kvs : List (Key × V)}
theorem del_other {a : Addr} {o : HO} (hp : I p = some (.dK kvs)) (h : I a = some o) (hn : ∀ k, o ≠ .dK k) : del I p a = some o := by
  rw [del_ne (fun e => by subst e; rw [hp] at h; cases h; exact hn _ rfl)]
  exact h
mutual
theorem Rp.dropD (hp : I p = some (.dK kvs)) : ∀ {x : V} {d : PyData}, Rp K I x d → noDict d = true → Rp K (del I p) x d
  | _, _, .non, _ => .non
  | _, _, .bl b, _ => .bl b
  | _, _, .int i, _ => .int i
  | _, _, .str z, _ => .str z
  | _, _, .lst h r, e => .lst (del_other hp h fun _ z => nomatch z) (RpAll.dropD hp r e)
  | _, _, .tup h r, e => .tup (by
      rcases h with (h | ⟨o, h⟩) | h
      · exact .inl (.inl (del_other hp h fun _ z => nomatch z))
      · exact .inl (.inr ⟨o, del_other hp h fun _ z => nomatch z⟩)
      · exact .inr h) (RpAll.dropD hp r e)
  | _, _, .dct _ _ _, e => by cases e
theorem RpAll.dropD (hp : I p = some (.dK kvs)) : ∀ {xs : List V} {ds : List PyData}, RpAll K I xs ds → noDicts ds = true → RpAll K (del I p) xs ds
  | _, _, .nil, _ => .nil
  | _, _, .cons h r, e => by
    have e' := (Bool.and_eq_true _ _).mp (show (noDict _ && noDicts _) = true from e)
    exact .cons (Rp.dropD hp h e'.1) (RpAll.dropD hp r e'.2)
end
/-- the dict is data for the call alone -/
theorem Grow.lend {M M2 : Mw} {H I2 H2 : Hp} {p : Addr} {o : HO} (hi : I p = none) (g : Grow (upd I p o) M H I2 M2 H2) : Grow I M H (del I2 p) M2 H2 where
  i := fun a u e => by
    have ha : a ≠ p := fun z => by subst z; rw [hi] at e; cases e
    rw [del_ne ha]
    exact g.i a u (by rw [upd_ne ha]; exact e)
  ni := fun a h z => by
    have ha : a ≠ p := fun y => by subst y; exact z (if_pos rfl)
    rw [del_ne ha] at z
    have := g.ni a h z
    rw [upd_ne ha] at this
    exact this
  nm := g.nm
  kp := g.kp
  th := g.th
  ad := g.ad
theorem Ok.lend {M : Mw} {H : Hp} {p : Addr} {o : HO} (k : Ok I M H) (hp : H p = some o) (hm : M.h p = none) : Ok (upd I p o) M H :=
  ⟨fun a u e => by
    by_cases ha : a = p
    · subst ha; rw [upd_same] at e; cases e; exact hp
    · rw [upd_ne ha] at e; exact k.ih a u e, k.mh, fun a e => by
    by_cases ha : a = p
    · subst ha; exact hm
    · rw [upd_ne ha] at e; exact k.dj a e⟩
theorem Ok.back {M : Mw} {H : Hp} {p : Addr} (k : Ok I M H) : Ok (del I p) M H :=
  ⟨fun a u e => by
    by_cases ha : a = p
    · subst ha; rw [show del I a a = none from if_pos rfl] at e; cases e
    · rw [del_ne ha] at e; exact k.ih a u e, k.mh, fun a e => by
    by_cases ha : a = p
    · subst ha; exact absurd (if_pos rfl) e
    · rw [del_ne ha] at e; exact k.dj a e⟩
end
end Dl
set_option maxRecDepth 100000
set_option maxHeartbeats 4000000
namespace Dl
open PySem L2 PySem.Spec PyProof.Rows
def lendV : Val → Val
  | .ownd false ks ds => .d (.dict ((ks.map fun k => PyData.int (k.headD 0)).zip ds))
  | v => v
def okD1 : List Val → Bool
  | [.d _, .ownd false _ _] => true
  | _ => false
/-- what a call gives back: data without dicts -/
def plainR {S : Type} : Res S Val → Res S Val
  | .ok (.d d) st => if noDict d then .ok (.d d) st else .stuck
  | _ => .stuck
section
variable {S : Type}
def eAppO (F : List Val → S → Res S Val) (a : Rho → S → Res S (List Val)) : Rho → S → Res S Val := fun ρ st => (a ρ st).bind fun xs st1 => if okD1 xs = true then plainR (F (xs.map lendV) st1) else .stuck
end
section
variable {U : Uni} {X : Cx} {W : WX} {k : Nat} {f : Addr} {fd : FuncData} {ps : List Str} {F : List Val → U.S → Res U.S Val} {x : Str} {p pos : Pos} {e : Expr} {es : List Expr} {A : Rho → U.S → Res U.S (List Val)}
theorem ped_callO (G : FnG U X.prog X.w X.K X.mg X.base k f fd ps F) (hr : Room k X.A) (hgd : X.A.guards = some []) (hg : Gl X x) (hm : X.mg x = some (.ref f)) (hk : PySem.W.keepIn X.K (.ref f) = true) (hb : Binds X.K fd ps []) (hps : ps.length = 2) (tk : Takes X W)
    (ha : PAd U X W (e :: es) A) (hdb : (x == ("__debug__" : Str)) = false := by decide) (he : starEach (e :: es) X.env = (false, eval e X.env) :: starEach es X.env := by rfl) (hpl : (backTo pos (starEach es X.env)).any (·.1) = false := by rfl) :
    PEd U X W (.Call (.Name x p) (e :: es) [] pos) (eAppO F A) := by
  refine ⟨fun pins s σ H Q J h => wpAny_Call_Name_kw (ld_glob J hg hm ?_ hdb)⟩
  have h1 : tAs U X.K W A σ H (fun xs H1 => ∃ vs st1 I1 M1, Ok I1 M1 H1 ∧ U.R st1 M1 ∧ VRs X.K I1 M1 H1 xs vs ∧ vs.all isDR = true ∧ vs.length = ps.length ∧ Post U X.K (VR X.K) (F vs st1) I1 M1 H1 Q (fun cls d H' => W cls d σ H')) := by
    refine tG.bind h fun Z ρ st1 xs vs I1 M1 H1 ft hx ps1 => ?_
    by_cases hc : okD1 vs = true
    · rw [if_pos hc] at ps1
      match vs, hx, hc, ps1 with
      | [.d d, .ownd false ks ds], .cons h2 (.cons h3 .nil), hc, ps1 =>
        obtain ⟨q, us, z, hp, hi, hmq, hl, r⟩ := h3
        subst z
        have hk' := ft.ok.lend hp hmq
        have sm : Same I1 (upd I1 q (dHO false ks us)) := fun a u e => by
          rw [upd_ne (fun y => by subst y; rw [hi] at e; cases e)]; exact e
        refine ⟨[.d d, .ownd false ks ds].map lendV, st1, upd I1 q (dHO false ks us), M1, hk', ft.rs, ?_, rfl, hps.symm, ?_⟩
        · refine .cons (Rp.mono sm h2) (.cons ?_ .nil)
          have e1 : ((ks.map fun k => (Sum.inl (k.headD 0) : Key)).map kD) = ks.map fun k => PyData.int (k.headD 0) := by
            rw [List.map_map]; rfl
          have := Rp.dct (K := X.K) (I := upd I1 q (dHO false ks us)) (a := q) (ks := ks.map fun k => (Sum.inl (k.headD 0) : Key)) (xs := us) (ds := ds) upd_same (by rw [List.length_map]; exact hl) (r.mono sm)
          rw [e1] at this
          exact this
        · cases zf : F ([.d d, .ownd false ks ds].map lendV) st1 with
          | stuck => rw [zf] at ps1; exact ps1
          | exc c fs st2 => rw [zf] at ps1; exact False.elim ps1
          | ok v st2 =>
            rw [zf] at ps1
            match v, ps1 with
            | .d w, ps1 =>
              by_cases hw : noDict w = true
              · have ps2 : Post U X.K (VR X.K) (.ok (.d w) st2) I1 M1 H1 Q (fun cls d H' => W cls d σ H') := by
                  have e5 : plainR (Res.ok (Val.d w) st2) = (.ok (.d w) st2 : Res U.S Val) := if_pos hw
                  rw [e5] at ps1; exact ps1
                intro y I2 M2 H2 g2 k2 r2 q2
                have hq2 : I2 q = some (.dK ((ks.map fun k => (Sum.inl (k.headD 0) : Key)).zip us)) := g2.i q _ upd_same
                exact ps2 y (del I2 q) M2 H2 (Grow.lend hi g2) (Ok.back k2) r2 (Rp.dropD hq2 q2 hw)
              · have e5 : plainR (Res.ok (Val.d w) st2) = (.stuck : Res U.S Val) := if_neg hw
                rw [e5] at ps1
                exact False.elim ps1
            | .ref n, ps1 => exact False.elim ps1
            | .own n, ps1 => exact False.elim ps1
            | .exc n m, ps1 => exact False.elim ps1
            | .ownd a b c, ps1 => exact False.elim ps1
    · rw [if_neg hc] at ps1
      exact False.elim ps1
  refine PySem.W.callWith_K (h₀ := X.base) J.ok.mod.kin hk (thn (ha.run pos pins s σ H _ J h1) fun us s1 ⟨xs, H1, J1, r, q⟩ => ⟨J1.kIn, ?_⟩) he hpl
  obtain ⟨vs, st1, I1, M1, ok, rs, hv, hd, hl, ps1⟩ := q
  exact run_g G hr hgd hb tk J1 r (hv.len.trans hl) ok rs hv hd ps1
end
end Dl
set_option maxRecDepth 100000
set_option maxHeartbeats 4000000
namespace Dl
open PySem L2 PySem.Spec PyProof.Rows
/-! ### x, y = {}, .. -/
section
variable {S : Type}
def sParDV (i j : Nat) (F : Rho → S → Res S Val) : Rho → S → SRes S := fun ρ st => sBind (F ρ st) ρ fun v st2 => if isDR v = true then .next ((ρ.set i (some (.ownd false [] []))).set j (some v)) st2 else .stuck
variable {E : En S} {ρ : Rho} {st : S} {i j : Nat} {F : Rho → S → Res S Val}
theorem w_parDV : @Ws _ (sParDV i j F ρ st) E = @Wp _ _ (F ρ st) (fun c fs s => E.x c fs ρ s) fun v st2 => isDR v = true ∧ E.n ((ρ.set i (some (.ownd false [] []))).set j (some v)) st2 := by
  unfold sParDV
  rw [show (@Ws _ (sBind (F ρ st) ρ _) E) = _ from propext ws_bind]
  congr 1
  funext v st2
  by_cases h : isDR v = true
  · rw [if_pos h, h]; simp [Ws]
  · rw [if_neg h]; simp [Ws, h]
theorem x_appO {G : List Val → S → Res S Val} {A : Rho → S → Res S (List Val)} : eAppO G A ρ st = @bnd _ _ _ (A ρ st) fun xs st1 => if okD1 xs = true then plainR (G (xs.map lendV) st1) else .stuck := rfl
end
section
variable {U : Uni} {X : Cx} {W : WX} {i j : Nat} {x y : Str} {b : Expr} {px py pt pos pd : Pos} {kt : Nat} {k2 : Nat} {pt2 : Pos} {F : Rho → U.S → Res U.S Val}
theorem psd_parDV (hc : X.calm = true) (hN : X.N.Nodup) (hi : X.N[i]? = some x) (hj : X.N[j]? = some y) (hij : i ≠ j)
    (hx : X.env.scope.names.lookup x = some .local) (hy : X.env.scope.names.lookup y = some .local) (hb : PEd U X W b F)
    (hw : swappedStores [.Tuple [.Name x px, .Name y py] kt pt] (.Tuple [.Dict [] [] pd, b] k2 pt2) X.env = pure (some [x, y]) := by rfl)
    (hs : swapsWithSole [.Tuple [.Name x px, .Name y py] kt pt] (.Tuple [.Dict [] [] pd, b] k2 pt2) pos.line X.env = pure false := by rfl)
    (h1 : starEach (.Dict [] [] pd :: [b]) X.env = (false, eval (.Dict [] [] pd) X.env) :: starEach [b] X.env := by rfl) (h2 : starEach (b :: []) X.env = (false, eval b X.env) :: starEach [] X.env := by rfl) :
    PSd U X W (.Assign [.Tuple [.Name x px, .Name y py] kt pt] (.Tuple [.Dict [] [] pd, b] k2 pt2) pos) (sParDV i j F) := by
  refine ps_imp (ps_par hc hN hi hj hij hx hy (pa_cons pe_dnewK (pa_cons hb pa_nil h2) h1) hw hs) fun D σ H ⟨Z, ρ, st, I, M, ft, ps⟩ => ?_
  unfold sParDV at ps
  intro p hp
  obtain ⟨g0, k0⟩ := Grow.allocO (o := dHO false [] []) ft.ok hp
  have ft0 := ft.grow g0 k0 ft.rs
  refine ⟨Z, ρ, st, I, M, ft0, ?_⟩
  cases z2 : F ρ st with
  | stuck => rw [z2] at ps; exact ps
  | exc c fs st2 => rw [z2] at ps; exact fun cls d I2 M2 H2 g2 k2 r2 q => ps σ cls d I2 M2 H2 g2.i (ft0.grow g2 k2 r2) q
  | ok v st2 =>
    rw [z2] at ps
    intro u I2 M2 H2 g2 k2 r2 hv
    obtain ⟨p', vs', e, hp2, hi2, hm2, hl2, ra2⟩ := VR.grow g2 (show VR X.K I M (upd H p (dHO false [] [])) (.ref p) (.ownd false [] []) from ⟨p, [], rfl, upd_same, ft.ok.ih.free hp, ft.ok.mh.free hp, rfl, .nil⟩)
    cases e
    have f1 : Z.H p = none := by
      cases w : Z.H p with
      | none => rfl
      | some o => exact absurd hp (ft.g.th p (ne_none_of w))
    have ps : SPost U X.K W Z I D (if isDR v = true then .next ((ρ.set i (some (.ownd false [] []))).set j (some v)) st2 else .stuck) := ps
    by_cases hd : isDR v = true
    · rw [if_pos hd] at ps
      exact ⟨_, _, rfl, ps _ I2 M2 H2 g2.i (((ft0.grow g2 k2 r2).setNewD i f1 (fun l t' ks' es q e1 e2 => by
        obtain ⟨q', us, e3, h1, _⟩ := ft.ownd e1
        rw [e3] at e2
        cases e2
        exact ne_of_none h1 hp) hp2 hi2 hm2 hl2 ra2).set j hv hd)⟩
    · rw [if_neg hd] at ps; exact False.elim ps
end
end Dl
set_option maxRecDepth 100000
set_option maxHeartbeats 4000000
namespace Dl
open PySem L2 PySem.Spec PyProof.Rows
/-! ### reading a dict that is data -/
def keyIs (z : Int) : PyData → Bool
  | .int a => decide (a = z)
  | _ => false
def getDD : List (PyData × PyData) → Int → Option PyData
  | [], _ => none
  | (k, d) :: r, z => if keyIs z k then some d else getDD r z
def vGetD : Val → Val → Option PyData
  | .d (.dict kvs), .d (.int z) => getDD kvs z
  | _, _ => none
def rDG : V → V → Hp → VK → Prop := fun x y H Q => ∃ a v, x = .ref a ∧ DGet H a y (some v) ∧ Q v H
section
variable {K : PySem.W.Frag}
theorem Rp.dict_inv {I : Hp} {x : V} {kvs : List (PyData × PyData)} (h : Rp K I x (.dict kvs)) : ∃ (a : Addr) (ks : List Key) (xs : List V) (ds : List PyData), x = .ref a ∧ kvs = (ks.map kD).zip ds ∧ I a = some (.dK (ks.zip xs)) ∧ ks.length = xs.length ∧ RpAll K I xs ds := by
  generalize hd : PyData.dict kvs = d at h
  cases h with
  | non => cases hd
  | bl b => cases hd
  | int i => cases hd
  | str z => cases hd
  | lst _ _ => cases hd
  | tup _ _ => cases hd
  | @dct a ks xs ds h l r => cases hd; exact ⟨a, ks, xs, ds, rfl, rfl, h, l, r⟩
theorem getDD_val {I : Hp} {z : Int} {d : PyData} : ∀ {ks : List Key} {xs : List V} {ds : List PyData}, ks.length = xs.length → RpAll K I xs ds → getDD ((ks.map kD).zip ds) z = some d → ∃ v, valV (ks.zip xs) (Sum.inl z) = some v ∧ Rp K I v d
  | [], _, _, _, _, e => by cases e
  | k :: ks, [], _, l, _, _ => by simp at l
  | k :: ks, x :: xs, _, l, .cons (d := d0) h r, e => by
    rw [List.map_cons, List.zip_cons_cons] at e
    unfold getDD at e
    have hk : keyIs z (kD k) = decide (k = Sum.inl z) := by
      cases k with
      | inl a => by_cases q : a = z <;> simp [keyIs, kD, q]
      | inr a => simp [keyIs, kD]
    rw [hk] at e
    unfold valV
    rw [List.zip_cons_cons, List.find?_cons]
    by_cases q : k = Sum.inl z
    · simp only [q, decide_true] at e ⊢
      cases e
      exact ⟨x, rfl, h⟩
    · simp only [q, decide_false] at e ⊢
      exact getDD_val (by simpa using l) r e
theorem d_getD : Op2D K rDG vGetD := by
  intro x y u v w I M H Q k hx hy e q
  unfold vGetD at e
  split at e
  · rename_i kvs z
    obtain ⟨a, ks, xs, ds, rfl, rfl, ha, l, r⟩ := Rp.dict_inv (show Rp K I x (.dict _) from hx)
    cases Rp.int_inv hy
    obtain ⟨v, hv, rv⟩ := getDD_val l r e
    refine ⟨a, v, rfl, ?_, q v I H (Grow.refl _ _ _) k rv⟩
    have := DGet.k (k := Sum.inl z) (k.ih a _ ha)
    rw [hv] at this
    exact this
  · cases e
end
section
variable {U : Uni} {X : Cx} {W : WX} {a b : Expr} {pos : Pos} {Fa Fb : Rho → U.S → Res U.S Val}
theorem ped_getD (hu : X.A.units + 1 < cLine) (ha : PEd U X W a Fa) (hb : PEd U X W b Fb) (hs : PlainIx b) : PEd U X W (.Subscript a b pos) (eOp vGetD Fa Fb) := pe_imp (pe_dget hu ha hb hs) (op_read (r := rDG) d_getD)
end
section
variable {kvs : List (PyData × PyData)} {z : Int}
theorem q_getD : vGetD (.d (.dict kvs)) (.d (.int z)) = getDD kvs z := rfl
end
end Dl
set_option maxRecDepth 100000
set_option maxHeartbeats 4000000
namespace Dl
open PySem L2 PySem.Spec PyProof.Rows
/-! ### x, y = e, [..] where the names are cells: a tuple, unpacked -/
section
variable {U : Uni} {X : Cx} {W : WX} {i j : Nat} {x y : Str} {a b : Expr} {px py pt pos : Pos} {kt : Nat} {k2 : Nat} {pt2 : Pos} {F : Rho → U.S → Res U.S Val} {N : Rho → U.S → Res U.S (List PyData)}
theorem psd_unpVN (hc : X.calm = true) (hij : i ≠ j) (ha : PEd U X W a F) (hb : PNd U X W b N)
    (hg : PGs X [.Name x px, .Name y py] (gNames [i, j]))
    (hs : swapsWithSole [.Tuple [.Name x px, .Name y py] kt pt] (.Tuple [a, b] k2 pt2) pos.line X.env = pure false := by rfl) (hw : swappedStores [.Tuple [.Name x px, .Name y py] kt pt] (.Tuple [a, b] k2 pt2) X.env = pure none := by rfl)
    (h0 : (assignEach [.Tuple [.Name x px, .Name y py] kt pt] X.env).map (·.2) = [assign (.Tuple [.Name x px, .Name y py] kt pt) X.env] := by rfl)
    (hn : (assignEach [.Name x px, .Name y py] X.env).length = 2 := by rfl) (hst : (assignEach [.Name x px, .Name y py] X.env).findIdx? (·.1) = none := by rfl)
    (h1 : starEach (a :: [b]) X.env = (false, eval a X.env) :: starEach [b] X.env := by rfl) (h2 : starEach (b :: []) X.env = (false, eval b X.env) :: starEach [] X.env := by rfl) :
    PSd U X W (.Assign [.Tuple [.Name x px, .Name y py] kt pt] (.Tuple [a, b] k2 pt2) pos) (sParVN i j F N) := by
  refine ps_imp (ps_asg (pe_tup (pa_cons ha (pa_cons hb pa_nil h2) h1)) (pgd_tup [i, j] hc hg hn hst) hs hw h0) fun D σ H ⟨Z, ρ, st, I, M, ft, ps⟩ => ?_
  unfold sParVN at ps
  refine ⟨Z, ρ, st, I, M, ft, ?_⟩
  cases z : F ρ st with
  | stuck => rw [z] at ps; exact ps
  | exc c fs st1 => rw [z] at ps; exact fun cls d I1 M1 H1 g k r q => ps σ cls d I1 M1 H1 g.i (ft.grow g k r) q
  | ok v st1 =>
    rw [z] at ps
    intro u I1 M1 H1 g k r hv
    refine ⟨Z, ρ, st1, I1, M1, ft.grow g k r, ?_⟩
    have ps : SPost U X.K W Z I D (sBind (N ρ st1) ρ fun ds st2 => if isDR v = true then .next ((ρ.set i (some v)).set j (some (.own ds))) st2 else .stuck) := ps
    cases z2 : N ρ st1 with
    | stuck => rw [z2] at ps; exact ps
    | exc c fs st2 => rw [z2] at ps; exact fun cls d I2 M2 H2 g2 k2 r2 q => ps σ cls d I2 M2 H2 (g.i.trans g2.i) ((ft.grow g k r).grow g2 k2 r2) q
    | ok ds st2 =>
      rw [z2] at ps
      intro p vs I2 M2 H2 h0 g2 k2 r2 hp hi0 hm ra
      refine ⟨sz (by simp), fun q hq => ?_⟩
      obtain ⟨g3, k3⟩ := Grow.allocO (o := .tup [u, .ref p]) k2 hq
      have ft2 := ((ft.grow g k r).grow g2 k2 r2).grow g3 k3 r2
      have hv2 := VR.grow g3 (VR.grow g2 hv)
      obtain ⟨f1, f2⟩ := own_fresh (ft.grow g k r) h0
      have hp3 : upd H2 q (.tup [u, .ref p]) p = some (.lst vs) := by rw [upd_ne (ne_of_none hp hq)]; exact hp
      have ps : SPost U X.K W Z I D (if isDR v = true then .next ((ρ.set i (some v)).set j (some (.own ds))) st2 else .stuck) := ps
      by_cases hd : isDR v = true
      · rw [if_pos hd] at ps
        refine ⟨q, [u, .ref p], rfl, .inl (.inl upd_same), rfl, _, _, rfl, _, _, rfl, rfl, ps _ I2 M2 _ (g.i.trans g2.i) ((ft2.set i hv2 hd).setNew j f1 (fun l es q e1 e2 => ?_) hp3 hi0 hm ra)⟩
        by_cases hl : l = i
        · subst hl
          have hlt : l < ρ.length := by
            have := (List.getElem?_eq_some_iff.mp e1).1
            simpa using this
          rw [List.getElem?_set_self hlt] at e1
          cases e1
          cases hd
        · rw [List.getElem?_set_ne (Ne.symm hl)] at e1 e2
          exact f2 l es q e1 e2
      · rw [if_neg hd] at ps; exact False.elim ps
end
end Dl
set_option maxRecDepth 100000
set_option maxHeartbeats 4000000
namespace Dl
open PySem L2 PySem.Spec PyProof.Rows
/-! ### tuple(range(..)) -/
section
variable {S : Type}
noncomputable def eTupR1 (a : Rho → S → Res S Val) : Rho → S → Res S Val := fun ρ st => (a ρ st).bind fun x st1 => match x with
  | .d (.int n) => cif (-1000000 ≤ n ∧ n ≤ 1000000) (.ok (.d (.tuple (fromTo 0 n))) st1) .stuck
  | _ => .stuck
noncomputable def eTupR2 (a b : Rho → S → Res S Val) : Rho → S → Res S Val := fun ρ st => (a ρ st).bind fun x st1 => (b ρ st1).bind fun y st2 => match x, y with
  | .d (.int i), .d (.int j) => cif (-1000000 ≤ i ∧ i ≤ 1000000 ∧ -1000000 ≤ j ∧ j ≤ 1000000) (.ok (.d (.tuple (fromTo i j))) st2) .stuck
  | _, _ => .stuck
variable {ρ : Rho} {st : S} {Fa Fb : Rho → S → Res S Val}
theorem x_tupR1 : eTupR1 Fa ρ st = @bnd _ _ _ (Fa ρ st) fun x st1 => match x with
  | .d (.int n) => cif (-1000000 ≤ n ∧ n ≤ 1000000) (.ok (.d (.tuple (fromTo 0 n))) st1) .stuck
  | _ => .stuck := rfl
theorem x_tupR2 : eTupR2 Fa Fb ρ st = @bnd _ _ _ (Fa ρ st) fun x st1 => @bnd _ _ _ (Fb ρ st1) fun y st2 => match x, y with
  | .d (.int i), .d (.int j) => cif (-1000000 ≤ i ∧ i ≤ 1000000 ∧ -1000000 ≤ j ∧ j ≤ 1000000) (.ok (.d (.tuple (fromTo i j))) st2) .stuck
  | _, _ => .stuck := rfl
end
theorem rp_rgV {K : PySem.W.Frag} {I : Hp} (a b : Int) : RpAll K I (rgV a b) (fromTo a b) := by
  unfold rgV fromTo
  induction (List.range (b - a).toNat) with
  | nil => exact .nil
  | cons k l ih => exact .cons (.int _) ih
section
variable {U : Uni} {X : Cx} {W : WX} {a b : Expr} {Fa Fb : Rho → U.S → Res U.S Val} {p p2 pos pos2 : Pos}
theorem ped_tupR1 (hc : X.calm = true) (hg : Gl X "tuple") (hm : X.mg "tuple" = none) (hg2 : Gl X "range") (hm2 : X.mg "range" = none) (ha : PEd U X W a Fa) (na : starEach [a] X.env = (false, eval a X.env) :: starEach [] X.env := by rfl)
    (nb : starEach [.Call (.Name "range" p2) [a] [] pos2] X.env = (false, eval (.Call (.Name "range" p2) [a] [] pos2) X.env) :: starEach [] X.env := by rfl) :
    PEd U X W (.Call (.Name "tuple" p) [.Call (.Name "range" p2) [a] [] pos2] [] pos) (eTupR1 Fa) := by
  refine pe_imp (pe_tupRg hc hg hm (prg_1 hg2 hm2 ha na) nb) fun σ H Q h => ?_
  refine tG.bind h fun Z ρ st1 x u I1 M1 H1 ft hx ps => ?_
  match u, hx, ps with
  | .d (.int n), hx, ps =>
    simp only at ps
    by_cases c : -1000000 ≤ n ∧ n ≤ 1000000
    · rw [cif_pos c] at ps
      refine ⟨n, Rp.int_inv hx, ⟨by omega, by omega, by omega, by omega, by omega⟩, fun q hq => ?_⟩
      obtain ⟨g0, k0⟩ := Grow.alloc (o := .tup (rgV 0 n)) ft.ok hq
      exact ps (.ref q) _ M1 _ g0 k0 ft.rs (Rp.tup (Or.inl (Or.inl upd_same)) (rp_rgV 0 n))
    · rw [cif_neg c] at ps
      exact False.elim ps
theorem ped_tupR2 (hc : X.calm = true) (hg : Gl X "tuple") (hm : X.mg "tuple" = none) (hg2 : Gl X "range") (hm2 : X.mg "range" = none) (ha : PEd U X W a Fa) (hb : PEd U X W b Fb) (na : starEach [a, b] X.env = (false, eval a X.env) :: starEach [b] X.env := by rfl)
    (nc : starEach [b] X.env = (false, eval b X.env) :: starEach [] X.env := by rfl) (hp : (backTo pos2 (starEach [b] X.env)).any (·.1) = false := by rfl)
    (nb : starEach [.Call (.Name "range" p2) [a, b] [] pos2] X.env = (false, eval (.Call (.Name "range" p2) [a, b] [] pos2) X.env) :: starEach [] X.env := by rfl) :
    PEd U X W (.Call (.Name "tuple" p) [.Call (.Name "range" p2) [a, b] [] pos2] [] pos) (eTupR2 Fa Fb) := by
  refine pe_imp (pe_tupRg hc hg hm (prg_2 hg2 hm2 ha hb na nc hp) nb) fun σ H Q h => ?_
  refine tG.bind h fun Z ρ st1 x u I1 M1 H1 ft hx ps => ?_
  refine Post.next ft ps fun st2 y v I2 M2 H2 g ft2 hy ps2 => ?_
  match u, v, hx, hy, ps2 with
  | .d (.int i), .d (.int j), hx, hy, ps2 =>
    simp only at ps2
    by_cases c : -1000000 ≤ i ∧ i ≤ 1000000 ∧ -1000000 ≤ j ∧ j ≤ 1000000
    · rw [cif_pos c] at ps2
      refine ⟨i, j, Rp.int_inv hx, Rp.int_inv hy, ⟨by omega, by omega, by omega, by omega, by omega⟩, fun q hq => ?_⟩
      obtain ⟨g0, k0⟩ := Grow.alloc (o := .tup (rgV i j)) ft2.ok hq
      exact ps2 (.ref q) _ M2 _ g0 k0 ft2.rs (Rp.tup (Or.inl (Or.inl upd_same)) (rp_rgV i j))
    · rw [cif_neg c] at ps2
      exact False.elim ps2
end
end Dl
set_option maxRecDepth 100000
set_option maxHeartbeats 4000000
namespace Dl
open PySem L2 PySem.Spec PyProof.Rows
/-! ### try with several clauses, each with or without a name -/
structure Clau where
  c : Value
  nm : Option Nat
  ts : Addr → Value → Option Addr → TS
def offE (i : Nat) (D : Ends) : Ends := ⟨fun σ H => D.nx (σ.set i none) H, D.rt, fun σ H => D.bk (σ.set i none) H, fun σ H => D.ct (σ.set i none) H⟩
def Clau.goes (k : Clau) (D : Ends) (a : Addr) (cls : Value) (d : Option Addr) (σ : L2.St) (H : Hp) : Prop := match k.nm with
  | none => k.ts a cls d D σ H
  | some i => k.ts a cls d (offE i D) (σ.set i (some (.ref a))) H
def wCl (K : PySem.W.Frag) (Wo : WX) (D : Ends) : List Clau → WX
  | [] => Wo
  | k :: r => fun cls d σ H => ∃ b, PySem.W.exmOne K cls k.c = some b ∧ (b = true → ∀ a, H a = none → k.goes D a cls d σ H) ∧ (b = false → wCl K Wo D r cls d σ H)
inductive ClOk (X : Cx) : List ExceptHandler → List Clau → Prop
  | nil : ClOk X [] []
  | one {x : Str} {c : Value} {ts : Addr → Value → Option Addr → TS} {s0 : Stmt} {su : List Stmt} {np pp : Pos} {o : Option (Nat × Str)} {hs : List ExceptHandler} {l : List Clau} (hc : Names X x c)
      (ho : ∀ i n, o = some (i, n) → X.N[i]? = some n ∧ X.env.kindOf n = some .local)
      (hsu : ∀ (a : Addr) (oe : Obj) (cls : Value) (d : Option Addr) (pn : List (Addr × Obj)), Zc cls d oe → (∃ vs, oe.data = .fields vs) → PSs (X.suite a ((a, oe) :: pn)) (s0 :: su) (ts a cls d)) (r : ClOk X hs l) :
      ClOk X (.ExceptHandler (some (.Name x np)) (o.map (·.2)) (s0 :: su) pp :: hs) (⟨c, o.map (·.1), ts⟩ :: l)
section
variable {X : Cx} {body : List Stmt} {h0 : ExceptHandler} {hs : List ExceptHandler} {l : List Clau} {pos : Pos} {tb : WX → TS} {Wo : WX}
theorem ps_try_cl (hst : X.stack = X.env :: X.outer) (hfm : X.env.frame = some X.env.locals) (hN : X.N.Nodup) (tk : Takes X Wo)
    (hb : ∀ (W : WX) (pn : List (Addr × Obj)) (xe : Value → Shared → Prop), Takes (X.tr pn xe) W → PassesOwn (model X.prog X.w) X.A X.env xe → PSs (X.tr pn xe) body (tb W))
    (hh : ClOk X (h0 :: hs) l) : PS X (.Try body (h0 :: hs) [] [] pos) (fun D σ H => tb (wCl X.K Wo D l) D σ H) := by
  refine ⟨fun pins s σ H D I hw => wpAny_Try_except ?_⟩
  have okX := I.ok
  have frX : X.A.frames = some (X.env :: X.outer) := okX.frames.trans (congrArg some hst)
  let E1 : Value → Shared → Prop := fun e t1 => wpAny (model X.prog X.w) X.A (noteFrame e X.env) (fun _ t2 => wpAny (model X.prog X.w) X.A (setFlight e none) (fun _ t3 => wpAny (model X.prog X.w) X.A (handleBy e X.env (h0 :: hs)) (SP X pins D) X.xe t3) X.xe t2) X.xe t1
  have tkB : Takes (X.tr (X.pn ++ pins) E1) (wCl X.K Wo D l) := by
    rintro u s' ⟨a, B, sI, pins', σ', H', cls, d, rfl, J', nb, up, sky, na, os, ag, w⟩
    have J : Inv X pins σ' H' sI := J'.ofTry okX
    have sky2 : Sky B (X.env :: X.outer) a (Zc cls d) X.env.locals s'.heap := hst ▸ sky
    show wpAny (model X.prog X.w) X.A (noteFrame (.ref a) X.env) _ _ _
    refine Sky.land Zc.steady frX hfm sky2 fun g3 fl3 up3 => ?_
    have up13 := up.trans up3
    have J3 : Inv X pins σ' H' { s' with heap := g3 } := J.landed nb fl3.1 up13 os ag
    obtain ⟨ob, vs, hob, hzb, hdb⟩ := fl3.there
    have nfr : a ∉ frs (X.env :: X.outer) := fun hm => by
      obtain ⟨_, o', e', hnf⟩ := fl3.2.2.1.mem hm
      rw [hob] at e'
      cases e'
      exact hnf _ hdb
    have nL : a ≠ X.env.locals := fun z => nfr (List.mem_filterMap.mpr ⟨X.env, List.mem_cons_self, hfm.trans (congrArg some z.symm)⟩)
    have nF : a ∉ X.fs := fun hm => by
      obtain ⟨e, he, q⟩ := List.mem_filterMap.mp hm
      exact nfr (List.mem_filterMap.mpr ⟨e, List.mem_cons_of_mem _ he, q⟩)
    have S3 := J3.suite hob hdb na nL nF
    have all : ∀ {hs' : List ExceptHandler} {l' : List Clau}, ClOk X hs' l' → wCl X.K Wo D l' cls d σ' H' → wpAny (model X.prog X.w) X.A (handleBy (.ref a) X.env hs') (SP X pins D) X.xe { s' with heap := g3 } := by
      intro hs' l' hk
      induction hk with
      | nil =>
        intro w
        refine wpAny_handleBy_nil ?_
        obtain ⟨_, _, _, oe, ws, T, oT, ts', he, hz, hd, h1, hr⟩ := id fl3
        unfold PySem.passOn
        refine wpAny_bind (wpAny_field he hd h1 ?_)
        rw [if_neg (show ¬ ((Value.ref T == Value.none) = true) from by simp)]
        have out : wpAny (model X.prog X.w) X.A (setFlight (.ref a) X.env.frame) (fun _ t4 => wpAny (model X.prog X.w) X.A (throw (.ref a) : Sem Flow) (SP X pins D) X.xe t4) X.xe { s' with heap := g3 } := by
          rw [hfm]
          exact HandSPX.setFlight_upZ fl3 fun g4 hg4 up4 => wpAny_throw (tk _ _ ⟨a, B, sI, pins, σ', H', cls, d, rfl, J, nb, up13.trans up4, .inr (.inr (hst ▸ hg4)), na, os, ag, w⟩)
        first
          | exact wpAny_bind (wpAny_pure (wpAny_bind out))
          | exact wpAny_bind out
      | @one x c ts s0 su np pp o hs2 l2 hc ho hsu r ih =>
        rintro ⟨b, hb1, hyes, hno⟩
        have LT : PySem.W.Looks (model X.prog X.w) g3 (typeOf (.ref a)) cls := fun A Q E s k q => wpAny_typeOf_ref (k _ _ hob) (by rw [hzb.1]; exact q)
        have LM := PySem.W.exm_one (M := model X.prog X.w) (J3.kIn) LT hb1
        have test : ∀ {Q : Value → Shared → Prop} {E : Value → Shared → Prop}, Q c { s' with heap := g3 } → wpAny (model X.prog X.w) (X.A.mark (some (.ref a))) (eval (.Name x np) X.env) Q E { s' with heap := g3 } := fun {Q E} q => by
          rcases hc with ⟨hg, hdbg, hm | ⟨hm, hv, hnn⟩⟩
          · exact ld_glob (X := X.suite a ((a, ob) :: (X.pn ++ pins))) S3 hg hm q hdbg
          · exact ld_blt (X := X.suite a ((a, ob) :: (X.pn ++ pins))) S3 hg hm hv q hnn hdbg
        cases o with
        | none =>
          refine wpAny_handleBy_cons (codeAny_handlers_test (test (LM.here ?_))) (by intro q; cases q)
          cases b with
          | false => exact ih (hno rfl)
          | true =>
            refine codeAny_handlers_suite (HandSPX.lands_againZ fl3 fun g4 fl4 up4 => ?_)
            have J4 : Inv X pins σ' H' { s' with heap := g4 } := J.landed nb fl4.1 (up13.trans up4) os ag
            obtain ⟨o4, v4, e4, z4, d4⟩ := fl4.there
            refine wpAny_mono ((hsu a o4 cls d (X.pn ++ pins) z4 ⟨_, d4⟩).run [] _ _ H' _ (J4.suite e4 d4 na nL nF) (hyes rfl a na)) (fun f s6 hsp => ?_) (fun _ _ z => False.elim z)
            cases f with
            | next => obtain ⟨σ6, H6, S6, q6⟩ := hsp; exact ⟨_, _, S6.unsuite okX, q6⟩
            | brk => obtain ⟨σ6, H6, S6, q6⟩ := hsp; exact ⟨_, _, S6.unsuite okX, q6⟩
            | cont => obtain ⟨σ6, H6, S6, q6⟩ := hsp; exact ⟨_, _, S6.unsuite okX, q6⟩
            | ret u => obtain ⟨v6, σ6, H6, S6, r6, q6⟩ := hsp; exact ⟨_, _, _, S6.unsuite okX, r6, q6⟩
        | some nn =>
          obtain ⟨i, n⟩ := nn
          obtain ⟨hi, hln⟩ := ho i n rfl
          refine wpAny_handleBy_cons (codeAny_handlers_test (test (LM.here ?_))) (by intro q; cases q)
          cases b with
          | false => exact ih (hno rfl)
          | true =>
            refine codeAny_handlers_suite_as (HandSPX.lands_againZ fl3 fun g4 fl4 up4 => ?_)
            have J4 : Inv X pins σ' H' { s' with heap := g4 } := J.landed nb fl4.1 (up13.trans up4) os ag
            obtain ⟨o4, v4, e4, z4, d4⟩ := fl4.there
            refine store_ok (X := X.suite a ((a, o4) :: (X.pn ++ pins))) (v := .ref a) (J4.suite e4 d4 na nL nF) hN hi (.inl hln) rfl (fun s5 S5 => ?_) (.inr hln)
            refine wpAny_mono ((hsu a o4 cls d (X.pn ++ pins) z4 ⟨_, d4⟩).run [] s5 _ H' _ S5 (hyes rfl a na)) (fun f s6 hsp => ?_) (fun _ _ z => False.elim z)
            cases f with
            | next => obtain ⟨σ6, H6, S6, q6⟩ := hsp; exact gone_ok (S6.unsuite okX) hN hi hln fun s7 J7 => ⟨_, _, J7, q6⟩
            | brk => obtain ⟨σ6, H6, S6, q6⟩ := hsp; exact gone_ok (S6.unsuite okX) hN hi hln fun s7 J7 => ⟨_, _, J7, q6⟩
            | cont => obtain ⟨σ6, H6, S6, q6⟩ := hsp; exact gone_ok (S6.unsuite okX) hN hi hln fun s7 J7 => ⟨_, _, J7, q6⟩
            | ret u => obtain ⟨v6, σ6, H6, S6, r6, q6⟩ := hsp; exact gone_ok (S6.unsuite okX) hN hi hln fun s7 J7 => ⟨_, _, _, J7, r6, q6⟩
    exact all hh w
  refine wpAny_mono ((hb (wCl X.K Wo D l) (X.pn ++ pins) E1 tkB PassesOwn.looking).run [] s σ H D (I.toTry _) hw) (fun f s1 hsp => ?_) (fun e s1 he => he)
  cases f with
  | next => obtain ⟨σ', H', J', q⟩ := hsp; exact wpAny_execs_nil ⟨σ', H', J'.ofTry okX, q⟩
  | brk => obtain ⟨σ', H', J', q⟩ := hsp; exact ⟨σ', H', J'.ofTry okX, q⟩
  | cont => obtain ⟨σ', H', J', q⟩ := hsp; exact ⟨σ', H', J'.ofTry okX, q⟩
  | ret u => obtain ⟨v, σ', H', J', r, q⟩ := hsp; exact ⟨v, σ', H', J'.ofTry okX, r, q⟩
end
end Dl
set_option maxRecDepth 100000
set_option maxHeartbeats 4000000
namespace Dl
open PySem L2 PySem.Spec PyProof.Rows
/-! ### except A as e: x = ..; except B: y = .. -/
section
variable {U : Uni} {X : Cx} {W : WX} {x1 x2 n y1 y2 : Str} {C1 C2 : Addr} {c1 c2 i j1 j2 : Nat} {body : List Stmt} {B : Rho → U.S → SRes U.S} {np1 np2 pos p1 p2 sp1 sp2 py1 py2 : Pos} {e1 e2 : Expr} {f : List PyData → Option PyData} {w : PyData}
theorem psd_try2 (hs : X.stack = X.env :: X.outer) (hf : X.env.frame = some X.env.locals) (hN : X.N.Nodup) (hi : X.N[i]? = some n) (hln : X.env.kindOf n = some .local) (hc1 : Names X x1 (.ref C1)) (hc2 : Names X x2 (.ref C2)) (tk : Takes X W)
    (hx1 : ∀ c' C' nms, U.cl c' = some (C', nms) → PySem.W.exmOne X.K (.ref C') (.ref C1) = some (decide (c' = c1))) (hx2 : ∀ c' C' nms, U.cl c' = some (C', nms) → PySem.W.exmOne X.K (.ref C') (.ref C2) = some (decide (c' = c2))) (hij : i ≠ j1)
    (hb : ∀ (W' : WX) (pn : List (Addr × Obj)) (xe : Value → Shared → Prop), Takes (X.tr pn xe) W' → PassesOwn (model X.prog X.w) X.A X.env xe → PBd U (X.tr pn xe) W' body B)
    (hj1 : X.N[j1]? = some y1) (hy1 : Loc X.env.scope y1) (hs1 : ∀ (a : Addr) (oe : Obj) (cls : Value) (d : Option Addr) (pn : List (Addr × Obj)), Zc cls d oe → (∃ vs, oe.data = .fields vs) → PXd U X a oe pn cls d (some i) c1 e1 f)
    (hj2 : X.N[j2]? = some y2) (hy2 : Loc X.env.scope y2) (hs2 : ∀ (a : Addr) (oe : Obj) (cls : Value) (d : Option Addr) (pn : List (Addr × Obj)), PXd U X a oe pn cls d none c2 e2 (fun _ => some w))
    (hw1 : swapsWith e1 (some (.Name y1 py1)) sp1.line X.env = pure false := by rfl) (hf1 : X.fn y1 = true ∨ X.env.scope.names.lookup y1 = some .local := by first | exact .inl rfl | exact .inr rfl | assumption)
    (hw2 : swapsWith e2 (some (.Name y2 py2)) sp2.line X.env = pure false := by rfl) (hf2 : X.fn y2 = true ∨ X.env.scope.names.lookup y2 = some .local := by first | exact .inl rfl | exact .inr rfl | assumption) :
    PSd U X W (.Try body [.ExceptHandler (some (.Name x1 np1)) (some n) [.Assign [.Name y1 py1] e1 sp1] p1, .ExceptHandler (some (.Name x2 np2)) none [.Assign [.Name y2 py2] e2 sp2] p2] [] [] pos) (sTry0 c2 j2 w (sTry c1 i j1 f B)) := by
  have hcl : ClOk X [.ExceptHandler (some (.Name x1 np1)) (some n) [.Assign [.Name y1 py1] e1 sp1] p1, .ExceptHandler (some (.Name x2 np2)) none [.Assign [.Name y2 py2] e2 sp2] p2]
      [⟨.ref C1, some i, fun a cls d => tAsg (tX U X.K a cls d (some i) c1 f) (gName j1)⟩, ⟨.ref C2, none, fun a cls d => tAsg (tX U X.K a cls d none c2 (fun _ => some w)) (gName j2)⟩] :=
    ClOk.one (o := some (i, n)) hc1 (fun i' n' q => by cases q; exact ⟨hi, hln⟩) (fun a oe cls d pn hz hd => pss_one (ps_set (X := SX X a oe pn) hN hj1 hy1 (hs1 a oe cls d pn hz hd) hw1 hf1))
      (ClOk.one (o := none) hc2 (fun _ _ q => nomatch q) (fun a oe cls d pn hz hd => pss_one (ps_set (X := SX X a oe pn) hN hj2 hy2 (hs2 a oe cls d pn) hw2 hf2)) .nil)
  refine ps_imp (ps_try_cl (Wo := W) (tb := fun W' => tS U X.K W' B) hs hf hN tk (fun W' pn xe h1 h2 => hb W' pn xe h1 h2) hcl) fun D σ H ⟨Z, ρ, st, I, M, ft, ps⟩ => ⟨Z, ρ, st, I, M, ft, ?_⟩
  unfold sTry0 sTry at ps
  cases z : B ρ st with
  | next ρ' st' => rw [z] at ps; exact ps
  | ret v st' => rw [z] at ps; exact ps
  | brk ρ' st' => rw [z] at ps; exact ps
  | cnt ρ' st' => rw [z] at ps; exact ps
  | stuck => rw [z] at ps; exact ps
  | exc c' fs ρ' st' =>
    rw [z] at ps
    intro σ' cls d I' M' H' es' ft' xr
    obtain ⟨C', nms, dd, vs, h1, h2, h3, h4, h5, h6⟩ := id xr
    refine ⟨decide (c' = c1), by rw [h2]; exact hx1 c' C' nms h1, fun hb a ha => ?_, fun hb => ⟨decide (c' = c2), by rw [h2]; exact hx2 c' C' nms h1, fun hb2 a ha => ?_, fun hb2 => ?_⟩⟩
    · have hcc : c' = c1 := of_decide_eq_true hb
      subst hcc
      simp only [if_true] at ps
      cases zf : f fs with
      | none => rw [zf] at ps; exact False.elim ps
      | some v =>
        rw [zf] at ps
        have hil : i < ρ'.length := by
          by_cases hil : i < ρ'.length
          · exact hil
          · simp only [if_neg hil] at ps; exact False.elim ps
        simp only [if_pos hil] at ps
        refine ⟨Z, ρ'.set i none, st', I', M', fs, v, ft'.setNone i _, fun k hk => ?_, xr, zf, fun xv I2 H2 g2 k2 r2 => ?_⟩
        · cases hk
          exact List.getElem?_set_self (by rw [← ft'.len]; exact hil)
        · have f2 := ((ft'.setNone i (some (.ref a))).grow g2 k2 ft'.rs).set j1 (show VR X.K I2 M' H2 xv (.d v) from r2) rfl
          have f3 := f2.setNone i none
          have e9 : (((ρ'.set i none).set j1 (some (.d v))).set i none) = ((ρ'.set j1 (some (.d v))).set i none) := by
            rw [List.set_comm _ _ hij, List.set_set]
          rw [e9] at f3
          exact ps _ I2 M' H2 (es'.trans g2.i) f3
    · have hn1 : ¬ c' = c1 := of_decide_eq_false hb
      have hcc : c' = c2 := of_decide_eq_true hb2
      subst hcc
      simp only [if_neg hn1, if_true] at ps
      exact ⟨Z, ρ', st', I', M', fs, w, ft', (fun k hk => nomatch hk), xr, rfl, fun xv I2 H2 g2 k2 r2 => ps _ I2 M' H2 (es'.trans g2.i) ((ft'.grow g2 k2 ft'.rs).set j2 (show VR X.K I2 M' H2 xv (.d w) from r2) rfl)⟩
    · have hn1 : ¬ c' = c1 := of_decide_eq_false hb
      have hn2 : ¬ c' = c2 := of_decide_eq_false hb2
      simp only [if_neg hn1, if_neg hn2] at ps
      exact ps σ' cls d I' M' H' es' ft' xr
end
end Dl
set_option maxRecDepth 100000
set_option maxHeartbeats 4000000
namespace Dl
open PySem L2 PySem.Spec PyProof.Rows
/-! ### an except clause by a written tuple of classes -/
section
variable {Mo : Model} {A : Around} {E : Value → Shared → Prop} {s : Shared}
theorem each_ok {f : Value → PUnit → Sem (ForInStep PUnit)} {Q : PUnit → Shared → Prop} : ∀ {l : List Value}, (∀ c ∈ l, ∀ R : ForInStep PUnit → Shared → Prop, R (.yield ⟨⟩) s → wpAny Mo A (f c ⟨⟩) R E s) →
    Q ⟨⟩ s → wpAny Mo A (forIn l PUnit.unit f) Q E s
  | [], _, q => wpAny_pure q
  | c :: l, hf, q => by
    simp only [List.forIn_cons]
    exact wpAny_bind (hf c List.mem_cons_self _ (each_ok (fun c' h => hf c' (List.mem_cons_of_mem _ h)) q))
theorem find_ok {g : Value → Bool} {f : Value → Option Bool × Unit → Sem (ForInStep (Option Bool × Unit))} {Q : Option Bool × Unit → Shared → Prop} : ∀ {l : List Value},
    (∀ c ∈ l, ∀ R : ForInStep (Option Bool × Unit) → Shared → Prop, R (if g c = true then .done (some true, ()) else .yield (none, ())) s → wpAny Mo A (f c (none, ())) R E s) →
    Q (if l.any g = true then some true else none, ()) s → wpAny Mo A (forIn l ((none, ()) : Option Bool × Unit) f) Q E s
  | [], _, q => wpAny_pure q
  | c :: l, hf, q => by
    simp only [List.forIn_cons]
    refine wpAny_bind (hf c List.mem_cons_self _ ?_)
    cases h : g c with
    | true =>
      rw [if_pos rfl]
      rw [List.any_cons, h, Bool.true_or, if_pos rfl] at q
      exact wpAny_pure q
    | false =>
      rw [if_neg Bool.false_ne_true]
      rw [List.any_cons, h, Bool.false_or] at q
      exact find_ok (fun c' hc' => hf c' (List.mem_cons_of_mem _ hc')) q
end
theorem exm_list {Mo : Model} {K : PySem.W.Frag} {cs : List Value} {g : Value → Bool} {cls : Value} {tp e : Addr} {h : Heap} {ot : Obj} {n : Nat} (X : K.In h) (LT : PySem.W.Looks Mo h (typeOf (.ref e)) cls) (hp : h.get? tp = some ot) (hpc : ot.cls = .type "tuple") (hpd : ot.data = .seq cs.toArray n)
    (hx : ∀ c ∈ cs, PySem.W.exmOne K cls c = some (g c)) : PySem.W.Looks Mo h (excMatches (.ref e) (.ref tp)) (cs.any g) := by
  intro A Q E s k₀ q
  obtain ⟨hh, gg, d, tk, os⟩ := s
  have k : ∀ b o, h.get? b = some o → hh.get? b = some o := k₀
  have LT0 : PySem.W.Looks Mo h (isInstance (.ref tp) (.type "tuple")) true := by
    refine PySem.W.Looks.andThen (a := .type "tuple") (fun A Q E s k q => wpAny_typeOf_ref (k _ _ hp) (by rw [hpc]; exact q)) (PySem.W.Looks.of_pure isSubtype_tuple_tuple)
  have LT0 := LT0.keeps k
  have LT := LT.keeps k
  have hp' := k _ _ hp
  unfold excMatches
  refine wpAny_bind (LT0.at ?_)
  dsimp only
  rw [if_pos rfl]
  first
    | refine wpAny_bind (wpAny_seqItems hp' hpd ?_)
    | refine wpAny_bind (wpAny_bind (wpAny_seqItems hp' hpd (wpAny_pure ?_)))
  dsimp only [Option.getD_some, Option.getD]
  refine wpAny_bind (wpAny_pure ?_)
  refine wpAny_bind (each_ok (fun c hc R r => ?_) ?_)
  · obtain ⟨e1, S1⟩ := PySem.W.exm_cls (M := Mo) X (hx c (by simpa using hc))
    have e1 := e1.keeps k
    refine wpAny_bind (e1.at ?_)
    simp only [Bool.not_true, Bool.false_eq_true, if_false]
    first
      | exact wpAny_pure r
      | exact wpAny_bind (wpAny_pure (wpAny_pure r))
  · refine wpAny_bind (LT.at ?_)
    refine wpAny_bind (find_ok (g := g) (fun c hc R r => ?_) ?_)
    · obtain ⟨e1, S1⟩ := PySem.W.exm_cls (M := Mo) X (hx c (by simpa using hc))
      have S1 := S1.keeps k
      refine wpAny_bind (S1.at ?_)
      cases hg : g c with
      | true => rw [hg, if_pos rfl] at r; rw [if_pos rfl]; exact wpAny_pure r
      | false => rw [hg, if_neg Bool.false_ne_true] at r; rw [if_neg Bool.false_ne_true]; first | exact wpAny_pure r | exact wpAny_bind (wpAny_pure (wpAny_pure r))
    · cases ha : cs.any g with
      | true => simp only [ha, if_true]; rw [ha] at q; exact wpAny_pure q
      | false => simp only [ha, Bool.false_eq_true, if_false]; rw [ha] at q; exact wpAny_pure q

/-! ### an object that was not tracked is tracked from now on -/
theorem inv_track {X : Cx} {pins : List (Addr × Obj)} {σ : L2.St} {H : Hp} {s : Shared} {a : Addr} {oe : Obj} {o : HO} (I : Inv X pins σ H s) (ha : s.heap.get? a = some oe) (hd : ∀ v, oe.data ≠ .cell v) (na : H a = none) (nL : a ≠ X.env.locals)
    (nS : X.s_0.heap.get? a = none) (nP : ∀ p ∈ X.pn ++ pins, p.1 ≠ a) (new : ObjOk X.prog X.w (upd H a o) s.heap a o) : Inv X pins σ (upd H a o) s := by
  have k : ∀ b u, H b = some u → upd H a o b = some u := fun b u e => by rw [upd_ne (ne_of_none e na)]; exact e
  have nC : ∀ x c, X.env.cells.lookup x = some c → c ≠ a := fun x c e z => by
    obtain ⟨v, oc, ho, hc⟩ := I.cell x c e
    rw [z, ha] at ho
    cases ho
    exact hd v hc
  refine ⟨I.ok, I.os, I.bare, ⟨I.base.keep, I.base.slot, fun b ob e n hx => ?_, I.base.there, fun b xs e => k _ _ (I.base.tups b xs e), fun b ob u e => k _ _ (I.base.frzs b ob u e), fun b ps e => ?_⟩, I.loc, I.cell, ?_, fun x c e => ?_, fun p hp => ?_, fun b u e => ?_, I.len⟩
  · have hne : b ≠ a := fun z => by rw [z, nS] at e; cases e
    rw [upd_ne hne]
    exact I.base.free b ob e n hx
  · obtain ⟨more, e1⟩ := I.base.tbls b ps e
    exact ⟨more, k _ _ e1⟩
  · rw [upd_ne nL.symm]; exact I.free
  · rw [upd_ne (nC x c e)]; exact I.freeC x c e
  · obtain ⟨e1, e2, e3⟩ := I.pin p hp
    exact ⟨e1, by rw [upd_ne (nP p hp)]; exact e2, e3⟩
  · by_cases hb : b = a
    · subst hb
      rw [upd_same] at e
      cases e
      exact new
    · rw [upd_ne hb] at e
      exact (I.hok b u e).stay (fun _ _ _ q => q) (fun c q => k _ _ q) fun c xs q => k _ _ q
/-- a caught exception: its class, its dict -/
def ExcH (a : Addr) (cls : Value) (d : Option Addr) : HO := .ext fun h => ∃ oe vs, h.get? a = some oe ∧ Zc cls d oe ∧ oe.data = .fields vs
theorem excH_ok {P : Program} {w : World} {H : Hp} {h : Heap} {a : Addr} {cls : Value} {d : Option Addr} {oe : Obj} {vs : Array Value} (e1 : h.get? a = some oe) (e2 : Zc cls d oe) (e3 : oe.data = .fields vs) : ObjOk P w H h a (ExcH a cls d) :=
  ⟨⟨oe, vs, e1, e2, e3⟩, ⟨oe, e1⟩, fun h1 h2 ⟨oe, vs, a1, a2, a3⟩ st => ⟨oe, vs, st _ a1, a2, a3⟩⟩

/-! ### try: .. except (A, B, ..) as n: y = n -/
/-- what is wished of an exception of the body: each is caught, and is y's from then on -/
def wKept (K : PySem.W.Frag) (cs : List Value) (i j len : Nat) (D : Ends) : WX := fun cls d σ H =>
  (∃ g : Value → Bool, (∀ c ∈ cs, PySem.W.exmOne K cls c = some (g c)) ∧ cs.any g = true) ∧
    ∀ a tp, σ.length = len → H a = none → H tp = none → a ≠ tp → D.nx (((σ.set i (some (.ref a))).set j (some (.ref a))).set i none) (upd (upd H tp (.tup (cs.map fun c => match c with | .ref C => V.ref C | _ => V.non))) a (ExcH a cls d))
/-- the classes' names as a written tuple -/
def TupE (X : Cx) (te : Expr) (cs : List Value) : Prop := ∀ (a : Addr) (pn : List (Addr × Obj)), PE (X.suite a pn) te (fun _ H Q => ∀ p, H p = none → Q (.ref p) (upd H p (.tup (cs.map fun c => match c with | .ref C => V.ref C | _ => V.non))))
section
variable {X : Cx} {te : Expr} {cs : List Value} {n y : Str} {i j : Nat} {body : List Stmt} {np pe pos pos' sp py : Pos} {tb : WX → TS}
theorem ps_try_kept (hs : X.stack = X.env :: X.outer) (hf : X.env.frame = some X.env.locals) (hex : X.ex = []) (hN : X.N.Nodup) (hi : X.N[i]? = some n) (hln : X.env.kindOf n = some .local) (hj : X.N[j]? = some y) (hy : Loc X.env.scope y) (hte : TupE X te cs) (hcs : ∀ c ∈ cs, ∃ C, c = .ref C)
    (hb : ∀ (W : WX) (pn : List (Addr × Obj)) (xe : Value → Shared → Prop), Takes (X.tr pn xe) W → PassesOwn (model X.prog X.w) X.A X.env xe → PSs (X.tr pn xe) body (tb W))
    (hsw : swapsWith (.Name n pe) (some (.Name y py)) sp.line X.env = pure false := by rfl) (hfn : X.fn y = true ∨ X.env.scope.names.lookup y = some .local := by first | exact .inl rfl | exact .inr rfl | assumption)
    (hd : (n == ("__debug__" : Str)) = false := by decide) (hcd : (n == ("__classdict__" : Str)) = false := by decide) :
    PS X (.Try body [.ExceptHandler (some te) (some n) [.Assign [.Name y py] (.Name n pe) sp] pos'] [] [] pos) (fun D σ H => tb (wKept X.K cs i j X.N.length D) D σ H) := by
  refine ⟨fun pins s σ H D I h => ?_⟩
  have ok := I.ok
  have hfr : X.A.frames = some (X.env :: X.outer) := by rw [ok.frames, hs]
  refine wpAny_Try_except ?_
  refine wpAny_mono (PSs.run (hb (wKept X.K cs i j X.N.length D) (X.pn ++ pins) (fun e s₁ => wpAny (model X.prog X.w) X.A (noteFrame e X.env) (fun _ s₂ => wpAny (model X.prog X.w) X.A (setFlight e none) (fun _ s₃ =>
    wpAny (model X.prog X.w) X.A (handleBy e X.env [.ExceptHandler (some te) (some n) [.Assign [.Name y py] (.Name n pe) sp] pos']) (SP X pins D) X.xe s₃) X.xe s₂) X.xe s₁) (fun u s' xx => ?_) PassesOwn.looking) [] s σ H D (I.toTry _) h) (fun f s1 hsp => ?_) (fun e s1 he => he)
  · obtain ⟨a, B, sI, pins', σ', H', cls, d, rfl, J', nb, up, sky, na, os, ag, ⟨g, hg1, hg2⟩, hnx⟩ := xx
    have J : Inv X pins σ' H' sI := J'.ofTry ok
    have sky' : Sky B (X.env :: X.outer) a (Zc cls d) X.env.locals s'.heap := by rw [← hs]; exact sky
    show wpAny (model X.prog X.w) X.A (noteFrame (.ref a) X.env) _ _ _
    refine Sky.land Zc.steady hfr hf sky' fun h3 fl3 up3 => ?_
    have J3 : Inv X pins σ' H' { s' with heap := h3 } := J.landed nb fl3.1 (up.trans up3) os ag
    obtain ⟨k1, nBa, ff, oe, vs, T, oT, ts, he, hz, hd0, h1, nBT, hTe, hT, hdT, h3T⟩ := id fl3
    -- neither the exception nor its trace is a frame, or stood there before
    have noFr : ∀ {b : Addr} {o : Obj} {us : Array Value}, h3.get? b = some o → o.data = .fields us → b ≠ X.env.locals ∧ b ∉ X.fs := fun {b o us} e dd => by
      have q : b ∉ frs (X.env :: X.outer) := fun hm => by
        obtain ⟨_, o', e', hnf⟩ := ff.mem hm
        rw [e] at e'
        cases e'
        exact hnf _ dd
      refine ⟨fun z => q (List.mem_filterMap.mpr ⟨X.env, List.mem_cons_self, by rw [hf, z]⟩), fun hm => ?_⟩
      obtain ⟨e, he, qq⟩ := List.mem_filterMap.mp hm
      exact q (List.mem_filterMap.mpr ⟨e, List.mem_cons_of_mem _ he, qq⟩)
    obtain ⟨aL, aF⟩ := noFr he hd0
    obtain ⟨tL, tF⟩ := noFr hT hdT
    have out : ∀ {b : Addr}, B.get? b = none → b ≠ X.env.locals → b ∉ X.fs → sI.heap.get? b = none := fun {b} e1 e2 e3 => by
      cases q : sI.heap.get? b with
      | none => rfl
      | some o =>
        have z := nb b o q fun hm => by
          rcases List.mem_cons.mp (J.stkSub b hm) with w | w
          · exact e2 w
          · exact e3 w
        rw [e1] at z
        cases z
    have nT : H' T = none := by
      cases q : H' T with
      | none => rfl
      | some u =>
        obtain ⟨o', e⟩ : ∃ o', sI.heap.get? T = some o' := by
          have := (J.hok T u q).lt
          cases w : sI.heap.get? T with
          | some o' => exact ⟨o', rfl⟩
          | none =>
            have z := (J.inGround nb T u q).lt
            obtain ⟨_, hx⟩ : ∃ x, B.get? T = some x := by
              have hq := J.inGround nb T u q
              have hok3 := J3.hok T u q
              cases u with
              | lst xs => obtain ⟨_, _, _, _, e⟩ := hq; exact ⟨_, e⟩
              | tup xs => obtain ⟨_, _, _, o, e, _⟩ := hq; exact ⟨_, e⟩
              | dK kvs => obtain ⟨_, _, _, _, o, _, _, e, _⟩ := hq; exact ⟨_, e⟩
              | dT kvs => obtain ⟨_, _, _, _, o, _, _, e, _⟩ := hq; exact ⟨_, e⟩
              | set S n => obtain ⟨o, _, _, _, e, _⟩ := hq; exact ⟨_, e⟩
              | ins C dx fs => obtain ⟨_, _, _, e, _⟩ := hq; exact ⟨_, e⟩
              | own y => exact hq
              | xd fs => obtain ⟨_, ⟨_, _, _, e, _⟩, _⟩ := hq; exact ⟨_, e⟩
              | rng lo hi => obtain ⟨_, _, _, e⟩ := hq; exact ⟨_, e⟩
              | frz ob u => obtain ⟨e, _⟩ := hq; exact ⟨_, e⟩
              | tbl ps => exact ⟨_, hq⟩
              | met f y => exact ⟨_, hq⟩
              | ext φ => obtain ⟨_, e, _⟩ := hq; exact e
            rw [nBT] at hx
            cases hx
        rw [out nBT tL tF] at e
        cases e
    have S3 : Inv (X.suite a ((a, oe) :: (T, oT) :: (X.pn ++ pins))) [] σ' H' { s' with heap := h3 } :=
      ⟨J3.ok.suite _ _, J3.os, J3.bare, J3.base, J3.loc, J3.cell, J3.free, J3.freeC, fun p hp => by
        have hp' : p ∈ (a, oe) :: (T, oT) :: (X.pn ++ pins) := by rw [List.append_nil] at hp; exact hp
        rcases List.mem_cons.mp hp' with e | hp'
        · rw [e]; exact ⟨he, na, aL, aF, fun v z => by rw [hd0] at z; cases z⟩
        · rcases List.mem_cons.mp hp' with e | hp'
          · rw [e]; exact ⟨hT, nT, tL, tF, fun v z => by rw [hdT] at z; cases z⟩
          · exact J3.pin p hp', J3.hok, J3.len⟩
    refine wpAny_handleBy_cons (codeAny_handlers_test ?_) (by intro q; cases q)
    refine wpAny_mono ((hte a _).run [] _ σ' H' (fun v H4 => ∃ p, v = .ref p ∧ H' p = none ∧ H4 = upd H' p (.tup (cs.map fun c => match c with | .ref C => V.ref C | _ => V.non))) S3 fun p hp => ⟨p, rfl, hp, rfl⟩) (fun u s4 ⟨v, H4, S4, rv, p, ev, hp, eH⟩ => ?_) (fun _ _ z => False.elim z)
    subst ev
    obtain rfl : u = Value.ref p := rv
    subst eH
    obtain ⟨he4, na4, _⟩ := S4.pin (a, oe) (List.mem_append_left _ List.mem_cons_self)
    obtain ⟨hT4, nT4, _⟩ := S4.pin (T, oT) (List.mem_append_left _ (List.mem_cons_of_mem _ List.mem_cons_self))
    have hap : a ≠ p := fun z => by rw [z, upd_same] at na4; cases na4
    obtain ⟨_, its, rits, ot, hpt, hpc, nn, hpd⟩ := S4.hok p _ upd_same
    have hits : its = cs := by
      have key : ∀ (cs its : List Value), (∀ c ∈ cs, ∃ C, c = Value.ref C) → Vals (cs.map fun c => match c with | .ref C => V.ref C | _ => V.non) its → its = cs := by
        intro cs
        induction cs with
        | nil => intro its _ r; cases r; rfl
        | cons c cs ih =>
          intro its hc r
          obtain ⟨C, rfl⟩ := hc c List.mem_cons_self
          cases r with
          | cons r1 r2 =>
            obtain rfl := (show _ = Value.ref C from r1)
            rw [ih _ (fun c' h' => hc c' (List.mem_cons_of_mem _ h')) r2]
      exact key cs its hcs rits
    subst hits
    have LT : PySem.W.Looks (model X.prog X.w) s4.heap (typeOf (.ref a)) cls := fun A Q E s k q => wpAny_typeOf_ref (k _ _ he4) (by rw [hz.1]; exact q)
    have LM := exm_list (Mo := model X.prog X.w) S4.kIn LT hpt hpc hpd hg1
    rw [hg2] at LM
    refine LM.here ?_
    refine codeAny_handlers_suite_as ?_
    unfold setFlight
    have hsz3 : 3 < ts.size := (Array.getElem?_eq_some_iff.mp h3T).1
    refine wpAny_bind (wpAny_field he4 hd0 h1 ?_)
    rw [if_pos (show (Value.ref T != Value.none) = true from by simp)]
    refine wpAny_setField hT4 hdT hsz3 ?_
    have S5 := S4.kept (t' := s4.toks) (h' := s4.heap.update T (Obj.mapFields (·.setIfInBounds 3 ((none : Option Addr).elim Value.none fun f => rawInt f)))) fun b o e => by
      by_cases hb : b = T
      · subst hb
        rw [hT4] at e
        cases e
        refine (Heap.get?_update_self _ hT4 (Obj.isFreed_of_fields (Obj.data_mapFields hdT _))).trans ?_
        have ets : ts.setIfInBounds 3 Value.none = ts := by
          apply Array.ext_getElem?
          intro m
          by_cases hm : m = 3
          · subst hm
            simp [hsz3]
            exact (Array.getElem?_eq_some_iff.mp h3T).2.symm
          · simp [Array.getElem?_setIfInBounds, Ne.symm hm]
        have eo : oT.mapFields (·.setIfInBounds 3 ((none : Option Addr).elim Value.none fun f => rawInt f)) = oT := by
          obtain ⟨c0, d0, dt0, sl0⟩ := oT
          have : dt0 = .fields ts := hdT
          subst this
          show Obj.mk c0 d0 (.fields (ts.setIfInBounds 3 Value.none)) sl0 = _
          rw [ets]
        rw [eo]
      · exact (Heap.get?_update_other _ _ (Ne.symm hb)).trans e
    have hsuit := pss_one (ps_set (X := X.suite a ((a, oe) :: (T, oT) :: (X.pn ++ pins))) (i := j) (pos := sp) hN hj hy (pe_var (pos := pe) (i := i) hi (Or.inl hln) hd hcd) hsw hfn)
    refine store_ok (X := X.suite a ((a, oe) :: (T, oT) :: (X.pn ++ pins))) (v := .ref a) S5 hN hi (.inl hln) rfl (fun s5 S5 => ?_) (.inr hln)
    refine wpAny_mono (hsuit.run [] s5 _ _ { nx := fun σ6 H6 => σ6 = (σ'.set i (some (.ref a))).set j (some (.ref a)) ∧ H6 = upd H' p (.tup (its.map fun c => match c with | .ref C => V.ref C | _ => V.non)), rt := fun _ _ => False } S5 ?_) (fun f s6 hsp => ?_) (fun _ _ z => False.elim z)
    · refine ⟨.ref a, ?_, rfl, rfl⟩
      have hil : i < σ'.length := by rw [J.len]; exact (List.getElem?_eq_some_iff.mp hi).1
      exact List.getElem?_set_self hil
    cases f with
    | next =>
      obtain ⟨σ6, H6, S6, e6, eH6⟩ := hsp
      subst e6 eH6
      refine gone_ok (X := X.suite a ((a, oe) :: (T, oT) :: (X.pn ++ pins))) S6 hN hi hln fun s7 S7 => ?_
      have S8 : Inv X pins _ _ s7 := ⟨ok, S7.os, S7.bare, S7.base, S7.loc, S7.cell, S7.free, S7.freeC, fun p hp => S7.pin p (List.mem_append_left _ (List.mem_cons_of_mem _ (List.mem_cons_of_mem _ hp))), S7.hok, S7.len⟩
      obtain ⟨he7, na7, _⟩ := S7.pin (a, oe) (List.mem_append_left _ List.mem_cons_self)
      have nIa := out nBa aL aF
      refine ⟨_, _, inv_track (o := ExcH a cls d) S8 he7 (fun v z => by rw [hd0] at z; cases z) na7 aL ?_ (fun q hq z => ?_) (excH_ok he7 hz hd0), hnx a p J.len na hp hap⟩
      · cases w : X.s_0.heap.get? a with
        | none => rfl
        | some o =>
          obtain ⟨o', e1⟩ := J.base.there a o w (by rw [hex]; exact fun h => nomatch h)
          rw [nIa] at e1
          cases e1
      · obtain ⟨e1, _⟩ := J.pin q hq
        rw [z, nIa] at e1
        cases e1
    | brk =>
      obtain ⟨σ6, H6, S6, q6⟩ := hsp
      exact False.elim q6
    | cont =>
      obtain ⟨σ6, H6, S6, q6⟩ := hsp
      exact False.elim q6
    | ret u =>
      obtain ⟨v6, σ6, H6, S6, r6, q6⟩ := hsp
      exact False.elim q6
  · cases f with
    | next =>
      obtain ⟨σ', H', J', q⟩ := hsp
      exact wpAny_execs_nil ⟨σ', H', J'.ofTry ok, q⟩
    | brk =>
      obtain ⟨σ', H', J', q⟩ := hsp
      exact ⟨σ', H', J'.ofTry ok, q⟩
    | cont =>
      obtain ⟨σ', H', J', q⟩ := hsp
      exact ⟨σ', H', J'.ofTry ok, q⟩
    | ret u =>
      obtain ⟨v, σ', H', J', r, q⟩ := hsp
      exact ⟨v, σ', H', J'.ofTry ok, r, q⟩
end
end Dl
set_option maxRecDepth 100000
set_option maxHeartbeats 4000000
namespace Dl
open PySem L2 PySem.Spec PyProof.Rows LamX
/-! ### a lambda is made: its maker's table is as it was, or has one code object more -/
inductive LamStep (H : Hp) (P : Addr) (q : Str) : Hp → Prop
  | hit : LamStep H P q H
  | new {ps : Array Value} {c : Addr} {p : Pos} (hP : H P = some (.tbl ps)) (ht : TriplesOk ps.toList) (hc : H c = none) : LamStep H P q (upd (upd H P (.tbl (ps ++ #[rawInt p.line, rawInt p.col, .ref c]))) c (CodeO c q))
section
variable {X : Cx} {pins : List (Addr × Obj)} {σ : L2.St} {H : Hp} {s : Shared}
theorem lam_made {c P : Addr} {params : Arguments} {body : Expr} {scope : Scope} {pos : Pos} {E Q : Value → Shared → Prop} (I : Inv X pins σ H s) (TB : TabB X.base X.mg c P) (hcode : X.env.code = .ref c)
    (hT : TabS H P (X.env.qual ++ "<lambda>")) (hdef : defaultsOf params X.env = ([], [])) (hfree : ∀ y ∈ scope.names, y.2 = .free → ∃ c, X.env.cells.lookup y.1 = some c)
    (h : ∀ (f c' : Addr) (pm ctv : Value) (H1 : Hp) (s' : Shared), Inv X pins σ H1 s' → LamStep H P (X.env.qual ++ "<lambda>") H1 → H1 f = none → f ∉ frs X.stack → H1 c' = some (CodeO c' (X.env.qual ++ "<lambda>")) →
      s'.heap.get? f = some (PySem.W.kla_obj "<lambda>" (X.env.qual ++ "<lambda>") params body scope (cloFrom X.env.cells scope.names []) pm c' ctv) → Q (.ref f) s') :
    wpAny (model X.prog X.w) X.A (eval (.Lambda params body scope pos) X.env) Q E s := by
  obtain ⟨ps, hP, ht, known⟩ := hT
  have atP : s.heap.get? P = some { cls := .none, data := .fields ps } := I.hok P _ hP
  have bP : s.heap.BuiltinsAt X.mg P := TB.bm.keeps I.bk
  have fresh : ∀ f, s.heap.objs.size ≤ f → f ∉ frs X.stack := fun f hf z => by
    have z' := I.stkSub _ z
    rw [List.mem_cons] at z'
    cases z' with
    | inl e => exact absurd (Nat.lt_of_lt_of_le I.lt (e ▸ hf)) (Nat.lt_irrefl _)
    | inr e => exact I.nofs hf e
  refine PySem.W.kla_eval hdef ?_
  match hc : codeAmong pos ps.toList with
  | some cv =>
    obtain ⟨c', rfl, hco⟩ := known pos cv hc
    refine PySem.W.kla_makeFunctionHit (mg := X.mg) (c := c) (P := P) (ps := ps) (closure_ok hfree) I.ok.glob (I.mod.glob.keeps I.bk) hcode (TB.code.keeps I.bk) atP ht hc bP fun ctv h' tk hx hsz => ?_
    exact h h'.objs.size c' _ ctv H _ (I.kept (t' := tk) fun b o e => Heap.get?_push_of_some _ (hx b o e)) .hit (I.hok.fresh hsz) (fresh _ hsz) hco (Heap.get?_push_size _ rfl)
  | none =>
    refine PySem.W.kla_makeFunction (mg := X.mg) (c := c) (P := P) (ps := ps) (closure_ok hfree) I.ok.glob (I.mod.glob.keeps I.bk) hcode (TB.code.keeps I.bk) atP ht hc TB.gP bP fun c' ctv h' tk hx hge hlt hrec htb => ?_
    obtain ⟨c2, oc, us, t, e2, hoc, hd, hv⟩ := hrec
    cases e2
    have nC : H c' = none := I.hok.fresh hge
    have hsz : s.heap.objs.size ≤ h'.objs.size := Nat.le_trans hge (Nat.le_of_lt hlt)
    have I1 := inv_table (t' := tk) (more := #[rawInt pos.line, rawInt pos.col, .ref c']) (q := X.env.qual ++ "<lambda>") (h' := h'.push (PySem.W.kla_obj "<lambda>" (X.env.qual ++ "<lambda>") params body scope (cloFrom X.env.cells scope.names []) ((X.mg "__name__").getD .none) c' ctv)) I hP
      (fun b o hb e => Heap.get?_push_of_some _ (hx b o hb e)) (Heap.get?_push_of_some _ htb) hge ⟨oc, us, t, Heap.get?_push_of_some _ hoc, hd, hv⟩
    refine h h'.objs.size c' _ ctv _ _ I1 (.new hP ht nC) ?_ (fresh _ hsz) upd_same (Heap.get?_push_size _ rfl)
    rw [upd_ne (Nat.ne_of_gt hlt), upd_ne (Nat.ne_of_gt (Nat.lt_of_lt_of_le (Heap.lt_size atP) hsz))]
    exact I.hok.fresh hsz
/-- the lambda at f is called, in a def that was entered at s -/
theorem lam_called {CXg : CXT} {Eg : XK} {Ng : List Str} {qg : Str} {sg : Scope} {g f c' : Addr} {cdg pm ctv : Value} {params : Arguments} {body : Expr} {scope : Scope} {k i : Nat} {a : Str} {pn : List (Addr × Obj)} {xe : Value → Shared → Prop} {W : WX} {E : XK} {tb : TE} {p1 p2 : Pos}
    (I : Inv X pins σ H s) (L : LamS X.env.scope scope) (hf : s.heap.get? f = some (PySem.W.kla_obj "<lambda>" (X.env.qual ++ "<lambda>") params body scope (cloFrom X.env.cells scope.names []) pm c' ctv)) (hfn : H f = none) (hfr : f ∉ frs X.stack)
    (hbind : bindArgs (PySem.W.kla_fn "<lambda>" (X.env.qual ++ "<lambda>") params body scope (cloFrom X.env.cells scope.names []) pm (.ref c') ctv) ⟨[], []⟩ = pure [])
    (tk : Takes ((cxOf CXg X.prog X.w X.K X.mg X.base Ng qg sg g cdg X.A X.stack s H Eg).tr pn xe) W) (hW : ∀ cls d σ' H', E cls d H' → W cls d σ' H') (hr : Room (k + 1) (X.A.deeper (envOfC qg sg s.heap.objs.size g cdg))) (hgd : X.A.guards = some [])
    (hbody : ∀ (A : Around) (outer : List Env) (s : Shared) (H : Hp), Room k (A.deeper (lamEnv X scope s.heap.objs.size f c')) → A.guards = some [] → PE (lamCx X A outer s H E scope f c') body tb)
    (hN : Ng[i]? = some a) (hv : Vis sg a) (hd : (a == ("__debug__" : Str)) = false := by decide) (hcd : (a == ("__classdict__" : Str)) = false := by decide) :
    PE ((cxOf CXg X.prog X.w X.K X.mg X.base Ng qg sg g cdg X.A X.stack s H Eg).tr pn xe) (.Call (.Name a p1) [] [] p2) (fun σZ HZ Q => σZ[i]? = some (some (.ref f)) ∧ HZ c' = some (CodeO c' (X.env.qual ++ "<lambda>")) ∧ tb σ HZ Q) := by
  refine ⟨fun pinsZ sZ σZ HZ Q IZ ⟨hs, hc, ht⟩ => wpAny_Call_Name_kw (thn (PE.run (pe_var (pos := p1) (i := i) hN hv hd hcd) pinsZ sZ σZ HZ (fun v H1 => v = .ref f ∧ H1 = HZ) IZ ⟨.ref f, hs, rfl, rfl⟩) ?_)⟩
  rintro u s1 ⟨v, H1, I1, r1, ev, eH⟩
  subst ev eH
  cases (show u = Value.ref f from r1)
  have un : Un (frs X.stack) [] H H1 s.heap s1.heap := I1.base
  have of1 := un.keep f _ hf hfn hfr (fun z => nomatch z)
  obtain ⟨⟨oc, vs, t, hoc, hdc, hvc⟩, _, _⟩ := I1.hok c' _ hc
  refine PySem.W.callWith_F0 ⟨_, _, _, _, of1⟩ (wpAny_call (codeAny_mono (R := CR (L2.CX X.prog X.w) (envOfC qg sg s.heap.objs.size g cdg :: X.stack) X.prog X.w H1 s1 Q E) ?_ fun r s' hq => ?_))
  · refine PySem.W.kla_callFunE hr.depth of1 rfl L.co L.gen rfl ⟨c', oc, vs, t, rfl, hoc, hdc, hvc⟩ ?_
    refine wpAny_of_eq hbind ?_
    refine (wpAny_newFunctionEnv (fun y hy => (L.own y hy).2) (fun y hy => absurd hy (by simp)) (fun h₁ hns hsb => ⟨I1.nolimit.fresh _ hsb, ?_⟩) L.kind)
    have kp : ∀ b o, s1.heap.get? b = some o → h₁.get? b = some o := fun b o e => hsb.extBut b o (Nat.ne_of_lt (Heap.lt_size e)) (Heap.get?_push_of_some _ e)
    have J := lam_start2 (A := X.A.deeper (envOfC qg sg s.heap.objs.size g cdg)) (outer := envOfC qg sg s.heap.objs.size g cdg :: X.stack) (E := E) (tk := s1.toks + ([] : List (Str × Value)).length) (f := f) (c' := c') I L I1.env0 hr.hd un hns kp
    refine PySem.W.kla_codeExpr (wpAny_mono (PE.run (hbody _ _ s1 H1 (hr.deeper _) hgd) [] _ _ H1 Q J ht) ?_ fun e s' hq => hq)
    rintro v s' ⟨w', H', J', rv, q⟩
    exact ⟨w', H', J'.os, J'.bare, J'.base, J'.hok, rv, q⟩
  · match r, hq with
    | .ok (.ret u), hq => exact I1.after hq
    | .error e, hq => exact passes_call tk hW pinsZ σZ H1 s1 e s' I1 hq
end
/-- what a def makes of the lambda that it got -/
def tLamG (P : Addr) (q : Str) (TT : (XK → Hp → VK → Prop) → Hp → VK → Prop) (t : XK → TE) : TE := fun σ H Q => TabS H P q ∧ ∀ H1, LamStep H P q H1 → TT (fun E H' Q' => t E σ H' Q') H1 Q
/-- x(lambda: body) -/
theorem pe_lamG {X : Cx} {TT : (XK → Hp → VK → Prop) → Hp → VK → Prop} {x a : Str} {g c P : Addr} {k : Nat} {pg : Arguments} {bg : List Stmt} {sg : Scope} {dV kV doc pm cdv ct oc : Value} {an od : Option Addr} {osl : Array (Option Value)} {Ng : List Str}
    {params : Arguments} {body : Expr} {scope : Scope} {t : XK → TE} {p lpos pos : Pos} (hg : Gl X x) (hm : X.mg x = some (.ref g)) (hk : PySem.W.keepIn X.K (.ref g) = true)
    (lk : X.K.lookup g = some ⟨oc, od, .func (PySem.W.fnOf x x pg bg sg dV kV doc pm an cdv ct), osl⟩) (hcg : PySem.W.codeIn X.K cdv x = true) (hb : L2.Binds X.K (PySem.W.fnOf x x pg bg sg dV kV doc pm an cdv ct) [a] []) (Sg : FnScope Ng [a] sg) (hNg : Ng[0]? = some a) (hva : Vis sg a)
    (hG : X.A.guards = some [] → GivesTo X Ng x sg g cdv bg a (X.env.qual ++ "<lambda>") TT) (TB : TabB X.base X.mg c P) (hcode : X.env.code = .ref c) (hr : Room (k + 2) X.A) (hgd : X.A.guards = some []) (L : LamS X.env.scope scope) (hdef : defaultsOf params X.env = ([], []))
    (hbind : ∀ (q : Str) (cl : List (Str × Addr)) (pm cv ctv : Value), bindArgs (PySem.W.kla_fn "<lambda>" q params body scope cl pm cv ctv) ⟨[], []⟩ = pure [])
    (hbody : ∀ (A : Around) (outer : List Env) (s : Shared) (H : Hp) (E : XK) (f c' : Addr), Room k (A.deeper (lamEnv X scope s.heap.objs.size f c')) → A.guards = some [] → PE (lamCx X A outer s H E scope f c') body (t E))
    (hdb : (x == ("__debug__" : Str)) = false := by decide) (hd : (a == ("__debug__" : Str)) = false := by decide) (hcd : (a == ("__classdict__" : Str)) = false := by decide) :
    PE X (.Call (.Name x p) [.Lambda params body scope lpos] [] pos) (tLamG P (X.env.qual ++ "<lambda>") TT t) := by
  refine ⟨fun pins s σ H Q I ⟨hT, h⟩ => wpAny_Call_Name_kw (ld_glob I hg hm ?_ hdb)⟩
  refine PySem.W.callWith_K (h₀ := X.base) I.ok.mod.kin hk ?_ (by rfl) (by rfl)
  refine Calls.spliced_cons (lam_made I TB hcode hT hdef (L.has I.ok) fun f c' pm' ctv H1 s' I1 hstep hfn hfr hco hf => Calls.spliced_nil ⟨I1.kIn, ?_⟩)
  refine wpAny_call (codeAny_mono (R := CR C8.CX0 X.stack X.prog X.w H1 s' Q C8.E0) ?_ fun r s2 hq => ?_)
  · refine run_ofS (N := Ng) (ps := [a]) (us := [.ref f]) (vs := [.ref f]) lk hcg Sg hr I1.env0 (hb s' [.ref f] I1.kIn rfl) (.cons rfl .nil) rfl fun hr' => ?_
    obtain ⟨t', ht', hq'⟩ := hG hgd f c' s' H1 Q (fun E H' Q' => t E σ H' Q') (fun W pn xe E p1 p2 tk hW => lam_called (i := 0) I1 L hf hfn hfr (hbind _ _ _ _ _) tk hW hr' hgd (fun A outer s H hr2 hgd2 => hbody A outer s H E f c' hr2 hgd2) hNg hva hd hcd) hco (h H1 hstep)
    exact ⟨t', ht'.nox, hq'⟩
  · match r, hq with
    | .ok (.ret u), hq => exact I1.after hq
    | .error e, hq => exact (show False from hq).elim
/-- the world goes on -/
theorem LamStep.grow {K : PySem.W.Frag} {tb : List (Addr × Str)} {I : Hp} {M : Mw} {H H1 : Hp} {st : DS} {P : Addr} {q : Str} (S : LamStep H P q H1) (ok : Ok I M H) (rd : RD K tb st M) (hm : (P, q) ∈ tb) (hu : ∀ p ∈ tb, p.1 = P → p.2 = q) :
    ∃ M1, Grow I M H I M1 H1 ∧ Ok I M1 H1 ∧ RD K tb st M1 := by
  cases S with
  | hit => exact ⟨M, Grow.refl _ _ _, ok, rd⟩
  | @new ps c p hP ht hc =>
    obtain ⟨ps', hP', ht', kn⟩ := rd.tab _ hm
    have e := ok.mh _ _ hP'
    rw [hP] at e
    cases e
    have mC : M.h c = none := ok.mh.free hc
    have nPc : P ≠ c := ne_of_none hP hc
    have iP : I P = none := by
      cases z : I P with
      | none => rfl
      | some u => exact absurd hP' (by rw [ok.dj P (ne_none_of z)]; exact fun z => nomatch z)
    have at_ : ∀ (G : Hp) b, b ≠ P → b ≠ c → upd (upd G P (.tbl (ps ++ #[rawInt p.line, rawInt p.col, .ref c]))) c (CodeO c q) b = G b := fun G b h1 h2 => by rw [upd_ne h2, upd_ne h1]
    have stay : ∀ b o, M.h b = some o → (∀ ps, o ≠ .tbl ps) → upd (upd M.h P (.tbl (ps ++ #[rawInt p.line, rawInt p.col, .ref c]))) c (CodeO c q) b = some o := fun b o e n => by
      rw [at_ M.h b (fun z => by rw [z, hP'] at e; cases e; exact n _ rfl) (ne_of_none e mC)]; exact e
    refine ⟨⟨upd (upd M.h P (.tbl (ps ++ #[rawInt p.line, rawInt p.col, .ref c]))) c (CodeO c q), M.ad⟩, ⟨Same.refl I, fun _ _ z => z, fun b e z => ?_, fun b o e m => ?_, fun b e => ?_, fun _ _ z => z⟩, ⟨fun b o e => ?_, fun b o e => ?_, fun b e => ?_⟩, ?_⟩
    · have hbc : b ≠ c := fun w => e (by rw [w]; exact hc)
      by_cases hb : b = P
      · rw [hb, hP']; exact fun z => nomatch z
      · have z : upd (upd M.h P (.tbl (ps ++ #[rawInt p.line, rawInt p.col, .ref c]))) c (CodeO c q) b ≠ none := z
        rw [at_ M.h b hb hbc] at z; exact z
    · rw [at_ H b (fun w => by rw [w, hP'] at m; cases m) (ne_of_none e hc)]; exact e
    · by_cases hb : b = c
      · rw [hb, upd_same]; exact fun z => nomatch z
      · rw [upd_ne hb]
        by_cases hb2 : b = P
        · rw [hb2, upd_same]; exact fun z => nomatch z
        · rw [upd_ne hb2]; exact e
    · rw [at_ H b (fun w => by rw [w, iP] at e; cases e) (ne_of_none (ok.ih b o e) hc)]; exact ok.ih b o e
    · have e : upd (upd M.h P (.tbl (ps ++ #[rawInt p.line, rawInt p.col, .ref c]))) c (CodeO c q) b = some o := e
      by_cases hb : b = c
      · rw [hb] at e ⊢; rw [upd_same] at e ⊢; exact e
      · rw [upd_ne hb] at e ⊢
        by_cases hb2 : b = P
        · rw [hb2] at e ⊢; rw [upd_same] at e ⊢; exact e
        · rw [upd_ne hb2] at e ⊢; exact ok.mh b o e
    · have n1 : b ≠ c := fun w => e (by rw [w]; exact ok.ih.free hc)
      have n2 : b ≠ P := fun w => e (by rw [w]; exact iP)
      show upd (upd M.h P (.tbl (ps ++ #[rawInt p.line, rawInt p.col, .ref c]))) c (CodeO c q) b = none
      rw [at_ M.h b n2 n1]
      exact ok.dj b e
    · obtain ⟨a, ha, hS⟩ := rd.scr
      refine ⟨⟨a, ha, hS.mono fun o u e => stay _ _ e (fun _ z => nomatch z)⟩, rd.len, rd.off, fun hon => ?_, fun r hr => ?_⟩
      · obtain ⟨m, c', l, e1, d⟩ := rd.dr hon
        exact ⟨m, c', l, e1, ⟨stay _ _ d.hm (fun _ z => nomatch z), stay _ _ d.hc (fun _ z => nomatch z), stay _ _ d.hl (fun _ z => nomatch z), d.ncl, d.lc, d.ll⟩⟩
      · by_cases hb : r.1 = P
        · rw [hu r hr hb, hb]
          refine ⟨_, by show upd (upd M.h P _) c _ P = _; rw [upd_ne nPc, upd_same], ?_, fun p' cv hcv => ?_⟩
          · rw [show (ps ++ #[rawInt p.line, rawInt p.col, Value.ref c]).toList = ps.toList ++ [rawInt p.line, rawInt p.col, .ref c] from by simp]
            exact PySem.TriplesOk_snoc _ _ _ _ ht
          · rw [show (ps ++ #[rawInt p.line, rawInt p.col, Value.ref c]).toList = ps.toList ++ [rawInt p.line, rawInt p.col, .ref c] from by simp] at hcv
            rcases among_app _ ht hcv with z | z
            · obtain ⟨c0, e1, e2⟩ := kn p' cv z
              exact ⟨c0, e1, stay _ _ e2 codeO_ne⟩
            · exact ⟨c, z, upd_same⟩
        · obtain ⟨ps2, a1, a2, a3⟩ := rd.tab r hr
          refine ⟨ps2, ?_, a2, fun p' cv hcv => ?_⟩
          · show upd (upd M.h P _) c _ r.1 = _
            rw [at_ M.h _ hb (ne_of_none a1 mC)]; exact a1
          · obtain ⟨c0, e1, e2⟩ := a3 p' cv hcv
            exact ⟨c0, e1, stay _ _ e2 codeO_ne⟩
end Dl
set_option maxRecDepth 100000
set_option maxHeartbeats 4000000
namespace Dl
open PySem L2 PySem.Spec PyProof.Rows LamX
/-! ### a kept exception: isinstance of it, its fields -/
theorem kit_of_exm {K : PySem.W.Frag} {D C : Addr} {b : Bool} (h : PySem.W.exmOne K (.ref D) (.ref C) = some b) (hne : b = false → D ≠ C) : PySem.W.kitOne K (.ref D) (.ref C) = some b := by
  unfold PySem.W.exmOne at h
  split at h
  · unfold PySem.W.kitOne
    by_cases e : D = C
    · cases b with
      | true => rw [e]; exact if_pos (beq_self_eq_true _)
      | false => exact absurd e (hne rfl)
    · rw [if_neg (fun z => e (Value.ref.inj (beq_iff_eq.mp z)))]
      exact h
  · cases h
section
variable {X : Cx} {pins : List (Addr × Obj)} {σ : L2.St} {H : Hp} {s : Shared}
theorem kept_at {a dd C : Addr} {fs : List (Str × V)} (I : Inv X pins σ H s) (h1 : H a = some (ExcH a (.ref C) (some dd))) (h2 : H dd = some (.xd fs)) :
    ∃ (oe od : Obj) (mA : Str → Option Value), PySem.W.InstAt s.heap a oe C (some od) ∧ (∀ n, RelO (fs.lookup n) (mA n)) ∧ ∀ n, PySem.W.lookIn n od = some (mA n) := by
  obtain ⟨⟨oe, vs, e1, e2, e3⟩, _, _⟩ := I.hok a _ h1
  have hx : ObjOk X.prog X.w H s.heap dd (.xd fs) := I.hok dd _ h2
  obtain ⟨mA, hns, hr⟩ := hx
  obtain ⟨od, ho, hl⟩ := lookIn_ns hns
  exact ⟨oe, od, mA, ⟨e1, e2.1, by unfold PySem.W.notCls; rw [e3] <;> rfl, by rw [e2.2]; exact ho⟩, hr, hl⟩
end
/-- isinstance(e, C), e a kept exception -/
def rIsK (K : PySem.W.Frag) : List V → Hp → VK → Prop := fun xs H Q => ∃ (a D dd C : Addr) (fs : List (Str × V)) (b : Bool), xs = [.ref a, .ref C] ∧ H a = some (ExcH a (.ref D) (some dd)) ∧ H dd = some (.xd fs) ∧ ExcC K D ∧ PySem.W.kitOne K (.ref D) (.ref C) = some b ∧ Q (.bl b) H
theorem call_isK {X : Cx} : CallR X (.builtin "isinstance") (rIsK X.K) := by
  intro pins s σ H xs us Q I r h
  obtain ⟨a, D, dd, C, fs, b, rfl, h1, h2, EC, e, q⟩ := h
  match us, r with
  | [u1, u2], .cons r1 (.cons r2 .nil) =>
    obtain rfl : u1 = Value.ref a := r1
    obtain rfl : u2 = Value.ref C := r2
    obtain ⟨oe, od, mA, J, _, _⟩ := kept_at I h1 h2
    obtain ⟨cd, hc, _⟩ := PySem.W.any_some EC.hd
    exact PySem.W.kia_one (PySem.W.kitx_exc (by rw [hc]; rfl) EC.hg EC.hk EC.hs EC.ha EC.hn EC.ht EC.hm) I.kIn J e (fun z => nomatch z) fun tk => ⟨.bl b, H, I.tok tk, rfl, q⟩
/-- e.f, e a kept exception -/
def tXk (K : PySem.W.Frag) (f : Str) (te : TE) : TE := fun σ H Q => te σ H fun x H1 => ∃ (a C dd : Addr) (fs : List (Str × V)) (v : V), x = .ref a ∧ H1 a = some (ExcH a (.ref C) (some dd)) ∧ H1 dd = some (.xd fs) ∧ XfC K C ∧ PySem.W.findIn K (.ref C) f = some none ∧ fs.lookup f = some v ∧ Q v H1
theorem pe_xk {X : Cx} {e : Expr} {te : TE} {n : Str} {pos : Pos} (he : PE X e te) (hb : attributeBase e n X.env (eval e X.env) = eval e X.env := by rfl) : PE X (.Attribute e n pos) (tXk X.K n te) := by
  refine ⟨fun pins s σ H Q I h => attr_of hb (thn (he.run pins s σ H _ I h) fun u s1 hh => ?_)⟩
  obtain ⟨x, H1, I1, rx, a, C, dd, fs, v, ex, h1, h2, T, hno, l, q⟩ := hh
  subst ex
  obtain rfl : u = Value.ref a := rx
  obtain ⟨oe, od, mA, J, hr, hl⟩ := kept_at I1 h1 h2
  obtain ⟨u, hu, ru⟩ := RelO.some_of (v := v) (o := mA n) (by rw [← l]; exact hr n)
  exact HandSPX.exc_get I1.kIn J T.ga T.gg T.exC (PySem.W.findObj_own T.hdC hno rfl (by rw [hl, hu])) (handed_of ru) ⟨v, H1, I1.tok _, ru, q⟩

/-! ### the laws' own table of refusals -/
def fltNm : Nat → Str
  | 0 => "BadLoops" | 1 => "BadLengths" | 2 => "BadPedal" | 3 => "BadRow" | 4 => "BadPaper" | 5 => "BadText" | 6 => "OutOfPlace" | 7 => "TooGreat" | _ => "Nothing"
def fltFs : Nat → List Str
  | 4 => ["part"] | 5 => ["word", "line"] | 6 => ["text"] | 7 => ["most"] | 8 => ["text"] | _ => ["place"]
/-- what a refusal is told as -/
def tell : Nat → List PyData → Option PyData
  | 0, [p] => some (.tuple [.str "loops", p])
  | 1, [p] => some (.tuple [.str "lengths", p])
  | 2, [p] => some (.tuple [.str "pedal", p])
  | 3, [p] => some (.tuple [.str "row", p])
  | 4, [p] => some (.tuple [.str "paper", p])
  | 5, [w, l] => some (.tuple [.str "text", l, w])
  | 6, [_] => some (.tuple [.str "place", .none])
  | 7, [m] => some (.tuple [.str "great", m])
  | 8, [_] => some (.tuple [.str "nothing", .none])
  | _, _ => none
structure FltT (K : PySem.W.Frag) (mg : Str → Option Value) (cl : Nat → Option (Addr × List Str)) where
  C : Nat → Addr
  m : ∀ i, i < 9 → mg (fltNm i) = some (.ref (C i))
  hcl : ∀ i D nms, cl i = some (D, nms) → i < 9 ∧ D = C i ∧ nms = fltFs i
  ec : ∀ i D nms, cl i = some (D, nms) → ExcC K D ∧ XfC K D ∧ ∀ n ∈ nms, PySem.W.findIn K (.ref D) n = some none
  exm : ∀ i D nms, cl i = some (D, nms) → ∀ j, j < 9 → PySem.W.exmOne K (.ref D) (.ref (C j)) = some (decide (i = j))
theorem FltT.kit {K : PySem.W.Frag} {mg : Str → Option Value} {cl : Nat → Option (Addr × List Str)} (T : FltT K mg cl) {i j : Nat} {D : Addr} {nms : List Str} (h : cl i = some (D, nms)) (hj : j < 9) : PySem.W.kitOne K (.ref D) (.ref (T.C j)) = some (decide (i = j)) := by
  refine kit_of_exm (T.exm i D nms h j hj) fun hd z => ?_
  have e := T.exm i D nms h j hj
  have e2 := T.exm i D nms h i (T.hcl i D nms h).1
  rw [← (T.hcl i D nms h).2.1] at e2
  rw [← z, e2, hd] at e
  simp at e
/-- one row of _law_fault -/
def tFlt (K : PySem.W.Frag) (C : Addr) (tt : TA) : TS := fun D σ H => ∃ (a E dd : Addr) (fs : List (Str × V)) (b : Bool), σ[0]? = some (some (.ref a)) ∧ H a = some (ExcH a (.ref E) (some dd)) ∧ H dd = some (.xd fs) ∧ ExcC K E ∧ PySem.W.kitOne K (.ref E) (.ref C) = some b ∧
  (b = false → D.nx σ H) ∧ (b = true → ∃ p, σ[1]? = some (some (.ref p)) ∧ H p = some (.lst []) ∧ tt σ H fun xs H1 => xs.length ≤ sizeLine ∧ ∀ q, H1 q = none → rAppend (.ref p) [.ref q] (upd H1 q (.tup xs)) fun _ H3 => D.nx σ H3)
section
variable {X : Cx} {nm : Str} {C : Addr} {es : List Expr} {tt : TA} {k : Nat}  {p1 p2 p3 p4 p5 p6 p7 p8 p9 p10 : Pos}
theorem ps_flt (h0 : X.N[0]? = some ("e" : Str)) (v0 : Vis X.env.scope "e") (h1 : X.N[1]? = some ("told" : Str)) (v1 : Vis X.env.scope "told") (hgi : Gl X "isinstance") (hmi : X.mg "isinstance" = none) (hg : Gl X nm) (hm : X.mg nm = some (.ref C)) (ht : PA X es tt) (hd : (nm == ("__debug__" : Str)) = false := by decide)
    (hs : starEach [.Name "e" p2, .Name nm p3] X.env = (false, eval (.Name "e" p2) X.env) :: starEach [.Name nm p3] X.env := by rfl)
    (he : ∀ whole, isTrue (.Call (.Name "isinstance" p1) [.Name "e" p2, .Name nm p3] [] p4) X.env whole = (do let v ← whole; standAt (Expr.Call (.Name "isinstance" p1) [.Name "e" p2, .Name nm p3] [] p4).pos; holding [v] (truthy v)) := by intro _; rfl)
    (hbase : attributeBase (.Name "told" p5) "append" X.env (eval (.Name "told" p5) X.env) = eval (.Name "told" p5) X.env := by rfl)
    (hfew : ((backTo p8 (starEach [.Tuple es k p7] X.env)).all (fun x => !x.1) && (backToKw p8 (keywordEach [] X.env)).all (fun x => x.1.isSome)
      && decide (([.Tuple es k p7] : List Expr).length + ([] : List Keyword).length + (if ([] : List Keyword).isEmpty then 0 else 1) < 30)) = true := by rfl)
    (hline : (p6.endLine == p8.line) = true := by rfl) (hs2 : starEach [.Tuple es k p7] X.env = (false, eval (.Tuple es k p7) X.env) :: starEach [] X.env := by rfl) (hplain : (backTo p8 (starEach [] X.env)).any (·.1) = false := by rfl)
    (hsw : swapsWith (.Call (.Attribute (.Name "told" p5) "append" p6) [.Tuple es k p7] [] p8) none p9.line X.env = pure false := by rfl) :
    PS X (.If (.Call (.Name "isinstance" p1) [.Name "e" p2, .Name nm p3] [] p4) [.Expr (.Call (.Attribute (.Name "told" p5) "append" p6) [.Tuple es k p7] [] p8) p9] [] p10) (tFlt X.K C tt) := by
  refine ps_imp (ps_if (pt_val (pe_callB call_isK hgi hmi (by decide +kernel) (pa_cons (pe_var h0 v0 (by decide) (by decide)) (pa_cons (pe_glob (v := .ref C) hg hm rfl hd) pa_nil)) (by decide) (by decide) hs) he)
    (pss_one (ps_expr (pe_bm PySem.F.plainAttrs_list PySem.F.slot_list_append PySem.F.type_list_append mt_append (pe_var h1 v1 (by decide) (by decide)) (pa_cons (pe_tup ht) pa_nil hs2) hbase hfew hline hs2 hplain) hsw)) pss_nil) fun D σ H h => ?_
  obtain ⟨a, E, dd, fs, b, e0, ea, ed, EC, ek, hno, hyes⟩ := h
  refine ⟨_, e0, a, E, dd, C, fs, b, rfl, ea, ed, EC, ek, b, rfl, ?_⟩
  cases b with
  | false => exact hno rfl
  | true =>
    obtain ⟨p, e1, ep, ht⟩ := hyes rfl
    exact ⟨_, e1, .inl ⟨rfl, _, SqL.of ep⟩, ht⟩
end

/-- what the rows put in -/
def tRow (K : PySem.W.Frag) : Nat → TA
  | 0 => tCons (tC (.str "loops")) (tCons (tXk K "place" (tVar 0)) tNil)
  | 1 => tCons (tC (.str "lengths")) (tCons (tXk K "place" (tVar 0)) tNil)
  | 2 => tCons (tC (.str "pedal")) (tCons (tXk K "place" (tVar 0)) tNil)
  | 3 => tCons (tC (.str "row")) (tCons (tXk K "place" (tVar 0)) tNil)
  | 4 => tCons (tC (.str "paper")) (tCons (tXk K "part" (tVar 0)) tNil)
  | 5 => tCons (tC (.str "text")) (tCons (tXk K "line" (tVar 0)) (tCons (tXk K "word" (tVar 0)) tNil))
  | 6 => tCons (tC (.str "place")) (tCons (tC .non) tNil)
  | 7 => tCons (tC (.str "great")) (tCons (tXk K "most" (tVar 0)) tNil)
  | _ => tCons (tC (.str "nothing")) (tCons (tC .non) tNil)
def tRows (K : PySem.W.Frag) (C : Nat → Addr) : List Nat → TS → TS
  | [], t => t
  | j :: r, t => tSeq (tFlt K (C j) (tRow K j)) (tRows K C r t)
/-- a kept exception of the c-th class -/
structure Kept (K : PySem.W.Frag) (cl : Nat → Option (Addr × List Str)) (I H : Hp) (a : Addr) (c : Nat) (fs : List PyData) (E dd : Addr) (nms : List Str) (vs : List V) : Prop where
  hcl : cl c = some (E, nms)
  ha : H a = some (ExcH a (.ref E) (some dd))
  hd : H dd = some (.xd (nms.zip vs))
  hl : nms.length = vs.length
  hr : RpAll K I vs fs
theorem excH_ne {a : Addr} {cls : Value} {d : Option Addr} {xs : List V} : ExcH a cls d ≠ .lst xs := fun z => by unfold ExcH at z; cases z
section
variable {K : PySem.W.Frag} {mg : Str → Option Value} {cl : Nat → Option (Addr × List Str)} {I H : Hp} {a E dd p : Addr} {c : Nat} {fs : List PyData} {nms : List Str} {vs : List V} {σ : L2.St} {D : Ends}
theorem Kept.mono {H' : Hp} (k : Kept K cl I H a c fs E dd nms vs) (h1 : ∀ o, H a = some o → H' a = some o) (h2 : ∀ o, H dd = some o → H' dd = some o) : Kept K cl I H' a c fs E dd nms vs := ⟨k.hcl, h1 _ k.ha, h2 _ k.hd, k.hl, k.hr⟩
theorem row_ok (T : FltT K mg cl) (k : Kept K cl I H a c fs E dd nms vs) (hσ : σ[0]? = some (some (.ref a))) {ds : List PyData} (ht : tell c fs = some (.tuple ds)) {Q : List V → Hp → Prop} (q : ∀ xs, RpAll K I xs ds → xs.length ≤ 5 → Q xs H) : tRow K c σ H Q := by
  obtain ⟨h9, eD, eN⟩ := T.hcl c E nms k.hcl
  obtain ⟨EC, XC, hno⟩ := T.ec c E nms k.hcl
  have hr := k.hr
  have hl := k.hl
  have hd := k.hd
  have h1 := k.ha
  subst eN
  match c, h9, fs, ht with
  | 0, _, [x], ht | 1, _, [x], ht | 2, _, [x], ht | 3, _, [x], ht =>
    all_goals
      cases ht
      match vs, hr with
      | [v], .cons r .nil => exact ⟨_, hσ, a, E, dd, _, v, rfl, h1, hd, XC, hno _ List.mem_cons_self, rfl, q _ (.cons (.str _) (.cons r .nil)) (Nat.le_of_ble_eq_true rfl)⟩
  | 4, _, [x], ht =>
    cases ht
    match vs, hr with
    | [v], .cons r .nil => exact ⟨_, hσ, a, E, dd, _, v, rfl, h1, hd, XC, hno _ List.mem_cons_self, rfl, q _ (.cons (.str _) (.cons r .nil)) (Nat.le_of_ble_eq_true rfl)⟩
  | 5, _, [x, y], ht =>
    cases ht
    match vs, hr with
    | [v, u], .cons r (.cons r2 .nil) =>
      exact ⟨_, hσ, a, E, dd, _, u, rfl, h1, hd, XC, hno _ (List.mem_cons_of_mem _ List.mem_cons_self), rfl, _, hσ, a, E, dd, _, v, rfl, h1, hd, XC, hno _ List.mem_cons_self, rfl, q _ (.cons (.str _) (.cons r2 (.cons r .nil))) (Nat.le_of_ble_eq_true rfl)⟩
  | 6, _, [x], ht =>
    cases ht
    exact q _ (.cons (.str _) (.cons .non .nil)) (by decide)
  | 7, _, [x], ht =>
    cases ht
    match vs, hr with
    | [v], .cons r .nil => exact ⟨_, hσ, a, E, dd, _, v, rfl, h1, hd, XC, hno _ List.mem_cons_self, rfl, q _ (.cons (.str _) (.cons r .nil)) (Nat.le_of_ble_eq_true rfl)⟩
  | 8, _, [x], ht =>
    cases ht
    exact q _ (.cons (.str _) (.cons .non .nil)) (by decide)
theorem rows_no (T : FltT K mg cl) (k : Kept K cl I H a c fs E dd nms vs) (hσ : σ[0]? = some (some (.ref a))) {t : TS} (q : t D σ H) : ∀ l : List Nat, (∀ j ∈ l, j < 9 ∧ j ≠ c) → tRows K T.C l t D σ H
  | [], _ => q
  | j :: r, hl => by
    obtain ⟨EC, XC, hno⟩ := T.ec c E nms k.hcl
    obtain ⟨h9, hne⟩ := hl j List.mem_cons_self
    have e := T.kit k.hcl h9
    rw [decide_eq_false (Ne.symm hne)] at e
    exact ⟨a, E, dd, _, false, hσ, k.ha, k.hd, EC, e, fun _ => rows_no T k hσ q r fun i hi => hl i (List.mem_cons_of_mem _ hi), fun z => by cases z⟩
theorem rows_yes (T : FltT K mg cl) (k : Kept K cl I H a c fs E dd nms vs) (h0 : σ[0]? = some (some (.ref a))) (h1 : σ[1]? = some (some (.ref p))) (hp : H p = some (.lst [])) {ds : List PyData} (ht : tell c fs = some (.tuple ds)) {t : TS}
    (q : ∀ xs b, RpAll K I xs ds → H b = none → t D σ (upd (upd H b (.tup xs)) p (.lst [.ref b]))) : ∀ l : List Nat, (∀ j ∈ l, j < 9) → l.Nodup → c ∈ l → tRows K T.C l t D σ H
  | [], _, _, hc => by cases hc
  | j :: r, hl, nd, hc => by
    obtain ⟨EC, XC, hno⟩ := T.ec c E nms k.hcl
    have e := T.kit k.hcl (hl j List.mem_cons_self)
    have hl' : ∀ i ∈ r, i < 9 := fun i hi => hl i (List.mem_cons_of_mem _ hi)
    have nd' := List.nodup_cons.mp nd
    by_cases hj : c = j
    · subst hj
      rw [decide_eq_true rfl] at e
      refine ⟨a, E, dd, _, true, h0, k.ha, k.hd, EC, e, (fun z => by cases z), fun _ => ⟨p, h1, hp, row_ok T k h0 ht fun xs hx hx5 => ⟨Nat.le_trans hx5 (by decide), fun b hb => ?_⟩⟩⟩
      have pb : p ≠ b := ne_of_none hp hb
      have ap : a ≠ p := ne_of k.ha hp excH_ne
      have dp : dd ≠ p := ne_of k.hd hp (fun z => by cases z)
      refine ⟨p, [], .ref b, rfl, rfl, by rw [upd_ne pb]; exact hp, by decide, ?_⟩
      exact rows_no T (k.mono (fun o e => by rw [upd_ne ap, upd_ne (ne_of_none e hb)]; exact e) (fun o e => by rw [upd_ne dp, upd_ne (ne_of_none e hb)]; exact e)) h0 (q xs b hx hb) r fun i hi => ⟨hl' i hi, fun z => nd'.1 (z ▸ hi)⟩
    · rw [decide_eq_false hj] at e
      refine ⟨a, E, dd, _, false, h0, k.ha, k.hd, EC, e, fun _ => rows_yes T k h0 h1 hp ht q r hl' nd'.2 ?_, fun z => by cases z⟩
      rcases List.mem_cons.mp hc with z | z
      · exact absurd z hj
      · exact z
end
/-- what _law_fault makes of a kept exception -/
def spFlt (K : PySem.W.Frag) (cl : Nat → Option (Addr × List Str)) : Sp := fun vs H Q _ => ∃ (a : Addr) (I : Hp) (M : Mw) (c : Nat) (fs : List PyData) (E dd : Addr) (nms : List Str) (us : List V) (t : PyData), vs = [.ref a] ∧ Ok I M H ∧ Kept K cl I H a c fs E dd nms us ∧ tell c fs = some t ∧
  ∀ z I' H', Grow I M H I' M H' → Ok I' M H' → Rp K I' z t → Q z H'
theorem tell_tup {c : Nat} {fs : List PyData} {t : PyData} (h : tell c fs = some t) : ∃ ds, t = .tuple ds := by
  unfold tell at h
  split at h <;> first | (cases h; exact ⟨_, rfl⟩) | cases h
theorem flt_read {K : PySem.W.Frag} {mg : Str → Option Value} {cl : Nat → Option (Addr × List Str)} (T : FltT K mg cl) {vs : List V} {H : Hp} {Q : VK} {E : XK} {t : TS} (h : spFlt K cl vs H Q E)
    (ht : ∀ p b H' D, H' p = some (.lst [.ref b]) → D.rt (.ref b) H' → t D [vs[0]?, some (.ref p)] H') :
    tSeq (tAsg (tLst tNil) (gName 1)) (tRows K T.C [0, 1, 2, 3, 4, 5, 6, 7, 8] t) { nx := fun _ H' => Q .non H', rt := Q } (L2.start ["e", "told"] vs) H := by
  obtain ⟨a, I, M, c, fs, E', dd, nms, us, tt, rfl, ok, k, htt, q⟩ := h
  obtain ⟨ds, rfl⟩ := tell_tup htt
  refine ⟨by decide, fun p hp => ?_⟩
  have c9 := (T.hcl c E' nms k.hcl).1
  refine rows_yes (I := I) (p := p) T (k.mono (fun o e => by rw [upd_ne (ne_of_none e hp)]; exact e) (fun o e => by rw [upd_ne (ne_of_none e hp)]; exact e)) rfl rfl upd_same htt (fun xs b hx hb => ?_) [0, 1, 2, 3, 4, 5, 6, 7, 8] (by decide) (by decide) ?_
  · have bp : b ≠ p := fun z => by rw [z, upd_same] at hb; cases hb
    rw [upd_ne bp] at hb
    refine ht p b _ _ upd_same ?_
    have e : upd (upd (upd H p (.lst [])) b (.tup xs)) p (.lst [.ref b]) = upd (upd H b (.tup xs)) p (.lst [.ref b]) := by
      funext x
      by_cases h1 : x = p
      · rw [h1, upd_same, upd_same]
      · rw [upd_ne h1, upd_ne h1]
        by_cases h2 : x = b
        · rw [h2, upd_same, upd_same]
        · rw [upd_ne h2, upd_ne h2, upd_ne h1]
    obtain ⟨g1, k1⟩ := Grow.alloc (o := .tup xs) ok hb
    obtain ⟨g2, k2⟩ := Grow.allocO (o := .lst [.ref b]) k1 (p := p) (by rw [upd_ne bp.symm]; exact hp)
    rw [e]
    exact q _ _ _ (g1.trans g2) k2 (.tup (.inl (.inl upd_same)) (hx.mono g1.i))
  · have := c9
    simp only [List.mem_cons, List.not_mem_nil, or_false]
    omega
end Dl
set_option maxRecDepth 100000
set_option maxHeartbeats 4000000
namespace Dl
open PySem L2 PySem.Spec PyProof.Rows LamX
/-! ### x(lambda: e), x telling what comes in a list, or how it is refused -/
/-- what is wished of a refusal -/
def OutX (U : Uni) (K : PySem.W.Frag) (Q : VK) : XK := fun cls d H' => ∃ (I : Hp) (M : Mw) (c : Nat) (fs : List PyData) (t : PyData), Ok I M H' ∧ XR U K I c fs cls d ∧ tell c fs = some t ∧ ∀ z I' H'', Grow I M H' I' M H'' → Ok I' M H'' → Rp K I' z t → Q z H''
def TTout (U : Uni) (K : PySem.W.Frag) : (XK → Hp → VK → Prop) → Hp → VK → Prop := fun tl H Q => ∀ (b : Addr) (R : VK), H b = none → (∀ v H', (∀ p, H' p = none → Q (.ref p) (upd H' p (.lst [v]))) → R v H') → tl (OutX U K Q) (upd H b (.tup [.non, .non])) R
theorem out_kept {U : Uni} {K : PySem.W.Frag} {mg : Str → Option Value} (T : FltT K mg U.cl) {Q : VK} {cls : Value} {d : Option Addr} {H : Hp} {σ : L2.St} {D : Ends} (h : OutX U K Q cls d H)
    (q : ∀ a H' σ', σ'[1]? = some (some (.ref a)) → spFlt K U.cl [.ref a] H' Q (fun _ _ _ => False) → D.nx σ' H') : wKept K ((List.range 9).map fun j => Value.ref (T.C j)) 3 1 4 D cls d σ H := by
  obtain ⟨I, M, c, fs, t, ok, ⟨C, nms, dd, vs, hcl, rfl, rfl, hI, hl, hr⟩, ht, hq⟩ := h
  obtain ⟨c9, eD, eN⟩ := T.hcl c C nms hcl
  have hx := T.exm c C nms hcl
  refine ⟨⟨fun v => (PySem.W.exmOne K (.ref C) v).getD false, fun v hv => ?_, ?_⟩, fun a tp hlen ha htp hat => ?_⟩
  · obtain ⟨j, hj, rfl⟩ := List.mem_map.mp hv
    have e := hx j (List.mem_range.mp hj)
    show _ = some ((PySem.W.exmOne K (.ref C) (.ref (T.C j))).getD false)
    rw [e]
    rfl
  · refine List.any_eq_true.mpr ⟨_, List.mem_map.mpr ⟨c, List.mem_range.mpr c9, rfl⟩, ?_⟩
    have e := hx c c9
    show (PySem.W.exmOne K (.ref C) (.ref (T.C c))).getD false = true
    rw [e]
    exact decide_eq_true rfl
  · have hd := ok.ih _ _ hI
    have hda : dd ≠ a := ne_of_none hd ha
    have hdt : dd ≠ tp := ne_of_none hd htp
    obtain ⟨g1, k1⟩ := Grow.alloc (o := .tup (((List.range 9).map fun j => Value.ref (T.C j)).map fun c => match c with | .ref C => V.ref C | _ => V.non)) ok htp
    obtain ⟨g2, k2⟩ := Grow.alloc (o := ExcH a (.ref C) (some dd)) k1 (p := a) (by rw [upd_ne hat]; exact ha)
    refine q a _ _ ?_ ⟨a, _, M, c, fs, C, dd, nms, vs, t, rfl, k2, ⟨hcl, upd_same, by rw [upd_ne hda, upd_ne hdt]; exact hd, hl, (hr.mono g1.i).mono g2.i⟩, ht, fun z I' H' g k r => hq z I' H' ((g1.trans g2).trans g) k r⟩
    match σ, hlen with
    | [_, _, _, _], _ => rfl
section
variable {S : Type}
def eOut (Fb : Rho → S → Res S Val) : Rho → S → Res S Val := fun ρ st => match Fb ρ st with
  | .ok (.d x) st1 => .ok (.d (.list [x])) st1
  | .exc c fs st1 => (match tell c fs with
    | some t => .ok (.d t) st1
    | none => .stuck)
  | _ => .stuck
end
/-- the def that makes it: it gives so to every lambda -/
structure OutF (P : Program) (w : World) (K : PySem.W.Frag) (mg : Str → Option Value) (base : Heap) (U : Uni) (x : Str) : Prop where
  ex : ∃ (g : Addr) (pg : Arguments) (bg : List Stmt) (sg : Scope) (dV kV doc pm cdv ct oc : Value) (an od : Option Addr) (osl : Array (Option Value)) (Ng : List Str) (a : Str), mg x = some (.ref g) ∧ PySem.W.keepIn K (.ref g) = true ∧ K.lookup g = some ⟨oc, od, .func (PySem.W.fnOf x x pg bg sg dV kV doc pm an cdv ct), osl⟩ ∧
    PySem.W.codeIn K cdv x = true ∧ L2.Binds K (PySem.W.fnOf x x pg bg sg dV kV doc pm an cdv ct) [a] [] ∧ FnScope Ng [a] sg ∧ Ng[0]? = some a ∧ Vis sg a ∧ (a == ("__debug__" : Str)) = false ∧ (a == ("__classdict__" : Str)) = false ∧
    ∀ (X : Cx) (q : Str), X.prog = P → X.w = w → X.K = K → X.mg = mg → X.base = base → Room 4 X.A → X.A.guards = some [] → GivesTo X Ng x sg g cdv bg a q (TTout U K)
theorem ped_out {X : Cx} {tb : List (Addr × Str)} {cl : Nat → Option (Addr × List Str)} {W : WX} {x : Str} {c P : Addr} {k : Nat} {params : Arguments} {body : Expr} {scope : Scope} {p lpos pos : Pos} {Fb : Rho → DS → Res DS Val} (O : OutF X.prog X.w X.K X.mg X.base (UD X.K tb cl) x) (hg : Gl X x) (TB : TabB X.base X.mg c P)
    (hcode : X.env.code = .ref c) (hm : (P, X.env.qual ++ "<lambda>") ∈ tb) (hu : ∀ p ∈ tb, p.1 = P → p.2 = X.env.qual ++ "<lambda>") (hr : Room (k + 4) X.A) (hgd : X.A.guards = some []) (L : LamS X.env.scope scope) (hdef : defaultsOf params X.env = ([], []))
    (hbind : ∀ (q : Str) (cl : List (Str × Addr)) (pm cv ctv : Value), bindArgs (PySem.W.kla_fn "<lambda>" q params body scope cl pm cv ctv) ⟨[], []⟩ = pure [])
    (hbody : ∀ (A : Around) (outer : List Env) (s : Shared) (H : Hp) (E : XK) (f c' : Addr), Room (k + 2) (A.deeper (lamEnv X scope s.heap.objs.size f c')) → A.guards = some [] → PEd (UD X.K tb cl) (lamCx X A outer s H E scope f c') (fun cls d _ H' => E cls d H') body Fb)
    (hdb : (x == ("__debug__" : Str)) = false := by decide) : PEd (UD X.K tb cl) X W (.Call (.Name x p) [.Lambda params body scope lpos] [] pos) (eOut Fb) := by
  obtain ⟨g, pg, bg, sg, dV, kV, doc, pm, cdv, ct, oc, an, od, osl, Ng, a, e1, e2, e3, e4, e5, e6, e7, e8, e9, e10, hG⟩ := O.ex
  refine pe_imp (pe_lamG (TT := TTout (UD X.K tb cl) X.K) (t := fun E => tE (UD X.K tb cl) X.K (fun cls d _ H' => E cls d H') Fb) hg e1 e2 e3 e4 e5 e6 e7 e8 (fun hgd => hG X _ rfl rfl rfl rfl rfl (hr.mono (by omega)) hgd) TB hcode (k := k + 2) hr hgd L hdef hbind hbody hdb e9 e10) fun σ H Q h => ?_
  obtain ⟨Z, ρ, st, I, M, ft, ps⟩ := h
  have rd : RD X.K tb st M := ft.rs
  refine ⟨(rd.tab _ hm).ext fun b o e => ft.ok.mh b o e, fun H1 S => ?_⟩
  obtain ⟨M1, g0, k0, r1⟩ := S.grow ft.ok rd hm hu
  intro b R hb hR
  obtain ⟨g0', k1⟩ := Grow.alloc (o := .tup [.non, .non]) k0 hb
  have g1 := g0.trans g0'
  refine ⟨Z, ρ, st, _, M1, ft.grow g1 k1 r1, ?_⟩
  unfold eOut at ps
  cases z : Fb ρ st with
  | ok v st1 =>
    rw [z] at ps
    match v, ps with
    | .d y, ps =>
      intro v I' M' H' g' k' r' q'
      refine hR v H' fun b hb => ?_
      obtain ⟨g2, k2⟩ := Grow.alloc (o := .lst [v]) k' hb
      exact ps (.ref b) _ M' _ ((g1.trans g').trans g2) k2 r' (show Rp X.K _ (.ref b) (.list [y]) from .lst upd_same (.cons (Rp.mono g2.i q') .nil))
  | exc c fs st1 =>
    rw [z] at ps
    intro cls d I' M' H' g' k' r' x'
    cases ht : tell c fs with
    | none => simp only [ht] at ps; exact False.elim ps
    | some t =>
      simp only [ht] at ps
      exact ⟨I', M', c, fs, t, k', x', ht, fun z I2 H2 g2 k2 r2 => ps z I2 M' H2 ((g1.trans g').trans g2) k2 r' r2⟩
  | stuck => rw [z] at ps; exact False.elim ps
/-! ### a def whose code object is known -/
structure FunC (K : PySem.W.Frag) (x qual : Str) (st : Stmt) (f : Addr) (fd : FuncData) (cdv : Value) : Prop where
  ex : ∃ (oc : Value) (od : Option Addr) (kV doc pm : Value) (an : Option Addr) (ct : Value) (osl : Array (Option Value)),
    fd = PySem.W.fnOf x qual (defArgs st) (defBody st) (defScope st) .none kV doc pm an cdv ct ∧ K.lookup f = some ⟨oc, od, .func fd, osl⟩ ∧ PySem.W.codeIn K cdv qual = true
theorem fn_gc {U : Uni} {P : Program} {w : World} {K : PySem.W.Frag} {mg : Str → Option Value} {base : Heap} {x qual : Str} {st : Stmt} {f : Addr} {fd : FuncData} {cdv : Value} {N ps : List Str} {k : Nat} {B : Rho → U.S → SRes U.S} (Fn : FunC K x qual st f fd cdv) (S : FnScope N ps (defScope st))
    (hb : ∀ (A : Around) (outer : List Env) (s : Shared) (H : Hp) (E : XK), Room k (A.deeper (envOfC qual (defScope st) s.heap.objs.size f cdv)) → A.guards = some [] →
      PBd U (cxOf (L2.CX P w) P w K mg base N qual (defScope st) f cdv A outer s H E) (fun cls d _ H => E cls d H) (defBody st) B) : FnG U P w K mg base (k + 1) f fd ps (fnF N.length B) := by
  obtain ⟨oc, od, kV, doc, pm, an, ct, osl, rfl, lk, hcd⟩ := Fn.ex
  refine ⟨fun A outer s H args us xs Q E vs t I M hr hgd e0 hbd rv hl ok rs hv hd h => ?_⟩
  have KX : K.In s.heap := e0.mod.kin.keeps fun b o e => (e0.bs b o e).1
  have lim : s.heap.NoLimit := e0.mod.nolimit.keeps fun b o e => (e0.bs b o e).1
  have kinds : ∀ y ∈ ps.zip us, (defScope st).names.lookup y.1 = some .local ∨ ((defScope st).names.lookup y.1 = some .cell ∧ ((cellsFrom (s.heap.objs.size + 1) (defScope st).names []).lookup y.1).isSome = true) := fun ⟨n, v⟩ hy => by
    rcases S.par n (List.of_mem_zip hy).1 with q | q
    · exact Or.inl q
    · exact Or.inr ⟨q, PySem.W.cellsFrom_some _ _ _ (.inl q)⟩
  refine codeAny_call_function hr.depth (KX _ _ lk) rfl S.co S.gen rfl (PySem.W.codeRec_of KX hcd) (hbd _ _ _ _ (wpAny_newFunctionEnv_cells S.kind kinds fun env he s1 ic => ?_))
  subst he
  refine ⟨lim.keeps ic.toInCall.keep, codeAny_func ?_⟩
  have J : Inv (cxOf (L2.CX P w) P w K mg base N qual (defScope st) f cdv A outer s H E) [] (L2.start N xs) H s1 := inv_start S hr.hd e0 hl rv ic
  have hsp : tS U K (fun cls d _ H => E cls d H) B { nx := fun _ H' => Q .non H', rt := Q } (L2.start N xs) H := by
    refine ⟨⟨I, M, H⟩, begin' N.length vs, t, I, M, fit_begin ok rs hv hd, ?_⟩
    unfold fnF at h
    cases z : B (begin' N.length vs) t with
    | ret v st' => rw [z] at h; exact fun x I' M' H' g k r q => h x I' M' H' g k r q
    | next ρ' st' => rw [z] at h; exact fun σ' I' M' H' e' ft => h .non I' M' H' ft.g ft.ok ft.rs .non
    | exc c fs ρ' st' => rw [z] at h; exact fun σ' cls d I' M' H' e' ft q => h cls d I' M' H' ft.g ft.ok ft.rs q
    | brk ρ' st' => rw [z] at h; exact False.elim h
    | cnt ρ' st' => rw [z] at h; exact False.elim h
    | stuck => rw [z] at h; exact h
  refine wpAny_mono (PSs.run (hb A outer s H E (hr.deeper _) hgd) [] s1 (L2.start N xs) H _ J hsp) (fun fl s' hs => ?_) fun e s' hs => hs
  match fl, hs with
  | .ret u, ⟨v, σ', H', J', rv', q⟩ => exact ⟨v, H', J'.os, J'.bare, J'.base, J'.hok, rv', q⟩
  | .next, ⟨σ', H', J', q⟩ => exact ⟨.non, H', J'.os, J'.bare, J'.base, J'.hok, rfl, q⟩
  | .brk, ⟨_, _, _, q⟩ => exact False.elim q
  | .cont, ⟨_, _, _, q⟩ => exact False.elim q
end Dl
set_option maxRecDepth 100000
set_option maxHeartbeats 4000000
namespace Dl
open PySem L2
/-! ### what is never come to -/
def sStuck {S : Type} : Rho → S → SRes S := fun _ _ => .stuck
def eStuck {S : Type} : Rho → S → Res S Val := fun _ _ => .stuck
section
variable {U : Uni} {X : Cx} {W : WX} {s : Stmt} {e : Expr}
theorem psd_stuck : PSd U X W s sStuck := ⟨fun _ _ _ _ _ _ h => by
  obtain ⟨Z, ρ, st, I, M, ft, ps⟩ := h
  exact False.elim ps⟩
theorem ped_stuck : PEd U X W e eStuck := ⟨fun _ _ _ _ _ _ h => by
  obtain ⟨Z, ρ, st, I, M, ft, ps⟩ := h
  exact False.elim ps⟩
end
end Dl
namespace Dl
open PySem L2
/-! ### a row of two made of what is caught -/
theorem short_2 {f g : List PyData → Option PyData} : ∀ fs ds, ((fun fs => (f fs).bind fun x => ((fun fs => (g fs).bind fun x => ((fun _ => some []) fs).map (x :: ·)) fs).map (x :: ·)) : List PyData → Option (List PyData)) fs = some ds → ds.length ≤ 1000000 := fun fs ds e => by
  obtain ⟨y, _, e2⟩ := bind_some e
  obtain ⟨ys, e3, rfl⟩ := map_some e2
  obtain ⟨z, _, e4⟩ := bind_some e3
  obtain ⟨zs, e5, rfl⟩ := map_some e4
  cases e5
  show 2 ≤ 1000000
  decide
end Dl
set_option maxRecDepth 100000
set_option maxHeartbeats 4000000
namespace Mr
open PySem L2 Dl
noncomputable def B_is_number : Rho → DS → SRes DS :=
  (sRet (eAnd' (eUn (isTy .int) (eVar 0)) (eUn vNot (eUn (isTy .bool) (eVar 0)))))
noncomputable def F_is_number : List Val → DS → Res DS Val := fnF 1 B_is_number
noncomputable def B_loops_fault : Rho → DS → SRes DS :=
  (sSeq (sIf (tOr' (tNot' (tVal (eUn (isTy .tuple) (eVar 0)))) (eCmp vGt (eCall bLen (aCons (eVar 0) aNil)) (eC (.int 6)))) (sRet (eTup aNil)) sNop)
  (sSeq (sFor (iEnm (eVar 0)) (.tup [1, 2]) (sIf (tOr' (tNot' (tVal (eUn (isTy .tuple) (eVar 2)))) (tNot' (eChain vLe vLe (eC (.int 1)) (eCall bLen (aCons (eVar 2) aNil)) (eC (.int 64))))) (sRet (eTup (aCons (eVar 1) aNil))) sNop))
  (sSeq (sFor (iEnm (eVar 0)) (.tup [1, 2]) (sFor (iEnm (eVar 2)) (.tup [3, 4]) (sIf (tNot' (tVal (eApp F_is_number 1 (aCons (eVar 4) aNil)))) (sRet (eTup (aCons (eVar 1) (aCons (eVar 3) aNil)))) sNop)))
  (sRet (eC (.none))))))
noncomputable def F_loops_fault : List Val → DS → Res DS Val := fnF 5 B_loops_fault
noncomputable def B_need_loops : Rho → DS → SRes DS :=
  (sSeq (sSet 1 (eApp F_loops_fault 1 (aCons (eVar 0) aNil)))
  (sSeq (sIf (tIs vIsNot (eVar 1)) (sRaise 0 1 id (aCons (eVar 1) aNil)) sNop)
  (sRet (eVar 0))))
noncomputable def F_need_loops : List Val → DS → Res DS Val := fnF 2 B_need_loops
noncomputable def B_lengths_in : Rho → DS → SRes DS :=
  (sRet (eCall bTuple (aCons (eFrz (nComp (iSeq (eVar 0)) [1] (.name 1) tYes' (eCall bLen (aCons (eVar 1) aNil)))) aNil)))
noncomputable def F_lengths_in : List Val → DS → Res DS Val := fnF 2 B_lengths_in
noncomputable def B_lengths_of : Rho → DS → SRes DS :=
  (sRet (eApp F_lengths_in 1 (aCons (eApp F_need_loops 1 (aCons (eVar 0) aNil)) aNil)))
noncomputable def F_lengths_of : List Val → DS → Res DS Val := fnF 1 B_lengths_of
noncomputable def B__law_number : Rho → DS → SRes DS :=
  (sSeq (sSet 1 (eApp fNext 2 (aCons (eVar 0) (aCons (eC (.int 4)) aNil))))
  (sSeq (sIf (eCmp vEq (eVar 1) (eC (.int 0))) (sRet (eC (.int 0))) sNop)
  (sSeq (sIf (eCmp vEq (eVar 1) (eC (.int 1))) (sRet (eOp vSub (eApp fNext 2 (aCons (eVar 0) (aCons (eOp vPow (eC (.int 10)) (eC (.int 30))) aNil))) (eOp vPow (eC (.int 10)) (eC (.int 29))))) sNop)
  (sRet (eIf (eCmp vEq (eVar 1) (eC (.int 2))) (eOp vSub (eApp fNext 2 (aCons (eVar 0) (aCons (eC (.int 7)) aNil))) (eC (.int 3))) (eOp vSub (eApp fNext 2 (aCons (eVar 0) (aCons (eC (.int 200)) aNil))) (eC (.int 100))))))))
noncomputable def F__law_number : List Val → DS → Res DS Val := fnF 2 B__law_number
noncomputable def B__law_lengths : Rho → DS → SRes DS :=
  (sRet (eCall bTuple (aCons (eFrz (nComp (iRng (eApp fNext 2 (aCons (eVar 0) (aCons (eOp vAdd (eVar 1) (eC (.int 1))) aNil)))) [3] (.name 3) tYes' (eOp vAdd (eC (.int 1)) (eApp fNext 2 (aCons (eVar 0) (aCons (eVar 2) aNil)))))) aNil)))
noncomputable def F__law_lengths : List Val → DS → Res DS Val := fnF 4 B__law_lengths
noncomputable def B__law_loops_of : Rho → DS → SRes DS :=
  (sSeq (sNew 2 (nLst aNil))
  (sSeq (sFor (iSeq (eVar 1)) (.name 3) (sApp 2 (eCall bTuple (aCons (eFrz (nComp (iRng (eVar 3)) [4] (.name 4) tYes' (eApp F__law_number 1 (aCons (eVar 0) aNil)))) aNil))))
  (sRet (eCall bTuple (aCons (eVar 2) aNil)))))
noncomputable def F__law_loops_of : List Val → DS → Res DS Val := fnF 5 B__law_loops_of
noncomputable def B_is_whole : Rho → DS → SRes DS :=
  (sRet (eAnd' (eUn (isTy .int) (eVar 0)) (eAnd' (eUn vNot (eUn (isTy .bool) (eVar 0))) (eB (eChain vLe vLe (eVar 1) (eVar 0) (eVar 2))))))
noncomputable def F_is_whole : List Val → DS → Res DS Val := fnF 3 B_is_whole
noncomputable def B_need_whole : Rho → DS → SRes DS :=
  (sIf (tNot' (tVal (eApp F_is_whole 3 (aCons (eVar 0) (aCons (eVar 1) (aCons (eVar 2) aNil)))))) (sRaise 6 1 id (aCons (eC (.str "no integer within the bounds")) aNil)) sNop)
noncomputable def F_need_whole : List Val → DS → Res DS Val := fnF 3 B_need_whole
noncomputable def B_heard_in : Rho → DS → SRes DS :=
  (sRet (eCall bSum (aCons (eFrz (nComp (iSeq (eVar 0)) [2] (.name 2) tYes' (eOp vIx (eVar 2) (eOp vMod (eCall bInt (aCons (eVar 1) aNil)) (eCall bLen (aCons (eVar 2) aNil)))))) aNil)))
noncomputable def F_heard_in : List Val → DS → Res DS Val := fnF 3 B_heard_in
noncomputable def B_heard : Rho → DS → SRes DS :=
  (sSeq (sDrop (eApp F_need_loops 1 (aCons (eVar 0) aNil)))
  (sSeq (sDrop (eApp F_need_whole 3 (aCons (eVar 1) (aCons (eC (.int 0)) (aCons (eC (.int 1000000000000000000000000000000)) aNil)))))
  (sRet (eApp F_heard_in 2 (aCons (eVar 0) (aCons (eVar 1) aNil))))))
noncomputable def F_heard : List Val → DS → Res DS Val := fnF 2 B_heard
noncomputable def B_heard_row : Rho → DS → SRes DS :=
  (sSeq (sDrop (eApp F_need_loops 1 (aCons (eVar 0) aNil)))
  (sSeq (sDrop (eApp F_need_whole 3 (aCons (eVar 1) (aCons (eC (.int 0)) (aCons (eC (.int 1000000000000000000000000000000)) aNil)))))
  (sSeq (sDrop (eApp F_need_whole 3 (aCons (eVar 2) (aCons (eC (.int 0)) (aCons (eC (.int 1000)) aNil)))))
  (sRet (eCall bTuple (aCons (eFrz (nComp (iRng (eVar 2)) [3] (.name 3) tYes' (eApp F_heard_in 2 (aCons (eVar 0) (aCons (eOp vAdd (eVar 1) (eVar 3)) aNil))))) aNil))))))
noncomputable def F_heard_row : List Val → DS → Res DS Val := fnF 4 B_heard_row
noncomputable def B__law_heard : Rho → DS → SRes DS :=
  (sRet (eCall bSum (aCons (eFrz (nComp (iSeq (eVar 0)) [2] (.name 2) tYes' (eOp vIx (eVar 2) (eOp vMod (eCall bInt (aCons (eVar 1) aNil)) (eCall bLen (aCons (eVar 2) aNil)))))) aNil)))
noncomputable def F__law_heard : List Val → DS → Res DS Val := fnF 3 B__law_heard
noncomputable def B__law_heard_row : Rho → DS → SRes DS :=
  (sRet (eCall bTuple (aCons (eFrz (nComp (iRng (eVar 2)) [3] (.name 3) tYes' (eApp F__law_heard 2 (aCons (eVar 0) (aCons (eOp vAdd (eVar 1) (eVar 3)) aNil))))) aNil)))
noncomputable def F__law_heard_row : List Val → DS → Res DS Val := fnF 4 B__law_heard_row
noncomputable def B_turned : Rho → DS → SRes DS :=
  (sSeq (sNew 2 (nLst aNil))
  (sSeq (sFor (iSeq (eVar 0)) (.name 3) (sSeq (sSet 4 (eOp vMod (eCall bInt (aCons (eVar 1) aNil)) (eCall bLen (aCons (eVar 3) aNil))))
  (sApp 2 (eOp vAdd (eSl vSl (eVar 3) (oSome (eVar 4)) oNone) (eSl vSl (eVar 3) oNone (oSome (eVar 4)))))))
  (sRet (eCall bTuple (aCons (eVar 2) aNil)))))
noncomputable def F_turned : List Val → DS → Res DS Val := fnF 5 B_turned
noncomputable def B_later : Rho → DS → SRes DS :=
  (sSeq (sDrop (eApp F_need_loops 1 (aCons (eVar 0) aNil)))
  (sSeq (sDrop (eApp F_need_whole 3 (aCons (eVar 1) (aCons (eC (.int 0)) (aCons (eC (.int 1000000000000000000000000000000)) aNil)))))
  (sRet (eApp F_turned 2 (aCons (eVar 0) (aCons (eVar 1) aNil))))))
noncomputable def F_later : List Val → DS → Res DS Val := fnF 2 B_later
noncomputable def B_common : Rho → DS → SRes DS :=
  (sSeq (sWhile (eCmp vNe (eVar 1) (eC (.int 0))) (sPar 0 1 (aCons (eVar 1) (aCons (eOp vMod (eCall bInt (aCons (eVar 0) aNil)) (eVar 1)) aNil))))
  (sRet (eVar 0)))
noncomputable def F_common : List Val → DS → Res DS Val := fnF 2 B_common
noncomputable def B_bottoms : Rho → DS → SRes DS :=
  (sRet (eFrz (nSortS (iSeq (eVar 0)) [1, 2] (.name 1) tYes' (iRng2 (eC (.int 1)) (eOp vAdd (eVar 1) (eC (.int 1)))) [2] (.name 2) (eCmp vEq (eOp vMod (eCall bInt (aCons (eVar 1) aNil)) (eVar 2)) (eC (.int 0))) (eVar 2))))
noncomputable def F_bottoms : List Val → DS → Res DS Val := fnF 3 B_bottoms
noncomputable def B_span_in : Rho → DS → SRes DS :=
  (sSeq (sSet 1 (eC (.int 0)))
  (sSeq (sFor (iSeq (eApp F_bottoms 1 (aCons (eVar 0) aNil))) (.name 2) (sAug (fun i j => i + j) 1 (eCall bLen (aCons (eFrz (nComp (iRng (eVar 2)) [3] (.name 3) (eCmp vEq (eApp F_common 2 (aCons (eVar 3) (aCons (eVar 2) aNil))) (eC (.int 1))) (eVar 3))) aNil))))
  (sRet (eVar 1))))
noncomputable def F_span_in : List Val → DS → Res DS Val := fnF 4 B_span_in
noncomputable def B_need_lengths : Rho → DS → SRes DS :=
  (sSeq (sIf (tOr' (tNot' (tVal (eUn (isTy .tuple) (eVar 0)))) (eCmp vGt (eCall bLen (aCons (eVar 0) aNil)) (eC (.int 6)))) (sRaise 1 1 id (aCons (eTup aNil) aNil)) sNop)
  (sSeq (sFor (iEnm (eVar 0)) (.tup [1, 2]) (sIf (tNot' (tVal (eApp F_is_whole 3 (aCons (eVar 2) (aCons (eC (.int 1)) (aCons (eC (.int 64)) aNil)))))) (sRaise 1 1 id (aCons (eTup (aCons (eVar 1) aNil)) aNil)) sNop))
  (sRet (eVar 0))))
noncomputable def F_need_lengths : List Val → DS → Res DS Val := fnF 3 B_need_lengths
noncomputable def B_times : Rho → DS → SRes DS :=
  (sSeq (sNew 2 (nRep (eLst (aCons (eC (.int 0)) aNil)) (eOp vSub (eOp vAdd (eCall bLen (aCons (eVar 0) aNil)) (eCall bLen (aCons (eVar 1) aNil))) (eC (.int 1)))))
  (sSeq (sFor (iEnm (eVar 0)) (.tup [3, 4]) (sFor (iEnm (eVar 1)) (.tup [5, 6]) (sAugI (fun i j => i + j) 2 (eOp vAdd (eVar 3) (eVar 5)) (eOp vMul (eVar 4) (eVar 6)))))
  (sRetOwn 2)))
noncomputable def F_times : List Val → DS → Res DS Val := fnF 7 B_times
noncomputable def B_without : Rho → DS → SRes DS :=
  (sSeq (sParNN 2 3 (nList (eVar 0)) (nRep (eLst (aCons (eC (.int 0)) aNil)) (eOp vAdd (eOp vSub (eCall bLen (aCons (eVar 0) aNil)) (eCall bLen (aCons (eVar 1) aNil))) (eC (.int 1)))))
  (sSeq (sFor (iRevN (eCall bLen (aCons (eVar 3) aNil))) (.name 4) (sSeq (sSetI 3 (eVar 4) (eOp vIx (eVar 2) (eOp vSub (eOp vAdd (eVar 4) (eCall bLen (aCons (eVar 1) aNil))) (eC (.int 1)))))
  (sFor (iEnm (eVar 1)) (.tup [5, 6]) (sAugI (fun i j => i - j) 2 (eOp vAdd (eVar 4) (eVar 5)) (eOp vMul (eOp vIx (eVar 3) (eVar 4)) (eVar 6))))))
  (sRetOwn 3)))
noncomputable def F_without : List Val → DS → Res DS Val := fnF 7 B_without
noncomputable def B_factor_of : Rho → DS → SRes DS :=
  (sSeq (sSet 2 (eOp vAdd (eOp vAdd (eLst (aCons (eUn vNeg (eC (.int 1))) aNil)) (eOp vMul (eLst (aCons (eC (.int 0)) aNil)) (eOp vSub (eVar 0) (eC (.int 1))))) (eLst (aCons (eC (.int 1)) aNil))))
  (sSeq (sFor (iRng2 (eC (.int 1)) (eVar 0)) (.name 3) (sIf (eCmp vEq (eOp vMod (eCall bInt (aCons (eVar 0) aNil)) (eVar 3)) (eC (.int 0))) (sSet 2 (eApp F_without 2 (aCons (eVar 2) (aCons (eOp vGetD (eVar 1) (eVar 3)) aNil)))) sNop))
  (sRet (eVar 2))))
noncomputable def F_factor_of : List Val → DS → Res DS Val := fnF 4 B_factor_of
noncomputable def B_weights_in : Rho → DS → SRes DS :=
  (sSeq (sParDV 1 2 (eLst (aCons (eC (.int 1)) aNil)))
  (sSeq (sFor (iSeq (eApp F_bottoms 1 (aCons (eVar 0) aNil))) (.name 3) (sSeq (sPutI 1 (eAppO F_factor_of (aCons (eVar 3) (aCons (eVar 1) aNil))) (eVar 3))
  (sSet 2 (eApp F_times 2 (aCons (eVar 2) (aCons (eGetO 1 (eVar 3)) aNil))))))
  (sRet (eCall bTuple (aCons (eVar 2) aNil)))))
noncomputable def F_weights_in : List Val → DS → Res DS Val := fnF 4 B_weights_in
noncomputable def B_span : Rho → DS → SRes DS :=
  (sRet (eApp F_span_in 1 (aCons (eApp F_need_lengths 1 (aCons (eVar 0) aNil)) aNil)))
noncomputable def F_span : List Val → DS → Res DS Val := fnF 1 B_span
noncomputable def B_weights : Rho → DS → SRes DS :=
  (sRet (eApp F_weights_in 1 (aCons (eApp F_need_lengths 1 (aCons (eVar 0) aNil)) aNil)))
noncomputable def F_weights : List Val → DS → Res DS Val := fnF 1 B_weights
noncomputable def B_carried_in : Rho → DS → SRes DS :=
  (sSeq (sParVN 3 4 (eApp F_weights_in 1 (aCons (eVar 0) aNil)) (nList (eVar 1)))
  (sSeq (sFor (iRng (eVar 2)) (.name 5) (sSeq (sSet 6 (eOp vAdd (eOp vSub (eCall bLen (aCons (eVar 4) aNil)) (eCall bLen (aCons (eVar 3) aNil))) (eC (.int 1))))
  (sApp 4 (eUn vNeg (eCall bSum (aCons (eFrz (nComp (iRng (eOp vSub (eCall bLen (aCons (eVar 3) aNil)) (eC (.int 1)))) [7] (.name 7) tYes' (eOp vMul (eOp vIx (eVar 3) (eVar 7)) (eOp vIx (eVar 4) (eOp vAdd (eVar 6) (eVar 7)))))) aNil))))))
  (sRet (eCall bTuple (aCons (eSl vSl (eVar 4) (oSome (eCall bLen (aCons (eVar 1) aNil))) oNone) aNil)))))
noncomputable def F_carried_in : List Val → DS → Res DS Val := fnF 8 B_carried_in
noncomputable def B_carried : Rho → DS → SRes DS :=
  (sSeq (sDrop (eApp F_need_lengths 1 (aCons (eVar 0) aNil)))
  (sSeq (sIf (tOr' (tNot' (tVal (eUn (isTy .tuple) (eVar 1)))) (tNot' (tVal (eCall bAll (aCons (eFrz (nComp (iSeq (eVar 1)) [3] (.name 3) tYes' (eApp F_is_number 1 (aCons (eVar 3) aNil)))) aNil))))) (sRaise 6 1 id (aCons (eC (.str "no row of integers")) aNil)) sNop)
  (sSeq (sIf (eCmp vNe (eCall bLen (aCons (eVar 1) aNil)) (eApp F_span_in 1 (aCons (eVar 0) aNil))) (sRaise 6 1 id (aCons (eC (.str "not as many integers as the span")) aNil)) sNop)
  (sSeq (sDrop (eApp F_need_whole 3 (aCons (eVar 2) (aCons (eC (.int 0)) (aCons (eC (.int 1000)) aNil)))))
  (sRet (eApp F_carried_in 3 (aCons (eVar 0) (aCons (eVar 1) (aCons (eVar 2) aNil)))))))))
noncomputable def F_carried : List Val → DS → Res DS Val := fnF 4 B_carried
noncomputable def B_need_small : Rho → DS → SRes DS :=
  (sSeq (sDrop (eApp F_need_lengths 1 (aCons (eVar 0) aNil)))
  (sIf (tOr' (eCmp vGt (eCall bLen (aCons (eVar 0) aNil)) (eC (.int 4))) (tVal (eCall bAny (aCons (eFrz (nComp (iSeq (eVar 0)) [1] (.name 1) tYes' (eB (eCmp vGt (eVar 1) (eC (.int 24)))))) aNil)))) sStuck sNop))
noncomputable def F_need_small : List Val → DS → Res DS Val := fnF 2 B_need_small
noncomputable def B_need_numbers : Rho → DS → SRes DS :=
  (sIf (tOr' (tNot' (tVal (eUn (isTy .tuple) (eVar 0)))) (tOr' (eCmp vGt (eCall bLen (aCons (eVar 0) aNil)) (eC (.int 200))) (tNot' (tVal (eCall bAll (aCons (eFrz (nComp (iSeq (eVar 0)) [1] (.name 1) tYes' (eApp F_is_number 1 (aCons (eVar 1) aNil)))) aNil)))))) (sRaise 6 1 id (aCons (eC (.str "no row of integers")) aNil)) sNop)
noncomputable def F_need_numbers : List Val → DS → Res DS Val := fnF 2 B_need_numbers
noncomputable def B_reduced : Rho → DS → SRes DS :=
  (sWhile (tVal (eC (.bool true))) (sSeq sStuck
  (sSeq (sPar 2 3 (aCons (eOp vIx (eVar 0) (eC (.int 0))) (aCons (eSl vSl (eVar 0) (oSome (eC (.int 1))) oNone) aNil)))
  (sSeq (sIf (tOr' (eCmp vEq (eVar 3) (eLst aNil)) (eCmp vEq (eOp vIx (eOp vIx (eVar 3) (eC (.int 0))) (eVar 1)) (eC (.int 0)))) (sRetOwn 0) sNop)
  (sSeq (sNew 0 (nLst (aCons (eVar 2) aNil)))
  (sFor (iSeq (eVar 3)) (.name 4) (sSeq (sSet 5 (eOp vFdiv (eOp vIx (eVar 4) (eVar 1)) (eOp vIx (eVar 2) (eVar 1))))
  (sSeq (sIf (eCmp vNe (eVar 5) (eC (.int 0))) (sSet 4 (eFrz (nComp (iZp (eVar 4) (eVar 2)) [6, 7] (.tup [6, 7]) tYes' (eOp vSub (eVar 6) (eOp vMul (eVar 5) (eVar 7)))))) sNop)
  (sApp 0 (eVar 4))))))))))
noncomputable def F_reduced : List Val → DS → Res DS Val := fnF 8 B_reduced
noncomputable def B_loops_like : Rho → DS → SRes DS :=
  (sSeq (sParVN 2 3 (eCall bLen (aCons (eVar 1) aNil)) (nLst aNil))
  (sSeq sStuck
  (sSeq sStuck
  (sSeq (sPar 9 10 (aCons (eOp vMul (eLst (aCons (eC (.int 0)) aNil)) (eCall bLen (aCons (eVar 4) aNil))) (aCons (eCall bList (aCons (eVar 1) aNil)) aNil)))
  (sSeq (sFor (iRng (eVar 2)) (.name 6) (sSeq sStuck
  (sSeq (sParVN 11 3 (eOp vIx (eVar 3) (eC (.int 0))) (nSl (eVar 3) (oSome (eC (.int 1))) oNone))
  (sSeq (sSet 12 (eOp vFdiv (eOp vIx (eVar 10) (eVar 6)) (eOp vIx (eVar 11) (eVar 6))))
  (sSeq (sSet 10 (eFrz (nComp (iZp (eVar 10) (eVar 11)) [18, 19] (.tup [18, 19]) tYes' (eOp vSub (eVar 18) (eOp vMul (eVar 12) (eVar 19))))))
  (sSet 9 (eFrz (nComp (iZp (eVar 9) (eSl vSl (eVar 11) (oSome (eVar 2)) oNone)) [18, 19] (.tup [18, 19]) tYes' (eOp vAdd (eVar 18) (eOp vMul (eVar 12) (eVar 19)))))))))))
  (sSeq (sParNV 13 14 (nLst aNil) (eC (.int 0)))
  (sSeq (sFor (iSeq (eVar 0)) (.name 15) (sSeq (sApp 13 (eCall bTuple (aCons (eSl vSl (eVar 9) (oSome (eVar 14)) (oSome (eOp vAdd (eVar 14) (eVar 15)))) aNil)))
  (sAug (fun i j => i + j) 14 (eVar 15))))
  (sRet (eCall bTuple (aCons (eVar 13) aNil))))))))))
noncomputable def F_loops_like : List Val → DS → Res DS Val := fnF 20 B_loops_like
noncomputable def B_fit : Rho → DS → SRes DS :=
  (sSeq (sDrop (eApp F_need_small 1 (aCons (eVar 0) aNil)))
  (sSeq (sDrop (eApp F_need_numbers 1 (aCons (eVar 1) aNil)))
  (sSeq (sPar 2 3 (aCons (eApp F_weights_in 1 (aCons (eVar 0) aNil)) (aCons (eApp F_span_in 1 (aCons (eVar 0) aNil)) aNil)))
  (sSeq (sFor (iRng (eOp vSub (eCall bLen (aCons (eVar 1) aNil)) (eVar 3))) (.name 4) (sIf (eCmp vNe (eCall bSum (aCons (eFrz (nComp (iZp (eVar 2) (eSl vSl (eVar 1) (oSome (eVar 4)) (oSome (eOp vAdd (eOp vAdd (eVar 4) (eVar 3)) (eC (.int 1)))))) [6, 7] (.tup [6, 7]) tYes' (eOp vMul (eVar 6) (eVar 7)))) aNil)) (eC (.int 0))) (sRet (eTup (aCons (eC (.str "none")) (aCons (eOp vAdd (eOp vMul (eTup (aCons (eC (.int 0)) aNil)) (eVar 4)) (eVar 2)) aNil)))) sNop))
  (sSeq (sSet 5 (eOp vAdd (eSl vSl (eVar 1) oNone (oSome (eVar 3))) (eOp vMul (eTup (aCons (eC (.int 0)) aNil)) (eOp vSub (eVar 3) (eCall bLen (aCons (eVar 1) aNil))))))
  (sRet (eTup (aCons (eC (.str "loops")) (aCons (eApp F_loops_like 2 (aCons (eVar 0) (aCons (eVar 5) aNil))) aNil)))))))))
noncomputable def F_fit : List Val → DS → Res DS Val := fnF 8 B_fit
noncomputable def B_is_ground : Rho → DS → SRes DS :=
  (sSeq (sIf (tOr' (tNot' (tVal (eUn (isTy .tuple) (eVar 2)))) (tOr' (eCmp vGt (eCall bLen (aCons (eVar 2) aNil)) (eCall bLen (aCons (eVar 1) aNil))) (tNot' (tVal (eCall bAll (aCons (eFrz (nComp (iSeq (eVar 2)) [4] (.name 4) tYes' (eApp F_is_number 1 (aCons (eVar 4) aNil)))) aNil)))))) (sRet (eC (.bool false))) sNop)
  (sSeq (sFor (iSeq (eVar 0)) (.name 3) (sIf (tVal (eCall bAny (aCons (eFrz (nComp (iRng (eVar 3)) [5] (.name 5) tYes' (eB (eCmp vNe (eCall bSumT (aCons (eSl vSt (eVar 2) (oSome (eVar 5)) (oSome (eVar 3))) aNil)) (eC (.int 0)))))) aNil))) (sRet (eC (.bool false))) sNop))
  (sRet (eB (eCmp vNe (eCall bSum (aCons (eFrz (nComp (iZp (eVar 2) (eVar 1)) [4, 6] (.tup [4, 6]) tYes' (eOp vMul (eVar 4) (eVar 6)))) aNil)) (eC (.int 0)))))))
noncomputable def F_is_ground : List Val → DS → Res DS Val := fnF 7 B_is_ground
noncomputable def B_check_fit : Rho → DS → SRes DS :=
  (sSeq (sDrop (eApp F_need_small 1 (aCons (eVar 0) aNil)))
  (sSeq (sDrop (eApp F_need_numbers 1 (aCons (eVar 1) aNil)))
  (sSeq (sIf (tOr' (tNot' (tVal (eUn (isTy .tuple) (eVar 2)))) (tOr' (eCmp vNe (eCall bLen (aCons (eVar 2) aNil)) (eC (.int 2))) (tNot' (tVal (eUn (isTy .str) (eOp vIx (eVar 2) (eC (.int 0)))))))) (sRaise 4 1 id (aCons (eC (.str "form")) aNil)) sNop)
  (sSeq (sIf (eCmp vNotIn (eOp vIx (eVar 2) (eC (.int 0))) (eTup (aCons (eC (.str "loops")) (aCons (eC (.str "none")) aNil)))) (sRaise 4 1 id (aCons (eC (.str "form")) aNil)) sNop)
  (sSeq (sIf (eCmp vEq (eOp vIx (eVar 2) (eC (.int 0))) (eC (.str "none"))) (sSeq (sIf (tNot' (tVal (eApp F_is_ground 3 (aCons (eVar 0) (aCons (eVar 1) (aCons (eOp vIx (eVar 2) (eC (.int 1))) aNil)))))) (sRaise 4 1 id (aCons (eC (.str "ground")) aNil)) sNop)
  (sRet (eOp vIx (eVar 2) (eC (.int 0))))) sNop)
  (sSeq (sIf (tOr' (tIs vIsNot (eApp F_loops_fault 1 (aCons (eOp vIx (eVar 2) (eC (.int 1))) aNil))) (eCmp vNe (eApp F_lengths_in 1 (aCons (eOp vIx (eVar 2) (eC (.int 1))) aNil)) (eVar 0))) (sRaise 4 1 id (aCons (eC (.str "loops")) aNil)) sNop)
  (sSeq (sIf (tNot' (tVal (eCall bAll (aCons (eFrz (nComp (iEnm (eVar 1)) [3, 4] (.tup [3, 4]) tYes' (eB (eCmp vEq (eApp F_heard_in 2 (aCons (eOp vIx (eVar 2) (eC (.int 1))) (aCons (eVar 3) aNil))) (eVar 4))))) aNil)))) (sRaise 4 1 id (aCons (eC (.str "loops")) aNil)) sNop)
  (sRet (eOp vIx (eVar 2) (eC (.int 0)))))))))))
noncomputable def F_check_fit : List Val → DS → Res DS Val := fnF 5 B_check_fit
noncomputable def B_deceiver : Rho → DS → SRes DS :=
  (sSeq (sDrop (eApp F_need_small 1 (aCons (eVar 0) aNil)))
  (sSeq (sIf (eCmp vEq (eVar 0) (eTup aNil)) (sRaise 6 1 id (aCons (eC (.str "no lengths")) aNil)) sNop)
  (sRet (eApp F_loops_like 2 (aCons (eVar 0) (aCons (eOp vAdd (eOp vMul (eTup (aCons (eC (.int 0)) aNil)) (eOp vSub (eApp F_span_in 1 (aCons (eVar 0) aNil)) (eC (.int 1)))) (eTup (aCons (eC (.int 1)) aNil))) aNil))))))
noncomputable def F_deceiver : List Val → DS → Res DS Val := fnF 1 B_deceiver
noncomputable def B_need_places : Rho → DS → SRes DS :=
  (sSeq (sIf (tOr' (tNot' (tVal (eUn (isTy .tuple) (eVar 1)))) (eCmp vNe (eCall bLen (aCons (eVar 1) aNil)) (eCall bLen (aCons (eVar 0) aNil)))) (sRaise 6 1 id (aCons (eC (.str "no place for each length")) aNil)) sNop)
  (sIf (tNot' (tVal (eCall bAll (aCons (eFrz (nComp (iZp (eVar 1) (eVar 0)) [2, 3] (.tup [2, 3]) tYes' (eApp F_is_whole 3 (aCons (eVar 2) (aCons (eC (.int 0)) (aCons (eOp vSub (eVar 3) (eC (.int 1))) aNil)))))) aNil)))) (sRaise 6 1 id (aCons (eC (.str "no place of a loop")) aNil)) sNop))
noncomputable def F_need_places : List Val → DS → Res DS Val := fnF 4 B_need_places
noncomputable def B_never_meet : Rho → DS → SRes DS :=
  (sRet (eB (eCmp vNe (eOp vMod (eCall bInt (aCons (eOp vSub (eOp vIx (eVar 1) (eVar 2)) (eOp vIx (eVar 1) (eVar 3))) aNil)) (eApp F_common 2 (aCons (eOp vIx (eVar 0) (eVar 2)) (aCons (eOp vIx (eVar 0) (eVar 3)) aNil)))) (eC (.int 0)))))
noncomputable def F_never_meet : List Val → DS → Res DS Val := fnF 4 B_never_meet
noncomputable def B_meeting : Rho → DS → SRes DS :=
  (sSeq (sDrop (eApp F_need_lengths 1 (aCons (eVar 0) aNil)))
  (sSeq (sDrop (eApp F_need_places 2 (aCons (eVar 0) (aCons (eVar 1) aNil))))
  (sSeq (sFor (iRng (eCall bLen (aCons (eVar 0) aNil))) (.name 2) (sFor (iRng2 (eOp vAdd (eVar 2) (eC (.int 1))) (eCall bLen (aCons (eVar 0) aNil))) (.name 3) (sIf (tVal (eApp F_never_meet 4 (aCons (eVar 0) (aCons (eVar 1) (aCons (eVar 2) (aCons (eVar 3) aNil)))))) (sRet (eTup (aCons (eC (.str "never")) (aCons (eVar 2) (aCons (eVar 3) aNil))))) sNop)))
  (sSeq (sUnp (.tup [4, 5]) (eTup (aCons (eC (.int 0)) (aCons (eC (.int 1)) aNil))))
  (sSeq (sFor (iZp (eVar 0) (eVar 1)) (.tup [6, 7]) (sSeq (sWhile (eCmp vNe (eOp vMod (eCall bInt (aCons (eVar 4) aNil)) (eVar 6)) (eVar 7)) (sAug (fun i j => i + j) 4 (eVar 5)))
  (sSet 5 (eOp vMul (eOp vFdiv (eVar 5) (eApp F_common 2 (aCons (eVar 5) (aCons (eVar 6) aNil)))) (eVar 6)))))
  (sRet (eTup (aCons (eC (.str "tick")) (aCons (eVar 4) aNil)))))))))
noncomputable def F_meeting : List Val → DS → Res DS Val := fnF 8 B_meeting
noncomputable def B_check_meeting : Rho → DS → SRes DS :=
  (sSeq (sDrop (eApp F_need_lengths 1 (aCons (eVar 0) aNil)))
  (sSeq (sDrop (eApp F_need_places 2 (aCons (eVar 0) (aCons (eVar 1) aNil))))
  (sSeq (sIf (tOr' (tNot' (tVal (eUn (isTy .tuple) (eVar 2)))) (tOr' (eCmp vLt (eCall bLen (aCons (eVar 2) aNil)) (eC (.int 2))) (tNot' (tVal (eUn (isTy .str) (eOp vIx (eVar 2) (eC (.int 0)))))))) (sRaise 4 1 id (aCons (eC (.str "form")) aNil)) sNop)
  (sSeq (sIf (tOr' (eCmp vNe (eCall bLen (aCons (eVar 2) aNil)) (eDGet [("tick", 2), ("never", 3)] 0 (eOp vIx (eVar 2) (eC (.int 0))))) (tNot' (tVal (eCall bAll (aCons (eFrz (nComp (iSeq (eSl vSl (eVar 2) (oSome (eC (.int 1))) oNone)) [5] (.name 5) tYes' (eApp F_is_number 1 (aCons (eVar 5) aNil)))) aNil))))) (sRaise 4 1 id (aCons (eC (.str "form")) aNil)) sNop)
  (sSeq (sIf (eCmp vEq (eOp vIx (eVar 2) (eC (.int 0))) (eC (.str "tick"))) (sSeq (sIf (eCmp vNe (eApp F_meeting 2 (aCons (eVar 0) (aCons (eVar 1) aNil))) (eVar 2)) (sRaise 4 1 id (aCons (eC (.str "tick")) aNil)) sNop)
  (sRet (eC (.str "tick")))) sNop)
  (sSeq (sUnp (.tup [3, 4]) (eSl vSl (eVar 2) (oSome (eC (.int 1))) oNone))
  (sSeq (sIf (tOr' (tNot' (eChain3 vLe vLt vLt (eC (.int 0)) (eVar 3) (eVar 4) (eCall bLen (aCons (eVar 0) aNil)))) (tNot' (tVal (eApp F_never_meet 4 (aCons (eVar 0) (aCons (eVar 1) (aCons (eVar 3) (aCons (eVar 4) aNil)))))))) (sRaise 4 1 id (aCons (eC (.str "never")) aNil)) sNop)
  (sRet (eC (.str "never"))))))))))
noncomputable def F_check_meeting : List Val → DS → Res DS Val := fnF 6 B_check_meeting
noncomputable def B__law_is_whole : Rho → DS → SRes DS :=
  (sRet (eAnd' (eUn (isTy .int) (eVar 0)) (eAnd' (eUn vNot (eUn (isTy .bool) (eVar 0))) (eB (eChain vLe vLe (eVar 1) (eVar 0) (eVar 2))))))
noncomputable def F__law_is_whole : List Val → DS → Res DS Val := fnF 3 B__law_is_whole
noncomputable def B__law_outcome_k06 : Rho → DS → SRes DS :=
  (sSeq (sSet 2 (eC (.none)))
  (sSeq (sTry 1 3 2 (fun fs => ((fun fs => ((fun fs => fs[0]?) fs).bind fun x => ((fun _ => some []) fs).map (x :: ·)) fs).map .list) (sIf (eCmp vEq (eVar 0) (eC (.int 0))) (sDrop (eApp F_need_lengths 1 (aCons (eVar 1) aNil))) (sIf (eCmp vEq (eVar 0) (eC (.int 1))) (sDrop (eApp F_span 1 (aCons (eVar 1) aNil))) (sIf (eCmp vEq (eVar 0) (eC (.int 2))) (sDrop (eApp F_weights 1 (aCons (eVar 1) aNil))) (sIf (eCmp vEq (eVar 0) (eC (.int 3))) (sDrop (eApp F_carried 3 (aCons (eVar 1) (aCons (eC (.none)) (aCons (eC (.none)) aNil))))) (sIf (eCmp vEq (eVar 0) (eC (.int 4))) (sDrop (eApp F_fit 2 (aCons (eVar 1) (aCons (eC (.none)) aNil)))) (sIf (eCmp vEq (eVar 0) (eC (.int 5))) (sDrop (eApp F_check_fit 3 (aCons (eVar 1) (aCons (eC (.none)) (aCons (eC (.none)) aNil))))) (sIf (eCmp vEq (eVar 0) (eC (.int 6))) (sDrop (eApp F_deceiver 1 (aCons (eVar 1) aNil))) (sIf (eCmp vEq (eVar 0) (eC (.int 7))) (sDrop (eApp F_meeting 2 (aCons (eVar 1) (aCons (eC (.none)) aNil)))) (sDrop (eApp F_check_meeting 3 (aCons (eVar 1) (aCons (eC (.none)) (aCons (eC (.none)) aNil))))))))))))))
  (sRet (eVar 2))))
noncomputable def F__law_outcome_k06 : List Val → DS → Res DS Val := fnF 4 B__law_outcome_k06
noncomputable def B__law_fault_k06 : Rho → DS → SRes DS :=
  (sSeq (sIf (tOr' (tNot' (tVal (eUn (isTy .tuple) (eVar 0)))) (eCmp vGt (eCall bLen (aCons (eVar 0) aNil)) (eC (.int 6)))) (sRet (eLst (aCons (eTup aNil) aNil))) sNop)
  (sSeq (sSet 1 (eFrz (nComp (iEnm (eVar 0)) [2, 3] (.tup [2, 3]) (tNot' (tVal (eApp F__law_is_whole 3 (aCons (eVar 3) (aCons (eC (.int 1)) (aCons (eC (.int 64)) aNil)))))) (eVar 2))))
  (sRet (eIf (eCmp vEq (eVar 1) (eLst aNil)) (eC (.none)) (eLst (aCons (eTup (aCons (eOp vIx (eVar 1) (eC (.int 0))) aNil)) aNil))))))
noncomputable def F__law_fault_k06 : List Val → DS → Res DS Val := fnF 4 B__law_fault_k06
noncomputable def B_law_k06 : Rho → DS → SRes DS :=
  (sSeq (sSet 1 (eApp fBegun 1 (aCons (eVar 0) aNil)))
  (sSeq (sFor (iRng (eOp vAdd (eC (.int 2)) (eCall bMin (aCons (eLenS (eVar 0)) (aCons (eC (.int 5)) aNil))))) (.name 2) (sSeq (sSet 3 (eApp F__law_lengths 3 (aCons (eVar 1) (aCons (eC (.int 6)) (aCons (eC (.int 64)) aNil)))))
  (sSeq (sIf (tOr' (eCmp vNe (eCall bRepr (aCons (eApp F_need_lengths 1 (aCons (eVar 3) aNil)) aNil)) (eCall bRepr (aCons (eVar 3) aNil))) (tIs vIsNot (eApp F__law_fault_k06 1 (aCons (eVar 3) aNil)))) (sRet (eC (.bool false))) sNop)
  (sSeq (sSet 4 (eApp fNext 2 (aCons (eVar 1) (aCons (eOp vAdd (eCall bLen (aCons (eVar 3) aNil)) (eC (.int 1))) aNil))))
  (sSeq (sSet 5 (eLst (aCons (eC (.int 0)) (aCons (eC (.int 65)) (aCons (eUn vNeg (eC (.int 1))) (aCons (eC (.none)) (aCons (eC (.bool true)) (aCons (eC (.str "2")) (aCons (eTup (aCons (eC (.int 2)) aNil)) (aCons (eLst (aCons (eC (.int 2)) aNil)) (aCons (eOp vPow (eC (.int 10)) (eC (.int 30))) (aCons (eC (.int 64)) aNil))))))))))))
  (sSeq (sSet 6 (eOp vAdd (eOp vAdd (eSl vSl (eVar 3) oNone (oSome (eVar 4))) (eTup (aCons (eOp vIx (eVar 5) (eApp fNext 2 (aCons (eVar 1) (aCons (eC (.int 10)) aNil)))) aNil))) (eSl vSl (eVar 3) (oSome (eVar 4)) oNone)))
  (sSeq (sSet 7 (eTup (aCons (eOp vIx (eVar 5) (eApp fNext 2 (aCons (eVar 1) (aCons (eC (.int 10)) aNil)))) (aCons (eOp vIx (eVar 5) (eApp fNext 2 (aCons (eVar 1) (aCons (eC (.int 10)) aNil)))) aNil))))
  (sSeq (sSet 8 (eOp vAdd (eOp vAdd (eSl vSl (eVar 3) oNone (oSome (eVar 4))) (eVar 7)) (eSl vSl (eVar 3) (oSome (eOp vAdd (eVar 4) (eC (.int 2)))) oNone)))
  (sSeq (sSet 9 (eLst (aCons (eVar 6) (aCons (eVar 8) (aCons (eC (.none)) (aCons (eC (.int 0)) (aCons (eCall bList (aCons (eVar 3) aNil)) (aCons (eC (.str "12")) (aCons (eC (.dict [])) aNil)))))))))
  (sFor (iSeq (eOp vAdd (eVar 9) (eLst (aCons (eOp vAdd (eVar 3) (eTup (aCons (eC (.int 65)) aNil))) (aCons (eOp vAdd (eVar 3) (eOp vMul (eTup (aCons (eC (.int 1)) aNil)) (eC (.int 7)))) aNil))))) (.name 10) (sSeq (sPar 11 12 (aCons (eApp F__law_fault_k06 1 (aCons (eVar 10) aNil)) (aCons (eLst aNil) aNil)))
  (sSeq (sIf (tIs vIsNot (eVar 11)) (sSet 12 (eFrz (nComp (iRng (eC (.int 9))) [13] (.name 13) tYes' (eApp F__law_outcome_k06 2 (aCons (eVar 13) (aCons (eVar 10) aNil)))))) sNop)
  (sIf (tAnd' (eCmp vNe (eVar 12) (eLst aNil)) (eCmp vNe (eCall bRepr (aCons (eVar 12) aNil)) (eCall bRepr (aCons (eOp vMul (eLst (aCons (eVar 11) aNil)) (eC (.int 9))) aNil)))) (sRet (eC (.bool false))) sNop)))))))))))))
  (sRet (eC (.bool true)))))
noncomputable def F_law_k06 : List Val → DS → Res DS Val := fnF 14 B_law_k06
noncomputable def B__law_common : Rho → DS → SRes DS :=
  (sSeq (sWhile (eCmp vNe (eVar 1) (eC (.int 0))) (sPar 0 1 (aCons (eVar 1) (aCons (eOp vMod (eCall bInt (aCons (eVar 0) aNil)) (eVar 1)) aNil))))
  (sRet (eVar 0)))
noncomputable def F__law_common : List Val → DS → Res DS Val := fnF 2 B__law_common
end Mr
set_option maxRecDepth 100000
set_option maxHeartbeats 4000000
namespace Dl
open PySem L2
theorem r_omap0 {α β : Type} (f : α → β) : (none : Option α).map f = none := rfl
theorem r_obind0 {α β : Type} (f : α → Option β) : (none : Option α).bind f = none := rfl
theorem r_zle (n : Nat) : (0 ≤ n) = True := by simp
/-! ### loops that look for a first thing -/
def findI {α : Type} (f : Nat → PyData → Option α) : Nat → List PyData → Option α
  | _, [] => none
  | i, d :: ds => match f i d with
    | some v => some v
    | none => findI f (i + 1) ds
theorem ws_find {S : Type} {tg : Tg} {B : Rho → S → SRes S} {E : En S} {s : S} (P : Rho → Prop) (f : Nat → PyData → Option Val) : ∀ (ds : List PyData) (i : Nat) (ρ : Rho), P ρ →
    (∀ j d ρ, ds[j]? = some d → P ρ → ∃ ρ1, setT tg d ρ = some ρ1 ∧ @Ws _ (B ρ1 s) ⟨fun ρ2 s2 => f (i + j) d = none ∧ P ρ2 ∧ s2 = s, fun v s2 => f (i + j) d = some v ∧ s2 = s, fun _ _ _ _ => False, fun _ _ => False, fun ρ2 s2 => f (i + j) d = none ∧ P ρ2 ∧ s2 = s⟩) →
    (∀ v, findI f i ds = some v → E.r v s) → (findI f i ds = none → ∀ ρ, P ρ → E.n ρ s) → @Ws _ (forL tg B ds ρ s) E
  | [], i, ρ, h, _, _, e => e rfl ρ h
  | d :: ds, i, ρ, h, t, er, en => by
    obtain ⟨ρ1, h1, h2⟩ := t 0 d ρ rfl h
    unfold forL
    rw [h1]
    refine ws_goOn.mpr ?_
    have step : f i d = none → ∀ ρ, P ρ → @Ws _ (forL tg B ds ρ s) E := fun hn ρ hp => by
      have ef : findI f i (d :: ds) = findI f (i + 1) ds := by simp [findI, hn]
      refine ws_find P f ds (i + 1) ρ hp (fun j d ρ hd hp => ?_) (fun v hv => er v (ef.trans hv)) (fun hv => en (ef.trans hv))
      have := t (j + 1) d ρ hd hp
      rwa [show i + (j + 1) = i + 1 + j by omega] at this
    refine ws_mono h2 ?_ ?_ ?_ ?_ ?_
    · rintro ρ s ⟨hn, hp, rfl⟩; exact step hn ρ hp
    · rintro v s ⟨hv, rfl⟩
      refine er v ?_
      simp [findI, show f i d = some v from hv]
    · rintro _ _ _ _ h; exact h.elim
    · rintro _ _ h; exact h.elim
    · rintro ρ s ⟨hn, hp, rfl⟩; exact step hn ρ hp
theorem findI_none {α : Type} {f : Nat → PyData → Option α} : ∀ {ds : List PyData} {i : Nat}, (∀ j d, ds[j]? = some d → f (i + j) d = none) → findI f i ds = none
  | [], _, _ => rfl
  | d :: ds, i, h => by
    have h0 : f i d = none := h 0 d rfl
    simp only [findI, h0]
    exact findI_none fun j e he => by
      have := h (j + 1) e he
      rwa [show i + (j + 1) = i + 1 + j by omega] at this
theorem findI_get {α : Type} {f : Nat → PyData → Option α} : ∀ {ds : List PyData} {i j : Nat} {d : PyData}, findI f i ds = none → ds[j]? = some d → f (i + j) d = none
  | d :: ds, i, 0, e, h, hd => by
    cases hd
    simp only [findI] at h
    cases z : f i d with
    | some v => rw [z] at h; cases h
    | none => first | exact z | rfl
  | d :: ds, i, j + 1, e, h, hd => by
    simp only [findI] at h
    cases z : f i d with
    | some v => rw [z] at h; cases h
    | none =>
      rw [z] at h
      have := findI_get (i := i + 1) (j := j) (d := e) h (by simpa using hd)
      rwa [show i + (j + 1) = i + 1 + j by omega]
theorem findI_map {α β : Type} (g : α → β) (f : Nat → PyData → Option α) : ∀ (ds : List PyData) (i : Nat), findI (fun i d => (f i d).map g) i ds = (findI f i ds).map g
  | [], _ => rfl
  | d :: ds, i => by
    simp only [findI]
    cases f i d with
    | some v => rfl
    | none => exact findI_map g f ds (i + 1)
theorem enumFind {α : Type} (f : Nat → PyData → Option α) : ∀ (xs : List PyData) (i : Nat), findI (fun _ d => match d with | .tuple [.int k, y] => f k.toNat y | _ => none) i (xs.mapIdx fun j d => .tuple [.int ((i + j : Nat) : Int), d]) = findI f i xs
  | [], _ => rfl
  | x :: xs, i => by
    rw [List.mapIdx_cons]
    show (match f ((i + 0 : Nat) : Int).toNat x with | some v => some v | none => _) = (match f i x with | some v => some v | none => findI f (i + 1) xs)
    have e : ((i + 0 : Nat) : Int).toNat = i := by simp
    rw [e]
    cases f i x with
    | some v => rfl
    | none =>
      have := enumFind f xs (i + 1)
      simp only [show ∀ j, i + 1 + j = i + (j + 1) by intro j; omega] at this
      exact this
/-- the same, over enumerate -/
theorem ws_findE {S : Type} {a b : Nat} {B : Rho → S → SRes S} {E : En S} {s : S} (P : Rho → Prop) (f : Nat → PyData → Option PyData) (xs : List PyData) (ρ : Rho) (h : P ρ)
    (t : ∀ j y ρ, xs[j]? = some y → P ρ → @Ws _ (B ((ρ.set a (some (.d (.int (j : Nat))))).set b (some (.d y))) s) ⟨fun ρ2 s2 => f j y = none ∧ P ρ2 ∧ s2 = s, fun v s2 => (f j y).map Val.d = some v ∧ s2 = s, fun _ _ _ _ => False, fun _ _ => False, fun ρ2 s2 => f j y = none ∧ P ρ2 ∧ s2 = s⟩)
    (er : ∀ v, findI f 0 xs = some v → E.r (.d v) s) (en : findI f 0 xs = none → ∀ ρ, P ρ → E.n ρ s) : @Ws _ (forL (.tup [a, b]) B (enumD xs) ρ s) E := by
  have ef := enumFind (fun i d => (f i d).map Val.d) xs 0
  simp only [Nat.zero_add] at ef
  rw [findI_map] at ef
  refine ws_find P (fun _ d => match d with | .tuple [.int k, y] => (f k.toNat y).map Val.d | _ => none) _ 0 ρ h (fun j d ρ hd hp => ?_) (fun v hv => ?_) (fun hv => ?_)
  rotate_left
  · have hv' := ef.symm.trans hv
    cases z : findI f 0 xs with
    | none => rw [z] at hv'; cases hv'
    | some d => rw [z] at hv'; cases hv'; exact er d z
  · have hv' := ef.symm.trans hv
    cases z : findI f 0 xs with
    | none => exact en z
    | some d => rw [z] at hv'; cases hv'
  obtain ⟨y, hy, rfl⟩ := enum_at hd
  refine ⟨_, rfl, ?_⟩
  have := t j y ρ hy hp
  simpa [setAll] using this
/-! ### loops by what has been done -/
theorem ws_forP {S β : Type} {tg : Tg} {B : Rho → S → SRes S} {E : En S} (g : β → PyData) (P : List β → Rho → S → Prop) (bs : List β) (ρ : Rho) (s : S) (h : P [] ρ s)
    (t : ∀ done b rest ρ s, bs = done ++ b :: rest → P done ρ s → ∃ ρ1, setT tg (g b) ρ = some ρ1 ∧ @Ws _ (B ρ1 s) { E with n := fun ρ s => @Hid (P (done ++ [b]) ρ s), c := fun ρ s => @Hid (P (done ++ [b]) ρ s), b := E.n }) (e : ∀ ρ s, P bs ρ s → E.n ρ s) : @Ws _ (forL tg B (bs.map g) ρ s) E := by
  refine ws_forL (fun i ρ s => P (bs.take i) ρ s) (bs.map g) 0 ρ s (by simpa using h) (fun j d ρ s hd hj => ?_) (fun ρ s hj => e ρ s (by simpa using hj))
  rw [List.getElem?_map] at hd
  cases z : bs[j]? with
  | none => rw [z] at hd; cases hd
  | some b =>
    rw [z] at hd
    cases hd
    have hl : j < bs.length := (List.getElem?_eq_some_iff.mp z).1
    have eb : bs = bs.take j ++ b :: bs.drop (j + 1) := by
      have h2 := (List.getElem?_eq_some_iff.mp z).2
      rw [← h2, List.getElem_cons_drop hl, List.take_append_drop]
    have et : bs.take (0 + j + 1) = bs.take j ++ [b] := by
      rw [show 0 + j + 1 = j + 1 by omega, List.take_add_one, z]; rfl
    have := t (bs.take j) b _ ρ s eb (by simpa using hj)
    simp only [et]
    exact this
theorem ws_forR {S : Type} {tg : Tg} {B : Rho → S → SRes S} {E : En S} (n : Int) (P : Nat → Rho → S → Prop) (ρ : Rho) (s : S) (h : P 0 ρ s)
    (t : ∀ (k : Nat) ρ s, (k : Int) < n → P k ρ s → ∃ ρ1, setT tg (.int (k : Nat)) ρ = some ρ1 ∧ @Ws _ (B ρ1 s) { E with n := fun ρ s => @Hid (P (k + 1) ρ s), c := fun ρ s => @Hid (P (k + 1) ρ s), b := E.n }) (e : ∀ ρ s, P n.toNat ρ s → E.n ρ s) : @Ws _ (forL tg B (upto n) ρ s) E := by
  refine ws_forL P (upto n) 0 ρ s h (fun j d ρ s hd hj => ?_) (fun ρ s hj => e ρ s (by simpa [upto] using hj))
  unfold upto at hd
  rw [List.getElem?_map] at hd
  cases z : (List.range n.toNat)[j]? with
  | none => rw [z] at hd; cases hd
  | some b =>
    rw [z] at hd
    cases hd
    obtain ⟨hl, e1⟩ := List.getElem?_eq_some_iff.mp z
    rw [List.length_range] at hl
    rw [List.getElem_range] at e1
    subst e1
    have := t j ρ s (by omega) (by simpa using hj)
    simpa using this
theorem wp_compP {S β : Type} {tg : Tg} {T : Rho → S → Res S Bool} {F : Rho → S → Res S Val} {ρ : Rho} {X : Nat → List PyData → S → Prop} {Q : List PyData → S → Prop} (g : β → PyData) (P : List β → List PyData → S → Prop) (bs : List β) (s : S) (hl : bs.length ≤ 1000000) (h : P [] [] s)
    (t : ∀ done b rest acc s, bs = done ++ b :: rest → P done acc s → ∃ ρ1, setT tg (g b) ρ = some ρ1 ∧ @Wp _ _ (T ρ1 s) (fun _ _ _ => False) fun c s1 => if c = true then @Wp _ _ (F ρ1 s1) (fun _ _ _ => False) fun v s2 => ∃ y, v = .d y ∧ P (done ++ [b]) (acc ++ [y]) s2 else P (done ++ [b]) acc s1)
    (e : ∀ acc s, P bs acc s → Q acc s) : @Wp _ _ (compL tg T F ρ (bs.map g) [] s) X Q := by
  refine wp_compL (fun i acc s => P (bs.take i) acc s) (bs.map g) 0 [] s (by simpa using hl) (by simpa using h) (fun j d acc s hd hj => ?_) (fun acc s hj => e acc s (by simpa using hj))
  rw [List.getElem?_map] at hd
  cases z : bs[j]? with
  | none => rw [z] at hd; cases hd
  | some b =>
    rw [z] at hd
    cases hd
    have hl : j < bs.length := (List.getElem?_eq_some_iff.mp z).1
    have eb : bs = bs.take j ++ b :: bs.drop (j + 1) := by
      have h2 := (List.getElem?_eq_some_iff.mp z).2
      rw [← h2, List.getElem_cons_drop hl, List.take_append_drop]
    have et : bs.take (0 + j + 1) = bs.take j ++ [b] := by
      rw [show 0 + j + 1 = j + 1 by omega, List.take_add_one, z]; rfl
    have := t (bs.take j) b _ acc s eb (by simpa using hj)
    simp only [et]
    exact this
/-- k in range(n): the element drawn -/
theorem wp_compR {S : Type} {tg : Tg} {F : Rho → S → Res S Val} {ρ : Rho} {X : Nat → List PyData → S → Prop} {Q : List PyData → S → Prop} (n : Int) (hn : n ≤ 1000000) (P : Nat → List PyData → S → Prop) (s : S) (h : P 0 [] s)
    (t : ∀ (k : Nat) acc s, (k : Int) < n → P k acc s → ∃ ρ1, setT tg (.int (k : Nat)) ρ = some ρ1 ∧ @Wp _ _ (F ρ1 s) (fun _ _ _ => False) fun v s2 => ∃ y, v = .d y ∧ P (k + 1) (acc ++ [y]) s2)
    (e : ∀ acc s, P n.toNat acc s → Q acc s) : @Wp _ _ (compL tg tYes' F ρ (upto n) [] s) X Q := by
  refine wp_compL P (upto n) 0 [] s (by simp [upto]; omega) h (fun j d acc s hd hj => ?_) (fun acc s hj => e acc s (by simpa [upto] using hj))
  unfold upto at hd
  rw [List.getElem?_map] at hd
  cases z : (List.range n.toNat)[j]? with
  | none => rw [z] at hd; cases hd
  | some b =>
    rw [z] at hd
    cases hd
    obtain ⟨hl, e1⟩ := List.getElem?_eq_some_iff.mp z
    rw [List.length_range] at hl
    rw [List.getElem_range] at e1
    subst e1
    obtain ⟨ρ1, h1, h2⟩ := t j acc s (by omega) (by simpa using hj)
    refine ⟨ρ1, h1, ?_⟩
    refine wp_of_ok (a := true) (st := s) rfl ?_
    rw [if_pos rfl]
    simpa using h2
/-! ### parts of rows -/
theorem sIx_nn (n : Nat) (d : Nat) (k : Int) (h0 : 0 ≤ k) : HT.sIx n d (some k) = min k.toNat n := by
  show (if k < 0 then _ else _) = _
  rw [if_neg (by omega)]
theorem cut_from {α : Type} (xs : List α) (k : Int) (h0 : 0 ≤ k) : cutD xs (some k) none = xs.drop k.toNat := by
  unfold cutD
  rw [sIx_nn _ _ _ h0, HT.sIx_none]
  by_cases h : k.toNat ≤ xs.length
  · rw [Nat.min_eq_left h, List.take_of_length_le (by simp)]
  · rw [Nat.min_eq_right (by omega), List.drop_of_length_le (Nat.le_refl _), List.drop_of_length_le (by omega)]; simp
theorem cut_to {α : Type} (xs : List α) (k : Int) (h0 : 0 ≤ k) : cutD xs none (some k) = xs.take k.toNat := by
  unfold cutD
  rw [sIx_nn _ _ _ h0, HT.sIx_none, List.drop_zero, Nat.sub_zero]
  by_cases h : k.toNat ≤ xs.length
  · rw [Nat.min_eq_left h]
  · rw [Nat.min_eq_right (by omega), List.take_of_length_le (Nat.le_refl _), List.take_of_length_le (by omega)]
theorem cut_mid {α : Type} (xs : List α) (j k : Int) (h0 : 0 ≤ j) (h1 : 0 ≤ k) : cutD xs (some j) (some k) = (xs.take k.toNat).drop j.toNat := by
  unfold cutD
  rw [sIx_nn _ _ _ h0, sIx_nn _ _ _ h1, List.drop_take]
  by_cases h : j.toNat ≤ xs.length
  · rw [Nat.min_eq_left h]
    by_cases h2 : k.toNat ≤ xs.length
    · rw [Nat.min_eq_left h2]
    · rw [Nat.min_eq_right (by omega), List.take_of_length_le (by simp), List.take_of_length_le (by simp; omega)]
  · rw [show min j.toNat xs.length = xs.length by omega, List.drop_of_length_le (Nat.le_refl _), List.drop_of_length_le (by omega)]; simp
/-! ### a comprehension that draws nothing, its things given by their places -/
theorem compL_ok {S : Type} {tg : Tg} {F : Rho → S → Res S Val} {ρ : Rho} {st : S} (f : PyData → PyData) (ds : List PyData) (hl : ds.length ≤ 1000000) (h : ∀ d ∈ ds, ∃ ρ1, setT tg d ρ = some ρ1 ∧ F ρ1 st = .ok (.d (f d)) st) : compL tg tYes' F ρ ds [] st = .ok (ds.map f) st := by
  rw [compL_map f ds [] (by simpa using hl) h]; rfl
theorem compL_of {S : Type} {β : Type} {tg : Tg} {F : Rho → S → Res S Val} {ρ : Rho} {st : S} (g : β → PyData) (f : β → PyData) (bs : List β) (hl : bs.length ≤ 1000000) (h : ∀ b ∈ bs, ∃ ρ1, setT tg (g b) ρ = some ρ1 ∧ F ρ1 st = .ok (.d (f b)) st) : compL tg tYes' F ρ (bs.map g) [] st = .ok (bs.map f) st := by
  have key : ∀ (bs : List β) (acc : List PyData), acc.length + bs.length ≤ 1000000 → (∀ b ∈ bs, ∃ ρ1, setT tg (g b) ρ = some ρ1 ∧ F ρ1 st = .ok (.d (f b)) st) → compL tg tYes' F ρ (bs.map g) acc st = .ok (acc ++ bs.map f) st := by
    intro bs
    induction bs with
    | nil => intro acc _ _; simp [compL]
    | cons b bs ih =>
      intro acc hl h
      obtain ⟨ρ1, h1, h2⟩ := h b List.mem_cons_self
      simp only [List.length_cons] at hl
      simp only [List.map_cons]
      unfold compL
      rw [h1]
      simp only [tYes', h2]
      rw [if_pos (by omega), ih (acc ++ [f b]) (by simp; omega) fun b hb => h b (List.mem_cons_of_mem _ hb)]
      simp
  simpa using key bs [] (by simpa using hl) h
/-- with a test -/
theorem compL_if {S : Type} {β : Type} {tg : Tg} {T : Rho → S → Res S Bool} {F : Rho → S → Res S Val} {ρ : Rho} {st : S} (g : β → PyData) (p : β → Bool) (f : β → PyData) (bs : List β) (hl : bs.length ≤ 1000000) (h : ∀ b ∈ bs, ∃ ρ1, setT tg (g b) ρ = some ρ1 ∧ T ρ1 st = .ok (p b) st ∧ (p b = true → F ρ1 st = .ok (.d (f b)) st)) : compL tg T F ρ (bs.map g) [] st = .ok ((bs.filter p).map f) st := by
  have key : ∀ (bs : List β) (acc : List PyData), acc.length + bs.length ≤ 1000000 → (∀ b ∈ bs, ∃ ρ1, setT tg (g b) ρ = some ρ1 ∧ T ρ1 st = .ok (p b) st ∧ (p b = true → F ρ1 st = .ok (.d (f b)) st)) → compL tg T F ρ (bs.map g) acc st = .ok (acc ++ (bs.filter p).map f) st := by
    intro bs
    induction bs with
    | nil => intro acc _ _; simp [compL]
    | cons b bs ih =>
      intro acc hl h
      obtain ⟨ρ1, h1, h2, h3⟩ := h b List.mem_cons_self
      simp only [List.length_cons] at hl
      simp only [List.map_cons]
      unfold compL
      rw [h1]
      simp only [h2]
      cases hp : p b with
      | true =>
        simp only [h3 hp]
        rw [if_pos (by omega), ih (acc ++ [f b]) (by simp; omega) fun b hb => h b (List.mem_cons_of_mem _ hb)]
        simp [List.filter_cons, hp]
      | false =>
        simp only
        rw [ih acc (by omega) fun b hb => h b (List.mem_cons_of_mem _ hb)]
        simp [List.filter_cons, hp]
  simpa using key bs [] (by simpa using hl) h
/-! ### draws -/
structure Gd (B : Int) (st : DS) : Prop where
  on : st.on = true
  lo : 0 ≤ st.at_
  hi : st.at_ ≤ B
  ns : st.ns.length ≤ 63
theorem Gd.mono {B C : Int} {st : DS} (h : Gd B st) (l : B ≤ C) : Gd C st := ⟨h.on, h.lo, Int.le_trans h.hi l, h.ns⟩
theorem wp_draw {B n : Int} {st : DS} {X : Nat → List PyData → DS → Prop} {Q : Val → DS → Prop} (h : Gd B st) (hn : 0 < n) (h2 : n ≤ 10 ^ 40) (hB : B ≤ 2 ^ 39) (q : ∀ x st', 0 ≤ x → x < n → Gd (B + 1) st' → Q (.d (.int x)) st') : @Wp _ _ (fNext [.ref 0, .d (.int n)] st) X Q :=
  wp_next ⟨h.on, h.lo, h.hi⟩ hn h2 hB fun x st' h1 h2 g e => q x st' h1 h2 ⟨g.on, g.lo, g.hi, by rw [e]; exact h.ns⟩
theorem wp_begin {ns : List Int} (hns : ns.length ≤ 63) {X : Nat → List PyData → DS → Prop} {Q : Val → DS → Prop} (q : ∀ st', Gd 0 st' → Q (.ref 0) st') : @Wp _ _ (fBegun [.ref 1] ⟨ns, [], [], 0, false⟩) X Q :=
  wp_begun fun st' g e => q st' ⟨g.on, g.lo, g.hi, by rw [e]; exact hns⟩
/-- the end: a law's mirror gives True -/
theorem law_end {r : Res DS Val} (h : @Wp _ _ r (fun _ _ _ => False) fun v _ => v = .d (.bool true)) : ∃ st', r = .ok (.d (.bool true)) st' := by
  cases r with
  | ok v s => exact ⟨s, by rw [show v = .d (.bool true) from h]⟩
  | exc c fs s => exact h.elim
  | stuck => exact h.elim
/-! ### places -/
theorem at_0 (x : PyData) (xs : List PyData) : atI (x :: xs) 0 = some x := by
  have := atI_ok (x :: xs) (i := 0) (x := x) rfl
  simpa using this
theorem atI_lit (xs : List PyData) (n : Nat) (x : PyData) (h : xs[n]? = some x) : atI xs (OfNat.ofNat n : Int) = some x := atI_ok xs h
theorem at_1 (x y : PyData) (xs : List PyData) : atI (x :: y :: xs) 1 = some y := atI_ok (x :: y :: xs) (i := 1) rfl
theorem at_2 (x y z : PyData) (xs : List PyData) : atI (x :: y :: z :: xs) 2 = some z := atI_ok (x :: y :: z :: xs) (i := 2) rfl
theorem atI_int (xs : List PyData) (k : Int) (h0 : 0 ≤ k) (h1 : k < xs.length) : ∃ x, atI xs k = some x ∧ xs[k.toNat]? = some x := by
  have hl : k.toNat < xs.length := by omega
  refine ⟨xs[k.toNat], ?_, List.getElem?_eq_getElem hl⟩
  have := atI_ok xs (i := k.toNat) (List.getElem?_eq_getElem hl)
  rwa [Int.toNat_of_nonneg h0] at this
def noneD : PyData → Bool
  | .none => true
  | _ => false
theorem vIsN_d (x : PyData) : vIsN (.d x) = some (noneD x) := by cases x <;> rfl
theorem noneD_eq {x : PyData} : noneD x = true ↔ x = .none := by cases x <;> simp [noneD]
/-! ### equal things -/
mutual
theorem eqv_self : ∀ d : PyData, d.canLay0 = true → PyData.eqv d d = true
  | .none, _ => rfl
  | .bool b, _ => by simp [PyData.eqv]
  | .int i, _ => by simp [PyData.eqv]
  | .str x, _ => by simp [PyData.eqv]
  | .list xs, h => by
    have h : PyData.canLayAll0 xs = true := by simpa [PyData.canLay0] using h
    simpa [PyData.eqv] using eqvAll_self xs h
  | .tuple xs, h => by
    have h : PyData.canLayAll0 xs = true := by simpa [PyData.canLay0] using h
    simpa [PyData.eqv] using eqvAll_self xs h
  | .dict kvs, h => by simp [PyData.canLay0] at h
theorem eqvAll_self : ∀ ds : List PyData, PyData.canLayAll0 ds = true → PyData.eqvAll ds ds = true
  | [], _ => rfl
  | d :: ds, h => by
    have h : d.canLay0 = true ∧ PyData.canLayAll0 ds = true := by simpa [PyData.canLayAll0] using h
    simp [PyData.eqvAll, eqv_self d h.1, eqvAll_self ds h.2]
end
theorem vEq_self {d : PyData} (h : okD d = true) : vEq (.d d) (.d d) = some true := by
  unfold vEq
  split
  · rename_i a b e1 e2
    have := e1.symm.trans e2
    simp at this
    simp [this]
  · rename_i xs e1 e2
    have := e1.symm.trans e2
    simp at this
    simp [this]
  · unfold vEqD
    simp [datOf, h, eqv_self d (SeqAt.canLay_of_shaped h)]
/-! ### texts, places, tables -/
theorem ofString_inj {a b : String} (h : Str.ofString a = Str.ofString b) : a = b := by
  rw [Str.ofString_eq_toList, Str.ofString_eq_toList] at h
  have h1 : (a.toList.map Char.toNat) = (b.toList.map Char.toNat) := by simpa using h
  have key : ∀ (l m : List Char), l.map Char.toNat = m.map Char.toNat → l = m := by
    intro l
    induction l with
    | nil => intro m h; cases m with | nil => rfl | cons => simp at h
    | cons c l ih =>
      intro m h
      cases m with
      | nil => simp at h
      | cons d m =>
        simp only [List.map_cons, List.cons.injEq] at h
        rw [ih m h.2, Char.ext (UInt32.toNat_inj.mp h.1)]
  exact String.toList_inj.mp (key _ _ h1)
theorem r_str (a b : String) : (Str.ofString a = Str.ofString b) = (a = b) := propext ⟨ofString_inj, fun h => by rw [h]⟩
theorem at_3 (a b c d : PyData) (xs : List PyData) : atI (a :: b :: c :: d :: xs) 3 = some d := atI_ok (a :: b :: c :: d :: xs) (i := 3) rfl
theorem at_4 (a b c d e : PyData) (xs : List PyData) : atI (a :: b :: c :: d :: e :: xs) 4 = some e := atI_ok (a :: b :: c :: d :: e :: xs) (i := 4) rfl
theorem at_5 (a b c d e f : PyData) (xs : List PyData) : atI (a :: b :: c :: d :: e :: f :: xs) 5 = some f := atI_ok (a :: b :: c :: d :: e :: f :: xs) (i := 5) rfl
theorem at_6 (a b c d e f g : PyData) (xs : List PyData) : atI (a :: b :: c :: d :: e :: f :: g :: xs) 6 = some g := atI_ok (a :: b :: c :: d :: e :: f :: g :: xs) (i := 6) rfl
theorem at_7 (a b c d e f g h : PyData) (xs : List PyData) : atI (a :: b :: c :: d :: e :: f :: g :: h :: xs) 7 = some h := atI_ok (a :: b :: c :: d :: e :: f :: g :: h :: xs) (i := 7) rfl
theorem q_in2s (z a b : Str) : vIn (.d (.str z)) (.d (.tuple [.str a, .str b])) = some (decide (a = z) || decide (b = z)) := by
  simp [vIn, flatD, seqOf, PyData.eqv, BEq.beq]
theorem q_in3s (z a b c : Str) : vIn (.d (.str z)) (.d (.tuple [.str a, .str b, .str c])) = some (decide (a = z) || (decide (b = z) || decide (c = z))) := by
  simp [vIn, flatD, seqOf, PyData.eqv, BEq.beq]
theorem q_in3i (z a b c : Int) : vIn (.d (.int z)) (.d (.tuple [.int a, .int b, .int c])) = some (decide (a = z) || (decide (b = z) || decide (c = z))) := by
  simp [vIn, flatD, seqOf, PyData.eqv, BEq.beq]
theorem q_notin (u v : Val) : vNotIn u v = (vIn u v).map (!·) := rfl
section
variable {S : Type} {Fa : Rho → S → Res S Val} {A : Rho → S → Res S (List Val)} {ρ : Rho} {st : S}
theorem x_inT (ks : List Str) : tInT ks Fa ρ st = @bnd _ _ _ (Fa ρ st) fun v st1 => match v with
  | .d (.str x) => .ok (ks.contains x) st1
  | _ => .stuck := rfl
theorem x_appT (fs : List (Str × (List Val → S → Res S Val))) (n : Nat) : eAppT fs n Fa A ρ st = @bnd _ _ _ (Fa ρ st) fun v st1 => match v with
  | .d (.str x) => match fs.lookup x with
    | some F => eApp F n A ρ st1
    | none => .stuck
  | _ => .stuck := rfl
theorem x_zpN : iZpN Fa ρ st = @bnd _ _ _ (Fa ρ st) fun x st1 => match x with
  | .d (.tuple ds) => match tupsOf ds with
    | some xss => if 1 ≤ xss.length ∧ xss.length ≤ 4 ∧ ∀ ys ∈ xss, ys.length = (xss.headD []).length then .ok (zipRows xss) st1 else .stuck
    | none => .stuck
  | _ => .stuck := rfl
end
/-! ### ends of rows, rows put together -/
theorem cut_init (xs : List PyData) (x : PyData) : cutD (xs ++ [x]) none (some (-1)) = xs := by
  unfold cutD
  have h1 : HT.sIx (xs ++ [x]).length (xs ++ [x]).length (some (-1)) = xs.length := by
    simp [HT.sIx]
    omega
  have h2 : HT.sIx (xs ++ [x]).length 0 none = 0 := rfl
  rw [h1, h2]
  simp
theorem cut_last (xs : List PyData) (x : PyData) : cutD (xs ++ [x]) (some (-1)) none = [x] := by
  unfold cutD
  have h1 : HT.sIx (xs ++ [x]).length 0 (some (-1)) = xs.length := by
    simp [HT.sIx]
    omega
  have h2 : HT.sIx (xs ++ [x]).length (xs ++ [x]).length none = (xs ++ [x]).length := rfl
  rw [h1, h2]
  simp
theorem at_last (xs : List PyData) (x : PyData) : atI (xs ++ [x]) (-1) = some x := by
  unfold atI ixN
  have h1 : ¬ (0 : Int) ≤ -1 := by omega
  have h2 : (-1 + ((xs.length : Int) + 1)).toNat = xs.length := by omega
  have h3 : (1 : Int) ≤ (xs.length : Int) + 1 := by omega
  simp [h1, h2, h3]
theorem eq_t0 (xs : List PyData) : vEq (.d (.tuple xs)) (.d (.tuple [])) = some (decide (xs = [])) := rfl
theorem mul_tup0 (n : Nat) (h : n ≤ 1000) : vMul (.d (.tuple [.int 0])) (.d (.int ((n : Nat) : Int))) = some (.tuple ((List.replicate n (0 : Int)).map .int)) := by
  show cif _ _ _ = _
  rw [cif_pos ⟨by omega, by omega, by simp⟩]
  congr 2
  rw [Int.toNat_natCast, List.map_replicate]
  induction n with
  | zero => rfl
  | succ n ih => rw [List.replicate_succ, List.flatten_cons, ih (by omega), List.replicate_succ]; rfl
theorem mul_lst0 (n : Nat) (h : n ≤ 1000) : vMul (.d (.list [.int 0])) (.d (.int ((n : Nat) : Int))) = some (.list ((List.replicate n (0 : Int)).map .int)) := by
  show cif _ _ _ = _
  rw [cif_pos ⟨by omega, by omega, by simp; omega⟩]
  congr 2
  rw [Int.toNat_natCast, List.map_replicate]
  induction n with
  | zero => rfl
  | succ n ih => rw [List.replicate_succ, List.flatten_cons, ih (by omega), List.replicate_succ]; rfl
theorem at_mid (A B : List PyData) (x : PyData) : atI (A ++ x :: B) ((A.length : Nat) : Int) = some x := atI_ok _ (by simp)
theorem ix_mid (A B : List PyData) (x : PyData) : ixN (A ++ x :: B).length ((A.length : Nat) : Int) = some A.length := by
  unfold ixN
  rw [if_pos (by omega), if_pos (by simp; omega)]
  simp
theorem cut_mid1 (A B : List PyData) (x : PyData) : cutD (A ++ x :: B) none (some ((A.length : Nat) : Int)) = A := by
  rw [cut_to _ _ (by omega)]; simp
theorem cut_mid2 (A B : List PyData) (x : PyData) : cutD (A ++ x :: B) (some (((A.length : Nat) : Int) + 1)) none = B := by
  rw [cut_from _ _ (by omega)]
  have e : (((A.length : Nat) : Int) + 1).toNat = A.length + 1 := by omega
  rw [e, ← List.drop_drop]
  simp
theorem eq_l0 {xs : List PyData} (h : okD (.list xs) = true) : vEq (.d (.list xs)) (.d (.list [])) = some (decide (xs = [])) := by
  show vEqD _ _ = _
  unfold vEqD
  have h2 : okD (.list []) = true := by decide
  simp only [datOf, Option.bind_some, h, h2, Bool.and_self, if_true]
  cases xs <;> simp [PyData.eqv, PyData.eqvAll]
theorem mul_tupI (x : Int) (n : Nat) (h : n ≤ 1000) : vMul (.d (.tuple [.int x])) (.d (.int ((n : Nat) : Int))) = some (.tuple ((List.replicate n x).map .int)) := by
  show cif _ _ _ = _
  rw [cif_pos ⟨by omega, by omega, by simp⟩]
  congr 2
  rw [Int.toNat_natCast, List.map_replicate]
  induction n with
  | zero => rfl
  | succ n ih => rw [List.replicate_succ, List.flatten_cons, ih (by omega), List.replicate_succ]; rfl
theorem mul_tupD (d : PyData) (n : Nat) (h : n ≤ 1000) : vMul (.d (.tuple [d])) (.d (.int ((n : Nat) : Int))) = some (.tuple (List.replicate n d)) := by
  show cif _ _ _ = _
  rw [cif_pos ⟨by omega, by omega, by simp⟩]
  congr 2
  rw [Int.toNat_natCast]
  induction n with
  | zero => rfl
  | succ n ih => rw [List.replicate_succ, List.flatten_cons, ih (by omega), List.replicate_succ]; rfl
end Dl
set_option maxRecDepth 100000
set_option maxHeartbeats 4000000
namespace Dl
open PySem L2
/-! ### how long a text of data is -/
mutual
def wt : PyData → Nat
  | .none => 4
  | .bool _ => 5
  | .int i => i.natAbs.log2 + 2
  | .str x => (reprText x).length
  | .list xs => wtAll xs + 3
  | .tuple xs => wtAll xs + 3
  | .dict kvs => (PyData.shown (.dict kvs)).length
def wtAll : List PyData → Nat
  | [] => 0
  | x :: xs => wt x + 2 + wtAll xs
end
mutual
theorem shown_le : ∀ d : PyData, (PyData.shown d).length ≤ wt d
  | .none => by simp only [PyData.shown, wt]; decide
  | .bool b => by cases b <;> (simp only [PyData.shown, wt]; decide)
  | .int i => by
    simp only [PyData.shown, wt]
    have h : (toString i).length ≤ i.natAbs.log2 + 1 + 1 := int_text_length_le (by omega) (Nat.lt_succ_self _)
    have e : (Str.ofString (toString i)).length = (toString i).length := ofString_length _
    show (Str.ofString (toString i)).length ≤ _
    omega
  | .str x => by simp only [PyData.shown, wt]; exact Nat.le_refl _
  | .list xs => by
    simp only [PyData.shown, wt]
    have h := listText_len_le (PyData.shownAll xs)
    have h2 := shownAll_le xs
    omega
  | .tuple xs => by
    simp only [PyData.shown, wt]
    have h := tupleText_len_le (PyData.shownAll xs)
    have h2 := shownAll_le xs
    omega
  | .dict kvs => by simp only [wt]; exact Nat.le_refl _
theorem shownAll_le : ∀ ds : List PyData, ((PyData.shownAll ds).map (·.length)).sum + 2 * (PyData.shownAll ds).length ≤ wtAll ds
  | [] => by simp [PyData.shownAll, wtAll]
  | d :: ds => by
    have h1 := shown_le d
    have h2 := shownAll_le ds
    simp only [PyData.shownAll, wtAll, List.map_cons, List.sum_cons, List.length_cons]
    omega
end
/-- data that can be shown: how deep, how long its text is at most -/
structure Fits (k w : Nat) (d : PyData) : Prop where
  lay : d.canLay0 = true
  sh : d.showable = true
  dp : d.depth ≤ k
  le : wt d ≤ w
theorem Fits.mono {k w k' w' : Nat} {d : PyData} (h : Fits k w d) (hk : k ≤ k') (hw : w ≤ w') : Fits k' w' d := ⟨h.lay, h.sh, Nat.le_trans h.dp hk, Nat.le_trans h.le hw⟩
theorem log2_le {n k : Nat} (h : n < 2 ^ k) (hk : 0 < k) : n.log2 < k := by
  by_cases h0 : n = 0
  · subst h0; simpa using hk
  · exact (Nat.log2_lt h0).mpr h
theorem Fits.int {i : Int} (h1 : -(10 ^ 40) ≤ i) (h2 : i ≤ 10 ^ 40) : Fits 0 140 (.int i) := by
  have h : i.natAbs < 2 ^ 134 := by omega
  have hl := log2_le h (by decide)
  refine ⟨rfl, ?_, Nat.le_refl _, ?_⟩
  · simp only [PyData.showable]; exact decide_eq_true (by omega)
  · simp only [wt]; omega
theorem Fits.bits {i : Int} {k : Nat} (h : i.natAbs.log2 < k) (hk : k ≤ 1900) : Fits 0 (k + 1) (.int i) := by
  refine ⟨rfl, ?_, Nat.le_refl _, ?_⟩
  · simp only [PyData.showable]; exact decide_eq_true (by omega)
  · simp only [wt]; omega
theorem Fits.none : Fits 0 4 .none := ⟨rfl, rfl, Nat.le_refl _, Nat.le_refl _⟩
theorem Fits.bool (b : Bool) : Fits 0 5 (.bool b) := ⟨rfl, rfl, Nat.le_refl _, Nat.le_refl _⟩
theorem Fits.all {k w : Nat} : ∀ {ds : List PyData}, (∀ d ∈ ds, Fits k w d) → PyData.canLayAll0 ds = true ∧ PyData.showableAll ds = true ∧ PyData.depthAll ds ≤ k ∧ wtAll ds ≤ ds.length * (w + 2)
  | [], _ => ⟨rfl, rfl, Nat.zero_le _, by simp [wtAll]⟩
  | d :: ds, h => by
    have h1 := h d List.mem_cons_self
    obtain ⟨a, b, c, e⟩ := Fits.all (ds := ds) fun d hd => h d (List.mem_cons_of_mem _ hd)
    refine ⟨?_, ?_, ?_, ?_⟩
    · simp [PyData.canLayAll0, h1.lay, a]
    · simp [PyData.showableAll, h1.sh, b]
    · simp only [PyData.depthAll]; have := h1.dp; omega
    · simp only [wtAll, List.length_cons]
      have := h1.le
      rw [Nat.add_mul]
      omega
theorem Fits.tup {k w : Nat} {ds : List PyData} (h : ∀ d ∈ ds, Fits k w d) : Fits (k + 1) (ds.length * (w + 2) + 3) (.tuple ds) := by
  obtain ⟨a, b, c, e⟩ := Fits.all h
  refine ⟨?_, ?_, ?_, ?_⟩
  · simpa [PyData.canLay0] using a
  · simpa [PyData.showable] using b
  · simp only [PyData.depth]; omega
  · simp only [wt]; omega
theorem Fits.lst {k w : Nat} {ds : List PyData} (h : ∀ d ∈ ds, Fits k w d) : Fits (k + 1) (ds.length * (w + 2) + 3) (.list ds) := by
  obtain ⟨a, b, c, e⟩ := Fits.all h
  refine ⟨?_, ?_, ?_, ?_⟩
  · simpa [PyData.canLay0] using a
  · simpa [PyData.showable] using b
  · simp only [PyData.depth]; omega
  · simp only [wt]; omega
theorem Fits.ok {k w : Nat} {d : PyData} (h : Fits k w d) (hk : k ≤ 64) : okD d = true := by
  unfold okD SeqAt.shaped
  rw [h.lay, Bool.true_and]
  exact decide_eq_true (Nat.le_trans h.dp hk)
theorem repr_ok {k w : Nat} {d : PyData} (h : Fits k w d) (hk : k ≤ 64) (hw : w ≤ 1000000) : bRepr [.d d] = some (.str d.shown) := by
  show (if _ then _ else _) = _
  have h1 : SeqAt.shaped d = true := h.ok hk
  have h2 := shown_le d
  have h3 := h.le
  rw [if_pos]
  rw [h1, h.sh]
  simp only [Bool.true_and, Bool.and_true]
  exact decide_eq_true (by omega)
/-! ### what canLay asks, for typed rows -/
theorem lay_ints (l : List Int) : PyData.canLayAll0 (l.map .int) = true := by
  induction l with
  | nil => rfl
  | cons x l ih => simp [PyData.canLayAll0, PyData.canLay0, ih]
theorem depth_ints (l : List Int) : PyData.depthAll (l.map .int) = 0 := by
  induction l with
  | nil => rfl
  | cons x l ih => simp [PyData.depthAll, PyData.depth, ih]
theorem okD_ints (l : List Int) : okD (.tuple (l.map .int)) = true := by
  simp [okD, SeqAt.shaped, PyData.canLay0, PyData.depth, lay_ints, depth_ints]
theorem okD_intsL (l : List Int) : okD (.list (l.map .int)) = true := by
  simp [okD, SeqAt.shaped, PyData.canLay0, PyData.depth, lay_ints, depth_ints]
theorem eqv_ints : ∀ (l m : List Int), PyData.eqvAll (l.map .int) (m.map .int) = decide (l = m)
  | [], [] => rfl
  | [], _ :: _ => by simp [PyData.eqvAll]
  | _ :: _, [] => by simp [PyData.eqvAll]
  | x :: l, y :: m => by
    simp only [List.map_cons, PyData.eqvAll, PyData.eqv, eqv_ints l m]
    by_cases h1 : x = y <;> by_cases h2 : l = m <;> simp [h1, h2]
theorem vEq_rows (l m : List Int) : vEq (.d (.tuple (l.map .int))) (.d (.tuple (m.map .int))) = some (decide (l = m)) := by
  cases m with
  | nil =>
    show some (decide (l.map PyData.int = [])) = _
    cases l <;> rfl
  | cons a m =>
    show vEqD _ _ = _
    unfold vEqD
    have h1 := okD_ints l
    have h2 := okD_ints (a :: m)
    have h3 := eqv_ints l (a :: m)
    simp only [datOf, Option.bind_some, h1, h2, Bool.and_self, if_true, PyData.eqv, h3]
theorem vEq_rowsL (l m : List Int) : vEq (.d (.list (l.map .int))) (.d (.list (m.map .int))) = some (decide (l = m)) := by
  show vEqD _ _ = _
  unfold vEqD
  simp [datOf, okD_intsL, PyData.eqv, eqv_ints]
/-! ### powers -/
theorem pw30 : vPow (.d (.int 10)) (.d (.int 30)) = some (.int 1000000000000000000000000000000) := q_pow _ _ (by decide)
theorem pw29 : vPow (.d (.int 10)) (.d (.int 29)) = some (.int 100000000000000000000000000000) := q_pow _ _ (by decide)
theorem pw25 : vPow (.d (.int 10)) (.d (.int 25)) = some (.int 10000000000000000000000000) := q_pow _ _ (by decide)
theorem pw20 : vPow (.d (.int 10)) (.d (.int 20)) = some (.int 100000000000000000000) := q_pow _ _ (by decide)
theorem pw9 : vPow (.d (.int 10)) (.d (.int 9)) = some (.int 1000000000) := q_pow _ _ (by decide)
theorem pw6 : vPow (.d (.int 10)) (.d (.int 6)) = some (.int 1000000) := q_pow _ _ (by decide)
theorem pw62 : vPow (.d (.int 10)) (.d (.int 62)) = some (.int 100000000000000000000000000000000000000000000000000000000000000) := q_pow _ _ (by decide)
def great : Int := 10 ^ 992
theorem pwG : vPowW (.d (.int 100000000000000000000000000000000000000000000000000000000000000)) (.d (.int 16)) = some (.int great) := by
  show cif _ _ _ = _
  rw [cif_pos]
  · have e : (100000000000000000000000000000000000000000000000000000000000000 : Int) ^ (16 : Int).toNat = great := by decide +kernel
    rw [e]
  · exact ⟨by decide, by decide +kernel⟩
end Dl
set_option maxRecDepth 100000
set_option maxHeartbeats 4000000
local macro_rules | `(tactic| simp! [$args,*]) => `(tactic| simp only [Dl.cif_T, Dl.cif_F, Dl.seq_n, Dl.seq_r, Dl.seq_x, Dl.seq_b, Dl.seq_c, Dl.w_seq, Dl.w_if, Dl.w_set, Dl.w_ret, Dl.w_drop, Dl.w_for, Dl.w_new, Dl.w_sBind, Dl.w_unp, Dl.w_par, Dl.w_raise, Dl.w_retN, Dl.w_nop, Dl.w_nx, Dl.w_rt, Dl.w_exc, Dl.w_brk, Dl.w_cnt, Dl.w_stuck, Dl.w_goOn, Dl.w_retOwn, Dl.w_app, Dl.w_setI, Dl.w_augI, Dl.w_aug, Dl.p_ok, Dl.p_exc, Dl.p_stuck, Dl.p_bind, Dl.b_ok, Dl.b_exc, Dl.sb_ok, Dl.sb_exc, Dl.go_nx, Dl.go_rt, Dl.go_exc, Dl.ok_ite, Dl.l_some, Dl.lb_some, Dl.x_var, Dl.x_c, Dl.x_op, Dl.x_un, Dl.x_cmp, Dl.x_B, Dl.x_tVal, Dl.x_tAnd, Dl.x_tOr, Dl.x_tNot, Dl.x_if, Dl.x_aNil, Dl.x_aCons, Dl.x_tup, Dl.x_lst, Dl.x_and, Dl.x_or, Dl.c_some, Dl.x_chain, Dl.x_call, Dl.x_tIs, Dl.x_app, Dl.x_sl, Dl.x_oNone, Dl.x_oSome, Dl.x_frz, Dl.x_nLst, Dl.x_nList, Dl.x_nRep, Dl.x_iSeq, Dl.x_iRng, Dl.x_iRng2, Dl.x_iEnm, Dl.x_iZp, Dl.x_comp, Dl.x_yes, Dl.x_lenS, Dl.w_nil, Dl.w_cons, Dl.t_name, Dl.t_tup, Dl.t_all, Dl.t_nil, Dl.bg, Dl.r_map_cons, Dl.r_map_nil, Dl.r_rep_succ, Dl.r_rep_zero, Dl.r_len_cons, Dl.r_len_nil, Dl.r_len_map, Dl.r_app_cons, Dl.r_app_nil, Dl.r_nil_app, Dl.r_set_zero, Dl.r_set_succ, Dl.r_get_zero, Dl.r_get_succ, Dl.r_omap, Dl.r_obind, Dl.r_all_cons, Dl.r_all_nil, Dl.r_and_t, Dl.r_t_and, Dl.r_and_f, Dl.r_f_and, Dl.r_or_t, Dl.r_t_or, Dl.r_or_f, Dl.r_f_or, Dl.r_not_t, Dl.r_not_f, Dl.r_not_not, Dl.r_and_true, Dl.r_true_and, Dl.r_and_false, Dl.r_false_and, Dl.r_or_true, Dl.r_true_or, Dl.r_or_false, Dl.r_false_or, Dl.r_not_true, Dl.r_not_false, Dl.r_ft, Dl.r_tt, Dl.r_dt, Dl.r_df, Dl.r_de, Dl.r_dn, Dl.r_ne, Dl.r_oe, Dl.r_ae, Dl.r_ite_t, Dl.r_ite_f, Dl.r_ite_tb, Dl.r_ite_bf, Dl.r_db, Dl.r_self, Dl.r_ite_d, Dl.r_ite_b, Dl.r_ite_i, Dl.r_ite_s, Dl.q_isd, Dl.q_isr, Dl.q_add, Dl.q_sub, Dl.q_neg, Dl.q_lt, Dl.q_le, Dl.q_gt, Dl.q_ge, Dl.q_not, Dl.q_ixt, Dl.q_ixl, Dl.q_ixo, Dl.q_lent, Dl.q_lenl, Dl.q_leno, Dl.q_int, Dl.q_min, Dl.q_max, Dl.q_abs, Dl.q_tupl, Dl.q_tupt, Dl.q_tupo, Dl.q_listt, Dl.q_listl, Dl.q_listo, Dl.q_sum, Dl.q_all, Dl.q_any, Dl.q_sllt, Dl.q_slll, Dl.q_sllo, Dl.q_isi, Dl.q_nn, Dl.q_ni, Dl.q_nb, Dl.q_ns, Dl.q_nt, Dl.q_nl, Dl.q_nN, Dl.q_d0, Dl.q_d1, Dl.q_seql, Dl.q_seqt, Dl.q_seqo, Dl.q_lstl, Dl.q_lsto, Dl.q_dsl, Dl.q_dst, Dl.q_eqi, Dl.q_eqs, Dl.q_ne, Dl.x_chain3, Dl.x_dget, Dl.x_dix, Dl.ty_int_none, Dl.ty_int_bool, Dl.ty_int_int, Dl.ty_int_str, Dl.ty_int_list, Dl.ty_int_tuple, Dl.ty_int_dict, Dl.ty_bool_none, Dl.ty_bool_bool, Dl.ty_bool_int, Dl.ty_bool_str, Dl.ty_bool_list, Dl.ty_bool_tuple, Dl.ty_bool_dict, Dl.ty_tuple_none, Dl.ty_tuple_bool, Dl.ty_tuple_int, Dl.ty_tuple_str, Dl.ty_tuple_list, Dl.ty_tuple_tuple, Dl.ty_tuple_dict, Dl.ty_str_none, Dl.ty_str_bool, Dl.ty_str_int, Dl.ty_str_str, Dl.ty_str_list, Dl.ty_str_tuple, Dl.ty_str_dict, Dl.x_nCat, Dl.w_parNV, Dl.w_parVN, Dl.w_parNN, Dl.w_frzS, Dl.x_iRevN, Dl.w_par3, Dl.x_nSortS, Dl.x_nSl, Dl.w_newD, Dl.w_putT, Dl.w_putI, Dl.x_lenO, Dl.x_getO, Dl.w_parDV, Dl.x_appO, Dl.q_getD, Dl.x_tupR1, Dl.x_tupR2, Dl.r_omap0, Dl.r_obind0, Dl.r_zle, Dl.at_0, Dl.at_1, Dl.at_2, Dl.r_str, Dl.at_3, Dl.at_4, Dl.at_5, Dl.at_6, Dl.at_7, Dl.q_in2s, Dl.q_in3s, Dl.q_in3i, Dl.q_notin, Dl.x_inT, Dl.x_appT, Dl.x_zpN, Dl.pw30, Dl.pw29, Dl.pw25, Dl.pw20, Dl.pw9, Dl.pw6, Dl.pw62, Dl.pwG, simprocAttr, $args,*])
namespace Mr
open PySem L2 Dl
/-! ### loops.py -/
def isNum : PyData → Bool
  | .int _ => true
  | _ => false
def isWh (x : PyData) (a b : Int) : Bool := match x with
  | .int i => decide (a ≤ i) && decide (i ≤ b)
  | _ => false
theorem m_is_number (x : PyData) (st : DS) : F_is_number [.d x] st = .ok (.d (.bool (isNum x))) st := by
  cases x <;> rfl
theorem m_is_whole (x : PyData) (a b : Int) (st : DS) : F_is_whole [.d x, .d (.int a), .d (.int b)] st = .ok (.d (.bool (isWh x a b))) st := by
  refine ok_of ?_
  cases x <;> simp! [F_is_whole, w_fn, B_is_whole, isWh]
def badLoop : PyData → Bool
  | .tuple xs => !(decide ((1 : Int) ≤ (xs.length : Int)) && decide ((xs.length : Int) ≤ 64))
  | _ => true
def seqD : PyData → List PyData
  | .tuple xs => xs
  | _ => []
def fl1 (k : Nat) (l : PyData) : Option PyData := if badLoop l = true then some (.tuple [.int k]) else none
def fl3 (k j : Nat) (x : PyData) : Option PyData := if isNum x = true then none else some (.tuple [.int k, .int j])
def fl2 (k : Nat) (l : PyData) : Option PyData := findI (fl3 k) 0 (seqD l)
def faultL : PyData → PyData
  | .tuple ts => if (6 : Int) < (ts.length : Int) then .tuple [] else match findI fl1 0 ts with
    | some d => d
    | none => match findI fl2 0 ts with
      | some d => d
      | none => .none
  | _ => .tuple []
theorem m_loops_fault (x : PyData) (st : DS) : F_loops_fault [.d x] st = .ok (.d (faultL x)) st := by
  refine ok_of ?_
  cases x <;> simp! [F_loops_fault, w_fn, B_loops_fault, faultL]
  rename_i ts
  by_cases h6 : (6 : Int) < (ts.length : Int)
  · simp! [h6]
  simp! [h6]
  refine ws_findE (fun ρ => ∃ a b c e, ρ = [some (.d (.tuple ts)), a, b, c, e]) fl1 ts _ ⟨_, _, _, _, rfl⟩ ?_ ?_ ?_
  · rintro j y ρ hy ⟨a, b, c, e, rfl⟩
    cases y <;> simp! [fl1, badLoop]
    rename_i xs
    by_cases h1 : (1 : Int) ≤ (xs.length : Int) <;> by_cases h2 : (xs.length : Int) ≤ 64 <;> simp! [h1, h2]
    exact ⟨_, _, _, _, rfl⟩
  · intro v hv
    simp! [hv]
  rintro hv1 ρ ⟨a, b, c, e, rfl⟩
  simp! [hv1]
  refine ws_findE (fun ρ => ∃ a b c e, ρ = [some (.d (.tuple ts)), a, b, c, e]) fl2 ts _ ⟨_, _, _, _, rfl⟩ ?_ ?_ ?_
  · rintro j y ρ hy ⟨a, b, c, e, rfl⟩
    have hb : badLoop y = false := by
      have := findI_get hv1 hy
      unfold fl1 at this
      cases z : badLoop y with
      | false => rfl
      | true => rw [z] at this; cases this
    cases y <;> first | (cases hb; done) | skip
    rename_i xs
    simp! [fl2, seqD]
    refine ws_findE (fun ρ => ∃ c e, ρ = [some (.d (.tuple ts)), some (.d (.int j)), some (.d (.tuple xs)), c, e]) (fl3 j) xs _ ⟨_, _, rfl⟩ ?_ ?_ ?_
    · rintro i x ρ hx ⟨c, e, rfl⟩
      simp! [m_is_number, fl3]
      cases h : isNum x <;> simp! [h]
      exact ⟨_, _, rfl⟩
    · intro v hv
      simp! [hv]
    · rintro hv ρ ⟨c, e, rfl⟩
      simp! [hv]
      exact ⟨_, _, _, _, rfl⟩
  · intro v hv
    simp! [hv]
  · rintro hv ρ ⟨a, b, c, e, rfl⟩
    simp! [hv]
theorem m_need_loops (x : PyData) (h : faultL x = .none) (st : DS) : F_need_loops [.d x] st = .ok (.d x) st := by
  refine ok_of ?_
  simp! [F_need_loops, w_fn, B_need_loops, m_loops_fault, h]
theorem m_need_loops_x (x : PyData) (h : faultL x ≠ .none) (st : DS) : F_need_loops [.d x] st = .exc 0 [faultL x] st := by
  refine exc_of_wp ?_
  have h' : noneD (faultL x) = false := by
    cases z : noneD (faultL x) with
    | false => rfl
    | true => exact absurd (noneD_eq.mp z) h
  simp! [F_need_loops, w_fn, B_need_loops, m_loops_fault, vIsN_d, h', id]
theorem m_need_whole (x : PyData) (a b : Int) (h : isWh x a b = true) (st : DS) : F_need_whole [.d x, .d (.int a), .d (.int b)] st = .ok (.d .none) st := by
  refine ok_of ?_
  simp! [F_need_whole, w_fn, B_need_whole, m_is_whole, h]
theorem m_need_whole_x (x : PyData) (a b : Int) (h : isWh x a b = false) (st : DS) : F_need_whole [.d x, .d (.int a), .d (.int b)] st = .exc 6 [.str "no integer within the bounds"] st := by
  refine exc_of_wp ?_
  simp! [F_need_whole, w_fn, B_need_whole, m_is_whole, h, id]
theorem isWh_i (i a b : Int) : isWh (.int i) a b = (decide (a ≤ i) && decide (i ≤ b)) := rfl
/-! right loops -/
abbrev lpD (l : List Int) : PyData := .tuple (l.map .int)
abbrev lpsD (L : List (List Int)) : PyData := .tuple (L.map lpD)
structure OkL (L : List (List Int)) : Prop where
  len : L.length ≤ 6
  each : ∀ l ∈ L, 1 ≤ l.length ∧ l.length ≤ 64
theorem fault_ok (L : List (List Int)) (h : OkL L) : faultL (lpsD L) = .none := by
  unfold faultL lpsD
  have h6 : ¬ ((6 : Int) < ((L.map lpD).length : Int)) := by have := h.len; simp; omega
  simp only [h6, if_false]
  rw [findI_none, findI_none]
  · intro j d hd
    obtain ⟨l, hl, rfl⟩ := map_at hd
    unfold fl2 lpD seqD
    refine findI_none fun i x hx => ?_
    obtain ⟨n, hn, rfl⟩ := map_at hx
    rfl
  · intro j d hd
    obtain ⟨l, hl, rfl⟩ := map_at hd
    have h1 : (1 : Int) ≤ (l.length : Int) := by have := (h.each l hl).1; omega
    have h2 : (l.length : Int) ≤ 64 := by have := (h.each l hl).2; omega
    simp [fl1, lpD, badLoop, h1, h2]
theorem m_lengths_in (L : List (List Int)) (h : L.length ≤ 1000) (st : DS) : F_lengths_in [.d (lpsD L)] st = .ok (.d (lpD (L.map fun l => (l.length : Int)))) st := by
  refine ok_of ?_
  simp! [F_lengths_in, w_fn, B_lengths_in, lpsD]
  rw [compL_of lpD (fun l => .int (l.length : Nat)) L (by omega)]
  · simp! [lpD, List.map_map]
    rfl
  · intro l hl
    refine ⟨_, rfl, ?_⟩
    simp! [lpD]
/-- what is heard -/
def cellZ (l : List Int) (t : Int) : Int := l.getD (t % (l.length : Int)).toNat 0
def hearZ (L : List (List Int)) (t : Int) : Int := (L.map fun l => cellZ l t).sum
theorem cell_at {l : List Int} {t : Int} (h : 1 ≤ l.length) : atI (l.map PyData.int) (t % (l.length : Int)) = some (.int (cellZ l t)) := atI_mod h
theorem hear_comp (L : List (List Int)) (h : L.length ≤ 1000) (h1 : ∀ l ∈ L, 1 ≤ l.length) (t : Int) (st : DS) : compL (.name 2) tYes' (eOp vIx (eVar 2) (eOp vMod (eCall bInt (aCons (eVar 1) aNil)) (eCall bLen (aCons (eVar 2) aNil)))) [some (.d (lpsD L)), some (.d (.int t)), none] (L.map lpD) [] st = .ok ((L.map fun l => cellZ l t).map PyData.int) st := by
  rw [compL_of lpD (fun l => .int (cellZ l t)) L (by omega)]
  · simp only [List.map_map]; rfl
  · intro l hl
    refine ⟨_, rfl, ?_⟩
    have hp : (0 : Int) < (l.length : Int) := by have := h1 l hl; omega
    simp! [lpD, q_mod _ _ hp, cell_at (h1 l hl)]
theorem m_heard_in (L : List (List Int)) (h : L.length ≤ 1000) (h1 : ∀ l ∈ L, 1 ≤ l.length) (t : Int) (st : DS) : F_heard_in [.d (lpsD L), .d (.int t)] st = .ok (.d (.int (hearZ L t))) st := by
  have key := hear_comp L h h1 t st
  simp only [lpsD] at key
  refine ok_of ?_
  simp! [F_heard_in, w_fn, B_heard_in, lpsD, key, hearZ]
theorem m_heard (L : List (List Int)) (h : OkL L) (t : Int) (h0 : 0 ≤ t) (h1 : t ≤ 10 ^ 30) (st : DS) : F_heard [.d (lpsD L), .d (.int t)] st = .ok (.d (.int (hearZ L t))) st := by
  refine ok_of ?_
  have hw : isWh (.int t) 0 1000000000000000000000000000000 = true := by rw [isWh_i]; simp; omega
  simp! [F_heard, w_fn, B_heard, m_need_loops _ (fault_ok L h), m_need_whole _ _ _ hw, m_heard_in L (by have := h.len; omega) (fun l hl => (h.each l hl).1) t st]
def rowD (L : List (List Int)) (t : Int) (n : Nat) : PyData := lpD ((List.range n).map fun k => hearZ L (t + (k : Nat)))
theorem row_comp (F : List Val → DS → Res DS Val) (L : List (List Int)) (t : Int) (n : Nat) (hn : n ≤ 1000000) (st : DS) (hF : ∀ t, F [.d (lpsD L), .d (.int t)] st = .ok (.d (.int (hearZ L t))) st) :
    compL (.name 3) tYes' (eApp F 2 (aCons (eVar 0) (aCons (eOp vAdd (eVar 1) (eVar 3)) aNil))) [some (.d (lpsD L)), some (.d (.int t)), some (.d (.int n)), none] (upto n) [] st = .ok (((List.range n).map fun k => hearZ L (t + (k : Nat))).map PyData.int) st := by
  unfold upto
  rw [compL_of (fun k : Nat => PyData.int (k : Nat)) (fun k => .int (hearZ L (t + (k : Nat)))) _ (by simpa using hn)]
  · simp only [List.map_map]; rfl
  · intro k hk
    refine ⟨_, rfl, ?_⟩
    simp! [hF]
theorem m_heard_row (L : List (List Int)) (h : OkL L) (t : Int) (h0 : 0 ≤ t) (h1 : t ≤ 10 ^ 30) (n : Nat) (hn : n ≤ 1000) (st : DS) : F_heard_row [.d (lpsD L), .d (.int t), .d (.int n)] st = .ok (.d (rowD L t n)) st := by
  refine ok_of ?_
  have hw : isWh (.int t) 0 1000000000000000000000000000000 = true := by rw [isWh_i]; simp; omega
  have hm : isWh (.int n) 0 1000 = true := by rw [isWh_i]; simp; omega
  have hr : smallI (n : Int) := smallI_of (by omega) (by omega)
  simp! [F_heard_row, w_fn, B_heard_row, m_need_loops _ (fault_ok L h), m_need_whole _ _ _ hw, m_need_whole _ _ _ hm, hr]
  rw [row_comp F_heard_in L t n (by omega) st (fun t => m_heard_in L (by have := h.len; omega) (fun l hl => (h.each l hl).1) t st)]
  simp! [rowD, lpD]
def turnL (l : List Int) (t : Int) : List Int := l.drop (t % (l.length : Int)).toNat ++ l.take (t % (l.length : Int)).toNat
def turnZ (L : List (List Int)) (t : Int) : List (List Int) := L.map fun l => turnL l t
theorem m_turned (L : List (List Int)) (h : L.length ≤ 1000) (h1 : ∀ l ∈ L, 1 ≤ l.length ∧ l.length ≤ 1000) (t : Int) (st : DS) : F_turned [.d (lpsD L), .d (.int t)] st = .ok (.d (lpsD (turnZ L t))) st := by
  refine ok_of ?_
  simp! [F_turned, w_fn, B_turned, lpsD]
  refine ws_forP lpD (fun done ρ s => s = st ∧ ∃ a b, ρ = [some (.d (lpsD L)), some (.d (.int t)), some (.own ((turnZ done t).map lpD)), a, b]) L _ _ ⟨rfl, _, _, rfl⟩ ?_ ?_
  · rintro done l rest ρ s e ⟨rfl, a, b, rfl⟩
    refine ⟨_, rfl, ?_⟩
    have hl : l ∈ L := by rw [e]; simp
    have hlen : done.length < 1000 := by have := congrArg List.length e; simp at this; omega
    have hp : (0 : Int) < (l.length : Int) := by have := (h1 l hl).1; omega
    have h0 : 0 ≤ t % (l.length : Int) := Int.emod_nonneg _ (by omega)
    have hlen2 := (h1 l hl).2
    have hs : (l.drop (t % (l.length : Int)).toNat).length + (l.take (t % (l.length : Int)).toNat).length ≤ 1000000 := by simp; omega
    have hd : (turnZ done t).length < 1000000 := by simp [turnZ]; omega
    simp! [lpD, q_mod _ _ hp, cut_from _ _ h0, cut_to _ _ h0, q_addt, ← List.map_drop, ← List.map_take, hs, hd]
    have ee : (turnZ (done ++ [l]) t).map lpD = (turnZ done t).map lpD ++ [.tuple ((l.drop (t % (l.length : Int)).toNat).map .int ++ (l.take (t % (l.length : Int)).toNat).map .int)] := by simp [turnZ, turnL, lpD]
    rw [ee]
    exact ⟨_, _, rfl⟩
  · rintro ρ s ⟨rfl, a, b, rfl⟩
    simp! []
theorem turn_len (l : List Int) (t : Int) : (turnL l t).length = l.length := by
  by_cases h : l = []
  · subst h; simp [turnL]
  · have h0 : 0 < l.length := List.length_pos_iff.mpr h
    have h1 := Int.emod_lt_of_pos t (show (0 : Int) < (l.length : Int) by omega)
    have h2 := Int.emod_nonneg t (show (l.length : Int) ≠ 0 by omega)
    have h3 : (t % (l.length : Int)).toNat ≤ l.length := by omega
    simp [turnL]
    omega
theorem OkL.turn {L : List (List Int)} (h : OkL L) (t : Int) : OkL (turnZ L t) := by
  refine ⟨by simpa [turnZ] using h.len, fun l hl => ?_⟩
  obtain ⟨m, hm, rfl⟩ := List.mem_map.mp hl
  rw [turn_len]
  exact h.each m hm
theorem m_later (L : List (List Int)) (h : OkL L) (t : Int) (h0 : 0 ≤ t) (h1 : t ≤ 10 ^ 30) (st : DS) : F_later [.d (lpsD L), .d (.int t)] st = .ok (.d (lpsD (turnZ L t))) st := by
  refine ok_of ?_
  have hw : isWh (.int t) 0 1000000000000000000000000000000 = true := by rw [isWh_i]; simp; omega
  simp! [F_later, w_fn, B_later, m_need_loops _ (fault_ok L h), m_need_whole _ _ _ hw, m_turned L (by have := h.len; omega) (fun l hl => ⟨(h.each l hl).1, by have := (h.each l hl).2; omega⟩) t st]
theorem m_lengths_of (L : List (List Int)) (h : OkL L) (st : DS) : F_lengths_of [.d (lpsD L)] st = .ok (.d (lpD (L.map fun l => (l.length : Int)))) st := by
  refine ok_of ?_
  simp! [F_lengths_of, w_fn, B_lengths_of, m_need_loops _ (fault_ok L h), m_lengths_in L (by have := h.len; omega)]
/-! ### loops with bounded numbers -/
def BndL (b : Int) (L : List (List Int)) : Prop := ∀ l ∈ L, ∀ x ∈ l, -b ≤ x ∧ x ≤ b
theorem fits_loop {l : List Int} (h1 : l.length ≤ 64) (hb : ∀ x ∈ l, -(10 ^ 40) ≤ x ∧ x ≤ 10 ^ 40) : Fits 1 9100 (lpD l) := by
  refine (Fits.tup (k := 0) (w := 140) (ds := l.map .int) fun d hd => ?_).mono (by omega) (by simp; omega)
  obtain ⟨x, hx, rfl⟩ := List.mem_map.mp hd
  exact Fits.int (hb x hx).1 (hb x hx).2
theorem fits_loops {L : List (List Int)} (h : OkL L) (hb : BndL (10 ^ 40) L) : Fits 2 55000 (lpsD L) := by
  refine (Fits.tup (k := 1) (w := 9100) (ds := L.map lpD) fun d hd => ?_).mono (by omega) (by have := h.len; simp; omega)
  obtain ⟨l, hl, rfl⟩ := List.mem_map.mp hd
  exact fits_loop (h.each l hl).2 (hb l hl)
theorem cell_bnd {b : Int} (hb0 : 0 ≤ b) {l : List Int} (hb : ∀ x ∈ l, -b ≤ x ∧ x ≤ b) (t : Int) : -b ≤ cellZ l t ∧ cellZ l t ≤ b := by
  unfold cellZ
  rw [List.getD_eq_getElem?_getD]
  cases z : l[(t % (l.length : Int)).toNat]? with
  | none => simp; omega
  | some x => exact hb x (List.mem_of_getElem? z)
theorem hear_bnd {b : Int} (hb0 : 0 ≤ b) : ∀ {L : List (List Int)}, BndL b L → ∀ t, -(b * L.length) ≤ hearZ L t ∧ hearZ L t ≤ b * L.length
  | [], _, t => by simp [hearZ]
  | l :: L, h, t => by
    have h1 := cell_bnd hb0 (h l List.mem_cons_self) t
    have h2 := hear_bnd hb0 (L := L) (fun m hm => h m (List.mem_cons_of_mem _ hm)) t
    unfold hearZ at h2 ⊢
    simp only [List.map_cons, List.sum_cons, List.length_cons]
    have e : b * ((L.length + 1 : Nat) : Int) = b * (L.length : Int) + b := by
      rw [Int.natCast_add, Int.mul_add]; simp
    rw [e]
    omega
theorem hear_small {L : List (List Int)} (h : L.length ≤ 6) (hb : BndL (10 ^ 30) L) (t : Int) : -(10 ^ 40) ≤ hearZ L t ∧ hearZ L t ≤ 10 ^ 40 := by
  have := hear_bnd (by decide) hb t
  have h6 : (L.length : Int) ≤ 6 := by omega
  omega
theorem fits_row {L : List (List Int)} (h : L.length ≤ 6) (hb : BndL (10 ^ 30) L) (t : Int) (n : Nat) (hn : n ≤ 1000) : Fits 1 142003 (rowD L t n) := by
  refine (Fits.tup (k := 0) (w := 140) (ds := _) fun d hd => ?_).mono (by omega) (by simp; omega)
  obtain ⟨x, hx, rfl⟩ := List.mem_map.mp hd
  obtain ⟨k, hk, rfl⟩ := List.mem_map.mp hx
  exact Fits.int (hear_small h hb _).1 (hear_small h hb _).2
end Mr
set_option maxRecDepth 100000
set_option maxHeartbeats 4000000
namespace Mr
open PySem L2 Dl
/-! ### what laws draw -/
theorem d_number {B : Int} {st : DS} (g : Gd B st) (hB : B ≤ 2 ^ 38) {X : Nat → List PyData → DS → Prop} {Q : Val → DS → Prop} (q : ∀ x st', -(10 ^ 30) ≤ x → x ≤ 10 ^ 30 → Gd (B + 2) st' → Q (.d (.int x)) st') : @Wp _ _ (F__law_number [.ref 0] st) X Q := by
  simp! [F__law_number, w_fn, B__law_number]
  refine wp_draw g (by omega) (by omega) (by omega) fun way s1 a1 a2 g1 => ?_
  simp! []
  by_cases w0 : way = 0
  · simp! [w0]
    exact q 0 s1 (by omega) (by omega) (g1.mono (by omega))
  simp! [w0]
  by_cases w1 : way = 1
  · simp! [w1]
    refine wp_draw g1 (by omega) (by omega) (by omega) fun x s2 b1 b2 g2 => ?_
    simp! []
    exact q _ s2 (by omega) (by omega) (g2.mono (by omega))
  simp! [w1]
  by_cases w2 : way = 2
  · simp! [w2]
    refine wp_draw g1 (by omega) (by omega) (by omega) fun x s2 b1 b2 g2 => ?_
    simp! []
    exact q _ s2 (by omega) (by omega) (g2.mono (by omega))
  · simp! [w2]
    refine wp_draw g1 (by omega) (by omega) (by omega) fun x s2 b1 b2 g2 => ?_
    simp! []
    exact q _ s2 (by omega) (by omega) (g2.mono (by omega))
theorem d_lengths {B many most : Int} {st : DS} (g : Gd B st) (hB : B ≤ 2 ^ 38) (h0 : 0 ≤ many) (h1 : many ≤ 100) (h2 : 1 ≤ most) (h3 : most ≤ 1000) {X : Nat → List PyData → DS → Prop} {Q : Val → DS → Prop}
    (q : ∀ ls st', (ls.length : Int) ≤ many → (∀ x ∈ ls, 1 ≤ x ∧ x ≤ most) → Gd (B + 1 + many) st' → Q (.d (lpD ls)) st') : @Wp _ _ (F__law_lengths [.ref 0, .d (.int many), .d (.int most)] st) X Q := by
  simp! [F__law_lengths, w_fn, B__law_lengths]
  refine wp_draw g (by omega) (by omega) (by omega) fun n s1 a1 a2 g1 => ?_
  have hn : smallI n := smallI_of (by omega) (by omega)
  simp! [hn]
  refine wp_compR n (by omega) (fun k acc s => ∃ ls : List Int, acc = ls.map .int ∧ ls.length = k ∧ (∀ x ∈ ls, 1 ≤ x ∧ x ≤ most) ∧ Gd (B + 1 + k) s) s1 ⟨[], rfl, rfl, (fun _ h => nomatch h), g1.mono (by omega)⟩ ?_ ?_
  · rintro k acc s hk ⟨ls, rfl, hl, hx, gk⟩
    refine ⟨_, rfl, ?_⟩
    simp! []
    refine wp_draw gk (by omega) (by omega) (by omega) fun x s2 b1 b2 g2 => ?_
    simp! []
    refine ⟨_, rfl, ls ++ [1 + x], by simp, by simp [hl], ?_, g2.mono (by omega)⟩
    intro y hy
    rcases List.mem_append.mp hy with hy | hy
    · exact hx y hy
    · simp at hy; omega
  · rintro acc s ⟨ls, rfl, hl, hx, gk⟩
    exact q ls s (by omega) hx (gk.mono (by omega))
theorem d_loops_of {B : Int} {ls : List Int} {st : DS} (g : Gd B st) (hB : B ≤ 2 ^ 37) (h0 : ls.length ≤ 20) (h1 : ∀ x ∈ ls, 1 ≤ x ∧ x ≤ 1000) {X : Nat → List PyData → DS → Prop} {Q : Val → DS → Prop}
    (q : ∀ L st', L.map (fun l => (l.length : Int)) = ls → BndL (10 ^ 30) L → Gd (B + 40000) st' → Q (.d (lpsD L)) st') : @Wp _ _ (F__law_loops_of [.ref 0, .d (lpD ls)] st) X Q := by
  simp! [F__law_loops_of, w_fn, B__law_loops_of, lpD]
  refine ws_forP PyData.int (fun done ρ s => ∃ L a b, ρ = [some (.ref 0), some (.d (lpD ls)), some (.own (L.map lpD)), a, b] ∧ L.map (fun l => (l.length : Int)) = done ∧ BndL (10 ^ 30) L ∧ Gd (B + 2000 * done.length) s) ls _ _ ⟨[], _, _, rfl, rfl, (fun _ h => nomatch h), g.mono (by simp)⟩ ?_ ?_
  · rintro done n rest ρ s e ⟨L, a, b, rfl, hL, hb, gk⟩
    refine ⟨_, rfl, ?_⟩
    have hn := h1 n (by rw [e]; simp)
    have hdl : done.length < 20 := by have := congrArg List.length e; simp at this; omega
    have hLl : L.length = done.length := by rw [← hL]; simp
    have hsm : smallI n := smallI_of (by omega) (by omega)
    simp! [hsm]
    refine wp_compR n (by omega) (fun k acc s => ∃ l : List Int, acc = l.map .int ∧ l.length = k ∧ (∀ x ∈ l, -(10 ^ 30) ≤ x ∧ x ≤ 10 ^ 30) ∧ Gd (B + 2000 * done.length + 2 * k) s) s ⟨[], rfl, rfl, (fun _ h => nomatch h), gk.mono (by omega)⟩ ?_ ?_
    · rintro k acc s hk ⟨l, rfl, hl, hx, gk⟩
      refine ⟨_, rfl, ?_⟩
      simp! []
      refine d_number gk (by omega) fun x s2 b1 b2 g2 => ?_
      refine ⟨_, rfl, l ++ [x], by simp, by simp [hl], ?_, g2.mono (by omega)⟩
      intro y hy
      rcases List.mem_append.mp hy with hy | hy
      · exact hx y hy
      · simp at hy; subst hy; exact ⟨b1, b2⟩
    · rintro acc s ⟨l, rfl, hl, hx, gk⟩
      have hc : L.length < 1000000 := by omega
      simp! [hc]
      refine ⟨L ++ [l], some (.d (.int n)), b, by simp [lpD], by simp [hL]; omega, ?_, gk.mono (by simp; omega)⟩
      intro m hm
      rcases List.mem_append.mp hm with hm | hm
      · exact hb m hm
      · simp at hm; subst hm; exact hx
  · rintro ρ s ⟨L, a, b, rfl, hL, hb, gk⟩
    simp! []
    exact q L s hL hb (gk.mono (by omega))
/-- loops as most laws draw them -/
theorem okL_of {L : List (List Int)} {ls : List Int} (e : L.map (fun l => (l.length : Int)) = ls) (h0 : ls.length ≤ 6) (h1 : ∀ x ∈ ls, 1 ≤ x ∧ x ≤ 64) : OkL L := by
  refine ⟨by rw [← e] at h0; simpa using h0, fun l hl => ?_⟩
  have := h1 (l.length : Int) (by rw [← e]; exact List.mem_map.mpr ⟨l, hl, rfl⟩)
  omega
end Mr
set_option maxRecDepth 100000
set_option maxHeartbeats 4000000
namespace Mr
open PySem L2 Dl
theorem m__law_heard (L : List (List Int)) (h : L.length ≤ 1000) (h1 : ∀ l ∈ L, 1 ≤ l.length) (t : Int) (st : DS) : F__law_heard [.d (lpsD L), .d (.int t)] st = .ok (.d (.int (hearZ L t))) st := m_heard_in L h h1 t st
theorem m__law_heard_row (L : List (List Int)) (h : L.length ≤ 1000) (h1 : ∀ l ∈ L, 1 ≤ l.length) (t : Int) (n : Nat) (hn : n ≤ 1000000) (st : DS) : F__law_heard_row [.d (lpsD L), .d (.int t), .d (.int n)] st = .ok (.d (rowD L t n)) st := by
  refine ok_of ?_
  have hr : smallI (n : Int) := smallI_of (by omega) (by omega)
  simp! [F__law_heard_row, w_fn, B__law_heard_row, hr]
  rw [row_comp F__law_heard L t n (by omega) st (fun t => m__law_heard L h h1 t st)]
  simp! [rowD, lpD]
end Mr
set_option maxRecDepth 100000
set_option maxHeartbeats 4000000
namespace Dl
open PySem L2
/-! ### while -/
theorem whileF_more {S : Type} {T : Rho → S → Res S Bool} {B : Rho → S → SRes S} : ∀ (n m : Nat) (ρ : Rho) (st : S), n ≤ m → whileF T B n ρ st ≠ .stuck → whileF T B m ρ st = whileF T B n ρ st
  | 0, _, _, _, _, h => absurd rfl h
  | n + 1, 0, _, _, l, _ => absurd l (by omega)
  | n + 1, m + 1, ρ, st, l, h => by
    unfold whileF at h ⊢
    cases hT : T ρ st with
    | stuck => rfl
    | exc c fs s => rfl
    | ok b s1 =>
      simp only [hT, sBind] at h ⊢
      cases b with
      | false => rfl
      | true =>
        simp only [if_true] at h ⊢
        cases hB : B ρ s1 with
        | next ρ' s' =>
          simp only [hB, goOn] at h ⊢
          exact whileF_more n m ρ' s' (by omega) h
        | cnt ρ' s' =>
          simp only [hB, goOn] at h ⊢
          exact whileF_more n m ρ' s' (by omega) h
        | ret v s' => rfl
        | brk ρ' s' => rfl
        | exc c fs ρ' s' => rfl
        | stuck => rfl
theorem while_eq {S : Type} {T : Rho → S → Res S Bool} {B : Rho → S → SRes S} {n : Nat} {ρ : Rho} {st : S} (h : whileF T B n ρ st ≠ .stuck) : sWhile T B ρ st = whileF T B n ρ st := by
  unfold sWhile
  have hx : ∃ n, whileF T B n ρ st ≠ .stuck := ⟨n, h⟩
  rw [dif_pos hx]
  have hc := Classical.choose_spec hx
  rcases Nat.le_total n (Classical.choose hx) with l | l
  · exact whileF_more _ _ _ _ l h
  · exact (whileF_more _ _ _ _ l hc).symm
theorem ws_while {S : Type} {T : Rho → S → Res S Bool} {B : Rho → S → SRes S} {E : En S} (J : Nat → Rho → S → Prop)
    (t : ∀ n ρ s, J n ρ s → @Wp _ _ (T ρ s) (fun c fs s => E.x c fs ρ s) fun b s1 => @Ws _ (if b = true then B ρ s1 else .next ρ s1) (if b = true then { E with n := fun ρ' s' => ∃ m, m < n ∧ J m ρ' s', c := fun ρ' s' => ∃ m, m < n ∧ J m ρ' s', b := E.n } else E)) :
    ∀ (n : Nat) (ρ : Rho) (s : S), J n ρ s → @Ws _ (sWhile T B ρ s) E := by
  have key : ∀ (n : Nat) (ρ : Rho) (s : S), J n ρ s → ∃ m, @Ws _ (whileF T B m ρ s) E := by
    intro n
    induction n using Nat.strongRecOn with
    | _ n ih =>
      intro ρ s hJ
      have h := t n ρ s hJ
      cases hT : T ρ s with
      | stuck => rw [hT] at h; exact h.elim
      | exc c fs s1 =>
        rw [hT] at h
        refine ⟨1, ?_⟩
        unfold whileF
        rw [hT]
        exact h
      | ok b s1 =>
        rw [hT] at h
        cases b with
        | false =>
          refine ⟨1, ?_⟩
          unfold whileF
          rw [hT]
          exact h
        | true =>
          have h : @Ws _ (B ρ s1) { E with n := fun ρ' s' => ∃ m, m < n ∧ J m ρ' s', c := fun ρ' s' => ∃ m, m < n ∧ J m ρ' s', b := E.n } := h
          cases hB : B ρ s1 with
          | next ρ' s' =>
            rw [hB] at h
            obtain ⟨m, hm, hj⟩ := h
            obtain ⟨k, hk⟩ := ih m hm ρ' s' hj
            refine ⟨k + 1, ?_⟩
            unfold whileF
            rw [hT]
            show @Ws _ (goOn (B ρ s1) (whileF T B k)) E
            rw [hB]
            exact hk
          | cnt ρ' s' =>
            rw [hB] at h
            obtain ⟨m, hm, hj⟩ := h
            obtain ⟨k, hk⟩ := ih m hm ρ' s' hj
            refine ⟨k + 1, ?_⟩
            unfold whileF
            rw [hT]
            show @Ws _ (goOn (B ρ s1) (whileF T B k)) E
            rw [hB]
            exact hk
          | ret v s' =>
            rw [hB] at h
            refine ⟨1, ?_⟩
            unfold whileF
            rw [hT]
            show @Ws _ (goOn (B ρ s1) (whileF T B 0)) E
            rw [hB]
            exact h
          | brk ρ' s' =>
            rw [hB] at h
            refine ⟨1, ?_⟩
            unfold whileF
            rw [hT]
            show @Ws _ (goOn (B ρ s1) (whileF T B 0)) E
            rw [hB]
            exact h
          | exc c fs ρ' s' =>
            rw [hB] at h
            refine ⟨1, ?_⟩
            unfold whileF
            rw [hT]
            show @Ws _ (goOn (B ρ s1) (whileF T B 0)) E
            rw [hB]
            exact h
          | stuck => rw [hB] at h; exact h.elim
  intro n ρ s hJ
  obtain ⟨m, hm⟩ := key n ρ s hJ
  rw [while_eq (n := m)]
  · exact hm
  · intro hs
    rw [hs] at hm
    exact hm
end Dl
namespace Mr
open PySem L2 Dl
/-! ### the greatest common divisor -/
theorem m_common (a b : Nat) (st : DS) : F_common [.d (.int a), .d (.int b)] st = .ok (.d (.int (Nat.gcd a b))) st := by
  refine ok_of ?_
  simp! [F_common, w_fn, B_common]
  refine ws_while (fun n ρ s => s = st ∧ ∃ x : Nat, ρ = [some (.d (.int x)), some (.d (.int n))] ∧ Nat.gcd x n = Nat.gcd a b) ?_ b _ _ ⟨rfl, a, rfl, rfl⟩
  rintro n ρ s ⟨rfl, x, rfl, hg⟩
  by_cases h : n = 0
  · subst h
    have e : x = Nat.gcd a b := by rw [← hg]; simp
    simp! []
    rw [e]
  · have h0 : ¬ ((n : Int) = 0) := by omega
    have hp : (0 : Int) < (n : Int) := by omega
    simp! [h0, q_mod _ _ hp]
    refine ⟨x % n, Nat.mod_lt _ (by omega), n, by simp, ?_⟩
    rw [← hg, Nat.gcd_comm n, ← Nat.gcd_rec, Nat.gcd_comm]
theorem m__law_common (a b : Nat) (st : DS) : F__law_common [.d (.int a), .d (.int b)] st = .ok (.d (.int (Nat.gcd a b))) st := m_common a b st
end Mr
set_option maxRecDepth 100000
set_option maxHeartbeats 4000000
namespace Dl
open PySem L2
/-! ### a loop that ends at a first thing -/
theorem ws_hit {S β γ : Type} {tg : Tg} {B : Rho → S → SRes S} {E : En S} {s : S} (g : β → PyData) (P : Rho → Prop) (f : β → Option γ) : ∀ (bs : List β) (ρ : Rho), P ρ →
    (∀ b ∈ bs, ∀ ρ, P ρ → ∃ ρ1, setT tg (g b) ρ = some ρ1 ∧ (f b = none → @Ws _ (B ρ1 s) ⟨fun ρ2 s2 => P ρ2 ∧ s2 = s, fun _ _ => False, fun _ _ _ _ => False, fun _ _ => False, fun ρ2 s2 => P ρ2 ∧ s2 = s⟩) ∧
      (∀ c, f b = some c → bs.findSome? f = some c → @Ws _ (B ρ1 s) ⟨fun _ _ => False, E.r, E.x, fun _ _ => False, fun _ _ => False⟩)) →
    (bs.findSome? f = none → ∀ ρ, P ρ → E.n ρ s) → @Ws _ (forL tg B (bs.map g) ρ s) E
  | [], ρ, h, _, e => e rfl ρ h
  | b :: bs, ρ, h, t, e => by
    obtain ⟨ρ1, h1, h2, h3⟩ := t b List.mem_cons_self ρ h
    show @Ws _ (forL tg B (g b :: bs.map g) ρ s) E
    unfold forL
    rw [h1]
    refine ws_goOn.mpr ?_
    cases hf : f b with
    | some c =>
      have := h3 c hf (by simp [List.findSome?_cons, hf])
      exact ws_mono this (fun _ _ q => q.elim) (fun _ _ q => q) (fun _ _ _ _ q => q) (fun _ _ q => q.elim) (fun _ _ q => q.elim)
    | none =>
      have hs : (b :: bs).findSome? f = bs.findSome? f := by simp [List.findSome?_cons, hf]
      have go : ∀ ρ2 s2, P ρ2 ∧ s2 = s → @Ws _ (forL tg B (bs.map g) ρ2 s2) E := by
        rintro ρ2 s2 ⟨hp, rfl⟩
        refine ws_hit g P f bs ρ2 hp (fun c hc ρ3 h3 => ?_) (fun hn ρ3 h3 => e (hs.trans hn) ρ3 h3)
        have := t c (List.mem_cons_of_mem _ hc) ρ3 h3
        rw [hs] at this
        exact this
      exact ws_mono (h2 hf) go (fun _ _ q => q.elim) (fun _ _ _ _ q => q.elim) (fun _ _ q => q.elim) go
theorem ws_cut {S : Type} {r : SRes S} {E : En S} (J : Rho → S → Prop) (h : @Ws _ r { E with n := fun ρ s => @Hid (J ρ s) }) (k : ∀ ρ s, J ρ s → E.n ρ s) : @Ws _ r E := ws_mono h k (fun _ _ q => q) (fun _ _ _ _ q => q) (fun _ _ q => q) (fun _ _ q => q)
theorem upto_nat (n : Nat) : upto (n : Int) = (List.range n).map fun k => PyData.int ((k : Nat) : Int) := by simp [upto]
theorem fromTo_nat (a b : Nat) : fromTo ((a : Nat) : Int) ((b : Nat) : Int) = (List.range (b - a)).map fun k => PyData.int ((a + k : Nat) : Int) := by
  unfold fromTo
  rw [show ((b : Int) - (a : Int)).toNat = b - a by omega]
  simp
theorem enumD_map {β : Type} (g : β → PyData) (bs : List β) : enumD (bs.map g) = bs.zipIdx.map fun p => PyData.tuple [.int ((p.2 : Nat) : Int), g p.1] := by
  unfold enumD
  apply List.ext_getElem?
  intro i
  simp [List.getElem?_mapIdx, List.getElem?_zipIdx]
  cases bs[i]? <;> simp
theorem zipD_map {β γ : Type} (g : β → PyData) (h : γ → PyData) (bs : List β) (cs : List γ) : zipD (bs.map g) (cs.map h) = (bs.zip cs).map fun p => PyData.tuple [g p.1, h p.2] := by
  unfold zipD
  induction bs generalizing cs with
  | nil => rfl
  | cons b bs ih =>
    cases cs with
    | nil => rfl
    | cons c cs => simp [ih]
end Dl
namespace Mr
open PySem L2 Dl
/-! ### lengths -/
def faultN : PyData → Option PyData
  | .tuple ts => if (6 : Int) < (ts.length : Int) then some (.tuple []) else ts.zipIdx.findSome? fun p => if isWh p.1 1 64 = true then none else some (.tuple [.int ((p.2 : Nat) : Int)])
  | _ => some (.tuple [])
theorem m_need_lengths (x : PyData) (h : faultN x = none) (st : DS) : F_need_lengths [.d x] st = .ok (.d x) st := by
  refine ok_of ?_
  cases x <;> first | (cases h; done) | skip
  rename_i ts
  simp only [faultN] at h
  by_cases h6 : (6 : Int) < (ts.length : Int)
  · rw [if_pos h6] at h; cases h
  rw [if_neg h6] at h
  simp! [F_need_lengths, w_fn, B_need_lengths, h6]
  rw [show enumD ts = enumD (ts.map id) by simp, enumD_map]
  refine ws_hit _ (fun ρ => ∃ a b, ρ = [some (.d (.tuple ts)), a, b]) (fun p => if isWh p.1 1 64 = true then none else some (PyData.tuple [.int ((p.2 : Nat) : Int)])) _ _ ⟨_, _, rfl⟩ ?_ ?_
  · rintro ⟨x, i⟩ hb ρ ⟨a, b, rfl⟩
    refine ⟨_, rfl, fun hn => ?_, fun c hc hf => ?_⟩
    · have hw : isWh x 1 64 = true := by
        cases z : isWh x 1 64 with
        | true => rfl
        | false => simp [z] at hn
      simp! [m_is_whole, id, hw]
      exact ⟨_, _, rfl⟩
    · rw [h] at hf; cases hf
  · rintro _ ρ ⟨a, b, rfl⟩
    simp! []
theorem m_need_lengths_x (x p : PyData) (h : faultN x = some p) (st : DS) : F_need_lengths [.d x] st = .exc 1 [p] st := by
  refine exc_of_wp ?_
  cases x
  case tuple ts =>
    simp only [faultN] at h
    by_cases h6 : (6 : Int) < (ts.length : Int)
    · rw [if_pos h6] at h
      cases h
      simp! [F_need_lengths, w_fn, B_need_lengths, h6, id]
    rw [if_neg h6] at h
    simp! [F_need_lengths, w_fn, B_need_lengths, h6]
    rw [show enumD ts = enumD (ts.map id) by simp, enumD_map]
    refine ws_hit _ (fun ρ => ∃ a b, ρ = [some (.d (.tuple ts)), a, b]) (fun p => if isWh p.1 1 64 = true then none else some (PyData.tuple [.int ((p.2 : Nat) : Int)])) _ _ ⟨_, _, rfl⟩ ?_ ?_
    · rintro ⟨x, i⟩ hb ρ ⟨a, b, rfl⟩
      refine ⟨_, rfl, fun hn => ?_, fun c hc hf => ?_⟩
      · have hw : isWh x 1 64 = true := by
          cases z : isWh x 1 64 with
          | true => rfl
          | false => simp [z] at hn
        simp! [m_is_whole, id, hw]
        exact ⟨_, _, rfl⟩
      · rw [h] at hf
        cases hf
        cases z : isWh x 1 64 with
        | true => simp [z] at hc
        | false =>
          simp [z] at hc
          subst hc
          simp! [m_is_whole, id, z]
    · intro hn
      rw [h] at hn
      cases hn
  all_goals
    cases h
    simp! [F_need_lengths, w_fn, B_need_lengths, id]
/-! right lengths -/
abbrev natsD (l : List Nat) : PyData := .tuple (l.map fun n => PyData.int ((n : Nat) : Int))
structure OkN (l : List Nat) : Prop where
  len : l.length ≤ 6
  each : ∀ n ∈ l, 1 ≤ n ∧ n ≤ 64
theorem natsD_of {ls : List Int} (h : ∀ x ∈ ls, 0 ≤ x) : lpD ls = natsD (ls.map Int.toNat) := by
  show PyData.tuple _ = PyData.tuple _
  rw [List.map_map]
  congr 1
  refine List.map_congr_left fun x hx => ?_
  show PyData.int x = PyData.int ((x.toNat : Nat) : Int)
  rw [Int.toNat_of_nonneg (h x hx)]
theorem faultN_ok {l : List Nat} (h : OkN l) : faultN (natsD l) = none := by
  simp only [faultN, natsD]
  have h6 : ¬ ((6 : Int) < ((l.map fun n => PyData.int ((n : Nat) : Int)).length : Int)) := by have := h.len; simp; omega
  rw [if_neg h6, List.findSome?_eq_none_iff]
  rintro ⟨x, i⟩ hx
  have hm : x ∈ l.map fun n => PyData.int ((n : Nat) : Int) := by
    have := List.mem_zipIdx_iff_getElem?.mp hx
    exact List.mem_of_getElem? (by simpa using this)
  obtain ⟨n, hn, rfl⟩ := List.mem_map.mp hm
  have := h.each n hn
  have hw : isWh (.int ((n : Nat) : Int)) 1 64 = true := by rw [isWh_i]; simp; omega
  simp [hw]
end Mr
set_option maxRecDepth 100000
set_option maxHeartbeats 4000000
namespace Dl
open PySem L2
theorem w_try0 {S : Type} {c j : Nat} {w : PyData} {B : Rho → S → SRes S} {ρ : Rho} {st : S} {E : En S} : @Ws _ (sTry0 c j w B ρ st) E = @Ws _ (B ρ st) { E with x := fun c' fs ρ' s' => if c' = c then E.n (ρ'.set j (some (.d w))) s' else E.x c' fs ρ' s' } := by
  unfold sTry0
  cases B ρ st with
  | exc c' fs ρ' s' =>
    show @Ws _ (if c' = c then _ else _) E = if c' = c then _ else _
    by_cases h : c' = c
    · rw [if_pos h, if_pos h]; rfl
    · rw [if_neg h, if_neg h]; rfl
  | next ρ' s' => rfl
  | ret v s' => rfl
  | brk ρ' s' => rfl
  | cnt ρ' s' => rfl
  | stuck => rfl
def tryX {S : Type} (c i j : Nat) (f : List PyData → Option PyData) (E : En S) (c' : Nat) (fs : List PyData) (ρ' : Rho) (s' : S) : Prop :=
  if c' = c then (match f fs with
    | some w => if i < ρ'.length then E.n ((ρ'.set j (some (.d w))).set i none) s' else False
    | none => False) else E.x c' fs ρ' s'
theorem w_try {S : Type} {c i j : Nat} {f : List PyData → Option PyData} {B : Rho → S → SRes S} {ρ : Rho} {st : S} {E : En S} : @Ws _ (sTry c i j f B ρ st) E = @Ws _ (B ρ st) { E with x := tryX c i j f E } := by
  unfold sTry
  cases B ρ st with
  | exc c' fs ρ' s' =>
    show @Ws _ (if c' = c then _ else _) E = tryX c i j f E c' fs ρ' s'
    unfold tryX
    by_cases h : c' = c
    · rw [if_pos h, if_pos h]
      cases f fs with
      | none => rfl
      | some w =>
        show @Ws _ (if i < ρ'.length then _ else _) E = if i < ρ'.length then _ else _
        by_cases h2 : i < ρ'.length
        · rw [if_pos h2, if_pos h2]; rfl
        · rw [if_neg h2, if_neg h2]; rfl
    · rw [if_neg h, if_neg h]; rfl
  | next ρ' s' => rfl
  | ret v s' => rfl
  | brk ρ' s' => rfl
  | cnt ρ' s' => rfl
  | stuck => rfl
end Dl
set_option maxRecDepth 100000
set_option maxHeartbeats 4000000
namespace Lw
open PySem L2 Dl PySem.Spec PyProof.Rows
def top (i : Nat) : Stmt := PySem.Challenge.pw_pedalrounds_k06_whole_faults_of_lengths.main.body.getD i (.Pass ⟨0, 0, 0, 0⟩)
abbrev s_begun : Stmt := top 46
abbrev s_next : Stmt := top 47
section
variable {P : Program} {w : World} {K : PySem.W.Frag} {mg : Str → Option Value} {base : Heap} {tb : List (Addr × Str)} {cl : Nat → Option (Addr × List Str)}
theorem sc_begun : FnScope ["script", "cell"] ["script"] (defScope s_begun) := ⟨rfl, rfl, rfl, by decide +kernel, rfl, by decide +kernel, by decide +kernel⟩
theorem ok_begun {f : Addr} {fd : FuncData} (Fn : Fun K "_law_begun" "_law_begun" s_begun f fd) (hlist : mg "list" = none) : FnG (UD K tb cl) P w K mg base 1 f fd ["script"] fBegun := by
  refine fn_h Fn sc_begun fun cdv A outer s H xs Q E vs t I M hr hgd hl ok rs hv hd h => ?_
  have rd : RD K tb t M := rs
  match vs, hv, h with
  | [.ref 1], .cons hx .nil, h =>
    have h : Post (UD K tb cl) K (VR K) (if t.on = false then .ok (.ref 0) { t with on := true, cells := t.ns, left := t.ns.filter (fun x => decide (10 ^ 18 ≤ x)), at_ := 0 } else .stuck) I M H Q E := h
    by_cases hon : t.on = false
    · rw [if_pos hon] at h
      obtain ⟨a, had, hS⟩ := rd.scr
      have hn63 := rd.len
      obtain ⟨b, e1, e2⟩ := hx
      rw [had] at e1
      cases e1
      subst e2
      have hoff := rd.off hon
      refine ⟨_, pss_one (ps_ret (pe_disp (pps_cons pe_str (pe_callTy call_list_of (by rfl) hlist (by decide +kernel) (pa_cons (pv 0) pa_nil))
        (pps_cons pe_str (pe_lc (own := [("cell", 1)]) (g := gName 1) (tt := tTest (tOp (rI0 fun i j => .bl (decide (j ≤ i))) (tVar 1) (tOp (rI CPow fun i j => .int (i ^ j.toNat)) (tC (.int 10)) (tC (.int 18))))) rfl sc_begun.nd (pi_list (pv 0))
            (blkOk_by (N := ["script", "cell"]) (sc := defScope s_begun) (by decide +kernel)) (fun _ _ _ _ _ => pg_name (i := 1) sc_begun.nd rfl (Or.inl rfl))
            (fun _ _ _ _ _ => pts_one (pt_cmpR op_ge (pv 1) (pe_op op_pow pe_int pe_int) (nomark _))) (fun _ _ _ _ _ => pv 1))
          (pps_cons pe_str pe_int pps_nil))) (by rfl) (by rfl) (fun z => by cases z) (by decide))), ?_⟩
      intro p hp
      have s1 : Same H (upd H p (.dK [])) := fun b o e => by rw [upd_ne (ne_of_none e hp)]; exact e
      refine ⟨_, rfl, a, _, rfl, .inl (sqL_mono (ok.mh.trans s1) hS.sq), fun c hc => ?_⟩
      have s2 : Same (upd H p (.dK [])) (upd (upd H p (.dK [])) c (.lst (t.ns.map V.int))) := fun b o e => by rw [upd_ne (ne_of_none e hc)]; exact e
      refine ⟨_, rfl, a, rfl, ⟨_, sqL_mono (ok.mh.trans (s1.trans s2)) hS.sq⟩, fun D hD => ?_⟩
      refine lc_list (K := K) (a := a) (xs := t.ns.map V.int) (fun i H' => Same (upd (upd H p (.dK [])) c (.lst (t.ns.map V.int))) H' ∧ H' D = some (.lst (((t.ns.take i).filter (fun x => decide (10 ^ 18 ≤ x))).map V.int)))
        ⟨fun b o e => by rw [upd_ne (ne_of_none e hD)]; exact e, upd_same⟩ (fun i H' _ hH => sqL_mono (ok.mh.trans (s1.trans (s2.trans hH.1))) hS.sq) ?_ ?_
      · rintro i y H' hi ⟨sH, dH⟩
        rw [List.getElem?_map] at hi
        cases hz : t.ns[i]? with
        | none => rw [hz] at hi; cases hi
        | some z =>
          rw [hz] at hi
          cases hi
          have htk : t.ns.take (i + 1) = t.ns.take i ++ [z] := by
            obtain ⟨hlt, hzz⟩ := List.getElem?_eq_some_iff.mp hz
            rw [← hzz, List.take_succ_eq_append_getElem hlt]
          refine ⟨rfl, _, rfl, 10, 18, rfl, rfl, ⟨by decide, by decide, by decide⟩, z, _, rfl, rfl, _, rfl, ?_⟩
          by_cases hge : (10 : Int) ^ (18 : Int).toNat ≤ z
          · rw [decide_eq_true hge]
            refine iteT ⟨_, rfl, _, dH, ?_, fun b o e => ?_, ?_⟩
            · rw [List.length_map]
              refine Nat.lt_of_le_of_lt (List.length_filter_le _ _) (Nat.lt_of_le_of_lt (List.length_take_le' _ _) (Nat.lt_of_le_of_lt hn63 (by decide)))
            · rw [upd_ne (ne_of_none e hD)]; exact sH b o e
            · rw [upd_same, htk, List.filter_append, List.map_append]
              have hge' : decide ((10 : Int) ^ 18 ≤ z) = true := decide_eq_true hge
              simp only [List.filter_cons, hge', List.filter_nil, if_true, List.map_cons, List.map_nil]
          · rw [decide_eq_false hge]
            refine iteF ⟨sH, ?_⟩
            rw [dH, htk, List.filter_append]
            have hge' : decide ((10 : Int) ^ 18 ≤ z) = false := decide_eq_false hge
            simp only [List.filter_cons, hge', List.filter_nil, List.append_nil, Bool.false_eq_true, if_false]
      · rintro H2 ⟨sH, dH⟩
        rw [List.length_map, List.take_length] at dH
        have pc : p ≠ c := ne_of_none upd_same hc
        have pD : p ≠ D := ne_of_none (H := upd (upd H p (.dK [])) c (.lst (t.ns.map V.int))) (by rw [upd_ne pc]; exact upd_same) hD
        have cD : c ≠ D := ne_of_none (H := upd (upd H p (.dK [])) c (.lst (t.ns.map V.int))) upd_same hD
        have hcH : H c = none := by rw [upd_ne pc.symm] at hc; exact hc
        have hDH : H D = none := by rw [upd_ne cD.symm, upd_ne pD.symm] at hD; exact hD
        refine ⟨sH _ _ (by rw [upd_ne pc]; exact upd_same), [(Sum.inr "cells", .ref c), (Sum.inr "left", .ref D), (Sum.inr "at", .int 0)], rfl, (by show 3 ≤ 15; decide), ?_⟩
        rw [merge_draw]
        have sA : Same H H2 := s1.trans (s2.trans sH)
        refine h (.ref p) I ⟨upd (upd (upd M.h c (.lst (t.ns.map V.int))) D (.lst ((t.ns.filter (fun x => decide (10 ^ 18 ≤ x))).map V.int))) p (.dK (drawKv c D 0)), fun n => if n = 0 then some p else M.ad n⟩ _ ?_ ?_ ?_ ⟨p, rfl, rfl⟩
        · refine ⟨Same.refl I, fun _ _ z => z, fun b hb z => ?_, fun b o e m => ?_, fun b hb => ?_, fun n b e => ?_⟩
          · have n1 : b ≠ p := fun w => hb (by rw [w]; exact hp)
            have n2 : b ≠ c := fun w => hb (by rw [w]; exact hcH)
            have n3 : b ≠ D := fun w => hb (by rw [w]; exact hDH)
            have z : upd (upd (upd M.h c (.lst (t.ns.map V.int))) D (.lst ((t.ns.filter (fun x => decide (10 ^ 18 ≤ x))).map V.int))) p (.dK (drawKv c D 0)) b ≠ none := z
            rw [upd_ne n1, upd_ne n3, upd_ne n2] at z
            exact z
          · rw [upd_ne (ne_of_none e hp)]
            exact sA b o e
          · rw [upd_ne (fun w => hb (by rw [w]; exact hp))]
            obtain ⟨o, ho⟩ := some_of_ne hb
            exact ne_none_of (sA b o ho)
          · show (if n = 0 then some p else M.ad n) = some b
            by_cases hn : n = 0
            · subst hn; rw [hoff] at e; cases e
            · rw [if_neg hn]; exact e
        · refine ⟨fun b o e => ?_, fun b o e => ?_, fun b hb => ?_⟩
          · have e' := ok.ih b o e
            rw [upd_ne (ne_of_none e' hp)]
            exact sA b o e'
          · have e : upd (upd (upd M.h c (.lst (t.ns.map V.int))) D (.lst ((t.ns.filter (fun x => decide (10 ^ 18 ≤ x))).map V.int))) p (.dK (drawKv c D 0)) b = some o := e
            by_cases h1 : b = p
            · subst h1
              rw [upd_same] at e ⊢
              exact e
            · rw [upd_ne h1] at e ⊢
              by_cases h2 : b = D
              · subst h2
                rw [upd_same] at e
                rw [dH]
                exact e
              · rw [upd_ne h2] at e
                by_cases h3 : b = c
                · subst h3
                  rw [upd_same] at e
                  rw [← e]
                  exact sH _ _ upd_same
                · rw [upd_ne h3] at e
                  exact sA b o (ok.mh b o e)
          · obtain ⟨o, ho⟩ := some_of_ne hb
            have e' := ok.ih b o ho
            show upd (upd (upd M.h c (.lst (t.ns.map V.int))) D (.lst ((t.ns.filter (fun x => decide (10 ^ 18 ≤ x))).map V.int))) p (.dK (drawKv c D 0)) b = none
            rw [upd_ne (ne_of_none e' hp), upd_ne (ne_of_none e' hDH), upd_ne (ne_of_none e' hcH)]
            exact ok.dj b hb
        · show RD K tb _ _
          refine ⟨⟨a, had, hS.mono fun o u e => ?_⟩, hn63, (fun e => by cases e), fun _ => ⟨p, c, D, rfl, ⟨upd_same, ?_, ?_, cD, ?_, ?_⟩⟩, rd.tab.ext fun b o e => ?_⟩
          · have e' := ok.mh a _ e
            show upd (upd (upd M.h c (.lst (t.ns.map V.int))) D (.lst ((t.ns.filter (fun x => decide (10 ^ 18 ≤ x))).map V.int))) p (.dK (drawKv c D 0)) a = _
            rw [upd_ne (ne_of_none e' hp), upd_ne (ne_of_none e' hDH), upd_ne (ne_of_none e' hcH)]
            exact e
          · show upd (upd (upd M.h c (.lst (t.ns.map V.int))) D (.lst ((t.ns.filter (fun x => decide (10 ^ 18 ≤ x))).map V.int))) p (.dK (drawKv c D 0)) c = _
            rw [upd_ne pc.symm, upd_ne cD, upd_same]
          · show upd (upd (upd M.h c (.lst (t.ns.map V.int))) D (.lst ((t.ns.filter (fun x => decide (10 ^ 18 ≤ x))).map V.int))) p (.dK (drawKv c D 0)) D = _
            rw [upd_ne pD.symm, upd_same]
          · exact Nat.le_trans hn63 (by decide)
          · exact Nat.le_trans (List.length_filter_le _ _) (Nat.le_trans hn63 (by decide))
          · have e' := ok.mh b _ e
            show upd (upd (upd M.h c (.lst (t.ns.map V.int))) D (.lst ((t.ns.filter (fun x => decide (10 ^ 18 ≤ x))).map V.int))) p (.dK (drawKv c D 0)) b = _
            rw [upd_ne (ne_of_none e' hp), upd_ne (ne_of_none e' hDH), upd_ne (ne_of_none e' hcH)]
            exact e
    · rw [if_neg hon] at h
      exact False.elim h
end
end Lw
namespace Lw
open PySem L2 Dl PySem.Spec PyProof.Rows
section
variable {P : Program} {w : World} {K : PySem.W.Frag} {mg : Str → Option Value} {base : Heap} {tb : List (Addr × Str)} {cl : Nat → Option (Addr × List Str)}
theorem sc_next : FnScope ["m", "many", "rest", "k", "cell", "mixed"] ["m", "many"] (defScope s_next) := ⟨rfl, rfl, rfl, by decide +kernel, rfl, by decide +kernel, by decide +kernel⟩
theorem ok_next {f : Addr} {fd : FuncData} (Fn : Fun K "_law_next" "_law_next" s_next f fd) (hint : mg "int" = none) (hlen : mg "len" = none) : FnG (UD K tb cl) P w K mg base 1 f fd ["m", "many"] fNext := by
  refine fn_h Fn sc_next fun cdv A outer s H xs Q E vs t I M hr hgd hl ok rs hv hd h => ?_
  have rd : RD K tb t M := rs
  have hu := hu_of hr
  match vs, hv, h with
  | [.ref 0, .d (.int many)], .cons hx (.cons hy .nil), h =>
    have h : Post (UD K tb cl) K (VR K) (if t.on = true ∧ 0 < many ∧ many.natAbs.log2 < 9000 ∧ 0 ≤ t.at_ ∧ t.at_ < 2 ^ 40 then .ok (.d (.int (drawn t many).1)) (drawn t many).2 else .stuck) I M H Q E := h
    by_cases hcond : t.on = true ∧ 0 < many ∧ many.natAbs.log2 < 9000 ∧ 0 ≤ t.at_ ∧ t.at_ < 2 ^ 40
    · rw [if_pos hcond] at h
      obtain ⟨hon, hpos, hlog, hk0, hk1⟩ := hcond
      obtain ⟨m, c, l0, had, don⟩ := rd.dr hon
      obtain ⟨b, e1, e2⟩ := hx
      rw [had] at e1
      cases e1
      subst e2
      cases Rp.int_inv hy
      refine ⟨_, pss_cons (ps_while (passes_of rfl)
          (PW.pt (pw_and (pt_cmpR (op_neD hr.units) (pe_dget hu (pv 0) pe_str (fun _ _ => rfl)) (pe_lst pa_nil) (nomark _))
            (pw_and1 (pt_cmpR op_eq (pe_ix ix_list (pe_dget hu (pv 0) pe_str (fun _ _ => rfl)) pe_int (fun _ _ => rfl)) pe_int (nomark _)))))
          (pss_one (ps_dput hu (pv 0) pe_str (pe_slice sl_list (pe_dget hu (pv 0) pe_str (fun _ _ => rfl)) (po_some pe_int) po_none) rfl)))
        (pss_cons (ps_if (pt_cmpR (op_neD hr.units) (pe_dget hu (pv 0) pe_str (fun _ _ => rfl)) (pe_lst pa_nil) (nomark _))
          (pss_cons (ps_set (i := 2) sc_next.nd rfl (Or.inl rfl) (pe_callTy call_int1 (by rfl) hint (by decide +kernel) (pa_cons (pe_ix ix_list (pe_dget hu (pv 0) pe_str (fun _ _ => rfl)) pe_int (fun _ _ => rfl)) pa_nil)))
          (pss_cons (ps_asg (pe_op op_fdivW (pv 2) (pv 1)) (pg_sub (pe_dget hu (pv 0) pe_str (fun _ _ => rfl)) pe_int set_list))
          (pss_one (ps_ret (pe_op op_mod (pv 2) (pv 1)))))) pss_nil)
        (pss_cons (ps_set (i := 3) sc_next.nd rfl (Or.inl rfl) (pe_op op_add (pe_dget hu (pv 0) pe_str (fun _ _ => rfl)) pe_int))
        (pss_cons (ps_dput hu (pv 0) pe_str (pv 3) rfl)
        (pss_cons (ps_set (i := 4) sc_next.nd rfl (Or.inl rfl) (pe_ifExp (pt_cmpR (op_neD hr.units) (pe_dget hu (pv 0) pe_str (fun _ _ => rfl)) (pe_lst pa_nil) (nomark _))
            (pe_ix ix_list (pe_dget hu (pv 0) pe_str (fun _ _ => rfl)) (pe_op op_mod (pe_callTy call_int1 (by rfl) hint (by decide +kernel) (pa_cons (pv 3) pa_nil)) (pe_callB call_len_seq (by rfl) hlen PySem.boot_len (pa_cons (pe_dget hu (pv 0) pe_str (fun _ _ => rfl)) pa_nil))) (fun _ _ => rfl))
            pe_int))
        (pss_cons (ps_set (i := 5) sc_next.nd rfl (Or.inl rfl) (pe_op op_mul (pe_callTy call_int1 (by rfl) hint (by decide +kernel) (pa_cons (pe_op op_add (pe_op op_add (pe_op op_mod (pe_callTy call_int1 (by rfl) hint (by decide +kernel) (pa_cons (pv 4) pa_nil)) pe_int) (pe_op op_mul pe_int (pv 3))) (pe_op op_mul (pe_op op_mul pe_int (pv 3)) (pv 3))) pa_nil)) pe_int))
        (pss_cons (ps_set (i := 5) sc_next.nd rfl (Or.inl rfl) (pe_op op_mul (pe_callTy call_int1 (by rfl) hint (by decide +kernel) (pa_cons (pe_op op_add (pe_op op_mod (pe_callTy call_int1 (by rfl) hint (by decide +kernel) (pa_cons (pv 5) pa_nil)) pe_int) (pe_op op_mul pe_int (pv 3))) pa_nil)) pe_int))
        (pss_one (ps_ret (pe_op op_mod (pe_callTy call_int1 (by rfl) hint (by decide +kernel) (pa_cons (pe_op op_fdiv (pe_op op_mod (pe_callTy call_int1 (by rfl) hint (by decide +kernel) (pa_cons (pv 5) pa_nil)) pe_int) pe_int) pa_nil)) (pv 1)))))))))), ?_⟩
      have mH := ok.mh _ _ don.hm
      have d0 : DrawH H H m c l0 l0 t.cells t.left t.at_ := ⟨mH, ok.mh _ _ don.hc, ok.mh _ _ don.hl, don.ncl, .inl rfl, fun b o e _ _ => e, ne_none_of (ok.mh _ _ don.hl)⟩
      -- the first statement: zeros go
      refine ⟨fun n σ H' => σ = [some (.ref m), some (.int many), none, none, none, none] ∧ ∃ l left, n = left.length ∧ dropZ left = dropZ t.left ∧ left.length ≤ 100 ∧ DrawH H H' m c l0 l t.cells left t.at_, ⟨_, rfl, l0, t.left, rfl, rfl, don.ll, d0⟩, ?_⟩
      rintro n σ H' ⟨rfl, l, left, rfl, hdz, hll, d⟩
      refine test_left rfl d fun H1 d1 => ?_
      cases hzh : zeroHead left with
      | true =>
        refine iteT ?_
        match left, hdz, hll, d1, hzh with
        | x :: r, hdz, hll, d1, hzh =>
          have hx0 : x = 0 := of_decide_eq_true hzh
          refine ⟨fun σ' H' => σ' = [some (.ref m), some (.int many), none, none, none, none] ∧ ∃ l left, left.length < (x :: r).length ∧ dropZ left = dropZ t.left ∧ left.length ≤ 100 ∧ DrawH H H' m c l0 l t.cells left t.at_,
            fun σ' H' ⟨h1, l', left', h2, h3, h4, h5⟩ => ⟨left'.length, h2, h1, l', left', rfl, h3, h4, h5⟩, ?_⟩
          refine rd_left rfl d1 ⟨1, rfl, l, _, rfl, SqL.of d1.hl, fun p hp => ?_⟩
          have hcut : cutV ((x :: r).map V.int) (some 1) none = r.map V.int := by
            unfold cutV
            simp [HT.sIx, List.take_of_length_le]
          rw [hcut]
          have d2 := d1.new (o := .lst (r.map V.int)) hp
          refine ⟨_, rfl, m, _, rfl, DPut.k (k := Sum.inr "left") d2.hm (by show 3 < sizeLine; decide), rfl, p, r, Nat.lt_succ_self _, by rw [← hdz, dropZ_zero hx0], Nat.le_of_succ_le hll, ?_⟩
          rw [put_left]
          exact d1.put hp (ne_none_of mH)
      | false =>
        refine iteF ?_
        have hleft : left = dropZ t.left := by rw [← hdz]; exact (dropZ_stop hzh).symm
        -- the draw itself
        refine ne_left rfl d1 fun H2 d2 => ?_
        unfold drawn at h
        rw [← hleft] at h
        match left, d2, hll, h with
        | x :: r, d2, hll, h =>
          refine iteT (rd_left rfl d2 ⟨l, _, 0, .int x, rfl, rfl, SqL.of d2.hl, atI_nat (j := 0) rfl, .inl ⟨x, rfl, ?_⟩⟩)
          refine ⟨_, rfl, _, rfl, x, many, rfl, rfl, ⟨hpos, hlog⟩, rd_left rfl d2 ⟨l, _, 0, 0, rfl, rfl, d2.hl, (by simp [ixN]), ?_⟩⟩
          have e : ((x :: r).map V.int).set 0 (.int (x / many)) = ((x / many) :: r).map V.int := rfl
          rw [e]
          have d3 := d2.set (left' := (x / many) :: r)
          obtain ⟨M', g, k', r'⟩ := d3.fin ok rd had don (by simpa using hll) hon
          exact ⟨_, rfl, _, rfl, x, many, rfl, rfl, hpos, h (.int (x % many)) I M' _ g k' r' (.int _)⟩
        | [], d2, hll, h =>
          refine iteF (rd_at rfl d2 ⟨t.at_, 1, rfl, rfl, ?_⟩)
          refine ⟨_, rfl, _, rfl, m, _, rfl, DPut.k (k := Sum.inr "at") d2.hm (by show 3 < sizeLine; decide), ?_⟩
          rw [put_at]
          have d3 := d2.count (k' := t.at_ + 1)
          have kk : 0 ≤ t.at_ + 1 ∧ t.at_ + 1 ≤ 2 ^ 40 := ⟨by omega, by omega⟩
          refine ne_cells rfl d3 fun H4 d4 => ?_
          obtain ⟨M4, g4, k4, r4⟩ := d4.fin ok rd had don (Nat.zero_le _) hon
          have fin : ∀ cell : Int, cell = cellAt t.cells (t.at_ + 1) → (gName 4) (.int cell) [some (.ref m), some (.int many), none, some (.int (t.at_ + 1)), none, none] H4 (fun σ5 H5 =>
              (tSeq (tAsg (tOp (rI CMul fun i j => .int (i * j)) (tCB (fun xs H Q => (∃ i, xs = [.int i] ∧ Q (.int i) H) ∨ ∃ k, xs = [.bl k] ∧ Q (.int (if k then 1 else 0)) H) (tCons (tOp (rI0 fun i j => .int (i + j)) (tOp (rI0 fun i j => .int (i + j)) (tOp (rI (fun _ j => 0 < j) fun i j => .int (i % j)) (tCB (fun xs H Q => (∃ i, xs = [.int i] ∧ Q (.int i) H) ∨ ∃ k, xs = [.bl k] ∧ Q (.int (if k then 1 else 0)) H) (tCons (tVar 4) tNil)) (tC (.int 2147483629))) (tOp (rI CMul fun i j => .int (i * j)) (tC (.int 7919)) (tVar 3))) (tOp (rI CMul fun i j => .int (i * j)) (tOp (rI CMul fun i j => .int (i * j)) (tC (.int 19)) (tVar 3)) (tVar 3))) tNil)) (tC (.int 48271))) (gName 5))
              (tSeq (tAsg (tOp (rI CMul fun i j => .int (i * j)) (tCB (fun xs H Q => (∃ i, xs = [.int i] ∧ Q (.int i) H) ∨ ∃ k, xs = [.bl k] ∧ Q (.int (if k then 1 else 0)) H) (tCons (tOp (rI0 fun i j => .int (i + j)) (tOp (rI (fun _ j => 0 < j) fun i j => .int (i % j)) (tCB (fun xs H Q => (∃ i, xs = [.int i] ∧ Q (.int i) H) ∨ ∃ k, xs = [.bl k] ∧ Q (.int (if k then 1 else 0)) H) (tCons (tVar 5) tNil)) (tC (.int 2147483647))) (tOp (rI CMul fun i j => .int (i * j)) (tC (.int 104729)) (tVar 3))) tNil)) (tC (.int 69621))) (gName 5))
              (tRet (tOp (rI (fun _ j => 0 < j) fun i j => .int (i % j)) (tCB (fun xs H Q => (∃ i, xs = [.int i] ∧ Q (.int i) H) ∨ ∃ k, xs = [.bl k] ∧ Q (.int (if k then 1 else 0)) H) (tCons (tOp (rI CDiv fun i j => .int (i / j)) (tOp (rI (fun _ j => 0 < j) fun i j => .int (i % j)) (tCB (fun xs H Q => (∃ i, xs = [.int i] ∧ Q (.int i) H) ∨ ∃ k, xs = [.bl k] ∧ Q (.int (if k then 1 else 0)) H) (tCons (tVar 5) tNil)) (tC (.int 2147483587))) (tC (.int 11))) tNil)) (tVar 1))))) { nx := fun _ H' => Q .non H', rt := Q } σ5 H5) := by
            intro cell hcell
            refine ⟨_, rfl, .inl ⟨cell, rfl, cell, 2147483629, rfl, rfl, (by show (0 : Int) < 2147483629; decide), _, rfl, 7919, (t.at_ + 1), rfl, rfl, .inl ⟨by decide, by decide⟩, _, _, rfl, rfl, _, rfl, 19, (t.at_ + 1), rfl, rfl, .inl ⟨by decide, by decide⟩, _, rfl, _, (t.at_ + 1), rfl, rfl, .inr ⟨by omega, by omega⟩, _, _, rfl, rfl, .inl ⟨_, rfl, _, 48271, rfl, rfl, .inr ⟨by decide, by decide⟩, ?_⟩⟩⟩
            refine ⟨_, rfl, .inl ⟨_, rfl, _, 2147483647, rfl, rfl, (by show (0 : Int) < 2147483647; decide), _, rfl, 104729, (t.at_ + 1), rfl, rfl, .inl ⟨by decide, by decide⟩, _, _, rfl, rfl, .inl ⟨_, rfl, _, 69621, rfl, rfl, .inr ⟨by decide, by decide⟩, ?_⟩⟩⟩
            refine ⟨_, rfl, .inl ⟨_, rfl, _, 2147483587, rfl, rfl, (by show (0 : Int) < 2147483587; decide), _, 11, rfl, rfl, ⟨by decide, by decide⟩, .inl ⟨_, rfl, _, rfl, _, many, rfl, rfl, hpos, ?_⟩⟩⟩
            have e : mix (cellAt t.cells (t.at_ + 1)) (t.at_ + 1) = ((cell % 2147483629 + 7919 * (t.at_ + 1) + 19 * (t.at_ + 1) * (t.at_ + 1)) * 48271 % 2147483647 + 104729 * (t.at_ + 1)) * 69621 % 2147483587 / 11 := by rw [← hcell]; rfl
            refine h (.int _) I M4 H4 g4 k4 r4 ?_
            show Rp K I _ _
            rw [e]
            exact .int _
          by_cases hce : t.cells = []
          · rw [decide_eq_false (fun z => z hce)]
            refine iteF (fin 3 ?_)
            unfold cellAt
            rw [if_pos hce]
          · rw [decide_eq_true hce]
            have hlc : 0 < t.cells.length := by
              cases hc0 : t.cells with
              | nil => exact absurd hc0 hce
              | cons a b => simp
            refine iteT (rd_cells rfl d4 ⟨_, rfl, .inl ⟨(t.at_ + 1), rfl, rd_cells rfl d4 ⟨c, _, rfl, .inl (SqL.of d4.hc), (t.at_ + 1), _, rfl, rfl, (by rw [List.length_map]; omega), c, _, _, .int (cellAt t.cells (t.at_ + 1)), rfl, rfl, SqL.of d4.hc, ?_, fin _ rfl⟩⟩⟩)
            rw [List.length_map]
            have h0 : 0 ≤ (t.at_ + 1) % (t.cells.length : Int) := Int.emod_nonneg _ (by omega)
            have h1 : (t.at_ + 1) % (t.cells.length : Int) < t.cells.length := Int.emod_lt_of_pos _ (by omega)
            have h2 : (((t.at_ + 1) % (t.cells.length : Int)).toNat : Int) = (t.at_ + 1) % (t.cells.length : Int) := Int.toNat_of_nonneg h0
            have h3 : ((t.at_ + 1) % (t.cells.length : Int)).toNat < t.cells.length := by omega
            rw [← h2]
            refine atI_nat ?_
            unfold cellAt
            rw [if_neg hce, List.getElem?_map, List.getElem?_eq_getElem h3]
            simp [List.getD, h3]
    · rw [if_neg hcond] at h
      exact False.elim h
end
end Lw
set_option maxRecDepth 100000
set_option maxHeartbeats 4000000
namespace Lw
open PySem L2 Dl Mr PySem.Spec PyProof.Rows

structure Prog (w : World) (K : PySem.W.Frag) (mg : Str → Option Value) where
  f_is_whole : Addr
  fd_is_whole : FuncData
  h_is_whole : PF K mg "is_whole" (top 9) ["thing", "least", "most"] f_is_whole fd_is_whole
  f_is_number : Addr
  fd_is_number : FuncData
  h_is_number : PF K mg "is_number" (top 10) ["thing"] f_is_number fd_is_number
  f_loops_fault : Addr
  fd_loops_fault : FuncData
  h_loops_fault : PF K mg "loops_fault" (top 11) ["thing"] f_loops_fault fd_loops_fault
  f_need_whole : Addr
  fd_need_whole : FuncData
  h_need_whole : PF K mg "need_whole" (top 12) ["thing", "least", "most"] f_need_whole fd_need_whole
  f_lengths_in : Addr
  fd_lengths_in : FuncData
  h_lengths_in : PF K mg "lengths_in" (top 13) ["loops"] f_lengths_in fd_lengths_in
  f_heard_in : Addr
  fd_heard_in : FuncData
  h_heard_in : PF K mg "heard_in" (top 14) ["loops", "tick"] f_heard_in fd_heard_in
  f_need_lengths : Addr
  fd_need_lengths : FuncData
  h_need_lengths : PF K mg "need_lengths" (top 16) ["thing"] f_need_lengths fd_need_lengths
  f_common : Addr
  fd_common : FuncData
  h_common : PF K mg "common" (top 17) ["one", "other"] f_common fd_common
  f_bottoms : Addr
  fd_bottoms : FuncData
  h_bottoms : PF K mg "bottoms" (top 18) ["lengths"] f_bottoms fd_bottoms
  f_span_in : Addr
  fd_span_in : FuncData
  h_span_in : PF K mg "span_in" (top 19) ["lengths"] f_span_in fd_span_in
  f_times : Addr
  fd_times : FuncData
  h_times : PF K mg "times" (top 20) ["one", "other"] f_times fd_times
  f_without : Addr
  fd_without : FuncData
  h_without : PF K mg "without" (top 21) ["one", "other"] f_without fd_without
  f_factor_of : Addr
  fd_factor_of : FuncData
  h_factor_of : PF K mg "factor_of" (top 22) ["bottom", "known"] f_factor_of fd_factor_of
  f_weights_in : Addr
  fd_weights_in : FuncData
  h_weights_in : PF K mg "weights_in" (top 23) ["lengths"] f_weights_in fd_weights_in
  f_span : Addr
  fd_span : FuncData
  h_span : PF K mg "span" (top 24) ["lengths"] f_span fd_span
  f_weights : Addr
  fd_weights : FuncData
  h_weights : PF K mg "weights" (top 25) ["lengths"] f_weights fd_weights
  f_carried_in : Addr
  fd_carried_in : FuncData
  h_carried_in : PF K mg "carried_in" (top 26) ["lengths", "row", "many"] f_carried_in fd_carried_in
  f_carried : Addr
  fd_carried : FuncData
  h_carried : PF K mg "carried" (top 27) ["lengths", "row", "many"] f_carried fd_carried
  f_need_small : Addr
  fd_need_small : FuncData
  h_need_small : PF K mg "need_small" (top 32) ["lengths"] f_need_small fd_need_small
  f_need_numbers : Addr
  fd_need_numbers : FuncData
  h_need_numbers : PF K mg "need_numbers" (top 33) ["row"] f_need_numbers fd_need_numbers
  f_reduced : Addr
  fd_reduced : FuncData
  h_reduced : PF K mg "reduced" (top 34) ["columns", "at"] f_reduced fd_reduced
  f_loops_like : Addr
  fd_loops_like : FuncData
  h_loops_like : PF K mg "loops_like" (top 35) ["lengths", "row"] f_loops_like fd_loops_like
  f_fit : Addr
  fd_fit : FuncData
  h_fit : PF K mg "fit" (top 36) ["lengths", "row"] f_fit fd_fit
  f_is_ground : Addr
  fd_is_ground : FuncData
  h_is_ground : PF K mg "is_ground" (top 37) ["lengths", "row", "ground"] f_is_ground fd_is_ground
  f_check_fit : Addr
  fd_check_fit : FuncData
  h_check_fit : PF K mg "check_fit" (top 38) ["lengths", "row", "paper"] f_check_fit fd_check_fit
  f_deceiver : Addr
  fd_deceiver : FuncData
  h_deceiver : PF K mg "deceiver" (top 39) ["lengths"] f_deceiver fd_deceiver
  f_need_places : Addr
  fd_need_places : FuncData
  h_need_places : PF K mg "need_places" (top 41) ["lengths", "places"] f_need_places fd_need_places
  f_never_meet : Addr
  fd_never_meet : FuncData
  h_never_meet : PF K mg "never_meet" (top 42) ["lengths", "places", "one", "other"] f_never_meet fd_never_meet
  f_meeting : Addr
  fd_meeting : FuncData
  h_meeting : PF K mg "meeting" (top 43) ["lengths", "places"] f_meeting fd_meeting
  f_check_meeting : Addr
  fd_check_meeting : FuncData
  h_check_meeting : PF K mg "check_meeting" (top 44) ["lengths", "places", "paper"] f_check_meeting fd_check_meeting
  f__law_begun : Addr
  fd__law_begun : FuncData
  h__law_begun : PF K mg "_law_begun" s_begun ["script"] f__law_begun fd__law_begun
  f__law_next : Addr
  fd__law_next : FuncData
  h__law_next : PF K mg "_law_next" s_next ["m", "many"] f__law_next fd__law_next
  f__law_lengths : Addr
  fd__law_lengths : FuncData
  h__law_lengths : PF K mg "_law_lengths" (top 48) ["m", "many", "most"] f__law_lengths fd__law_lengths
  f__law_is_whole : Addr
  fd__law_is_whole : FuncData
  h__law_is_whole : PF K mg "_law_is_whole" (top 49) ["thing", "least", "most"] f__law_is_whole fd__law_is_whole
  f__law_outcome : Addr
  fd__law_outcome : FuncData
  h__law_outcome : PF K mg "_law_outcome" (top 50) ["way", "thing"] f__law_outcome fd__law_outcome
  f__law_fault : Addr
  fd__law_fault : FuncData
  h__law_fault : PF K mg "_law_fault" (top 51) ["thing"] f__law_fault fd__law_fault
  f_law : Addr
  fd_law : FuncData
  h_law : PF K mg "law" (top 52) ["script"] f_law fd_law
  bi_all : mg "all" = none
  bi_any : mg "any" = none
  bi_bool : mg "bool" = none
  bi_enumerate : mg "enumerate" = none
  bi_int : mg "int" = none
  bi_isinstance : mg "isinstance" = none
  bi_len : mg "len" = none
  bi_list : mg "list" = none
  bi_min : mg "min" = none
  bi_range : mg "range" = none
  bi_repr : mg "repr" = none
  bi_reversed : mg "reversed" = none
  bi_sorted : mg "sorted" = none
  bi_str : mg "str" = none
  bi_sum : mg "sum" = none
  bi_tuple : mg "tuple" = none
  bi_zip : mg "zip" = none
  t_LONGEST_FITTED : Tok
  c_LONGEST_FITTED : mg "LONGEST_FITTED" = some (.int 24 t_LONGEST_FITTED)
  t_LONGEST_ROW : Tok
  c_LONGEST_ROW : mg "LONGEST_ROW" = some (.int 200 t_LONGEST_ROW)
  t_MOST_FITTED : Tok
  c_MOST_FITTED : mg "MOST_FITTED" = some (.int 4 t_MOST_FITTED)
  t_MOST_LENGTH : Tok
  c_MOST_LENGTH : mg "MOST_LENGTH" = some (.int 64 t_MOST_LENGTH)
  t_MOST_LOOPS : Tok
  c_MOST_LOOPS : mg "MOST_LOOPS" = some (.int 6 t_MOST_LOOPS)
  t_MOST_MANY : Tok
  c_MOST_MANY : mg "MOST_MANY" = some (.int 1000 t_MOST_MANY)
  a_BadLengths : Addr
  i_BadLengths : Addr
  fi_BadLengths : FuncData
  e_BadLengths : EF K mg "BadLengths" "BadLengths.__init__" (initOf (top 1)) "place" a_BadLengths i_BadLengths fi_BadLengths
  a_BadPaper : Addr
  i_BadPaper : Addr
  fi_BadPaper : FuncData
  e_BadPaper : EF K mg "BadPaper" "BadPaper.__init__" (initOf (top 2)) "part" a_BadPaper i_BadPaper fi_BadPaper
  a_OutOfPlace : Addr
  i_OutOfPlace : Addr
  fi_OutOfPlace : FuncData
  e_OutOfPlace : EF K mg "OutOfPlace" "OutOfPlace.__init__" (initOf (top 3)) "text" a_OutOfPlace i_OutOfPlace fi_OutOfPlace
  x_BadLengths_BadLengths : PySem.W.exmOne K (.ref a_BadLengths) (.ref a_BadLengths) = some true
  x_BadPaper_BadLengths : PySem.W.exmOne K (.ref a_BadPaper) (.ref a_BadLengths) = some false
  x_OutOfPlace_BadLengths : PySem.W.exmOne K (.ref a_OutOfPlace) (.ref a_BadLengths) = some false
  bl : ∀ (s : Shared) (u : Value), BindsTo s fd_law ⟨[u], []⟩ [("script", u)]
abbrev Prog.cs {w : World} {K : PySem.W.Frag} {mg : Str → Option Value} (T : Prog w K mg) : Tcs := []
abbrev Prog.tb {w : World} {K : PySem.W.Frag} {mg : Str → Option Value} (T : Prog w K mg) : List (Addr × Str) := T.cs.tb
abbrev Prog.TB {w : World} {K : PySem.W.Frag} {mg : Str → Option Value} (T : Prog w K mg) (base : Heap) : Prop := ∀ p ∈ T.cs, LamX.TabB base mg p.1 p.2.1
section
variable {P : Program} {w : World} {K : PySem.W.Frag} {mg : Str → Option Value} {base : Heap}
def Prog.cl (T : Prog w K mg) : Nat → Option (Addr × List Str)
  | 1 => some (T.a_BadLengths, ["place"])
  | 4 => some (T.a_BadPaper, ["part"])
  | 6 => some (T.a_OutOfPlace, ["text"])
  | _ => none
theorem sci_BadLengths : FnScope ["self", "place"] ["self", "place"] (defScope (initOf (top 1))) := ⟨rfl, rfl, rfl, by decide +kernel, rfl, by decide +kernel, by decide +kernel⟩
theorem oki_BadLengths (T : Prog w K mg) : FnOk P w K mg base CX0 1 T.i_BadLengths T.fi_BadLengths ["self", "place"] (spX T.a_BadLengths 1 (fun ys => (["place"] : List Str).zip ys)) := by
  refine T.e_BadLengths.fn.ok sci_BadLengths (fun vs H Q E h => ?_) (fun cdv A outer s H vs Q E hr h => ⟨_, pss_one (ps_ost (pv 0) (pv 1)), init_read T.e_BadLengths.ox T.e_BadLengths.no vs H Q E h⟩)
  obtain ⟨a, ys, rfl, hl, _⟩ := h
  show ys.length + 1 = 2
  rw [hl]
theorem exc_BadLengths (T : Prog w K mg) : ExcT (UD K T.tb T.cl) P w K mg base "BadLengths" 1 1 ["place"] id := exc_of T.e_BadLengths rfl (oki_BadLengths T)
theorem sci_BadPaper : FnScope ["self", "part"] ["self", "part"] (defScope (initOf (top 2))) := ⟨rfl, rfl, rfl, by decide +kernel, rfl, by decide +kernel, by decide +kernel⟩
theorem oki_BadPaper (T : Prog w K mg) : FnOk P w K mg base CX0 1 T.i_BadPaper T.fi_BadPaper ["self", "part"] (spX T.a_BadPaper 1 (fun ys => (["part"] : List Str).zip ys)) := by
  refine T.e_BadPaper.fn.ok sci_BadPaper (fun vs H Q E h => ?_) (fun cdv A outer s H vs Q E hr h => ⟨_, pss_one (ps_ost (pv 0) (pv 1)), init_read T.e_BadPaper.ox T.e_BadPaper.no vs H Q E h⟩)
  obtain ⟨a, ys, rfl, hl, _⟩ := h
  show ys.length + 1 = 2
  rw [hl]
theorem exc_BadPaper (T : Prog w K mg) : ExcT (UD K T.tb T.cl) P w K mg base "BadPaper" 4 1 ["part"] id := exc_of T.e_BadPaper rfl (oki_BadPaper T)
theorem sci_OutOfPlace : FnScope ["self", "text"] ["self", "text"] (defScope (initOf (top 3))) := ⟨rfl, rfl, rfl, by decide +kernel, rfl, by decide +kernel, by decide +kernel⟩
theorem oki_OutOfPlace (T : Prog w K mg) : FnOk P w K mg base CX0 1 T.i_OutOfPlace T.fi_OutOfPlace ["self", "text"] (spX T.a_OutOfPlace 1 (fun ys => (["text"] : List Str).zip ys)) := by
  refine T.e_OutOfPlace.fn.ok sci_OutOfPlace (fun vs H Q E h => ?_) (fun cdv A outer s H vs Q E hr h => ⟨_, pss_one (ps_ost (pv 0) (pv 1)), init_read T.e_OutOfPlace.ox T.e_OutOfPlace.no vs H Q E h⟩)
  obtain ⟨a, ys, rfl, hl, _⟩ := h
  show ys.length + 1 = 2
  rw [hl]
theorem exc_OutOfPlace (T : Prog w K mg) : ExcT (UD K T.tb T.cl) P w K mg base "OutOfPlace" 6 1 ["text"] id := exc_of T.e_OutOfPlace rfl (oki_OutOfPlace T)
theorem Prog.catch_BadLengths (T : Prog w K mg) : ∀ c' C' nms, (UD K T.tb T.cl).cl c' = some (C', nms) → PySem.W.exmOne K (.ref C') (.ref T.a_BadLengths) = some (decide (c' = 1))
  | 0, _, _, h => by cases h
  | 1, _, _, h => by cases h; exact T.x_BadLengths_BadLengths
  | 2, _, _, h => by cases h
  | 3, _, _, h => by cases h
  | 4, _, _, h => by cases h; exact T.x_BadPaper_BadLengths
  | 5, _, _, h => by cases h
  | 6, _, _, h => by cases h; exact T.x_OutOfPlace_BadLengths
  | 7, _, _, h => by cases h
  | 8, _, _, h => by cases h
  | _ + 9, _, _, h => by cases h
theorem ok__law_begun (T : Prog w K mg) (B : T.TB base) : FnG (UD K T.tb T.cl) P w K mg base 1 T.f__law_begun T.fd__law_begun ["script"] fBegun := ok_begun T.h__law_begun.fn T.bi_list
theorem ok__law_next (T : Prog w K mg) (B : T.TB base) : FnG (UD K T.tb T.cl) P w K mg base 1 T.f__law_next T.fd__law_next ["m", "many"] fNext := ok_next T.h__law_next.fn T.bi_int T.bi_len
abbrev s_is_whole : Stmt := top 9
theorem sc_is_whole : FnScope ["thing", "least", "most"] ["thing", "least", "most"] (defScope s_is_whole) := ⟨rfl, rfl, rfl, by decide +kernel, rfl, by decide +kernel, by decide +kernel⟩
theorem ok_is_whole (T : Prog w K mg) (B : T.TB base) : FnG (UD K T.tb T.cl) P w K mg base 1 T.f_is_whole T.fd_is_whole ["thing", "least", "most"] F_is_whole :=
  fn_g T.h_is_whole.fn sc_is_whole fun cdv A outer s H E hr hgd =>
    (pbd_one (psd_ret (ped_and (ped_isi .int (by rfl) T.bi_isinstance (by rfl) T.bi_int (by decide +kernel) (ped_var 0)) (ped_and (ped_not (ped_isi .bool (by rfl) T.bi_isinstance (by rfl) T.bi_bool (by decide +kernel) (ped_var 0))) (ped_one (ped_chain op_le d_le op_le d_le (ped_var 1) (ped_var 0) (ped_var 2)))))))
abbrev s_is_number : Stmt := top 10
theorem sc_is_number : FnScope ["thing"] ["thing"] (defScope s_is_number) := ⟨rfl, rfl, rfl, by decide +kernel, rfl, by decide +kernel, by decide +kernel⟩
theorem ok_is_number (T : Prog w K mg) (B : T.TB base) : FnG (UD K T.tb T.cl) P w K mg base 1 T.f_is_number T.fd_is_number ["thing"] F_is_number :=
  fn_g T.h_is_number.fn sc_is_number fun cdv A outer s H E hr hgd =>
    (pbd_one (psd_ret (ped_and (ped_isi .int (by rfl) T.bi_isinstance (by rfl) T.bi_int (by decide +kernel) (ped_var 0)) (ped_one (ped_not (ped_isi .bool (by rfl) T.bi_isinstance (by rfl) T.bi_bool (by decide +kernel) (ped_var 0)))))))
abbrev s_loops_fault : Stmt := top 11
theorem sc_loops_fault : FnScope ["thing", "at", "loop", "place", "sample"] ["thing"] (defScope s_loops_fault) := ⟨rfl, rfl, rfl, by decide +kernel, rfl, by decide +kernel, by decide +kernel⟩
theorem ok_loops_fault (T : Prog w K mg) (B : T.TB base) : FnG (UD K T.tb T.cl) P w K mg base 2 T.f_loops_fault T.fd_loops_fault ["thing"] F_loops_fault :=
  fn_g T.h_loops_fault.fn sc_loops_fault fun cdv A outer s H E hr hgd =>
    (pbd_cons (psd_if (ptd_w (pwd_or (ptd_not (ptd_val (ped_isi .tuple (by rfl) T.bi_isinstance (by rfl) T.bi_tuple (by decide +kernel) (ped_var 0)))) (pwd_or1 (ptd_cmp op_gt d_gt (ped_callB Dl.call_lenD d_len (by rfl) T.bi_len (by decide +kernel) (pad_cons (ped_var 0) pad_nil)) (ped_c (pe_glob (v := .int 6) (by rfl) T.c_MOST_LOOPS ⟨_, rfl⟩) (fun _ => .int _)) (nomark _)))))
    (pbd_one (psd_ret (ped_tup pad_nil)))
    pbd_nil)
    (pbd_cons (psd_for (g := (.tup [1, 2])) (passes_of rfl) rfl (pid_enum (by rfl) T.bi_enumerate (ped_var 0)) (pgd_tup [1, 2] rfl (pgs_cons (pg_name (i := 1) sc_loops_fault.nd rfl (by first | exact Or.inl rfl | exact Or.inr rfl)) (pgs_cons (pg_name (i := 2) sc_loops_fault.nd rfl (by first | exact Or.inl rfl | exact Or.inr rfl)) pgs_nil)))
    (pbd_one (psd_if (ptd_w (pwd_or (ptd_not (ptd_val (ped_isi .tuple (by rfl) T.bi_isinstance (by rfl) T.bi_tuple (by decide +kernel) (ped_var 2)))) (pwd_or1 (ptd_not (ptd_chain op_le d_le op_le d_le (ped_c pe_int (fun _ => .int _)) (ped_callB Dl.call_lenD d_len (by rfl) T.bi_len (by decide +kernel) (pad_cons (ped_var 2) pad_nil)) (ped_c (pe_glob (v := .int 64) (by rfl) T.c_MOST_LENGTH ⟨_, rfl⟩) (fun _ => .int _)))))))
    (pbd_one (psd_ret (ped_tup (pad_cons (ped_var 1) pad_nil))))
    pbd_nil)))
    (pbd_cons (psd_for (g := (.tup [1, 2])) (passes_of rfl) rfl (pid_enum (by rfl) T.bi_enumerate (ped_var 0)) (pgd_tup [1, 2] rfl (pgs_cons (pg_name (i := 1) sc_loops_fault.nd rfl (by first | exact Or.inl rfl | exact Or.inr rfl)) (pgs_cons (pg_name (i := 2) sc_loops_fault.nd rfl (by first | exact Or.inl rfl | exact Or.inr rfl)) pgs_nil)))
    (pbd_one (psd_for (g := (.tup [3, 4])) (passes_of rfl) rfl (pid_enum (by rfl) T.bi_enumerate (ped_var 2)) (pgd_tup [3, 4] rfl (pgs_cons (pg_name (i := 3) sc_loops_fault.nd rfl (by first | exact Or.inl rfl | exact Or.inr rfl)) (pgs_cons (pg_name (i := 4) sc_loops_fault.nd rfl (by first | exact Or.inl rfl | exact Or.inr rfl)) pgs_nil)))
    (pbd_one (psd_if (ptd_not (ptd_val (ped_callN (ok_is_number T B) (hr.mono (by decide)) hgd (by rfl) T.h_is_number.m T.h_is_number.fn.kp T.h_is_number.b (takes_of rfl rfl rfl rfl) (pad_cons (ped_var 4) pad_nil))))
    (pbd_one (psd_ret (ped_tup (pad_cons (ped_var 1) (pad_cons (ped_var 3) pad_nil)))))
    pbd_nil)))))
    (pbd_one (psd_ret (ped_c pe_non (fun _ => .non)))))))
abbrev s_need_whole : Stmt := top 12
theorem sc_need_whole : FnScope ["thing", "least", "most"] ["thing", "least", "most"] (defScope s_need_whole) := ⟨rfl, rfl, rfl, by decide +kernel, rfl, by decide +kernel, by decide +kernel⟩
theorem ok_need_whole (T : Prog w K mg) (B : T.TB base) : FnG (UD K T.tb T.cl) P w K mg base 3 T.f_need_whole T.fd_need_whole ["thing", "least", "most"] F_need_whole :=
  fn_g T.h_need_whole.fn sc_need_whole fun cdv A outer s H E hr hgd =>
    (pbd_one (psd_if (ptd_not (ptd_val (ped_callN (ok_is_whole T B) (hr.mono (by decide)) hgd (by rfl) T.h_is_whole.m T.h_is_whole.fn.kp T.h_is_whole.b (takes_of rfl rfl rfl rfl) (pad_cons (ped_var 0) (pad_cons (ped_var 1) (pad_cons (ped_var 2) pad_nil))))))
    (pbd_one (psd_raise (exc_OutOfPlace T) rfl (takes_of rfl rfl rfl rfl) (hr.mono (by decide)) (by rfl) (pad_cons (ped_c pe_str (fun _ => .str _)) pad_nil)))
    pbd_nil))
abbrev s_lengths_in : Stmt := top 13
theorem sc_lengths_in : FnScope ["loops", "loop"] ["loops"] (defScope s_lengths_in) := ⟨rfl, rfl, rfl, by decide +kernel, rfl, by decide +kernel, by decide +kernel⟩
theorem ok_lengths_in (T : Prog w K mg) (B : T.TB base) : FnG (UD K T.tb T.cl) P w K mg base 1 T.f_lengths_in T.fd_lengths_in ["loops"] F_lengths_in :=
  fn_g T.h_lengths_in.fn sc_lengths_in fun cdv A outer s H E hr hgd =>
    (pbd_one (psd_ret (ped_callTy call_tuple_of d_tuple (by rfl) T.bi_tuple (by decide +kernel) (pad_cons (ped_frz (pnd_comp rfl sc_lengths_in.nd (own := [("loop", 1)]) (g := (.name 1)) (pid_seq (ped_var 0)) (blkOk_by (N := ["loops", "loop"]) (sc := defScope s_lengths_in) (by decide +kernel)) (by decide) (fun _ _ _ _ _ => (pgd_name 1 sc_lengths_in.nd rfl (by first | exact Or.inl rfl | exact Or.inr rfl))) (fun _ _ _ _ _ => ptsd_nil) (fun _ _ _ _ _ => (ped_callB Dl.call_lenD d_len (by rfl) T.bi_len (by decide +kernel) (pad_cons (ped_var 1) pad_nil))))) pad_nil))))
abbrev s_heard_in : Stmt := top 14
theorem sc_heard_in : FnScope ["loops", "tick", "loop"] ["loops", "tick"] (defScope s_heard_in) := ⟨rfl, rfl, rfl, by decide +kernel, rfl, by decide +kernel, by decide +kernel⟩
theorem ok_heard_in (T : Prog w K mg) (B : T.TB base) : FnG (UD K T.tb T.cl) P w K mg base 1 T.f_heard_in T.fd_heard_in ["loops", "tick"] F_heard_in :=
  fn_g T.h_heard_in.fn sc_heard_in fun cdv A outer s H E hr hgd =>
    (pbd_one (psd_ret (ped_callB (cr_sum rfl) d_sum (by rfl) T.bi_sum (by decide +kernel) (pad_cons (ped_frz (pnd_comp rfl sc_heard_in.nd (own := [("loop", 2)]) (g := (.name 2)) (pid_seq (ped_var 0)) (blkOk_by (N := ["loops", "tick", "loop"]) (sc := defScope s_heard_in) (by decide +kernel)) (by decide) (fun _ _ _ _ _ => (pgd_name 2 sc_heard_in.nd rfl (by first | exact Or.inl rfl | exact Or.inr rfl))) (fun _ _ _ _ _ => ptsd_nil) (fun _ _ _ _ _ => (ped_ix (ped_var 2) (ped_op op_modD d_mod (ped_callTy call_int1 d_int (by rfl) T.bi_int (by decide +kernel) (pad_cons (ped_var 1) pad_nil)) (ped_callB Dl.call_lenD d_len (by rfl) T.bi_len (by decide +kernel) (pad_cons (ped_var 2) pad_nil))) (fun _ _ => rfl))))) pad_nil))))
abbrev s_need_lengths : Stmt := top 16
theorem sc_need_lengths : FnScope ["thing", "at", "length"] ["thing"] (defScope s_need_lengths) := ⟨rfl, rfl, rfl, by decide +kernel, rfl, by decide +kernel, by decide +kernel⟩
theorem ok_need_lengths (T : Prog w K mg) (B : T.TB base) : FnG (UD K T.tb T.cl) P w K mg base 3 T.f_need_lengths T.fd_need_lengths ["thing"] F_need_lengths :=
  fn_g T.h_need_lengths.fn sc_need_lengths fun cdv A outer s H E hr hgd =>
    (pbd_cons (psd_if (ptd_w (pwd_or (ptd_not (ptd_val (ped_isi .tuple (by rfl) T.bi_isinstance (by rfl) T.bi_tuple (by decide +kernel) (ped_var 0)))) (pwd_or1 (ptd_cmp op_gt d_gt (ped_callB Dl.call_lenD d_len (by rfl) T.bi_len (by decide +kernel) (pad_cons (ped_var 0) pad_nil)) (ped_c (pe_glob (v := .int 6) (by rfl) T.c_MOST_LOOPS ⟨_, rfl⟩) (fun _ => .int _)) (nomark _)))))
    (pbd_one (psd_raise (exc_BadLengths T) rfl (takes_of rfl rfl rfl rfl) (hr.mono (by decide)) (by rfl) (pad_cons (ped_tup pad_nil) pad_nil)))
    pbd_nil)
    (pbd_cons (psd_for (g := (.tup [1, 2])) (passes_of rfl) rfl (pid_enum (by rfl) T.bi_enumerate (ped_var 0)) (pgd_tup [1, 2] rfl (pgs_cons (pg_name (i := 1) sc_need_lengths.nd rfl (by first | exact Or.inl rfl | exact Or.inr rfl)) (pgs_cons (pg_name (i := 2) sc_need_lengths.nd rfl (by first | exact Or.inl rfl | exact Or.inr rfl)) pgs_nil)))
    (pbd_one (psd_if (ptd_not (ptd_val (ped_callN (ok_is_whole T B) (hr.mono (by decide)) hgd (by rfl) T.h_is_whole.m T.h_is_whole.fn.kp T.h_is_whole.b (takes_of rfl rfl rfl rfl) (pad_cons (ped_var 2) (pad_cons (ped_c pe_int (fun _ => .int _)) (pad_cons (ped_c (pe_glob (v := .int 64) (by rfl) T.c_MOST_LENGTH ⟨_, rfl⟩) (fun _ => .int _)) pad_nil))))))
    (pbd_one (psd_raise (exc_BadLengths T) rfl (takes_of rfl rfl rfl rfl) (hr.mono (by decide)) (by rfl) (pad_cons (ped_tup (pad_cons (ped_var 1) pad_nil)) pad_nil)))
    pbd_nil)))
    (pbd_one (psd_ret (ped_var 0)))))
abbrev s_common : Stmt := top 17
theorem sc_common : FnScope ["one", "other"] ["one", "other"] (defScope s_common) := ⟨rfl, rfl, rfl, by decide +kernel, rfl, by decide +kernel, by decide +kernel⟩
theorem ok_common (T : Prog w K mg) (B : T.TB base) : FnG (UD K T.tb T.cl) P w K mg base 1 T.f_common T.fd_common ["one", "other"] F_common :=
  fn_g T.h_common.fn sc_common fun cdv A outer s H E hr hgd =>
    (pbd_cons (psd_while (passes_of rfl) (ptd_cmp (op_neE hr.units) d_ne (ped_var 1) (ped_c pe_int (fun _ => .int _)) (nomark _))
    (pbd_one (psd_par (i := 0) (j := 1) rfl sc_common.nd rfl rfl (by decide) rfl rfl (pad_cons (ped_var 1) (pad_cons (ped_op op_modD d_mod (ped_callTy call_int1 d_int (by rfl) T.bi_int (by decide +kernel) (pad_cons (ped_var 0) pad_nil)) (ped_var 1)) pad_nil)))))
    (pbd_one (psd_ret (ped_var 0))))
abbrev s_bottoms : Stmt := top 18
theorem sc_bottoms : FnScope ["lengths", "length", "bottom"] ["lengths"] (defScope s_bottoms) := ⟨rfl, rfl, rfl, by decide +kernel, rfl, by decide +kernel, by decide +kernel⟩
theorem ok_bottoms (T : Prog w K mg) (B : T.TB base) : FnG (UD K T.tb T.cl) P w K mg base 1 T.f_bottoms T.fd_bottoms ["lengths"] F_bottoms :=
  fn_g T.h_bottoms.fn sc_bottoms fun cdv A outer s H E hr hgd =>
    (pbd_one (psd_ret (ped_frz (pnd_sortS (own := [("length", 1), ("bottom", 2)]) (us := [2]) (tg := (.name 1)) (tg' := (.name 2)) (by rfl) T.bi_sorted rfl sc_bottoms.nd (pid_seq (ped_var 0)) (blkOk_by (N := ["lengths", "length", "bottom"]) (sc := defScope s_bottoms) (by decide +kernel)) (by decide) (by decide) (by decide) (fun _ _ _ _ _ => (pgd_name 1 sc_bottoms.nd rfl (by first | exact Or.inl rfl | exact Or.inr rfl))) (fun _ _ _ _ _ => ptsd_nil) (fun _ _ _ _ _ => (pid_rng2 (by rfl) T.bi_range (ped_c pe_int (fun _ => .int _)) (ped_op op_addD d_add (ped_var 1) (ped_c pe_int (fun _ => .int _))))) (fun _ _ _ _ _ => (pgd_name 2 sc_bottoms.nd rfl (by first | exact Or.inl rfl | exact Or.inr rfl))) (fun _ _ _ _ _ => (ptsd_one (ptd_cmp (op_eqE hr.units) d_eq (ped_op op_modD d_mod (ped_callTy call_int1 d_int (by rfl) T.bi_int (by decide +kernel) (pad_cons (ped_var 1) pad_nil)) (ped_var 2)) (ped_c pe_int (fun _ => .int _)) (nomark _)))) (fun _ _ _ _ _ => (ped_var 2))))))
abbrev s_span_in : Stmt := top 19
theorem sc_span_in : FnScope ["lengths", "found", "bottom", "top"] ["lengths"] (defScope s_span_in) := ⟨rfl, rfl, rfl, by decide +kernel, rfl, by decide +kernel, by decide +kernel⟩
theorem ok_span_in (T : Prog w K mg) (B : T.TB base) : FnG (UD K T.tb T.cl) P w K mg base 2 T.f_span_in T.fd_span_in ["lengths"] F_span_in :=
  fn_g T.h_span_in.fn sc_span_in fun cdv A outer s H E hr hgd =>
    (pbd_cons (psd_set (i := 1) sc_span_in.nd rfl (by first | exact Or.inl rfl | exact Or.inr rfl) (ped_c pe_int (fun _ => .int _)))
    (pbd_cons (psd_for (g := (.name 2)) (passes_of rfl) rfl (pid_seq (ped_callN (ok_bottoms T B) (hr.mono (by decide)) hgd (by rfl) T.h_bottoms.m T.h_bottoms.fn.kp T.h_bottoms.b (takes_of rfl rfl rfl rfl) (pad_cons (ped_var 0) pad_nil))) (pgd_name 2 sc_span_in.nd rfl (by first | exact Or.inl rfl | exact Or.inr rfl))
    (pbd_one (psd_aug (i := 1) sc_span_in.nd rfl (by first | exact Or.inl rfl | exact Or.inr rfl) (ped_callB Dl.call_lenD d_len (by rfl) T.bi_len (by decide +kernel) (pad_cons (ped_frz (pnd_comp rfl sc_span_in.nd (own := [("top", 3)]) (g := (.name 3)) (pid_rng (by rfl) T.bi_range (ped_var 2)) (blkOk_by (N := ["lengths", "found", "bottom", "top"]) (sc := defScope s_span_in) (by decide +kernel)) (by decide) (fun _ _ _ _ _ => (pgd_name 3 sc_span_in.nd rfl (by first | exact Or.inl rfl | exact Or.inr rfl))) (fun _ _ _ _ _ => (ptsd_one (ptd_cmp (op_eqE hr.units) d_eq (ped_callN (ok_common T B) (hr.mono (by decide)) hgd (by rfl) T.h_common.m T.h_common.fn.kp T.h_common.b takesF (pad_cons (ped_var 3) (pad_cons (ped_var 2) pad_nil))) (ped_c pe_int (fun _ => .int _)) (nomark _)))) (fun _ _ _ _ _ => (ped_var 3)))) pad_nil)) ip_add)))
    (pbd_one (psd_ret (ped_var 1)))))
abbrev s_times : Stmt := top 20
theorem sc_times : FnScope ["one", "other", "found", "at", "factor", "place", "further"] ["one", "other"] (defScope s_times) := ⟨rfl, rfl, rfl, by decide +kernel, rfl, by decide +kernel, by decide +kernel⟩
theorem ok_times (T : Prog w K mg) (B : T.TB base) : FnG (UD K T.tb T.cl) P w K mg base 1 T.f_times T.fd_times ["one", "other"] F_times :=
  fn_g T.h_times.fn sc_times fun cdv A outer s H E hr hgd =>
    (pbd_cons (psd_new (i := 2) sc_times.nd rfl (by first | exact Or.inl rfl | exact Or.inr rfl) (pnd_rep (ped_lst (pad_cons (ped_c pe_int (fun _ => .int _)) pad_nil)) (ped_op op_sub d_sub (ped_op op_addD d_add (ped_callB Dl.call_lenD d_len (by rfl) T.bi_len (by decide +kernel) (pad_cons (ped_var 0) pad_nil)) (ped_callB Dl.call_lenD d_len (by rfl) T.bi_len (by decide +kernel) (pad_cons (ped_var 1) pad_nil))) (ped_c pe_int (fun _ => .int _)))))
    (pbd_cons (psd_for (g := (.tup [3, 4])) (passes_of rfl) rfl (pid_enum (by rfl) T.bi_enumerate (ped_var 0)) (pgd_tup [3, 4] rfl (pgs_cons (pg_name (i := 3) sc_times.nd rfl (by first | exact Or.inl rfl | exact Or.inr rfl)) (pgs_cons (pg_name (i := 4) sc_times.nd rfl (by first | exact Or.inl rfl | exact Or.inr rfl)) pgs_nil)))
    (pbd_one (psd_for (g := (.tup [5, 6])) (passes_of rfl) rfl (pid_enum (by rfl) T.bi_enumerate (ped_var 1)) (pgd_tup [5, 6] rfl (pgs_cons (pg_name (i := 5) sc_times.nd rfl (by first | exact Or.inl rfl | exact Or.inr rfl)) (pgs_cons (pg_name (i := 6) sc_times.nd rfl (by first | exact Or.inl rfl | exact Or.inr rfl)) pgs_nil)))
    (pbd_one (psd_augI (i := 2) ip_add rfl (by first | exact Or.inl rfl | exact Or.inr (Or.inl rfl) | exact Or.inr (Or.inr rfl)) (ped_op op_addD d_add (ped_var 3) (ped_var 5)) (ped_op op_mulD d_mul (ped_var 4) (ped_var 6)))))))
    (pbd_one (psd_retOwn (i := 2)))))
abbrev s_without : Stmt := top 21
theorem sc_without : FnScope ["one", "other", "rest", "found", "at", "place", "factor"] ["one", "other"] (defScope s_without) := ⟨rfl, rfl, rfl, by decide +kernel, rfl, by decide +kernel, by decide +kernel⟩
theorem ok_without (T : Prog w K mg) (B : T.TB base) : FnG (UD K T.tb T.cl) P w K mg base 1 T.f_without T.fd_without ["one", "other"] F_without :=
  fn_g T.h_without.fn sc_without fun cdv A outer s H E hr hgd =>
    (pbd_cons (psd_parNN (i := 2) (j := 3) rfl sc_without.nd rfl rfl (by decide) rfl rfl (pnd_list (by rfl) T.bi_list (ped_var 0)) (pnd_rep (ped_lst (pad_cons (ped_c pe_int (fun _ => .int _)) pad_nil)) (ped_op op_addD d_add (ped_op op_sub d_sub (ped_callB Dl.call_lenD d_len (by rfl) T.bi_len (by decide +kernel) (pad_cons (ped_var 0) pad_nil)) (ped_callB Dl.call_lenD d_len (by rfl) T.bi_len (by decide +kernel) (pad_cons (ped_var 1) pad_nil))) (ped_c pe_int (fun _ => .int _)))))
    (pbd_cons (psd_for (g := (.name 4)) (passes_of rfl) rfl (pid_revN (by rfl) T.bi_reversed (by rfl) T.bi_range (ped_callB Dl.call_lenD d_len (by rfl) T.bi_len (by decide +kernel) (pad_cons (ped_var 3) pad_nil))) (pgd_name 4 sc_without.nd rfl (by first | exact Or.inl rfl | exact Or.inr rfl))
    (pbd_cons (psd_setI (i := 3) rfl (by first | exact Or.inl rfl | exact Or.inr (Or.inl rfl) | exact Or.inr (Or.inr rfl)) (ped_ix (ped_var 2) (ped_op op_sub d_sub (ped_op op_addD d_add (ped_var 4) (ped_callB Dl.call_lenD d_len (by rfl) T.bi_len (by decide +kernel) (pad_cons (ped_var 1) pad_nil))) (ped_c pe_int (fun _ => .int _))) (fun _ _ => rfl)) (ped_var 4))
    (pbd_one (psd_for (g := (.tup [5, 6])) (passes_of rfl) rfl (pid_enum (by rfl) T.bi_enumerate (ped_var 1)) (pgd_tup [5, 6] rfl (pgs_cons (pg_name (i := 5) sc_without.nd rfl (by first | exact Or.inl rfl | exact Or.inr rfl)) (pgs_cons (pg_name (i := 6) sc_without.nd rfl (by first | exact Or.inl rfl | exact Or.inr rfl)) pgs_nil)))
    (pbd_one (psd_augI (i := 2) ip_sub rfl (by first | exact Or.inl rfl | exact Or.inr (Or.inl rfl) | exact Or.inr (Or.inr rfl)) (ped_op op_addD d_add (ped_var 4) (ped_var 5)) (ped_op op_mulD d_mul (ped_ix (ped_var 3) (ped_var 4) (fun _ _ => rfl)) (ped_var 6))))))))
    (pbd_one (psd_retOwn (i := 3)))))
abbrev s_factor_of : Stmt := top 22
theorem sc_factor_of : FnScope ["bottom", "known", "found", "lesser"] ["bottom", "known"] (defScope s_factor_of) := ⟨rfl, rfl, rfl, by decide +kernel, rfl, by decide +kernel, by decide +kernel⟩
theorem ok_factor_of (T : Prog w K mg) (B : T.TB base) : FnG (UD K T.tb T.cl) P w K mg base 2 T.f_factor_of T.fd_factor_of ["bottom", "known"] F_factor_of :=
  fn_g T.h_factor_of.fn sc_factor_of fun cdv A outer s H E hr hgd =>
    (pbd_cons (psd_set (i := 2) sc_factor_of.nd rfl (by first | exact Or.inl rfl | exact Or.inr rfl) (ped_op op_addD d_add (ped_op op_addD d_add (ped_lst (pad_cons (ped_un un_neg d_neg (ped_c pe_int (fun _ => .int _))) pad_nil)) (ped_op op_mulD d_mul (ped_lst (pad_cons (ped_c pe_int (fun _ => .int _)) pad_nil)) (ped_op op_sub d_sub (ped_var 0) (ped_c pe_int (fun _ => .int _))))) (ped_lst (pad_cons (ped_c pe_int (fun _ => .int _)) pad_nil))))
    (pbd_cons (psd_for (g := (.name 3)) (passes_of rfl) rfl (pid_rng2 (by rfl) T.bi_range (ped_c pe_int (fun _ => .int _)) (ped_var 0)) (pgd_name 3 sc_factor_of.nd rfl (by first | exact Or.inl rfl | exact Or.inr rfl))
    (pbd_one (psd_if (ptd_cmp (op_eqE hr.units) d_eq (ped_op op_modD d_mod (ped_callTy call_int1 d_int (by rfl) T.bi_int (by decide +kernel) (pad_cons (ped_var 0) pad_nil)) (ped_var 3)) (ped_c pe_int (fun _ => .int _)) (nomark _))
    (pbd_one (psd_set (i := 2) sc_factor_of.nd rfl (by first | exact Or.inl rfl | exact Or.inr rfl) (ped_callN (ok_without T B) (hr.mono (by decide)) hgd (by rfl) T.h_without.m T.h_without.fn.kp T.h_without.b (takes_of rfl rfl rfl rfl) (pad_cons (ped_var 2) (pad_cons (ped_getD (hu_of hr) (ped_var 1) (ped_var 3) (fun _ _ => rfl)) pad_nil)))))
    pbd_nil)))
    (pbd_one (psd_ret (ped_var 2)))))
abbrev s_weights_in : Stmt := top 23
theorem sc_weights_in : FnScope ["lengths", "known", "found", "bottom"] ["lengths"] (defScope s_weights_in) := ⟨rfl, rfl, rfl, by decide +kernel, rfl, by decide +kernel, by decide +kernel⟩
theorem ok_weights_in (T : Prog w K mg) (B : T.TB base) : FnG (UD K T.tb T.cl) P w K mg base 3 T.f_weights_in T.fd_weights_in ["lengths"] F_weights_in :=
  fn_g T.h_weights_in.fn sc_weights_in fun cdv A outer s H E hr hgd =>
    (pbd_cons (psd_parDV (i := 1) (j := 2) rfl sc_weights_in.nd rfl rfl (by decide) rfl rfl (ped_lst (pad_cons (ped_c pe_int (fun _ => .int _)) pad_nil)))
    (pbd_cons (psd_for (g := (.name 3)) (passes_of rfl) rfl (pid_seq (ped_callN (ok_bottoms T B) (hr.mono (by decide)) hgd (by rfl) T.h_bottoms.m T.h_bottoms.fn.kp T.h_bottoms.b (takes_of rfl rfl rfl rfl) (pad_cons (ped_var 0) pad_nil))) (pgd_name 3 sc_weights_in.nd rfl (by first | exact Or.inl rfl | exact Or.inr rfl))
    (pbd_cons (psd_putI (i := 1) (hu_of hr) (ped_callO (ok_factor_of T B) (hr.mono (by decide)) hgd (by rfl) T.h_factor_of.m T.h_factor_of.fn.kp T.h_factor_of.b rfl (takes_of rfl rfl rfl rfl) (pad_cons (ped_var 3) (pad_cons (ped_var 1) pad_nil))) (ped_var 3))
    (pbd_one (psd_set (i := 2) sc_weights_in.nd rfl (by first | exact Or.inl rfl | exact Or.inr rfl) (ped_callN (ok_times T B) (hr.mono (by decide)) hgd (by rfl) T.h_times.m T.h_times.fn.kp T.h_times.b (takes_of rfl rfl rfl rfl) (pad_cons (ped_var 2) (pad_cons (ped_getO (i := 1) (hu_of hr) (ped_var 3) (fun _ _ => rfl)) pad_nil)))))))
    (pbd_one (psd_ret (ped_callTy call_tuple_of d_tuple (by rfl) T.bi_tuple (by decide +kernel) (pad_cons (ped_var 2) pad_nil))))))
abbrev s_span : Stmt := top 24
theorem sc_span : FnScope ["lengths"] ["lengths"] (defScope s_span) := ⟨rfl, rfl, rfl, by decide +kernel, rfl, by decide +kernel, by decide +kernel⟩
theorem ok_span (T : Prog w K mg) (B : T.TB base) : FnG (UD K T.tb T.cl) P w K mg base 4 T.f_span T.fd_span ["lengths"] F_span :=
  fn_g T.h_span.fn sc_span fun cdv A outer s H E hr hgd =>
    (pbd_one (psd_ret (ped_callN (ok_span_in T B) (hr.mono (by decide)) hgd (by rfl) T.h_span_in.m T.h_span_in.fn.kp T.h_span_in.b (takes_of rfl rfl rfl rfl) (pad_cons (ped_callN (ok_need_lengths T B) (hr.mono (by decide)) hgd (by rfl) T.h_need_lengths.m T.h_need_lengths.fn.kp T.h_need_lengths.b (takes_of rfl rfl rfl rfl) (pad_cons (ped_var 0) pad_nil)) pad_nil))))
abbrev s_weights : Stmt := top 25
theorem sc_weights : FnScope ["lengths"] ["lengths"] (defScope s_weights) := ⟨rfl, rfl, rfl, by decide +kernel, rfl, by decide +kernel, by decide +kernel⟩
theorem ok_weights (T : Prog w K mg) (B : T.TB base) : FnG (UD K T.tb T.cl) P w K mg base 4 T.f_weights T.fd_weights ["lengths"] F_weights :=
  fn_g T.h_weights.fn sc_weights fun cdv A outer s H E hr hgd =>
    (pbd_one (psd_ret (ped_callN (ok_weights_in T B) (hr.mono (by decide)) hgd (by rfl) T.h_weights_in.m T.h_weights_in.fn.kp T.h_weights_in.b (takes_of rfl rfl rfl rfl) (pad_cons (ped_callN (ok_need_lengths T B) (hr.mono (by decide)) hgd (by rfl) T.h_need_lengths.m T.h_need_lengths.fn.kp T.h_need_lengths.b (takes_of rfl rfl rfl rfl) (pad_cons (ped_var 0) pad_nil)) pad_nil))))
abbrev s_carried_in : Stmt := top 26
theorem sc_carried_in : FnScope ["lengths", "row", "many", "due", "found", "turn", "begin", "at"] ["lengths", "row", "many"] (defScope s_carried_in) := ⟨rfl, rfl, rfl, by decide +kernel, rfl, by decide +kernel, by decide +kernel⟩
theorem ok_carried_in (T : Prog w K mg) (B : T.TB base) : FnG (UD K T.tb T.cl) P w K mg base 4 T.f_carried_in T.fd_carried_in ["lengths", "row", "many"] F_carried_in :=
  fn_g T.h_carried_in.fn sc_carried_in fun cdv A outer s H E hr hgd =>
    (pbd_cons (psd_unpVN (i := 3) (j := 4) rfl (by decide) (ped_callN (ok_weights_in T B) (hr.mono (by decide)) hgd (by rfl) T.h_weights_in.m T.h_weights_in.fn.kp T.h_weights_in.b (takes_of rfl rfl rfl rfl) (pad_cons (ped_var 0) pad_nil)) (pnd_list (by rfl) T.bi_list (ped_var 1)) (pgs_cons (pg_name (i := 3) sc_carried_in.nd rfl (by first | exact Or.inl rfl | exact Or.inr rfl)) (pgs_cons (pg_name (i := 4) sc_carried_in.nd rfl (by first | exact Or.inl rfl | exact Or.inr rfl)) pgs_nil)))
    (pbd_cons (psd_for (g := (.name 5)) (passes_of rfl) rfl (pid_rng (by rfl) T.bi_range (ped_var 2)) (pgd_name 5 sc_carried_in.nd rfl (by first | exact Or.inl rfl | exact Or.inr rfl))
    (pbd_cons (psd_set (i := 6) sc_carried_in.nd rfl (by first | exact Or.inl rfl | exact Or.inr rfl) (ped_op op_addD d_add (ped_op op_sub d_sub (ped_callB Dl.call_lenD d_len (by rfl) T.bi_len (by decide +kernel) (pad_cons (ped_var 4) pad_nil)) (ped_callB Dl.call_lenD d_len (by rfl) T.bi_len (by decide +kernel) (pad_cons (ped_var 3) pad_nil))) (ped_c pe_int (fun _ => .int _))))
    (pbd_one (psd_app (i := 4) (ped_un un_neg d_neg (ped_callB (cr_sum rfl) d_sum (by rfl) T.bi_sum (by decide +kernel) (pad_cons (ped_frz (pnd_comp rfl sc_carried_in.nd (own := [("at", 7)]) (g := (.name 7)) (pid_rng (by rfl) T.bi_range (ped_op op_sub d_sub (ped_callB Dl.call_lenD d_len (by rfl) T.bi_len (by decide +kernel) (pad_cons (ped_var 3) pad_nil)) (ped_c pe_int (fun _ => .int _)))) (blkOk_by (N := ["lengths", "row", "many", "due", "found", "turn", "begin", "at"]) (sc := defScope s_carried_in) (by decide +kernel)) (by decide) (fun _ _ _ _ _ => (pgd_name 7 sc_carried_in.nd rfl (by first | exact Or.inl rfl | exact Or.inr rfl))) (fun _ _ _ _ _ => ptsd_nil) (fun _ _ _ _ _ => (ped_op op_mulD d_mul (ped_ix (ped_var 3) (ped_var 7) (fun _ _ => rfl)) (ped_ix (ped_var 4) (ped_op op_addD d_add (ped_var 6) (ped_var 7)) (fun _ _ => rfl)))))) pad_nil)))))))
    (pbd_one (psd_ret (ped_callTy call_tuple_of d_tuple (by rfl) T.bi_tuple (by decide +kernel) (pad_cons (ped_sl (ped_var 4) (pod_some (ped_callB Dl.call_lenD d_len (by rfl) T.bi_len (by decide +kernel) (pad_cons (ped_var 1) pad_nil))) pod_none) pad_nil))))))
abbrev s_carried : Stmt := top 27
theorem sc_carried : FnScope ["lengths", "row", "many", "sample"] ["lengths", "row", "many"] (defScope s_carried) := ⟨rfl, rfl, rfl, by decide +kernel, rfl, by decide +kernel, by decide +kernel⟩
theorem ok_carried (T : Prog w K mg) (B : T.TB base) : FnG (UD K T.tb T.cl) P w K mg base 5 T.f_carried T.fd_carried ["lengths", "row", "many"] F_carried :=
  fn_g T.h_carried.fn sc_carried fun cdv A outer s H E hr hgd =>
    (pbd_cons (psd_expr (ped_callN (ok_need_lengths T B) (hr.mono (by decide)) hgd (by rfl) T.h_need_lengths.m T.h_need_lengths.fn.kp T.h_need_lengths.b (takes_of rfl rfl rfl rfl) (pad_cons (ped_var 0) pad_nil)))
    (pbd_cons (psd_if (ptd_w (pwd_or (ptd_not (ptd_val (ped_isi .tuple (by rfl) T.bi_isinstance (by rfl) T.bi_tuple (by decide +kernel) (ped_var 1)))) (pwd_or1 (ptd_not (ptd_val (ped_callB (cr_all rfl) d_all (by rfl) T.bi_all (by decide +kernel) (pad_cons (ped_frz (pnd_comp rfl sc_carried.nd (own := [("sample", 3)]) (g := (.name 3)) (pid_seq (ped_var 1)) (blkOk_by (N := ["lengths", "row", "many", "sample"]) (sc := defScope s_carried) (by decide +kernel)) (by decide) (fun _ _ _ _ _ => (pgd_name 3 sc_carried.nd rfl (by first | exact Or.inl rfl | exact Or.inr rfl))) (fun _ _ _ _ _ => ptsd_nil) (fun _ _ _ _ _ => (ped_callN (ok_is_number T B) (hr.mono (by decide)) hgd (by rfl) T.h_is_number.m T.h_is_number.fn.kp T.h_is_number.b takesF (pad_cons (ped_var 3) pad_nil))))) pad_nil)))))))
    (pbd_one (psd_raise (exc_OutOfPlace T) rfl (takes_of rfl rfl rfl rfl) (hr.mono (by decide)) (by rfl) (pad_cons (ped_c pe_str (fun _ => .str _)) pad_nil)))
    pbd_nil)
    (pbd_cons (psd_if (ptd_cmp (op_neE hr.units) d_ne (ped_callB Dl.call_lenD d_len (by rfl) T.bi_len (by decide +kernel) (pad_cons (ped_var 1) pad_nil)) (ped_callN (ok_span_in T B) (hr.mono (by decide)) hgd (by rfl) T.h_span_in.m T.h_span_in.fn.kp T.h_span_in.b (takes_of rfl rfl rfl rfl) (pad_cons (ped_var 0) pad_nil)) (nomark _))
    (pbd_one (psd_raise (exc_OutOfPlace T) rfl (takes_of rfl rfl rfl rfl) (hr.mono (by decide)) (by rfl) (pad_cons (ped_c pe_str (fun _ => .str _)) pad_nil)))
    pbd_nil)
    (pbd_cons (psd_expr (ped_callN (ok_need_whole T B) (hr.mono (by decide)) hgd (by rfl) T.h_need_whole.m T.h_need_whole.fn.kp T.h_need_whole.b (takes_of rfl rfl rfl rfl) (pad_cons (ped_var 2) (pad_cons (ped_c pe_int (fun _ => .int _)) (pad_cons (ped_c (pe_glob (v := .int 1000) (by rfl) T.c_MOST_MANY ⟨_, rfl⟩) (fun _ => .int _)) pad_nil)))))
    (pbd_one (psd_ret (ped_callN (ok_carried_in T B) (hr.mono (by decide)) hgd (by rfl) T.h_carried_in.m T.h_carried_in.fn.kp T.h_carried_in.b (takes_of rfl rfl rfl rfl) (pad_cons (ped_var 0) (pad_cons (ped_var 1) (pad_cons (ped_var 2) pad_nil))))))))))
abbrev s_need_small : Stmt := top 32
theorem sc_need_small : FnScope ["lengths", "length"] ["lengths"] (defScope s_need_small) := ⟨rfl, rfl, rfl, by decide +kernel, rfl, by decide +kernel, by decide +kernel⟩
theorem ok_need_small (T : Prog w K mg) (B : T.TB base) : FnG (UD K T.tb T.cl) P w K mg base 4 T.f_need_small T.fd_need_small ["lengths"] F_need_small :=
  fn_g T.h_need_small.fn sc_need_small fun cdv A outer s H E hr hgd =>
    (pbd_cons (psd_expr (ped_callN (ok_need_lengths T B) (hr.mono (by decide)) hgd (by rfl) T.h_need_lengths.m T.h_need_lengths.fn.kp T.h_need_lengths.b (takes_of rfl rfl rfl rfl) (pad_cons (ped_var 0) pad_nil)))
    (pbd_one (psd_if (ptd_w (pwd_or (ptd_cmp op_gt d_gt (ped_callB Dl.call_lenD d_len (by rfl) T.bi_len (by decide +kernel) (pad_cons (ped_var 0) pad_nil)) (ped_c (pe_glob (v := .int 4) (by rfl) T.c_MOST_FITTED ⟨_, rfl⟩) (fun _ => .int _)) (nomark _)) (pwd_or1 (ptd_val (ped_callB (cr_any rfl) d_any (by rfl) T.bi_any (by decide +kernel) (pad_cons (ped_frz (pnd_comp rfl sc_need_small.nd (own := [("length", 1)]) (g := (.name 1)) (pid_seq (ped_var 0)) (blkOk_by (N := ["lengths", "length"]) (sc := defScope s_need_small) (by decide +kernel)) (by decide) (fun _ _ _ _ _ => (pgd_name 1 sc_need_small.nd rfl (by first | exact Or.inl rfl | exact Or.inr rfl))) (fun _ _ _ _ _ => ptsd_nil) (fun _ _ _ _ _ => (ped_cmp op_gt d_gt (ped_var 1) (ped_c (pe_glob (v := .int 24) (by rfl) T.c_LONGEST_FITTED ⟨_, rfl⟩) (fun _ => .int _)) (nomark _))))) pad_nil))))))
    (pbd_one psd_stuck)
    pbd_nil)))
abbrev s_need_numbers : Stmt := top 33
theorem sc_need_numbers : FnScope ["row", "sample"] ["row"] (defScope s_need_numbers) := ⟨rfl, rfl, rfl, by decide +kernel, rfl, by decide +kernel, by decide +kernel⟩
theorem ok_need_numbers (T : Prog w K mg) (B : T.TB base) : FnG (UD K T.tb T.cl) P w K mg base 3 T.f_need_numbers T.fd_need_numbers ["row"] F_need_numbers :=
  fn_g T.h_need_numbers.fn sc_need_numbers fun cdv A outer s H E hr hgd =>
    (pbd_one (psd_if (ptd_w (pwd_or (ptd_not (ptd_val (ped_isi .tuple (by rfl) T.bi_isinstance (by rfl) T.bi_tuple (by decide +kernel) (ped_var 0)))) (pwd_or (ptd_cmp op_gt d_gt (ped_callB Dl.call_lenD d_len (by rfl) T.bi_len (by decide +kernel) (pad_cons (ped_var 0) pad_nil)) (ped_c (pe_glob (v := .int 200) (by rfl) T.c_LONGEST_ROW ⟨_, rfl⟩) (fun _ => .int _)) (nomark _)) (pwd_or1 (ptd_not (ptd_val (ped_callB (cr_all rfl) d_all (by rfl) T.bi_all (by decide +kernel) (pad_cons (ped_frz (pnd_comp rfl sc_need_numbers.nd (own := [("sample", 1)]) (g := (.name 1)) (pid_seq (ped_var 0)) (blkOk_by (N := ["row", "sample"]) (sc := defScope s_need_numbers) (by decide +kernel)) (by decide) (fun _ _ _ _ _ => (pgd_name 1 sc_need_numbers.nd rfl (by first | exact Or.inl rfl | exact Or.inr rfl))) (fun _ _ _ _ _ => ptsd_nil) (fun _ _ _ _ _ => (ped_callN (ok_is_number T B) (hr.mono (by decide)) hgd (by rfl) T.h_is_number.m T.h_is_number.fn.kp T.h_is_number.b takesF (pad_cons (ped_var 1) pad_nil))))) pad_nil))))))))
    (pbd_one (psd_raise (exc_OutOfPlace T) rfl (takes_of rfl rfl rfl rfl) (hr.mono (by decide)) (by rfl) (pad_cons (ped_c pe_str (fun _ => .str _)) pad_nil)))
    pbd_nil))
abbrev s_reduced : Stmt := top 34
theorem sc_reduced : FnScope ["columns", "at", "first", "rest", "column", "many", "one", "other"] ["columns", "at"] (defScope s_reduced) := ⟨rfl, rfl, rfl, by decide +kernel, rfl, by decide +kernel, by decide +kernel⟩
theorem ok_reduced (T : Prog w K mg) (B : T.TB base) : FnG (UD K T.tb T.cl) P w K mg base 1 T.f_reduced T.fd_reduced ["columns", "at"] F_reduced :=
  fn_g T.h_reduced.fn sc_reduced fun cdv A outer s H E hr hgd =>
    (pbd_one (psd_while (passes_of rfl) (ptd_val (ped_c pe_bl (fun _ => .bl _)))
    (pbd_cons psd_stuck
    (pbd_cons (psd_par (i := 2) (j := 3) rfl sc_reduced.nd rfl rfl (by decide) rfl rfl (pad_cons (ped_ix (ped_var 0) (ped_c pe_int (fun _ => .int _)) (fun _ _ => rfl)) (pad_cons (ped_sl (ped_var 0) (pod_some (ped_c pe_int (fun _ => .int _))) pod_none) pad_nil)))
    (pbd_cons (psd_if (ptd_w (pwd_or (ptd_cmp (op_eqE hr.units) d_eq (ped_var 3) (ped_lst pad_nil) (nomark _)) (pwd_or1 (ptd_cmp (op_eqE hr.units) d_eq (ped_ix (ped_ix (ped_var 3) (ped_c pe_int (fun _ => .int _)) (fun _ _ => rfl)) (ped_var 1) (fun _ _ => rfl)) (ped_c pe_int (fun _ => .int _)) (nomark _)))))
    (pbd_one (psd_retOwn (i := 0)))
    pbd_nil)
    (pbd_cons (psd_new (i := 0) sc_reduced.nd rfl (by first | exact Or.inl rfl | exact Or.inr rfl) (pnd_lst (pad_cons (ped_var 2) pad_nil)))
    (pbd_one (psd_for (g := (.name 4)) (passes_of rfl) rfl (pid_seq (ped_var 3)) (pgd_name 4 sc_reduced.nd rfl (by first | exact Or.inl rfl | exact Or.inr rfl))
    (pbd_cons (psd_set (i := 5) sc_reduced.nd rfl (by first | exact Or.inl rfl | exact Or.inr rfl) (ped_op op_fdivD d_fdiv (ped_ix (ped_var 4) (ped_var 1) (fun _ _ => rfl)) (ped_ix (ped_var 2) (ped_var 1) (fun _ _ => rfl))))
    (pbd_cons (psd_if (ptd_cmp (op_neE hr.units) d_ne (ped_var 5) (ped_c pe_int (fun _ => .int _)) (nomark _))
    (pbd_one (psd_setC (i := 4) rfl sc_reduced.nd rfl rfl (sw_true rfl rfl rfl (by decide +kernel)) (own := [("one", 6), ("other", 7)]) (g := (.tup [6, 7])) (pid_zip (by rfl) T.bi_zip (ped_var 4) (ped_var 2)) (blkOk_by (N := ["columns", "at", "first", "rest", "column", "many", "one", "other"]) (sc := defScope s_reduced) (by decide +kernel)) (by decide) (fun _ _ _ _ _ => (pgd_tup [6, 7] rfl (pgs_cons (pg_name (i := 6) sc_reduced.nd rfl (by first | exact Or.inl rfl | exact Or.inr rfl)) (pgs_cons (pg_name (i := 7) sc_reduced.nd rfl (by first | exact Or.inl rfl | exact Or.inr rfl)) pgs_nil)))) (fun _ _ _ _ _ => ptsd_nil) (fun _ _ _ _ _ => (ped_op op_sub d_sub (ped_var 6) (ped_op op_mulD d_mul (ped_var 5) (ped_var 7))))))
    pbd_nil)
    (pbd_one (psd_app (i := 0) (ped_var 4)))))))))))))
abbrev s_loops_like : Stmt := top 35
theorem sc_loops_like : FnScope ["lengths", "row", "many", "columns", "places", "number", "at", "place", "sounds", "found", "left", "first", "share", "loops", "begin", "length", "tick", "k", "one", "other"] ["lengths", "row"] (defScope s_loops_like) := ⟨rfl, rfl, rfl, by decide +kernel, rfl, by decide +kernel, by decide +kernel⟩
theorem ok_loops_like (T : Prog w K mg) (B : T.TB base) : FnG (UD K T.tb T.cl) P w K mg base 2 T.f_loops_like T.fd_loops_like ["lengths", "row"] F_loops_like :=
  fn_g T.h_loops_like.fn sc_loops_like fun cdv A outer s H E hr hgd =>
    (pbd_cons (psd_parVN (i := 2) (j := 3) rfl sc_loops_like.nd rfl rfl (by decide) rfl rfl (ped_callB Dl.call_lenD d_len (by rfl) T.bi_len (by decide +kernel) (pad_cons (ped_var 1) pad_nil)) (pnd_lst pad_nil))
    (pbd_cons psd_stuck
    (pbd_cons psd_stuck
    (pbd_cons (psd_par (i := 9) (j := 10) rfl sc_loops_like.nd rfl rfl (by decide) rfl rfl (pad_cons (ped_op op_mulD d_mul (ped_lst (pad_cons (ped_c pe_int (fun _ => .int _)) pad_nil)) (ped_callB Dl.call_lenD d_len (by rfl) T.bi_len (by decide +kernel) (pad_cons (ped_var 4) pad_nil))) (pad_cons (ped_callTy call_list_of d_list (by rfl) T.bi_list (by decide +kernel) (pad_cons (ped_var 1) pad_nil)) pad_nil)))
    (pbd_cons (psd_for (g := (.name 6)) (passes_of rfl) rfl (pid_rng (by rfl) T.bi_range (ped_var 2)) (pgd_name 6 sc_loops_like.nd rfl (by first | exact Or.inl rfl | exact Or.inr rfl))
    (pbd_cons psd_stuck
    (pbd_cons (psd_parVN (i := 11) (j := 3) rfl sc_loops_like.nd rfl rfl (by decide) rfl rfl (ped_ix (ped_var 3) (ped_c pe_int (fun _ => .int _)) (fun _ _ => rfl)) (pnd_sl (ped_var 3) (pod_some (ped_c pe_int (fun _ => .int _))) pod_none))
    (pbd_cons (psd_set (i := 12) sc_loops_like.nd rfl (by first | exact Or.inl rfl | exact Or.inr rfl) (ped_op op_fdivD d_fdiv (ped_ix (ped_var 10) (ped_var 6) (fun _ _ => rfl)) (ped_ix (ped_var 11) (ped_var 6) (fun _ _ => rfl))))
    (pbd_cons (psd_setC (i := 10) rfl sc_loops_like.nd rfl rfl (sw_true rfl rfl rfl (by decide +kernel)) (own := [("one", 18), ("other", 19)]) (g := (.tup [18, 19])) (pid_zip (by rfl) T.bi_zip (ped_var 10) (ped_var 11)) (blkOk_by (N := ["lengths", "row", "many", "columns", "places", "number", "at", "place", "sounds", "found", "left", "first", "share", "loops", "begin", "length", "tick", "k", "one", "other"]) (sc := defScope s_loops_like) (by decide +kernel)) (by decide) (fun _ _ _ _ _ => (pgd_tup [18, 19] rfl (pgs_cons (pg_name (i := 18) sc_loops_like.nd rfl (by first | exact Or.inl rfl | exact Or.inr rfl)) (pgs_cons (pg_name (i := 19) sc_loops_like.nd rfl (by first | exact Or.inl rfl | exact Or.inr rfl)) pgs_nil)))) (fun _ _ _ _ _ => ptsd_nil) (fun _ _ _ _ _ => (ped_op op_sub d_sub (ped_var 18) (ped_op op_mulD d_mul (ped_var 12) (ped_var 19)))))
    (pbd_one (psd_setC (i := 9) rfl sc_loops_like.nd rfl rfl (sw_true rfl rfl rfl (by decide +kernel)) (own := [("one", 18), ("other", 19)]) (g := (.tup [18, 19])) (pid_zip (by rfl) T.bi_zip (ped_var 9) (ped_sl (ped_var 11) (pod_some (ped_var 2)) pod_none)) (blkOk_by (N := ["lengths", "row", "many", "columns", "places", "number", "at", "place", "sounds", "found", "left", "first", "share", "loops", "begin", "length", "tick", "k", "one", "other"]) (sc := defScope s_loops_like) (by decide +kernel)) (by decide) (fun _ _ _ _ _ => (pgd_tup [18, 19] rfl (pgs_cons (pg_name (i := 18) sc_loops_like.nd rfl (by first | exact Or.inl rfl | exact Or.inr rfl)) (pgs_cons (pg_name (i := 19) sc_loops_like.nd rfl (by first | exact Or.inl rfl | exact Or.inr rfl)) pgs_nil)))) (fun _ _ _ _ _ => ptsd_nil) (fun _ _ _ _ _ => (ped_op op_addD d_add (ped_var 18) (ped_op op_mulD d_mul (ped_var 12) (ped_var 19)))))))))))
    (pbd_cons (psd_parNV (i := 13) (j := 14) rfl sc_loops_like.nd rfl rfl (by decide) rfl rfl (pnd_lst pad_nil) (ped_c pe_int (fun _ => .int _)))
    (pbd_cons (psd_for (g := (.name 15)) (passes_of rfl) rfl (pid_seq (ped_var 0)) (pgd_name 15 sc_loops_like.nd rfl (by first | exact Or.inl rfl | exact Or.inr rfl))
    (pbd_cons (psd_app (i := 13) (ped_callTy call_tuple_of d_tuple (by rfl) T.bi_tuple (by decide +kernel) (pad_cons (ped_sl (ped_var 9) (pod_some (ped_var 14)) (pod_some (ped_op op_addD d_add (ped_var 14) (ped_var 15)))) pad_nil)))
    (pbd_one (psd_aug (i := 14) sc_loops_like.nd rfl (by first | exact Or.inl rfl | exact Or.inr rfl) (ped_var 15) ip_add))))
    (pbd_one (psd_ret (ped_callTy call_tuple_of d_tuple (by rfl) T.bi_tuple (by decide +kernel) (pad_cons (ped_var 13) pad_nil)))))))))))
abbrev s_fit : Stmt := top 36
theorem sc_fit : FnScope ["lengths", "row", "due", "many", "at", "begin", "factor", "sample"] ["lengths", "row"] (defScope s_fit) := ⟨rfl, rfl, rfl, by decide +kernel, rfl, by decide +kernel, by decide +kernel⟩
theorem ok_fit (T : Prog w K mg) (B : T.TB base) : FnG (UD K T.tb T.cl) P w K mg base 5 T.f_fit T.fd_fit ["lengths", "row"] F_fit :=
  fn_g T.h_fit.fn sc_fit fun cdv A outer s H E hr hgd =>
    (pbd_cons (psd_expr (ped_callN (ok_need_small T B) (hr.mono (by decide)) hgd (by rfl) T.h_need_small.m T.h_need_small.fn.kp T.h_need_small.b (takes_of rfl rfl rfl rfl) (pad_cons (ped_var 0) pad_nil)))
    (pbd_cons (psd_expr (ped_callN (ok_need_numbers T B) (hr.mono (by decide)) hgd (by rfl) T.h_need_numbers.m T.h_need_numbers.fn.kp T.h_need_numbers.b (takes_of rfl rfl rfl rfl) (pad_cons (ped_var 1) pad_nil)))
    (pbd_cons (psd_par (i := 2) (j := 3) rfl sc_fit.nd rfl rfl (by decide) rfl rfl (pad_cons (ped_callN (ok_weights_in T B) (hr.mono (by decide)) hgd (by rfl) T.h_weights_in.m T.h_weights_in.fn.kp T.h_weights_in.b (takes_of rfl rfl rfl rfl) (pad_cons (ped_var 0) pad_nil)) (pad_cons (ped_callN (ok_span_in T B) (hr.mono (by decide)) hgd (by rfl) T.h_span_in.m T.h_span_in.fn.kp T.h_span_in.b (takes_of rfl rfl rfl rfl) (pad_cons (ped_var 0) pad_nil)) pad_nil)))
    (pbd_cons (psd_for (g := (.name 4)) (passes_of rfl) rfl (pid_rng (by rfl) T.bi_range (ped_op op_sub d_sub (ped_callB Dl.call_lenD d_len (by rfl) T.bi_len (by decide +kernel) (pad_cons (ped_var 1) pad_nil)) (ped_var 3))) (pgd_name 4 sc_fit.nd rfl (by first | exact Or.inl rfl | exact Or.inr rfl))
    (pbd_one (psd_if (ptd_cmp (op_neE hr.units) d_ne (ped_callB (cr_sum rfl) d_sum (by rfl) T.bi_sum (by decide +kernel) (pad_cons (ped_frz (pnd_comp rfl sc_fit.nd (own := [("factor", 6), ("sample", 7)]) (g := (.tup [6, 7])) (pid_zip (by rfl) T.bi_zip (ped_var 2) (ped_sl (ped_var 1) (pod_some (ped_var 4)) (pod_some (ped_op op_addD d_add (ped_op op_addD d_add (ped_var 4) (ped_var 3)) (ped_c pe_int (fun _ => .int _)))))) (blkOk_by (N := ["lengths", "row", "due", "many", "at", "begin", "factor", "sample"]) (sc := defScope s_fit) (by decide +kernel)) (by decide) (fun _ _ _ _ _ => (pgd_tup [6, 7] rfl (pgs_cons (pg_name (i := 6) sc_fit.nd rfl (by first | exact Or.inl rfl | exact Or.inr rfl)) (pgs_cons (pg_name (i := 7) sc_fit.nd rfl (by first | exact Or.inl rfl | exact Or.inr rfl)) pgs_nil)))) (fun _ _ _ _ _ => ptsd_nil) (fun _ _ _ _ _ => (ped_op op_mulD d_mul (ped_var 6) (ped_var 7))))) pad_nil)) (ped_c pe_int (fun _ => .int _)) (nomark _))
    (pbd_one (psd_ret (ped_tup (pad_cons (ped_c pe_str (fun _ => .str _)) (pad_cons (ped_op op_addD d_add (ped_op op_mulD d_mul (ped_tup (pad_cons (ped_c pe_int (fun _ => .int _)) pad_nil)) (ped_var 4)) (ped_var 2)) pad_nil)))))
    pbd_nil)))
    (pbd_cons (psd_set (i := 5) sc_fit.nd rfl (by first | exact Or.inl rfl | exact Or.inr rfl) (ped_op op_addD d_add (ped_sl (ped_var 1) pod_none (pod_some (ped_var 3))) (ped_op op_mulD d_mul (ped_tup (pad_cons (ped_c pe_int (fun _ => .int _)) pad_nil)) (ped_op op_sub d_sub (ped_var 3) (ped_callB Dl.call_lenD d_len (by rfl) T.bi_len (by decide +kernel) (pad_cons (ped_var 1) pad_nil))))))
    (pbd_one (psd_ret (ped_tup (pad_cons (ped_c pe_str (fun _ => .str _)) (pad_cons (ped_callN (ok_loops_like T B) (hr.mono (by decide)) hgd (by rfl) T.h_loops_like.m T.h_loops_like.fn.kp T.h_loops_like.b (takes_of rfl rfl rfl rfl) (pad_cons (ped_var 0) (pad_cons (ped_var 5) pad_nil))) pad_nil))))))))))
abbrev s_is_ground : Stmt := top 37
theorem sc_is_ground : FnScope ["lengths", "row", "ground", "length", "factor", "place", "sample"] ["lengths", "row", "ground"] (defScope s_is_ground) := ⟨rfl, rfl, rfl, by decide +kernel, rfl, by decide +kernel, by decide +kernel⟩
theorem ok_is_ground (T : Prog w K mg) (B : T.TB base) : FnG (UD K T.tb T.cl) P w K mg base 2 T.f_is_ground T.fd_is_ground ["lengths", "row", "ground"] F_is_ground :=
  fn_g T.h_is_ground.fn sc_is_ground fun cdv A outer s H E hr hgd =>
    (pbd_cons (psd_if (ptd_w (pwd_or (ptd_not (ptd_val (ped_isi .tuple (by rfl) T.bi_isinstance (by rfl) T.bi_tuple (by decide +kernel) (ped_var 2)))) (pwd_or (ptd_cmp op_gt d_gt (ped_callB Dl.call_lenD d_len (by rfl) T.bi_len (by decide +kernel) (pad_cons (ped_var 2) pad_nil)) (ped_callB Dl.call_lenD d_len (by rfl) T.bi_len (by decide +kernel) (pad_cons (ped_var 1) pad_nil)) (nomark _)) (pwd_or1 (ptd_not (ptd_val (ped_callB (cr_all rfl) d_all (by rfl) T.bi_all (by decide +kernel) (pad_cons (ped_frz (pnd_comp rfl sc_is_ground.nd (own := [("factor", 4)]) (g := (.name 4)) (pid_seq (ped_var 2)) (blkOk_by (N := ["lengths", "row", "ground", "length", "factor", "place", "sample"]) (sc := defScope s_is_ground) (by decide +kernel)) (by decide) (fun _ _ _ _ _ => (pgd_name 4 sc_is_ground.nd rfl (by first | exact Or.inl rfl | exact Or.inr rfl))) (fun _ _ _ _ _ => ptsd_nil) (fun _ _ _ _ _ => (ped_callN (ok_is_number T B) (hr.mono (by decide)) hgd (by rfl) T.h_is_number.m T.h_is_number.fn.kp T.h_is_number.b takesF (pad_cons (ped_var 4) pad_nil))))) pad_nil))))))))
    (pbd_one (psd_ret (ped_c pe_bl (fun _ => .bl _))))
    pbd_nil)
    (pbd_cons (psd_for (g := (.name 3)) (passes_of rfl) rfl (pid_seq (ped_var 0)) (pgd_name 3 sc_is_ground.nd rfl (by first | exact Or.inl rfl | exact Or.inr rfl))
    (pbd_one (psd_if (ptd_val (ped_callB (cr_any rfl) d_any (by rfl) T.bi_any (by decide +kernel) (pad_cons (ped_frz (pnd_comp rfl sc_is_ground.nd (own := [("place", 5)]) (g := (.name 5)) (pid_rng (by rfl) T.bi_range (ped_var 3)) (blkOk_by (N := ["lengths", "row", "ground", "length", "factor", "place", "sample"]) (sc := defScope s_is_ground) (by decide +kernel)) (by decide) (fun _ _ _ _ _ => (pgd_name 5 sc_is_ground.nd rfl (by first | exact Or.inl rfl | exact Or.inr rfl))) (fun _ _ _ _ _ => ptsd_nil) (fun _ _ _ _ _ => (ped_cmp (op_neE hr.units) d_ne (ped_callB (cr_sumT rfl) d_sumT (by rfl) T.bi_sum (by decide +kernel) (pad_cons (ped_st (ped_var 2) (pod_some (ped_var 5)) (pod_some (ped_var 3))) pad_nil)) (ped_c pe_int (fun _ => .int _)) (nomark _))))) pad_nil)))
    (pbd_one (psd_ret (ped_c pe_bl (fun _ => .bl _))))
    pbd_nil)))
    (pbd_one (psd_ret (ped_cmp (op_neE hr.units) d_ne (ped_callB (cr_sum rfl) d_sum (by rfl) T.bi_sum (by decide +kernel) (pad_cons (ped_frz (pnd_comp rfl sc_is_ground.nd (own := [("factor", 4), ("sample", 6)]) (g := (.tup [4, 6])) (pid_zip (by rfl) T.bi_zip (ped_var 2) (ped_var 1)) (blkOk_by (N := ["lengths", "row", "ground", "length", "factor", "place", "sample"]) (sc := defScope s_is_ground) (by decide +kernel)) (by decide) (fun _ _ _ _ _ => (pgd_tup [4, 6] rfl (pgs_cons (pg_name (i := 4) sc_is_ground.nd rfl (by first | exact Or.inl rfl | exact Or.inr rfl)) (pgs_cons (pg_name (i := 6) sc_is_ground.nd rfl (by first | exact Or.inl rfl | exact Or.inr rfl)) pgs_nil)))) (fun _ _ _ _ _ => ptsd_nil) (fun _ _ _ _ _ => (ped_op op_mulD d_mul (ped_var 4) (ped_var 6))))) pad_nil)) (ped_c pe_int (fun _ => .int _)) (nomark _))))))
abbrev s_check_fit : Stmt := top 38
theorem sc_check_fit : FnScope ["lengths", "row", "paper", "tick", "sample"] ["lengths", "row", "paper"] (defScope s_check_fit) := ⟨rfl, rfl, rfl, by decide +kernel, rfl, by decide +kernel, by decide +kernel⟩
theorem ok_check_fit (T : Prog w K mg) (B : T.TB base) : FnG (UD K T.tb T.cl) P w K mg base 5 T.f_check_fit T.fd_check_fit ["lengths", "row", "paper"] F_check_fit :=
  fn_g T.h_check_fit.fn sc_check_fit fun cdv A outer s H E hr hgd =>
    (pbd_cons (psd_expr (ped_callN (ok_need_small T B) (hr.mono (by decide)) hgd (by rfl) T.h_need_small.m T.h_need_small.fn.kp T.h_need_small.b (takes_of rfl rfl rfl rfl) (pad_cons (ped_var 0) pad_nil)))
    (pbd_cons (psd_expr (ped_callN (ok_need_numbers T B) (hr.mono (by decide)) hgd (by rfl) T.h_need_numbers.m T.h_need_numbers.fn.kp T.h_need_numbers.b (takes_of rfl rfl rfl rfl) (pad_cons (ped_var 1) pad_nil)))
    (pbd_cons (psd_if (ptd_w (pwd_or (ptd_not (ptd_val (ped_isi .tuple (by rfl) T.bi_isinstance (by rfl) T.bi_tuple (by decide +kernel) (ped_var 2)))) (pwd_or (ptd_cmp (op_neE hr.units) d_ne (ped_callB Dl.call_lenD d_len (by rfl) T.bi_len (by decide +kernel) (pad_cons (ped_var 2) pad_nil)) (ped_c pe_int (fun _ => .int _)) (nomark _)) (pwd_or1 (ptd_not (ptd_val (ped_isi .str (by rfl) T.bi_isinstance (by rfl) T.bi_str (by decide +kernel) (ped_ix (ped_var 2) (ped_c pe_int (fun _ => .int _)) (fun _ _ => rfl)))))))))
    (pbd_one (psd_raise (exc_BadPaper T) rfl (takes_of rfl rfl rfl rfl) (hr.mono (by decide)) (by rfl) (pad_cons (ped_c pe_str (fun _ => .str _)) pad_nil)))
    pbd_nil)
    (pbd_cons (psd_if (ptd_cmp op_notIn_seq d_notIn (ped_ix (ped_var 2) (ped_c pe_int (fun _ => .int _)) (fun _ _ => rfl)) (ped_tup (pad_cons (ped_c pe_str (fun _ => .str _)) (pad_cons (ped_c pe_str (fun _ => .str _)) pad_nil))) (by rfl))
    (pbd_one (psd_raise (exc_BadPaper T) rfl (takes_of rfl rfl rfl rfl) (hr.mono (by decide)) (by rfl) (pad_cons (ped_c pe_str (fun _ => .str _)) pad_nil)))
    pbd_nil)
    (pbd_cons (psd_if (ptd_cmp (op_eqE hr.units) d_eq (ped_ix (ped_var 2) (ped_c pe_int (fun _ => .int _)) (fun _ _ => rfl)) (ped_c pe_str (fun _ => .str _)) (nomark _))
    (pbd_cons (psd_if (ptd_not (ptd_val (ped_callN (ok_is_ground T B) (hr.mono (by decide)) hgd (by rfl) T.h_is_ground.m T.h_is_ground.fn.kp T.h_is_ground.b (takes_of rfl rfl rfl rfl) (pad_cons (ped_var 0) (pad_cons (ped_var 1) (pad_cons (ped_ix (ped_var 2) (ped_c pe_int (fun _ => .int _)) (fun _ _ => rfl)) pad_nil))))))
    (pbd_one (psd_raise (exc_BadPaper T) rfl (takes_of rfl rfl rfl rfl) (hr.mono (by decide)) (by rfl) (pad_cons (ped_c pe_str (fun _ => .str _)) pad_nil)))
    pbd_nil)
    (pbd_one (psd_ret (ped_ix (ped_var 2) (ped_c pe_int (fun _ => .int _)) (fun _ _ => rfl)))))
    pbd_nil)
    (pbd_cons (psd_if (ptd_w (pwd_or (ptd_notN (ped_callN (ok_loops_fault T B) (hr.mono (by decide)) hgd (by rfl) T.h_loops_fault.m T.h_loops_fault.fn.kp T.h_loops_fault.b (takes_of rfl rfl rfl rfl) (pad_cons (ped_ix (ped_var 2) (ped_c pe_int (fun _ => .int _)) (fun _ _ => rfl)) pad_nil))) (pwd_or1 (ptd_cmp (op_neE hr.units) d_ne (ped_callN (ok_lengths_in T B) (hr.mono (by decide)) hgd (by rfl) T.h_lengths_in.m T.h_lengths_in.fn.kp T.h_lengths_in.b (takes_of rfl rfl rfl rfl) (pad_cons (ped_ix (ped_var 2) (ped_c pe_int (fun _ => .int _)) (fun _ _ => rfl)) pad_nil)) (ped_var 0) (nomark _)))))
    (pbd_one (psd_raise (exc_BadPaper T) rfl (takes_of rfl rfl rfl rfl) (hr.mono (by decide)) (by rfl) (pad_cons (ped_c pe_str (fun _ => .str _)) pad_nil)))
    pbd_nil)
    (pbd_cons (psd_if (ptd_not (ptd_val (ped_callB (cr_all rfl) d_all (by rfl) T.bi_all (by decide +kernel) (pad_cons (ped_frz (pnd_comp rfl sc_check_fit.nd (own := [("tick", 3), ("sample", 4)]) (g := (.tup [3, 4])) (pid_enum (by rfl) T.bi_enumerate (ped_var 1)) (blkOk_by (N := ["lengths", "row", "paper", "tick", "sample"]) (sc := defScope s_check_fit) (by decide +kernel)) (by decide) (fun _ _ _ _ _ => (pgd_tup [3, 4] rfl (pgs_cons (pg_name (i := 3) sc_check_fit.nd rfl (by first | exact Or.inl rfl | exact Or.inr rfl)) (pgs_cons (pg_name (i := 4) sc_check_fit.nd rfl (by first | exact Or.inl rfl | exact Or.inr rfl)) pgs_nil)))) (fun _ _ _ _ _ => ptsd_nil) (fun _ _ _ _ _ => (ped_cmp (op_eqE hr.units) d_eq (ped_callN (ok_heard_in T B) (hr.mono (by decide)) hgd (by rfl) T.h_heard_in.m T.h_heard_in.fn.kp T.h_heard_in.b takesF (pad_cons (ped_ix (ped_var 2) (ped_c pe_int (fun _ => .int _)) (fun _ _ => rfl)) (pad_cons (ped_var 3) pad_nil))) (ped_var 4) (nomark _))))) pad_nil))))
    (pbd_one (psd_raise (exc_BadPaper T) rfl (takes_of rfl rfl rfl rfl) (hr.mono (by decide)) (by rfl) (pad_cons (ped_c pe_str (fun _ => .str _)) pad_nil)))
    pbd_nil)
    (pbd_one (psd_ret (ped_ix (ped_var 2) (ped_c pe_int (fun _ => .int _)) (fun _ _ => rfl)))))))))))
abbrev s_deceiver : Stmt := top 39
theorem sc_deceiver : FnScope ["lengths"] ["lengths"] (defScope s_deceiver) := ⟨rfl, rfl, rfl, by decide +kernel, rfl, by decide +kernel, by decide +kernel⟩
theorem ok_deceiver (T : Prog w K mg) (B : T.TB base) : FnG (UD K T.tb T.cl) P w K mg base 5 T.f_deceiver T.fd_deceiver ["lengths"] F_deceiver :=
  fn_g T.h_deceiver.fn sc_deceiver fun cdv A outer s H E hr hgd =>
    (pbd_cons (psd_expr (ped_callN (ok_need_small T B) (hr.mono (by decide)) hgd (by rfl) T.h_need_small.m T.h_need_small.fn.kp T.h_need_small.b (takes_of rfl rfl rfl rfl) (pad_cons (ped_var 0) pad_nil)))
    (pbd_cons (psd_if (ptd_cmp (op_eqE hr.units) d_eq (ped_var 0) (ped_tup pad_nil) (nomark _))
    (pbd_one (psd_raise (exc_OutOfPlace T) rfl (takes_of rfl rfl rfl rfl) (hr.mono (by decide)) (by rfl) (pad_cons (ped_c pe_str (fun _ => .str _)) pad_nil)))
    pbd_nil)
    (pbd_one (psd_ret (ped_callN (ok_loops_like T B) (hr.mono (by decide)) hgd (by rfl) T.h_loops_like.m T.h_loops_like.fn.kp T.h_loops_like.b (takes_of rfl rfl rfl rfl) (pad_cons (ped_var 0) (pad_cons (ped_op op_addD d_add (ped_op op_mulD d_mul (ped_tup (pad_cons (ped_c pe_int (fun _ => .int _)) pad_nil)) (ped_op op_sub d_sub (ped_callN (ok_span_in T B) (hr.mono (by decide)) hgd (by rfl) T.h_span_in.m T.h_span_in.fn.kp T.h_span_in.b (takes_of rfl rfl rfl rfl) (pad_cons (ped_var 0) pad_nil)) (ped_c pe_int (fun _ => .int _)))) (ped_tup (pad_cons (ped_c pe_int (fun _ => .int _)) pad_nil))) pad_nil)))))))
abbrev s_need_places : Stmt := top 41
theorem sc_need_places : FnScope ["lengths", "places", "place", "length"] ["lengths", "places"] (defScope s_need_places) := ⟨rfl, rfl, rfl, by decide +kernel, rfl, by decide +kernel, by decide +kernel⟩
theorem ok_need_places (T : Prog w K mg) (B : T.TB base) : FnG (UD K T.tb T.cl) P w K mg base 3 T.f_need_places T.fd_need_places ["lengths", "places"] F_need_places :=
  fn_g T.h_need_places.fn sc_need_places fun cdv A outer s H E hr hgd =>
    (pbd_cons (psd_if (ptd_w (pwd_or (ptd_not (ptd_val (ped_isi .tuple (by rfl) T.bi_isinstance (by rfl) T.bi_tuple (by decide +kernel) (ped_var 1)))) (pwd_or1 (ptd_cmp (op_neE hr.units) d_ne (ped_callB Dl.call_lenD d_len (by rfl) T.bi_len (by decide +kernel) (pad_cons (ped_var 1) pad_nil)) (ped_callB Dl.call_lenD d_len (by rfl) T.bi_len (by decide +kernel) (pad_cons (ped_var 0) pad_nil)) (nomark _)))))
    (pbd_one (psd_raise (exc_OutOfPlace T) rfl (takes_of rfl rfl rfl rfl) (hr.mono (by decide)) (by rfl) (pad_cons (ped_c pe_str (fun _ => .str _)) pad_nil)))
    pbd_nil)
    (pbd_one (psd_if (ptd_not (ptd_val (ped_callB (cr_all rfl) d_all (by rfl) T.bi_all (by decide +kernel) (pad_cons (ped_frz (pnd_comp rfl sc_need_places.nd (own := [("place", 2), ("length", 3)]) (g := (.tup [2, 3])) (pid_zip (by rfl) T.bi_zip (ped_var 1) (ped_var 0)) (blkOk_by (N := ["lengths", "places", "place", "length"]) (sc := defScope s_need_places) (by decide +kernel)) (by decide) (fun _ _ _ _ _ => (pgd_tup [2, 3] rfl (pgs_cons (pg_name (i := 2) sc_need_places.nd rfl (by first | exact Or.inl rfl | exact Or.inr rfl)) (pgs_cons (pg_name (i := 3) sc_need_places.nd rfl (by first | exact Or.inl rfl | exact Or.inr rfl)) pgs_nil)))) (fun _ _ _ _ _ => ptsd_nil) (fun _ _ _ _ _ => (ped_callN (ok_is_whole T B) (hr.mono (by decide)) hgd (by rfl) T.h_is_whole.m T.h_is_whole.fn.kp T.h_is_whole.b takesF (pad_cons (ped_var 2) (pad_cons (ped_c pe_int (fun _ => .int _)) (pad_cons (ped_op op_sub d_sub (ped_var 3) (ped_c pe_int (fun _ => .int _))) pad_nil))))))) pad_nil))))
    (pbd_one (psd_raise (exc_OutOfPlace T) rfl (takes_of rfl rfl rfl rfl) (hr.mono (by decide)) (by rfl) (pad_cons (ped_c pe_str (fun _ => .str _)) pad_nil)))
    pbd_nil)))
abbrev s_never_meet : Stmt := top 42
theorem sc_never_meet : FnScope ["lengths", "places", "one", "other"] ["lengths", "places", "one", "other"] (defScope s_never_meet) := ⟨rfl, rfl, rfl, by decide +kernel, rfl, by decide +kernel, by decide +kernel⟩
theorem ok_never_meet (T : Prog w K mg) (B : T.TB base) : FnG (UD K T.tb T.cl) P w K mg base 2 T.f_never_meet T.fd_never_meet ["lengths", "places", "one", "other"] F_never_meet :=
  fn_g T.h_never_meet.fn sc_never_meet fun cdv A outer s H E hr hgd =>
    (pbd_one (psd_ret (ped_cmp (op_neE hr.units) d_ne (ped_op op_modD d_mod (ped_callTy call_int1 d_int (by rfl) T.bi_int (by decide +kernel) (pad_cons (ped_op op_sub d_sub (ped_ix (ped_var 1) (ped_var 2) (fun _ _ => rfl)) (ped_ix (ped_var 1) (ped_var 3) (fun _ _ => rfl))) pad_nil)) (ped_callN (ok_common T B) (hr.mono (by decide)) hgd (by rfl) T.h_common.m T.h_common.fn.kp T.h_common.b (takes_of rfl rfl rfl rfl) (pad_cons (ped_ix (ped_var 0) (ped_var 2) (fun _ _ => rfl)) (pad_cons (ped_ix (ped_var 0) (ped_var 3) (fun _ _ => rfl)) pad_nil)))) (ped_c pe_int (fun _ => .int _)) (nomark _))))
abbrev s_meeting : Stmt := top 43
theorem sc_meeting : FnScope ["lengths", "places", "one", "other", "tick", "step", "length", "place"] ["lengths", "places"] (defScope s_meeting) := ⟨rfl, rfl, rfl, by decide +kernel, rfl, by decide +kernel, by decide +kernel⟩
theorem ok_meeting (T : Prog w K mg) (B : T.TB base) : FnG (UD K T.tb T.cl) P w K mg base 4 T.f_meeting T.fd_meeting ["lengths", "places"] F_meeting :=
  fn_g T.h_meeting.fn sc_meeting fun cdv A outer s H E hr hgd =>
    (pbd_cons (psd_expr (ped_callN (ok_need_lengths T B) (hr.mono (by decide)) hgd (by rfl) T.h_need_lengths.m T.h_need_lengths.fn.kp T.h_need_lengths.b (takes_of rfl rfl rfl rfl) (pad_cons (ped_var 0) pad_nil)))
    (pbd_cons (psd_expr (ped_callN (ok_need_places T B) (hr.mono (by decide)) hgd (by rfl) T.h_need_places.m T.h_need_places.fn.kp T.h_need_places.b (takes_of rfl rfl rfl rfl) (pad_cons (ped_var 0) (pad_cons (ped_var 1) pad_nil))))
    (pbd_cons (psd_for (g := (.name 2)) (passes_of rfl) rfl (pid_rng (by rfl) T.bi_range (ped_callB Dl.call_lenD d_len (by rfl) T.bi_len (by decide +kernel) (pad_cons (ped_var 0) pad_nil))) (pgd_name 2 sc_meeting.nd rfl (by first | exact Or.inl rfl | exact Or.inr rfl))
    (pbd_one (psd_for (g := (.name 3)) (passes_of rfl) rfl (pid_rng2 (by rfl) T.bi_range (ped_op op_addD d_add (ped_var 2) (ped_c pe_int (fun _ => .int _))) (ped_callB Dl.call_lenD d_len (by rfl) T.bi_len (by decide +kernel) (pad_cons (ped_var 0) pad_nil))) (pgd_name 3 sc_meeting.nd rfl (by first | exact Or.inl rfl | exact Or.inr rfl))
    (pbd_one (psd_if (ptd_val (ped_callN (ok_never_meet T B) (hr.mono (by decide)) hgd (by rfl) T.h_never_meet.m T.h_never_meet.fn.kp T.h_never_meet.b (takes_of rfl rfl rfl rfl) (pad_cons (ped_var 0) (pad_cons (ped_var 1) (pad_cons (ped_var 2) (pad_cons (ped_var 3) pad_nil))))))
    (pbd_one (psd_ret (ped_tup (pad_cons (ped_c pe_str (fun _ => .str _)) (pad_cons (ped_var 2) (pad_cons (ped_var 3) pad_nil))))))
    pbd_nil)))))
    (pbd_cons (psd_unp (g := (.tup [4, 5])) (ped_tup (pad_cons (ped_c pe_int (fun _ => .int _)) (pad_cons (ped_c pe_int (fun _ => .int _)) pad_nil))) (pgd_tup [4, 5] rfl (pgs_cons (pg_name (i := 4) sc_meeting.nd rfl (by first | exact Or.inl rfl | exact Or.inr rfl)) (pgs_cons (pg_name (i := 5) sc_meeting.nd rfl (by first | exact Or.inl rfl | exact Or.inr rfl)) pgs_nil))))
    (pbd_cons (psd_for (g := (.tup [6, 7])) (passes_of rfl) rfl (pid_zip (by rfl) T.bi_zip (ped_var 0) (ped_var 1)) (pgd_tup [6, 7] rfl (pgs_cons (pg_name (i := 6) sc_meeting.nd rfl (by first | exact Or.inl rfl | exact Or.inr rfl)) (pgs_cons (pg_name (i := 7) sc_meeting.nd rfl (by first | exact Or.inl rfl | exact Or.inr rfl)) pgs_nil)))
    (pbd_cons (psd_while (passes_of rfl) (ptd_cmp (op_neE hr.units) d_ne (ped_op op_modD d_mod (ped_callTy call_int1 d_int (by rfl) T.bi_int (by decide +kernel) (pad_cons (ped_var 4) pad_nil)) (ped_var 6)) (ped_var 7) (nomark _))
    (pbd_one (psd_aug (i := 4) sc_meeting.nd rfl (by first | exact Or.inl rfl | exact Or.inr rfl) (ped_var 5) ip_add)))
    (pbd_one (psd_set (i := 5) sc_meeting.nd rfl (by first | exact Or.inl rfl | exact Or.inr rfl) (ped_op op_mulD d_mul (ped_op op_fdivD d_fdiv (ped_var 5) (ped_callN (ok_common T B) (hr.mono (by decide)) hgd (by rfl) T.h_common.m T.h_common.fn.kp T.h_common.b (takes_of rfl rfl rfl rfl) (pad_cons (ped_var 5) (pad_cons (ped_var 6) pad_nil)))) (ped_var 6))))))
    (pbd_one (psd_ret (ped_tup (pad_cons (ped_c pe_str (fun _ => .str _)) (pad_cons (ped_var 4) pad_nil))))))))))
abbrev s_check_meeting : Stmt := top 44
theorem sc_check_meeting : FnScope ["lengths", "places", "paper", "one", "other", "thing"] ["lengths", "places", "paper"] (defScope s_check_meeting) := ⟨rfl, rfl, rfl, by decide +kernel, rfl, by decide +kernel, by decide +kernel⟩
theorem ok_check_meeting (T : Prog w K mg) (B : T.TB base) : FnG (UD K T.tb T.cl) P w K mg base 5 T.f_check_meeting T.fd_check_meeting ["lengths", "places", "paper"] F_check_meeting :=
  fn_g T.h_check_meeting.fn sc_check_meeting fun cdv A outer s H E hr hgd =>
    (pbd_cons (psd_expr (ped_callN (ok_need_lengths T B) (hr.mono (by decide)) hgd (by rfl) T.h_need_lengths.m T.h_need_lengths.fn.kp T.h_need_lengths.b (takes_of rfl rfl rfl rfl) (pad_cons (ped_var 0) pad_nil)))
    (pbd_cons (psd_expr (ped_callN (ok_need_places T B) (hr.mono (by decide)) hgd (by rfl) T.h_need_places.m T.h_need_places.fn.kp T.h_need_places.b (takes_of rfl rfl rfl rfl) (pad_cons (ped_var 0) (pad_cons (ped_var 1) pad_nil))))
    (pbd_cons (psd_if (ptd_w (pwd_or (ptd_not (ptd_val (ped_isi .tuple (by rfl) T.bi_isinstance (by rfl) T.bi_tuple (by decide +kernel) (ped_var 2)))) (pwd_or (ptd_cmp op_lt d_lt (ped_callB Dl.call_lenD d_len (by rfl) T.bi_len (by decide +kernel) (pad_cons (ped_var 2) pad_nil)) (ped_c pe_int (fun _ => .int _)) (nomark _)) (pwd_or1 (ptd_not (ptd_val (ped_isi .str (by rfl) T.bi_isinstance (by rfl) T.bi_str (by decide +kernel) (ped_ix (ped_var 2) (ped_c pe_int (fun _ => .int _)) (fun _ _ => rfl)))))))))
    (pbd_one (psd_raise (exc_BadPaper T) rfl (takes_of rfl rfl rfl rfl) (hr.mono (by decide)) (by rfl) (pad_cons (ped_c pe_str (fun _ => .str _)) pad_nil)))
    pbd_nil)
    (pbd_cons (psd_if (ptd_w (pwd_or (ptd_cmp (op_neE hr.units) d_ne (ped_callB Dl.call_lenD d_len (by rfl) T.bi_len (by decide +kernel) (pad_cons (ped_var 2) pad_nil)) (ped_dget (kvs := [("tick", 2), ("never", 3)]) (hu_of hr) (by decide +kernel) (pps_cons pe_str pe_int (pps_cons pe_str pe_int pps_nil)) rfl rfl (by intro h; cases h) (by decide) (by decide) (ped_ix (ped_var 2) (ped_c pe_int (fun _ => .int _)) (fun _ _ => rfl)) pe_int ⟨rfl, rfl, rfl, rfl⟩) (nomark _)) (pwd_or1 (ptd_not (ptd_val (ped_callB (cr_all rfl) d_all (by rfl) T.bi_all (by decide +kernel) (pad_cons (ped_frz (pnd_comp rfl sc_check_meeting.nd (own := [("thing", 5)]) (g := (.name 5)) (pid_seq (ped_sl (ped_var 2) (pod_some (ped_c pe_int (fun _ => .int _))) pod_none)) (blkOk_by (N := ["lengths", "places", "paper", "one", "other", "thing"]) (sc := defScope s_check_meeting) (by decide +kernel)) (by decide) (fun _ _ _ _ _ => (pgd_name 5 sc_check_meeting.nd rfl (by first | exact Or.inl rfl | exact Or.inr rfl))) (fun _ _ _ _ _ => ptsd_nil) (fun _ _ _ _ _ => (ped_callN (ok_is_number T B) (hr.mono (by decide)) hgd (by rfl) T.h_is_number.m T.h_is_number.fn.kp T.h_is_number.b takesF (pad_cons (ped_var 5) pad_nil))))) pad_nil)))))))
    (pbd_one (psd_raise (exc_BadPaper T) rfl (takes_of rfl rfl rfl rfl) (hr.mono (by decide)) (by rfl) (pad_cons (ped_c pe_str (fun _ => .str _)) pad_nil)))
    pbd_nil)
    (pbd_cons (psd_if (ptd_cmp (op_eqE hr.units) d_eq (ped_ix (ped_var 2) (ped_c pe_int (fun _ => .int _)) (fun _ _ => rfl)) (ped_c pe_str (fun _ => .str _)) (nomark _))
    (pbd_cons (psd_if (ptd_cmp (op_neE hr.units) d_ne (ped_callN (ok_meeting T B) (hr.mono (by decide)) hgd (by rfl) T.h_meeting.m T.h_meeting.fn.kp T.h_meeting.b (takes_of rfl rfl rfl rfl) (pad_cons (ped_var 0) (pad_cons (ped_var 1) pad_nil))) (ped_var 2) (nomark _))
    (pbd_one (psd_raise (exc_BadPaper T) rfl (takes_of rfl rfl rfl rfl) (hr.mono (by decide)) (by rfl) (pad_cons (ped_c pe_str (fun _ => .str _)) pad_nil)))
    pbd_nil)
    (pbd_one (psd_ret (ped_c pe_str (fun _ => .str _)))))
    pbd_nil)
    (pbd_cons (psd_unp (g := (.tup [3, 4])) (ped_sl (ped_var 2) (pod_some (ped_c pe_int (fun _ => .int _))) pod_none) (pgd_tup [3, 4] rfl (pgs_cons (pg_name (i := 3) sc_check_meeting.nd rfl (by first | exact Or.inl rfl | exact Or.inr rfl)) (pgs_cons (pg_name (i := 4) sc_check_meeting.nd rfl (by first | exact Or.inl rfl | exact Or.inr rfl)) pgs_nil))))
    (pbd_cons (psd_if (ptd_w (pwd_or (ptd_not (ptd_chain3 op_le d_le op_lt d_lt op_lt d_lt (ped_c pe_int (fun _ => .int _)) (ped_var 3) (ped_var 4) (ped_callB Dl.call_lenD d_len (by rfl) T.bi_len (by decide +kernel) (pad_cons (ped_var 0) pad_nil)))) (pwd_or1 (ptd_not (ptd_val (ped_callN (ok_never_meet T B) (hr.mono (by decide)) hgd (by rfl) T.h_never_meet.m T.h_never_meet.fn.kp T.h_never_meet.b (takes_of rfl rfl rfl rfl) (pad_cons (ped_var 0) (pad_cons (ped_var 1) (pad_cons (ped_var 3) (pad_cons (ped_var 4) pad_nil))))))))))
    (pbd_one (psd_raise (exc_BadPaper T) rfl (takes_of rfl rfl rfl rfl) (hr.mono (by decide)) (by rfl) (pad_cons (ped_c pe_str (fun _ => .str _)) pad_nil)))
    pbd_nil)
    (pbd_one (psd_ret (ped_c pe_str (fun _ => .str _)))))))))))
abbrev s__law_lengths : Stmt := top 48
theorem sc__law_lengths : FnScope ["m", "many", "most", "k"] ["m", "many", "most"] (defScope s__law_lengths) := ⟨rfl, rfl, rfl, by decide +kernel, rfl, by decide +kernel, by decide +kernel⟩
theorem ok__law_lengths (T : Prog w K mg) (B : T.TB base) : FnG (UD K T.tb T.cl) P w K mg base 2 T.f__law_lengths T.fd__law_lengths ["m", "many", "most"] F__law_lengths :=
  fn_g T.h__law_lengths.fn sc__law_lengths fun cdv A outer s H E hr hgd =>
    (pbd_one (psd_ret (ped_callTy call_tuple_of d_tuple (by rfl) T.bi_tuple (by decide +kernel) (pad_cons (ped_frz (pnd_comp rfl sc__law_lengths.nd (own := [("k", 3)]) (g := (.name 3)) (pid_rng (by rfl) T.bi_range (ped_callN (ok__law_next T B) (hr.mono (by decide)) hgd (by rfl) T.h__law_next.m T.h__law_next.fn.kp T.h__law_next.b (takes_of rfl rfl rfl rfl) (pad_cons (ped_var 0) (pad_cons (ped_op op_addD d_add (ped_var 1) (ped_c pe_int (fun _ => .int _))) pad_nil)))) (blkOk_by (N := ["m", "many", "most", "k"]) (sc := defScope s__law_lengths) (by decide +kernel)) (by decide) (fun _ _ _ _ _ => (pgd_name 3 sc__law_lengths.nd rfl (by first | exact Or.inl rfl | exact Or.inr rfl))) (fun _ _ _ _ _ => ptsd_nil) (fun _ _ _ _ _ => (ped_op op_addD d_add (ped_c pe_int (fun _ => .int _)) (ped_callN (ok__law_next T B) (hr.mono (by decide)) hgd (by rfl) T.h__law_next.m T.h__law_next.fn.kp T.h__law_next.b takesF (pad_cons (ped_var 0) (pad_cons (ped_var 2) pad_nil))))))) pad_nil))))
abbrev s__law_is_whole : Stmt := top 49
theorem sc__law_is_whole : FnScope ["thing", "least", "most"] ["thing", "least", "most"] (defScope s__law_is_whole) := ⟨rfl, rfl, rfl, by decide +kernel, rfl, by decide +kernel, by decide +kernel⟩
theorem ok__law_is_whole (T : Prog w K mg) (B : T.TB base) : FnG (UD K T.tb T.cl) P w K mg base 1 T.f__law_is_whole T.fd__law_is_whole ["thing", "least", "most"] F__law_is_whole :=
  fn_g T.h__law_is_whole.fn sc__law_is_whole fun cdv A outer s H E hr hgd =>
    (pbd_one (psd_ret (ped_and (ped_isi .int (by rfl) T.bi_isinstance (by rfl) T.bi_int (by decide +kernel) (ped_var 0)) (ped_and (ped_not (ped_isi .bool (by rfl) T.bi_isinstance (by rfl) T.bi_bool (by decide +kernel) (ped_var 0))) (ped_one (ped_chain op_le d_le op_le d_le (ped_var 1) (ped_var 0) (ped_var 2)))))))
abbrev s__law_outcome : Stmt := top 50
theorem sc__law_outcome : FnScope ["way", "thing", "found", "e"] ["way", "thing"] (defScope s__law_outcome) := ⟨rfl, rfl, rfl, by decide +kernel, rfl, by decide +kernel, by decide +kernel⟩
theorem ok__law_outcome (T : Prog w K mg) (B : T.TB base) : FnG (UD K T.tb T.cl) P w K mg base 6 T.f__law_outcome T.fd__law_outcome ["way", "thing"] F__law_outcome_k06 :=
  fn_g T.h__law_outcome.fn sc__law_outcome fun cdv A outer s H E hr hgd =>
    (pbd_cons (psd_set (i := 2) sc__law_outcome.nd rfl (by first | exact Or.inl rfl | exact Or.inr rfl) (ped_c pe_non (fun _ => .non)))
    (pbd_cons (psd_try (c := 1) (i := 3) (j := 2) rfl rfl sc__law_outcome.nd rfl rfl ⟨rfl, by decide, Or.inl T.e_BadLengths.m⟩ (takes_of rfl rfl rfl rfl) (T.catch_BadLengths) (by decide)
    (fun W pn xe tk hp => (pbd_one (psd_if (ptd_cmp (op_eqE hr.units) d_eq (ped_var 0) (ped_c pe_int (fun _ => .int _)) (nomark _))
    (pbd_one (psd_expr (ped_callN (ok_need_lengths T B) (hr.mono (by decide)) hgd (by rfl) T.h_need_lengths.m T.h_need_lengths.fn.kp T.h_need_lengths.b tk (pad_cons (ped_var 1) pad_nil))))
    (pbd_one (psd_if (ptd_cmp (op_eqE hr.units) d_eq (ped_var 0) (ped_c pe_int (fun _ => .int _)) (nomark _))
    (pbd_one (psd_expr (ped_callN (ok_span T B) (hr.mono (by decide)) hgd (by rfl) T.h_span.m T.h_span.fn.kp T.h_span.b tk (pad_cons (ped_var 1) pad_nil))))
    (pbd_one (psd_if (ptd_cmp (op_eqE hr.units) d_eq (ped_var 0) (ped_c pe_int (fun _ => .int _)) (nomark _))
    (pbd_one (psd_expr (ped_callN (ok_weights T B) (hr.mono (by decide)) hgd (by rfl) T.h_weights.m T.h_weights.fn.kp T.h_weights.b tk (pad_cons (ped_var 1) pad_nil))))
    (pbd_one (psd_if (ptd_cmp (op_eqE hr.units) d_eq (ped_var 0) (ped_c pe_int (fun _ => .int _)) (nomark _))
    (pbd_one (psd_expr (ped_callN (ok_carried T B) (hr.mono (by decide)) hgd (by rfl) T.h_carried.m T.h_carried.fn.kp T.h_carried.b tk (pad_cons (ped_var 1) (pad_cons (ped_c pe_non (fun _ => .non)) (pad_cons (ped_c pe_non (fun _ => .non)) pad_nil))))))
    (pbd_one (psd_if (ptd_cmp (op_eqE hr.units) d_eq (ped_var 0) (ped_c pe_int (fun _ => .int _)) (nomark _))
    (pbd_one (psd_expr (ped_callN (ok_fit T B) (hr.mono (by decide)) hgd (by rfl) T.h_fit.m T.h_fit.fn.kp T.h_fit.b tk (pad_cons (ped_var 1) (pad_cons (ped_c pe_non (fun _ => .non)) pad_nil)))))
    (pbd_one (psd_if (ptd_cmp (op_eqE hr.units) d_eq (ped_var 0) (ped_c pe_int (fun _ => .int _)) (nomark _))
    (pbd_one (psd_expr (ped_callN (ok_check_fit T B) (hr.mono (by decide)) hgd (by rfl) T.h_check_fit.m T.h_check_fit.fn.kp T.h_check_fit.b tk (pad_cons (ped_var 1) (pad_cons (ped_c pe_non (fun _ => .non)) (pad_cons (ped_c pe_non (fun _ => .non)) pad_nil))))))
    (pbd_one (psd_if (ptd_cmp (op_eqE hr.units) d_eq (ped_var 0) (ped_c pe_int (fun _ => .int _)) (nomark _))
    (pbd_one (psd_expr (ped_callN (ok_deceiver T B) (hr.mono (by decide)) hgd (by rfl) T.h_deceiver.m T.h_deceiver.fn.kp T.h_deceiver.b tk (pad_cons (ped_var 1) pad_nil))))
    (pbd_one (psd_if (ptd_cmp (op_eqE hr.units) d_eq (ped_var 0) (ped_c pe_int (fun _ => .int _)) (nomark _))
    (pbd_one (psd_expr (ped_callN (ok_meeting T B) (hr.mono (by decide)) hgd (by rfl) T.h_meeting.m T.h_meeting.fn.kp T.h_meeting.b tk (pad_cons (ped_var 1) (pad_cons (ped_c pe_non (fun _ => .non)) pad_nil)))))
    (pbd_one (psd_expr (ped_callN (ok_check_meeting T B) (hr.mono (by decide)) hgd (by rfl) T.h_check_meeting.m T.h_check_meeting.fn.kp T.h_check_meeting.b tk (pad_cons (ped_var 1) (pad_cons (ped_c pe_non (fun _ => .non)) (pad_cons (ped_c pe_non (fun _ => .non)) pad_nil)))))))))))))))))))))))
    rfl (by first | exact Or.inl rfl | exact Or.inr rfl) (fun a oe cls d pn hz hf => (pxd_lst (pxs_cons (pxd_fld (j := 0) (k := 3) rfl (by decide +kernel) rfl T.e_BadLengths.xf T.e_BadLengths.no hz hf rfl (by first | exact Or.inl rfl | exact Or.inr (Or.inl rfl))) pxs_nil) (short_1))))
    (pbd_one (psd_ret (ped_var 2)))))
abbrev s__law_fault : Stmt := top 51
theorem sc__law_fault : FnScope ["thing", "wrong", "k", "length"] ["thing"] (defScope s__law_fault) := ⟨rfl, rfl, rfl, by decide +kernel, rfl, by decide +kernel, by decide +kernel⟩
theorem ok__law_fault (T : Prog w K mg) (B : T.TB base) : FnG (UD K T.tb T.cl) P w K mg base 2 T.f__law_fault T.fd__law_fault ["thing"] F__law_fault_k06 :=
  fn_g T.h__law_fault.fn sc__law_fault fun cdv A outer s H E hr hgd =>
    (pbd_cons (psd_if (ptd_w (pwd_or (ptd_not (ptd_val (ped_isi .tuple (by rfl) T.bi_isinstance (by rfl) T.bi_tuple (by decide +kernel) (ped_var 0)))) (pwd_or1 (ptd_cmp op_gt d_gt (ped_callB Dl.call_lenD d_len (by rfl) T.bi_len (by decide +kernel) (pad_cons (ped_var 0) pad_nil)) (ped_c pe_int (fun _ => .int _)) (nomark _)))))
    (pbd_one (psd_ret (ped_lst (pad_cons (ped_tup pad_nil) pad_nil))))
    pbd_nil)
    (pbd_cons (psd_setC (i := 1) rfl sc__law_fault.nd rfl rfl (sw_true rfl rfl rfl (by decide +kernel)) (own := [("k", 2), ("length", 3)]) (g := (.tup [2, 3])) (pid_enum (by rfl) T.bi_enumerate (ped_var 0)) (blkOk_by (N := ["thing", "wrong", "k", "length"]) (sc := defScope s__law_fault) (by decide +kernel)) (by decide) (fun _ _ _ _ _ => (pgd_tup [2, 3] rfl (pgs_cons (pg_name (i := 2) sc__law_fault.nd rfl (by first | exact Or.inl rfl | exact Or.inr rfl)) (pgs_cons (pg_name (i := 3) sc__law_fault.nd rfl (by first | exact Or.inl rfl | exact Or.inr rfl)) pgs_nil)))) (fun _ _ _ _ _ => (ptsd_one (ptd_not (ptd_val (ped_callN (ok__law_is_whole T B) (hr.mono (by decide)) hgd (by rfl) T.h__law_is_whole.m T.h__law_is_whole.fn.kp T.h__law_is_whole.b takesF (pad_cons (ped_var 3) (pad_cons (ped_c pe_int (fun _ => .int _)) (pad_cons (ped_c pe_int (fun _ => .int _)) pad_nil)))))))) (fun _ _ _ _ _ => (ped_var 2)))
    (pbd_one (psd_ret (ped_if (ptd_cmp (op_eqE hr.units) d_eq (ped_var 1) (ped_lst pad_nil) (nomark _)) (ped_c pe_non (fun _ => .non)) (ped_lst (pad_cons (ped_tup (pad_cons (ped_ix (ped_var 1) (ped_c pe_int (fun _ => .int _)) (fun _ _ => rfl)) pad_nil)) pad_nil)))))))
abbrev s_law : Stmt := top 52
theorem sc_law : FnScope ["script", "m", "turn", "lengths", "at", "some", "thing", "both", "other", "odds", "odd", "due", "told", "way"] ["script"] (defScope s_law) := ⟨rfl, rfl, rfl, by decide +kernel, rfl, by decide +kernel, by decide +kernel⟩
theorem ok_law (T : Prog w K mg) (B : T.TB base) : FnG (UD K T.tb T.cl) P w K mg base 7 T.f_law T.fd_law ["script"] F_law_k06 :=
  fn_g T.h_law.fn sc_law fun cdv A outer s H E hr hgd =>
    (pbd_cons (psd_set (i := 1) sc_law.nd rfl (by first | exact Or.inl rfl | exact Or.inr rfl) (ped_callN (ok__law_begun T B) (hr.mono (by decide)) hgd (by rfl) T.h__law_begun.m T.h__law_begun.fn.kp T.h__law_begun.b (takes_of rfl rfl rfl rfl) (pad_cons (ped_var 0) pad_nil)))
    (pbd_cons (psd_for (g := (.name 2)) (passes_of rfl) rfl (pid_rng (by rfl) T.bi_range (ped_op op_addD d_add (ped_c pe_int (fun _ => .int _)) (ped_callB (call_min2 rfl) d_min (by rfl) T.bi_min (by decide +kernel) (pad_cons (ped_lenS (by rfl) T.bi_len (ped_var 0)) (pad_cons (ped_c pe_int (fun _ => .int _)) pad_nil))))) (pgd_name 2 sc_law.nd rfl (by first | exact Or.inl rfl | exact Or.inr rfl))
    (pbd_cons (psd_set (i := 3) sc_law.nd rfl (by first | exact Or.inl rfl | exact Or.inr rfl) (ped_callN (ok__law_lengths T B) (hr.mono (by decide)) hgd (by rfl) T.h__law_lengths.m T.h__law_lengths.fn.kp T.h__law_lengths.b (takes_of rfl rfl rfl rfl) (pad_cons (ped_var 1) (pad_cons (ped_c pe_int (fun _ => .int _)) (pad_cons (ped_c pe_int (fun _ => .int _)) pad_nil)))))
    (pbd_cons (psd_if (ptd_w (pwd_or (ptd_cmp (op_neE hr.units) d_ne (ped_callB (call_reprD hgd (room70 hr)) d_repr (by rfl) T.bi_repr (by decide +kernel) (pad_cons (ped_callN (ok_need_lengths T B) (hr.mono (by decide)) hgd (by rfl) T.h_need_lengths.m T.h_need_lengths.fn.kp T.h_need_lengths.b (takes_of rfl rfl rfl rfl) (pad_cons (ped_var 3) pad_nil)) pad_nil)) (ped_callB (call_reprD hgd (room70 hr)) d_repr (by rfl) T.bi_repr (by decide +kernel) (pad_cons (ped_var 3) pad_nil)) (nomark _)) (pwd_or1 (ptd_notN (ped_callN (ok__law_fault T B) (hr.mono (by decide)) hgd (by rfl) T.h__law_fault.m T.h__law_fault.fn.kp T.h__law_fault.b (takes_of rfl rfl rfl rfl) (pad_cons (ped_var 3) pad_nil))))))
    (pbd_one (psd_ret (ped_c pe_bl (fun _ => .bl _))))
    pbd_nil)
    (pbd_cons (psd_set (i := 4) sc_law.nd rfl (by first | exact Or.inl rfl | exact Or.inr rfl) (ped_callN (ok__law_next T B) (hr.mono (by decide)) hgd (by rfl) T.h__law_next.m T.h__law_next.fn.kp T.h__law_next.b (takes_of rfl rfl rfl rfl) (pad_cons (ped_var 1) (pad_cons (ped_op op_addD d_add (ped_callB Dl.call_lenD d_len (by rfl) T.bi_len (by decide +kernel) (pad_cons (ped_var 3) pad_nil)) (ped_c pe_int (fun _ => .int _))) pad_nil))))
    (pbd_cons (psd_set (i := 5) sc_law.nd rfl (by first | exact Or.inl rfl | exact Or.inr rfl) (ped_lst (pad_cons (ped_c pe_int (fun _ => .int _)) (pad_cons (ped_c pe_int (fun _ => .int _)) (pad_cons (ped_un un_neg d_neg (ped_c pe_int (fun _ => .int _))) (pad_cons (ped_c pe_non (fun _ => .non)) (pad_cons (ped_c pe_bl (fun _ => .bl _)) (pad_cons (ped_c pe_str (fun _ => .str _)) (pad_cons (ped_tup (pad_cons (ped_c pe_int (fun _ => .int _)) pad_nil)) (pad_cons (ped_lst (pad_cons (ped_c pe_int (fun _ => .int _)) pad_nil)) (pad_cons (ped_op op_pow d_pow (ped_c pe_int (fun _ => .int _)) (ped_c pe_int (fun _ => .int _))) (pad_cons (ped_c pe_int (fun _ => .int _)) pad_nil))))))))))))
    (pbd_cons (psd_set (i := 6) sc_law.nd rfl (by first | exact Or.inl rfl | exact Or.inr rfl) (ped_op op_addD d_add (ped_op op_addD d_add (ped_sl (ped_var 3) pod_none (pod_some (ped_var 4))) (ped_tup (pad_cons (ped_ix (ped_var 5) (ped_callN (ok__law_next T B) (hr.mono (by decide)) hgd (by rfl) T.h__law_next.m T.h__law_next.fn.kp T.h__law_next.b (takes_of rfl rfl rfl rfl) (pad_cons (ped_var 1) (pad_cons (ped_c pe_int (fun _ => .int _)) pad_nil))) (fun _ _ => rfl)) pad_nil))) (ped_sl (ped_var 3) (pod_some (ped_var 4)) pod_none)))
    (pbd_cons (psd_set (i := 7) sc_law.nd rfl (by first | exact Or.inl rfl | exact Or.inr rfl) (ped_tup (pad_cons (ped_ix (ped_var 5) (ped_callN (ok__law_next T B) (hr.mono (by decide)) hgd (by rfl) T.h__law_next.m T.h__law_next.fn.kp T.h__law_next.b (takes_of rfl rfl rfl rfl) (pad_cons (ped_var 1) (pad_cons (ped_c pe_int (fun _ => .int _)) pad_nil))) (fun _ _ => rfl)) (pad_cons (ped_ix (ped_var 5) (ped_callN (ok__law_next T B) (hr.mono (by decide)) hgd (by rfl) T.h__law_next.m T.h__law_next.fn.kp T.h__law_next.b (takes_of rfl rfl rfl rfl) (pad_cons (ped_var 1) (pad_cons (ped_c pe_int (fun _ => .int _)) pad_nil))) (fun _ _ => rfl)) pad_nil))))
    (pbd_cons (psd_set (i := 8) sc_law.nd rfl (by first | exact Or.inl rfl | exact Or.inr rfl) (ped_op op_addD d_add (ped_op op_addD d_add (ped_sl (ped_var 3) pod_none (pod_some (ped_var 4))) (ped_var 7)) (ped_sl (ped_var 3) (pod_some (ped_op op_addD d_add (ped_var 4) (ped_c pe_int (fun _ => .int _)))) pod_none)))
    (pbd_cons (psd_set (i := 9) sc_law.nd rfl (by first | exact Or.inl rfl | exact Or.inr rfl) (ped_lst (pad_cons (ped_var 6) (pad_cons (ped_var 8) (pad_cons (ped_c pe_non (fun _ => .non)) (pad_cons (ped_c pe_int (fun _ => .int _)) (pad_cons (ped_callTy call_list_of d_list (by rfl) T.bi_list (by decide +kernel) (pad_cons (ped_var 3) pad_nil)) (pad_cons (ped_c pe_str (fun _ => .str _)) (pad_cons ped_dict0 pad_nil)))))))))
    (pbd_one (psd_for (g := (.name 10)) (passes_of rfl) rfl (pid_seq (ped_op op_addD d_add (ped_var 9) (ped_lst (pad_cons (ped_op op_addD d_add (ped_var 3) (ped_tup (pad_cons (ped_c pe_int (fun _ => .int _)) pad_nil))) (pad_cons (ped_op op_addD d_add (ped_var 3) (ped_op op_mulD d_mul (ped_tup (pad_cons (ped_c pe_int (fun _ => .int _)) pad_nil)) (ped_c pe_int (fun _ => .int _)))) pad_nil))))) (pgd_name 10 sc_law.nd rfl (by first | exact Or.inl rfl | exact Or.inr rfl))
    (pbd_cons (psd_par (i := 11) (j := 12) rfl sc_law.nd rfl rfl (by decide) rfl rfl (pad_cons (ped_callN (ok__law_fault T B) (hr.mono (by decide)) hgd (by rfl) T.h__law_fault.m T.h__law_fault.fn.kp T.h__law_fault.b (takes_of rfl rfl rfl rfl) (pad_cons (ped_var 10) pad_nil)) (pad_cons (ped_lst pad_nil) pad_nil)))
    (pbd_cons (psd_if (ptd_notN (ped_var 11))
    (pbd_one (psd_setC (i := 12) rfl sc_law.nd rfl rfl (sw_true rfl rfl rfl (by decide +kernel)) (own := [("way", 13)]) (g := (.name 13)) (pid_rng (by rfl) T.bi_range (ped_c pe_int (fun _ => .int _))) (blkOk_by (N := ["script", "m", "turn", "lengths", "at", "some", "thing", "both", "other", "odds", "odd", "due", "told", "way"]) (sc := defScope s_law) (by decide +kernel)) (by decide) (fun _ _ _ _ _ => (pgd_name 13 sc_law.nd rfl (by first | exact Or.inl rfl | exact Or.inr rfl))) (fun _ _ _ _ _ => ptsd_nil) (fun _ _ _ _ _ => (ped_callN (ok__law_outcome T B) (hr.mono (by decide)) hgd (by rfl) T.h__law_outcome.m T.h__law_outcome.fn.kp T.h__law_outcome.b takesF (pad_cons (ped_var 13) (pad_cons (ped_var 10) pad_nil))))))
    pbd_nil)
    (pbd_one (psd_if (ptd_w (pwd_and (ptd_cmp (op_neE hr.units) d_ne (ped_var 12) (ped_lst pad_nil) (nomark _)) (pwd_and1 (ptd_cmp (op_neE hr.units) d_ne (ped_callB (call_reprD hgd (room70 hr)) d_repr (by rfl) T.bi_repr (by decide +kernel) (pad_cons (ped_var 12) pad_nil)) (ped_callB (call_reprD hgd (room70 hr)) d_repr (by rfl) T.bi_repr (by decide +kernel) (pad_cons (ped_op op_mulD d_mul (ped_lst (pad_cons (ped_var 11) pad_nil)) (ped_c pe_int (fun _ => .int _))) pad_nil)) (nomark _)))))
    (pbd_one (psd_ret (ped_c pe_bl (fun _ => .bl _))))
    pbd_nil)))))))))))))))
    (pbd_one (psd_ret (ped_c pe_bl (fun _ => .bl _))))))
end
end Lw
set_option maxRecDepth 100000
set_option maxHeartbeats 4000000
namespace Mr
open PySem L2 Dl
/-! ### what the law makes of a fault -/
def due06 (x : PyData) : PyData := match faultN x with
  | none => .none
  | some p => .list [p]
theorem faultN_shape {x p : PyData} (h : faultN x = some p) : p = .tuple [] ∨ ∃ i : Nat, i < 7 ∧ p = .tuple [.int (i : Nat)] := by
  cases x
  case tuple ts =>
    simp only [faultN] at h
    by_cases h6 : (6 : Int) < (ts.length : Int)
    · rw [if_pos h6] at h; cases h; exact .inl rfl
    · rw [if_neg h6] at h
      obtain ⟨⟨t, i⟩, hm, hf⟩ := List.exists_of_findSome?_eq_some h
      have hi := (List.mem_zipIdx' hm).1
      by_cases hw : isWh t 1 64 = true
      · simp [hw] at hf
      · simp [hw] at hf
        exact .inr ⟨i, by omega, hf.symm⟩
  all_goals
    cases h
    exact .inl rfl
theorem due06_fits {x p : PyData} (h : faultN x = some p) : Fits 2 400 (.list [p]) := by
  have hp : Fits 1 300 p := by
    rcases faultN_shape h with rfl | ⟨i, hi, rfl⟩
    · exact (Fits.tup (k := 0) (w := 0) (ds := []) fun d hd => nomatch hd).mono (by omega) (by simp)
    · exact (Fits.tup (k := 0) (w := 140) (ds := [.int (i : Nat)]) fun d hd => by cases List.mem_singleton.mp hd; exact Fits.int (by omega) (by omega)).mono (by omega) (by simp)
  exact (Fits.lst (k := 1) (w := 300) (ds := [p]) fun d hd => by cases List.mem_singleton.mp hd; exact hp).mono (by omega) (by simp)
theorem find_filter {α β : Type} (c : α → Bool) (f : α → β) (l : List α) : l.findSome? (fun p => if c p = true then none else some (f p)) = (l.filter (fun p => !c p)).head?.map f := by
  induction l with
  | nil => rfl
  | cons a l ih =>
    cases h : c a with
    | true => simp [List.findSome?_cons, h, List.filter_cons, ih]
    | false => simp [List.findSome?_cons, h, List.filter_cons]
theorem ints_of (r : List PyData) (hr : ∀ d ∈ r, ∃ j : Nat, d = .int (j : Nat)) : ∃ l : List Int, r = l.map .int := by
  induction r with
  | nil => exact ⟨[], rfl⟩
  | cons a r ih =>
    obtain ⟨j, rfl⟩ := hr _ List.mem_cons_self
    obtain ⟨l, rfl⟩ := ih fun d hd => hr d (List.mem_cons_of_mem _ hd)
    exact ⟨j :: l, rfl⟩
theorem ok_nil6 : okD (.list []) = true := by decide +kernel
theorem eq_nil6 : vEq (.d (.list [])) (.d (.list [])) = some true := vEq_self ok_nil6
theorem eq_lst_nil {d : PyData} {r : List PyData} (ok1 : okD (.list (d :: r)) = true) : vEq (.d (.list (d :: r))) (.d (.list [])) = some false := by
  show vEqD _ _ = _
  unfold vEqD
  simp only [datOf, Option.bind_some, ok1, ok_nil6, Bool.and_self, if_true, PyData.eqv, PyData.eqvAll]
theorem m_lis_whole6 (x : PyData) (a b : Int) (st : DS) : F__law_is_whole [.d x, .d (.int a), .d (.int b)] st = .ok (.d (.bool (isWh x a b))) st := m_is_whole x a b st
theorem m_fault06 (x : PyData) (st : DS) : F__law_fault_k06 [.d x] st = .ok (.d (due06 x)) st := by
  refine ok_of ?_
  cases x
  case tuple ts =>
    by_cases h6 : (6 : Int) < (ts.length : Int)
    · have e : due06 (.tuple ts) = .list [.tuple []] := by simp only [due06, faultN]; rw [if_pos h6]
      simp! [F__law_fault_k06, w_fn, B__law_fault_k06, h6, e]
    · have e : due06 (.tuple ts) = (match (ts.zipIdx.filter fun p => !isWh p.1 1 64).head? with | none => PyData.none | some p => .list [.tuple [.int ((p.2 : Nat) : Int)]]) := by
        simp only [due06, faultN]
        rw [if_neg h6, find_filter (fun p : PyData × Nat => isWh p.1 1 64) (fun p => PyData.tuple [.int ((p.2 : Nat) : Int)])]
        cases (ts.zipIdx.filter fun p => !isWh p.1 1 64).head? <;> rfl
      rw [e]
      have hc := fun s : DS => compL_if (tg := .tup [2, 3]) (T := tNot' (tVal (eApp F__law_is_whole 3 (aCons (eVar 3) (aCons (eC (.int 1)) (aCons (eC (.int 64)) aNil)))))) (F := eVar 2) (ρ := [some (.d (.tuple ts)), none, none, none]) (st := s) (fun p : PyData × Nat => PyData.tuple [.int ((p.2 : Nat) : Int), p.1]) (fun p => !isWh p.1 1 64) (fun p => PyData.int ((p.2 : Nat) : Int)) ts.zipIdx (by simp; omega) fun p _ => ⟨_, rfl, by simp! [m_lis_whole6], fun _ => by simp! []⟩
      have he : enumD ts = ts.zipIdx.map fun p => PyData.tuple [.int ((p.2 : Nat) : Int), p.1] := by
        rw [show enumD ts = enumD (ts.map id) by simp, enumD_map]; rfl
      simp! [F__law_fault_k06, w_fn, B__law_fault_k06, h6, he, hc]
      cases hz : ts.zipIdx.filter fun p => !isWh p.1 1 64 with
      | nil =>
        simp! [eq_nil6]
        rfl
      | cons a r =>
        have hq : vEq (.d (.list (PyData.int ((a.2 : Nat) : Int) :: r.map fun p => PyData.int ((p.2 : Nat) : Int)))) (.d (.list [])) = some false := by
          obtain ⟨l, hl⟩ := ints_of (PyData.int ((a.2 : Nat) : Int) :: r.map fun p => PyData.int ((p.2 : Nat) : Int)) fun d hd => by
            rcases List.mem_cons.mp hd with rfl | hd
            · exact ⟨_, rfl⟩
            · obtain ⟨p, _, rfl⟩ := List.mem_map.mp hd
              exact ⟨_, rfl⟩
          refine eq_lst_nil ?_
          rw [hl]; exact okD_intsL l
        simp! [hq]
        rfl
  all_goals simp! [F__law_fault_k06, w_fn, B__law_fault_k06, due06, faultN]
/-! ### each call refuses it -/
theorem out06 {x p : PyData} (h : faultN x = some p) (w : Int) (st : DS) : F__law_outcome_k06 [.d (.int w), .d x] st = .ok (.d (.list [p])) st := by
  refine ok_of ?_
  have h0 := fun s => m_need_lengths_x x p h s
  by_cases c0 : w = 0
  · subst c0
    simp! [F__law_outcome_k06, w_fn, B__law_outcome_k06, w_try, h0, tryX]
  by_cases c1 : w = 1
  · subst c1
    have h1 : ∀ s, F_span [.d x] s = .exc 1 [p] s := fun s => exc_of_wp (by simp! [F_span, w_fn, B_span, h0])
    simp! [F__law_outcome_k06, w_fn, B__law_outcome_k06, w_try, h1, tryX]
  by_cases c2 : w = 2
  · subst c2
    have h1 : ∀ s, F_weights [.d x] s = .exc 1 [p] s := fun s => exc_of_wp (by simp! [F_weights, w_fn, B_weights, h0])
    simp! [F__law_outcome_k06, w_fn, B__law_outcome_k06, w_try, h1, tryX]
  by_cases c3 : w = 3
  · subst c3
    have h1 : ∀ s, F_carried [.d x, .d .none, .d .none] s = .exc 1 [p] s := fun s => exc_of_wp (by simp! [F_carried, w_fn, B_carried, h0])
    simp! [F__law_outcome_k06, w_fn, B__law_outcome_k06, w_try, h1, tryX]
  have hs : ∀ s, F_need_small [.d x] s = .exc 1 [p] s := fun s => exc_of_wp (by simp! [F_need_small, w_fn, B_need_small, h0])
  by_cases c4 : w = 4
  · subst c4
    have h1 : ∀ s, F_fit [.d x, .d .none] s = .exc 1 [p] s := fun s => exc_of_wp (by simp! [F_fit, w_fn, B_fit, hs])
    simp! [F__law_outcome_k06, w_fn, B__law_outcome_k06, w_try, h1, tryX]
  by_cases c5 : w = 5
  · subst c5
    have h1 : ∀ s, F_check_fit [.d x, .d .none, .d .none] s = .exc 1 [p] s := fun s => exc_of_wp (by simp! [F_check_fit, w_fn, B_check_fit, hs])
    simp! [F__law_outcome_k06, w_fn, B__law_outcome_k06, w_try, h1, tryX]
  by_cases c6 : w = 6
  · subst c6
    have h1 : ∀ s, F_deceiver [.d x] s = .exc 1 [p] s := fun s => exc_of_wp (by simp! [F_deceiver, w_fn, B_deceiver, hs, h0])
    simp! [F__law_outcome_k06, w_fn, B__law_outcome_k06, w_try, h1, tryX]
  by_cases c7 : w = 7
  · subst c7
    have h1 : ∀ s, F_meeting [.d x, .d .none] s = .exc 1 [p] s := fun s => exc_of_wp (by simp! [F_meeting, w_fn, B_meeting, h0])
    simp! [F__law_outcome_k06, w_fn, B__law_outcome_k06, w_try, h1, tryX]
  have h1 : ∀ s, F_check_meeting [.d x, .d .none, .d .none] s = .exc 1 [p] s := fun s => exc_of_wp (by simp! [F_check_meeting, w_fn, B_check_meeting, h0])
  simp! [F__law_outcome_k06, w_fn, B__law_outcome_k06, w_try, c0, c1, c2, c3, c4, c5, c6, c7, h1, tryX]
theorem mul_lst (a : List PyData) (k : Int) (h : -1000000 ≤ k ∧ k ≤ 1000000 ∧ a.length * k.toNat ≤ 1000000) : vMul (.d (.list a)) (.d (.int k)) = some (.list (List.replicate k.toNat a).flatten) := cif_pos h
theorem mul_tup (a : List PyData) (k : Int) (h : -1000 ≤ k ∧ k ≤ 1000 ∧ a.length ≤ 1000) : vMul (.d (.tuple a)) (.d (.int k)) = some (.tuple (List.replicate k.toNat a).flatten) := cif_pos h
theorem ws_forD6 {S : Type} {tg : Tg} {B : Rho → S → SRes S} {E : En S} (P : List PyData → Rho → S → Prop) (bs : List PyData) (ρ : Rho) (s : S) (h : P [] ρ s)
    (t : ∀ done b rest ρ s, bs = done ++ b :: rest → P done ρ s → ∃ ρ1, setT tg b ρ = some ρ1 ∧ @Ws _ (B ρ1 s) { E with n := fun ρ s => @Hid (P (done ++ [b]) ρ s), c := fun ρ s => @Hid (P (done ++ [b]) ρ s), b := E.n }) (e : ∀ ρ s, P bs ρ s → E.n ρ s) : @Ws _ (forL tg B bs ρ s) E := by
  have := ws_forP (fun x : PyData => x) P bs ρ s h t e
  rwa [List.map_id'] at this
noncomputable def tail06 : Rho → DS → SRes DS := (sFor (iSeq (eOp vAdd (eVar 9) (eLst (aCons (eOp vAdd (eVar 3) (eTup (aCons (eC (.int 65)) aNil))) (aCons (eOp vAdd (eVar 3) (eOp vMul (eTup (aCons (eC (.int 1)) aNil)) (eC (.int 7)))) aNil))))) (.name 10) (sSeq (sPar 11 12 (aCons (eApp F__law_fault_k06 1 (aCons (eVar 10) aNil)) (aCons (eLst aNil) aNil))) (sSeq (sIf (tIs vIsNot (eVar 11)) (sSet 12 (eFrz (nComp (iRng (eC (.int 9))) [13] (.name 13) tYes' (eApp F__law_outcome_k06 2 (aCons (eVar 13) (aCons (eVar 10) aNil)))))) sNop) (sIf (tAnd' (eCmp vNe (eVar 12) (eLst aNil)) (eCmp vNe (eCall bRepr (aCons (eVar 12) aNil)) (eCall bRepr (aCons (eOp vMul (eLst (aCons (eVar 11) aNil)) (eC (.int 9))) aNil)))) (sRet (eC (.bool false))) sNop))))
theorem k06_eq : B_law_k06 = (sSeq (sSet 1 (eApp fBegun 1 (aCons (eVar 0) aNil))) (sSeq (sFor (iRng (eOp vAdd (eC (.int 2)) (eCall bMin (aCons (eLenS (eVar 0)) (aCons (eC (.int 5)) aNil))))) (.name 2) (sSeq (sSet 3 (eApp F__law_lengths 3 (aCons (eVar 1) (aCons (eC (.int 6)) (aCons (eC (.int 64)) aNil))))) (sSeq (sIf (tOr' (eCmp vNe (eCall bRepr (aCons (eApp F_need_lengths 1 (aCons (eVar 3) aNil)) aNil)) (eCall bRepr (aCons (eVar 3) aNil))) (tIs vIsNot (eApp F__law_fault_k06 1 (aCons (eVar 3) aNil)))) (sRet (eC (.bool false))) sNop) (sSeq (sSet 4 (eApp fNext 2 (aCons (eVar 1) (aCons (eOp vAdd (eCall bLen (aCons (eVar 3) aNil)) (eC (.int 1))) aNil)))) (sSeq (sSet 5 (eLst (aCons (eC (.int 0)) (aCons (eC (.int 65)) (aCons (eUn vNeg (eC (.int 1))) (aCons (eC (.none)) (aCons (eC (.bool true)) (aCons (eC (.str "2")) (aCons (eTup (aCons (eC (.int 2)) aNil)) (aCons (eLst (aCons (eC (.int 2)) aNil)) (aCons (eOp vPow (eC (.int 10)) (eC (.int 30))) (aCons (eC (.int 64)) aNil)))))))))))) (sSeq (sSet 6 (eOp vAdd (eOp vAdd (eSl vSl (eVar 3) oNone (oSome (eVar 4))) (eTup (aCons (eOp vIx (eVar 5) (eApp fNext 2 (aCons (eVar 1) (aCons (eC (.int 10)) aNil)))) aNil))) (eSl vSl (eVar 3) (oSome (eVar 4)) oNone))) (sSeq (sSet 7 (eTup (aCons (eOp vIx (eVar 5) (eApp fNext 2 (aCons (eVar 1) (aCons (eC (.int 10)) aNil)))) (aCons (eOp vIx (eVar 5) (eApp fNext 2 (aCons (eVar 1) (aCons (eC (.int 10)) aNil)))) aNil)))) (sSeq (sSet 8 (eOp vAdd (eOp vAdd (eSl vSl (eVar 3) oNone (oSome (eVar 4))) (eVar 7)) (eSl vSl (eVar 3) (oSome (eOp vAdd (eVar 4) (eC (.int 2)))) oNone))) (sSeq (sSet 9 (eLst (aCons (eVar 6) (aCons (eVar 8) (aCons (eC (.none)) (aCons (eC (.int 0)) (aCons (eCall bList (aCons (eVar 3) aNil)) (aCons (eC (.str "12")) (aCons (eC (.dict [])) aNil))))))))) tail06))))))))) (sRet (eC (.bool true))))) := rfl
theorem k06_tail {zs : List PyData} (hz : zs.length ≤ 6) (st : DS) (v2 v4 v5 v6 v7 v8 v10 v11 v12 : Option Val) (odds : List PyData) (ho : odds.length ≤ 10) {E : En DS}
    (q : ∀ c10 c11 c12, E.n [some (.ref 1), some (.ref 0), v2, some (.d (.tuple zs)), v4, v5, v6, v7, v8, some (.d (.list odds)), c10, c11, c12, none] st) :
    @Ws _ (tail06 [some (.ref 1), some (.ref 0), v2, some (.d (.tuple zs)), v4, v5, v6, v7, v8, some (.d (.list odds)), v10, v11, v12, none] st) E := by
  have A1 : vAdd (.d (.tuple zs)) (.d (.tuple [.int 65])) = some (.tuple (zs ++ [.int 65])) := by
    rw [q_addt, if_pos (by simp; omega)]
  obtain ⟨w, hw⟩ : ∃ w, vMul (.d (.tuple [.int 1])) (.d (.int 7)) = some (.tuple w) ∧ w.length = 7 := ⟨_, mul_tup [.int 1] 7 (by simp), rfl⟩
  have A2 : vAdd (.d (.tuple zs)) (.d (.tuple w)) = some (.tuple (zs ++ w)) := by
    rw [q_addt, if_pos (by have := hw.2; omega)]
  have A3 : vAdd (.d (.list odds)) (.d (.list [.tuple (zs ++ [.int 65]), .tuple (zs ++ w)])) = some (.list (odds ++ [.tuple (zs ++ [.int 65]), .tuple (zs ++ w)])) := by
    rw [q_addl, if_pos (by simp; omega)]
  simp! [tail06, A1, hw.1, A2, A3]
  generalize odds ++ [.tuple (zs ++ [.int 65]), .tuple (zs ++ w)] = all
  refine ws_forD6 (fun done ρ s => s = st ∧ ∃ c10 c11 c12, ρ = [some (.ref 1), some (.ref 0), v2, some (.d (.tuple zs)), v4, v5, v6, v7, v8, some (.d (.list odds)), c10, c11, c12, none]) all _ _ ⟨rfl, _, _, _, rfl⟩ ?_ ?_
  · rintro done x rest ρ s e2 ⟨rfl, d, e, f, rfl⟩
    refine ⟨_, rfl, ?_⟩
    have d1 := fun s => m_fault06 x s
    cases hf : faultN x with
    | none =>
      have e1 : due06 x = .none := by simp only [due06, hf]
      rw [e1] at d1
      simp! [d1, eq_nil6]
      exact ⟨_, _, _, rfl⟩
    | some p =>
      have e1 : due06 x = .list [p] := by simp only [due06, hf]
      rw [e1] at d1
      have o1 := fun w s => out06 hf w s
      obtain ⟨L, hm, hL, hu⟩ : ∃ L : List PyData, vMul (.d (.list [.list [p]])) (.d (.int 9)) = some (.list L) ∧ (∀ d ∈ L, d = .list [p]) ∧ L = (upto 9).map (fun _ => .list [p]) ∧ L.length = 9 := by
        refine ⟨_, mul_lst [.list [p]] 9 (by simp), fun d hd => ?_, ?_, rfl⟩
        · simpa using hd
        · rfl
      have fL : Fits 3 5000 (.list L) := (Fits.lst (k := 2) (w := 400) (ds := L) fun d hd => by rw [hL d hd]; exact due06_fits hf).mono (by omega) (by omega)
      have rL := repr_ok fL (by omega) (by omega)
      have hne : vEq (.d (.list L)) (.d (.list [])) = some false := by
        cases L with
        | nil => simp at hu
        | cons a r => exact eq_lst_nil (fL.ok (by omega))
      have hc : ∀ (a : List (Option Val)) (s : DS), a.length = 13 → compL (.name 13) tYes' (eApp F__law_outcome_k06 2 (aCons (eVar 13) (aCons (eVar 10) aNil))) [some (.ref 1), some (.ref 0), v2, some (.d (.tuple zs)), v4, v5, v6, v7, v8, some (.d (.list odds)), some (.d x), some (.d (.list [p])), some (.d (.list [])), none] (upto 9) [] s = .ok L s := fun a s _ => by
        rw [hu.1]
        refine compL_ok (fun _ => .list [p]) (upto 9) (by simp [upto]) fun d hd => ?_
        obtain ⟨w, rfl⟩ : ∃ w, d = .int w := by
          unfold upto at hd
          obtain ⟨k, _, rfl⟩ := List.mem_map.mp hd
          exact ⟨_, rfl⟩
        exact ⟨_, rfl, by simp! [o1]⟩
      have hc := fun s => hc (List.replicate 13 none) s (by simp)
      clear hu
      have hs9 : smallI 9 := smallI_of (by omega) (by omega)
      simp! [d1, hs9, hc, hm, hne, rL]
      exact ⟨_, _, _, rfl⟩
  · rintro ρ s ⟨rfl, d, e, f, rfl⟩
    exact q _ _ _
theorem law_math_k06 (ns : List Int) (hns : ns.length ≤ 63) (hb : ∀ z ∈ ns, Builtin.Int.intBits z ≤ 1048576) : ∃ st', F_law_k06 [.ref 1] ⟨ns, [], [], 0, false⟩ = .ok (.d (.bool true)) st' := by
  refine law_end ?_
  simp! [F_law_k06, w_fn, k06_eq]
  refine wp_begin hns fun st g => ?_
  have hn := g.ns
  have hr : smallI (2 + if (5 : Int) < (st.ns.length : Int) then 5 else (st.ns.length : Int)) := by split <;> exact smallI_of (by omega) (by omega)
  simp! [hr]
  refine ws_forR _ (fun k ρ s => ∃ c2 c3 c4 c5 c6 c7 c8 c9 c10 c11 c12, ρ = [some (.ref 1), some (.ref 0), c2, c3, c4, c5, c6, c7, c8, c9, c10, c11, c12, none] ∧ Gd (10000 * k) s) _ _ ⟨_, _, _, _, _, _, _, _, _, _, _, rfl, g.mono (by omega)⟩ ?_ ?_
  · rintro k ρ s hk ⟨c2, c3, c4, c5, c6, c7, c8, c9, c10, c11, c12, rfl, gk⟩
    have hk7 : k ≤ 7 := by split at hk <;> omega
    refine ⟨_, rfl, ?_⟩
    simp! []
    refine d_lengths gk (by omega) (by omega) (by omega) (by omega) (by omega) fun zs t2 hl1 hl2 g2 => ?_
    have hz : ∀ z ∈ zs, 1 ≤ z ∧ z ≤ 64 := fun z hh => by have := hl2 z hh; omega
    have hN : OkN (zs.map Int.toNat) := ⟨by simp; omega, fun n hn => by
      obtain ⟨z, hz', rfl⟩ := List.mem_map.mp hn
      have := hz z hz'
      omega⟩
    have e9 : lpD zs = natsD (zs.map Int.toNat) := natsD_of fun z hh => by have := hz z hh; omega
    have hf : faultN (lpD zs) = none := by rw [e9]; exact faultN_ok hN
    have h1 := fun s => m_need_lengths _ hf s
    have d1 := fun s => m_fault06 (lpD zs) s
    rw [show due06 (lpD zs) = .none by simp only [due06, hf]] at d1
    have fz : Fits 1 1000 (lpD zs) := (Fits.tup (k := 0) (w := 140) fun d hd => by
      obtain ⟨z, hzm, rfl⟩ := List.mem_map.mp hd
      have := hz z hzm
      exact Fits.int (by omega) (by omega)).mono (by omega) (by simp; omega)
    have rz := repr_ok fz (by omega) (by omega)
    have hxl : (zs.map PyData.int).length ≤ 6 := by simp; omega
    simp! [h1, d1, rz]
    generalize hxs : zs.map PyData.int = xs at *
    rw [show lpD zs = .tuple xs from congrArg PyData.tuple hxs]
    refine wp_draw g2 (by omega) (by omega) (by omega) fun a s3 a1 a2 g3 => ?_
    simp! []
    have mem : ∀ x : Int, 0 ≤ x → x < 10 → ∃ y, atI [PyData.int 0, .int 65, .int (-1), .none, .bool true, .str "2", .tuple [.int 2], .list [.int 2], .int 1000000000000000000000000000000, .int 64] x = some y := fun x h0 h1 => by
      obtain ⟨y, hy, _⟩ := atI_int [PyData.int 0, .int 65, .int (-1), .none, .bool true, .str "2", .tuple [.int 2], .list [.int 2], .int 1000000000000000000000000000000, .int 64] x h0 (by simpa using h1)
      exact ⟨y, hy⟩
    have k1 : cutD xs none (some a) = xs.take a.toNat := cut_to _ _ a1
    have k2 : cutD xs (some (a + 2)) none = xs.drop (a + 2).toNat := cut_from _ _ (by omega)
    have k3 : cutD xs (some a) none = xs.drop a.toNat := cut_from _ _ a1
    refine wp_draw g3 (by omega) (by omega) (by omega) fun x s4 b1 b2 g4 => ?_
    obtain ⟨o1, ho1⟩ := mem x b1 b2
    have A1 : vAdd (.d (.tuple (xs.take a.toNat))) (.d (.tuple [o1])) = some (.tuple (xs.take a.toNat ++ [o1])) := by
      rw [q_addt, if_pos (by simp; omega)]
    have A2 : vAdd (.d (.tuple (xs.take a.toNat ++ [o1]))) (.d (.tuple (xs.drop a.toNat))) = some (.tuple (xs.take a.toNat ++ [o1] ++ xs.drop a.toNat)) := by
      rw [q_addt, if_pos (by simp; omega)]
    simp! [k1, k3, ho1, A1, A2]
    refine wp_draw g4 (by omega) (by omega) (by omega) fun y s5 b1 b2 g5 => ?_
    obtain ⟨o2, ho2⟩ := mem y b1 b2
    simp! [ho2]
    refine wp_draw g5 (by omega) (by omega) (by omega) fun z s6 b1 b2 g6 => ?_
    obtain ⟨o3, ho3⟩ := mem z b1 b2
    have A3 : vAdd (.d (.tuple (xs.take a.toNat))) (.d (.tuple [o2, o3])) = some (.tuple (xs.take a.toNat ++ [o2, o3])) := by
      rw [q_addt, if_pos (by simp; omega)]
    have A4 : vAdd (.d (.tuple (xs.take a.toNat ++ [o2, o3]))) (.d (.tuple (xs.drop (a + 2).toNat))) = some (.tuple (xs.take a.toNat ++ [o2, o3] ++ xs.drop (a + 2).toNat)) := by
      rw [q_addt, if_pos (by simp; omega)]
    simp! [ho3, k1, k2, A3, A4]
    refine k06_tail hxl s6 _ _ _ _ _ _ _ _ _ _ ?_ fun c10 c11 c12 => ?_
    · simp
    exact ⟨_, _, _, _, _, _, _, _, _, _, _, rfl, g6.mono (by omega)⟩
  · rintro ρ s ⟨c2, c3, c4, c5, c6, c7, c8, c9, c10, c11, c12, rfl, gk⟩
    simp! []
end Mr
set_option maxRecDepth 100000
set_option maxHeartbeats 4000000
namespace Lw
open PySem L2 Dl Mr PySem.Spec PyProof.Rows

theorem told_of {qq : Program} {K : PySem.W.Frag} {h : Heap} {x : Str} {c P : Addr} {y : Str} (TT : TabTold qq K h) (hf : ((recsOf qq).find? (fun e => e.name == x)).isSome = true) (ht : PySem.W.tabIn K x = some (c, P)) (hn : K.lookup P = none) : TOld [(c, P, y)] K h := by
  obtain ⟨d, hd⟩ := Option.isSome_iff_exists.mp hf
  obtain ⟨h1, h2⟩ := TT d x c P hd ht
  exact ⟨fun p hp => (by cases List.mem_singleton.mp hp; exact h2), fun p hp => (by cases List.mem_singleton.mp hp; exact hn), fun p hp => (by cases List.mem_singleton.mp hp; exact h1)⟩
theorem all_mk {w : World} {K : PySem.W.Frag} {h : Heap} {mg : Str → Option Value} {fa : Addr} {qq : Program} (TT : TabTold qq K h) (X : K.In h) (G : h.Ns mainGlobals mg) (hfa : mg "law" = some (.ref fa))
    {f_is_whole : Addr} {od_is_whole an_is_whole : Option Addr} {sl_is_whole : Array (Option Value)} {oc_is_whole kV_is_whole dc_is_whole pm_is_whole cd_is_whole ct_is_whole : Value}
    {f_is_number : Addr} {od_is_number an_is_number : Option Addr} {sl_is_number : Array (Option Value)} {oc_is_number kV_is_number dc_is_number pm_is_number cd_is_number ct_is_number : Value}
    {f_loops_fault : Addr} {od_loops_fault an_loops_fault : Option Addr} {sl_loops_fault : Array (Option Value)} {oc_loops_fault kV_loops_fault dc_loops_fault pm_loops_fault cd_loops_fault ct_loops_fault : Value}
    {f_need_whole : Addr} {od_need_whole an_need_whole : Option Addr} {sl_need_whole : Array (Option Value)} {oc_need_whole kV_need_whole dc_need_whole pm_need_whole cd_need_whole ct_need_whole : Value}
    {f_lengths_in : Addr} {od_lengths_in an_lengths_in : Option Addr} {sl_lengths_in : Array (Option Value)} {oc_lengths_in kV_lengths_in dc_lengths_in pm_lengths_in cd_lengths_in ct_lengths_in : Value}
    {f_heard_in : Addr} {od_heard_in an_heard_in : Option Addr} {sl_heard_in : Array (Option Value)} {oc_heard_in kV_heard_in dc_heard_in pm_heard_in cd_heard_in ct_heard_in : Value}
    {f_need_lengths : Addr} {od_need_lengths an_need_lengths : Option Addr} {sl_need_lengths : Array (Option Value)} {oc_need_lengths kV_need_lengths dc_need_lengths pm_need_lengths cd_need_lengths ct_need_lengths : Value}
    {f_common : Addr} {od_common an_common : Option Addr} {sl_common : Array (Option Value)} {oc_common kV_common dc_common pm_common cd_common ct_common : Value}
    {f_bottoms : Addr} {od_bottoms an_bottoms : Option Addr} {sl_bottoms : Array (Option Value)} {oc_bottoms kV_bottoms dc_bottoms pm_bottoms cd_bottoms ct_bottoms : Value}
    {f_span_in : Addr} {od_span_in an_span_in : Option Addr} {sl_span_in : Array (Option Value)} {oc_span_in kV_span_in dc_span_in pm_span_in cd_span_in ct_span_in : Value}
    {f_times : Addr} {od_times an_times : Option Addr} {sl_times : Array (Option Value)} {oc_times kV_times dc_times pm_times cd_times ct_times : Value}
    {f_without : Addr} {od_without an_without : Option Addr} {sl_without : Array (Option Value)} {oc_without kV_without dc_without pm_without cd_without ct_without : Value}
    {f_factor_of : Addr} {od_factor_of an_factor_of : Option Addr} {sl_factor_of : Array (Option Value)} {oc_factor_of kV_factor_of dc_factor_of pm_factor_of cd_factor_of ct_factor_of : Value}
    {f_weights_in : Addr} {od_weights_in an_weights_in : Option Addr} {sl_weights_in : Array (Option Value)} {oc_weights_in kV_weights_in dc_weights_in pm_weights_in cd_weights_in ct_weights_in : Value}
    {f_span : Addr} {od_span an_span : Option Addr} {sl_span : Array (Option Value)} {oc_span kV_span dc_span pm_span cd_span ct_span : Value}
    {f_weights : Addr} {od_weights an_weights : Option Addr} {sl_weights : Array (Option Value)} {oc_weights kV_weights dc_weights pm_weights cd_weights ct_weights : Value}
    {f_carried_in : Addr} {od_carried_in an_carried_in : Option Addr} {sl_carried_in : Array (Option Value)} {oc_carried_in kV_carried_in dc_carried_in pm_carried_in cd_carried_in ct_carried_in : Value}
    {f_carried : Addr} {od_carried an_carried : Option Addr} {sl_carried : Array (Option Value)} {oc_carried kV_carried dc_carried pm_carried cd_carried ct_carried : Value}
    {f_need_small : Addr} {od_need_small an_need_small : Option Addr} {sl_need_small : Array (Option Value)} {oc_need_small kV_need_small dc_need_small pm_need_small cd_need_small ct_need_small : Value}
    {f_need_numbers : Addr} {od_need_numbers an_need_numbers : Option Addr} {sl_need_numbers : Array (Option Value)} {oc_need_numbers kV_need_numbers dc_need_numbers pm_need_numbers cd_need_numbers ct_need_numbers : Value}
    {f_reduced : Addr} {od_reduced an_reduced : Option Addr} {sl_reduced : Array (Option Value)} {oc_reduced kV_reduced dc_reduced pm_reduced cd_reduced ct_reduced : Value}
    {f_loops_like : Addr} {od_loops_like an_loops_like : Option Addr} {sl_loops_like : Array (Option Value)} {oc_loops_like kV_loops_like dc_loops_like pm_loops_like cd_loops_like ct_loops_like : Value}
    {f_fit : Addr} {od_fit an_fit : Option Addr} {sl_fit : Array (Option Value)} {oc_fit kV_fit dc_fit pm_fit cd_fit ct_fit : Value}
    {f_is_ground : Addr} {od_is_ground an_is_ground : Option Addr} {sl_is_ground : Array (Option Value)} {oc_is_ground kV_is_ground dc_is_ground pm_is_ground cd_is_ground ct_is_ground : Value}
    {f_check_fit : Addr} {od_check_fit an_check_fit : Option Addr} {sl_check_fit : Array (Option Value)} {oc_check_fit kV_check_fit dc_check_fit pm_check_fit cd_check_fit ct_check_fit : Value}
    {f_deceiver : Addr} {od_deceiver an_deceiver : Option Addr} {sl_deceiver : Array (Option Value)} {oc_deceiver kV_deceiver dc_deceiver pm_deceiver cd_deceiver ct_deceiver : Value}
    {f_need_places : Addr} {od_need_places an_need_places : Option Addr} {sl_need_places : Array (Option Value)} {oc_need_places kV_need_places dc_need_places pm_need_places cd_need_places ct_need_places : Value}
    {f_never_meet : Addr} {od_never_meet an_never_meet : Option Addr} {sl_never_meet : Array (Option Value)} {oc_never_meet kV_never_meet dc_never_meet pm_never_meet cd_never_meet ct_never_meet : Value}
    {f_meeting : Addr} {od_meeting an_meeting : Option Addr} {sl_meeting : Array (Option Value)} {oc_meeting kV_meeting dc_meeting pm_meeting cd_meeting ct_meeting : Value}
    {f_check_meeting : Addr} {od_check_meeting an_check_meeting : Option Addr} {sl_check_meeting : Array (Option Value)} {oc_check_meeting kV_check_meeting dc_check_meeting pm_check_meeting cd_check_meeting ct_check_meeting : Value}
    {f__law_begun : Addr} {od__law_begun an__law_begun : Option Addr} {sl__law_begun : Array (Option Value)} {oc__law_begun kV__law_begun dc__law_begun pm__law_begun cd__law_begun ct__law_begun : Value}
    {f__law_next : Addr} {od__law_next an__law_next : Option Addr} {sl__law_next : Array (Option Value)} {oc__law_next kV__law_next dc__law_next pm__law_next cd__law_next ct__law_next : Value}
    {f__law_lengths : Addr} {od__law_lengths an__law_lengths : Option Addr} {sl__law_lengths : Array (Option Value)} {oc__law_lengths kV__law_lengths dc__law_lengths pm__law_lengths cd__law_lengths ct__law_lengths : Value}
    {f__law_is_whole : Addr} {od__law_is_whole an__law_is_whole : Option Addr} {sl__law_is_whole : Array (Option Value)} {oc__law_is_whole kV__law_is_whole dc__law_is_whole pm__law_is_whole cd__law_is_whole ct__law_is_whole : Value}
    {f__law_outcome : Addr} {od__law_outcome an__law_outcome : Option Addr} {sl__law_outcome : Array (Option Value)} {oc__law_outcome kV__law_outcome dc__law_outcome pm__law_outcome cd__law_outcome ct__law_outcome : Value}
    {f__law_fault : Addr} {od__law_fault an__law_fault : Option Addr} {sl__law_fault : Array (Option Value)} {oc__law_fault kV__law_fault dc__law_fault pm__law_fault cd__law_fault ct__law_fault : Value}
    {f_law : Addr} {od_law an_law : Option Addr} {sl_law : Array (Option Value)} {oc_law kV_law dc_law pm_law cd_law ct_law : Value}
    {t_LONGEST_FITTED : Tok}
    {t_LONGEST_ROW : Tok}
    {t_MOST_FITTED : Tok}
    {t_MOST_LENGTH : Tok}
    {t_MOST_LOOPS : Tok}
    {t_MOST_MANY : Tok}
    {C_BadLengths i_BadLengths : Addr} {nm_BadLengths q_BadLengths : Str} {N_BadLengths : Addr} {bs_BadLengths : List Value} {sn_BadLengths : List Str} {sub_BadLengths : List Value} {ab_BadLengths : Bool} {col_BadLengths : Option Bool} {dd_BadLengths : Option Addr} {m0_BadLengths m1_BadLengths m2_BadLengths m3_BadLengths m5_BadLengths : Option Value}
    {od_BadLengths an_BadLengths : Option Addr} {sl_BadLengths : Array (Option Value)} {oc_BadLengths kV_BadLengths dc_BadLengths pm_BadLengths cd_BadLengths ct_BadLengths : Value}
    {C_BadPaper i_BadPaper : Addr} {nm_BadPaper q_BadPaper : Str} {N_BadPaper : Addr} {bs_BadPaper : List Value} {sn_BadPaper : List Str} {sub_BadPaper : List Value} {ab_BadPaper : Bool} {col_BadPaper : Option Bool} {dd_BadPaper : Option Addr} {m0_BadPaper m1_BadPaper m2_BadPaper m3_BadPaper m5_BadPaper : Option Value}
    {od_BadPaper an_BadPaper : Option Addr} {sl_BadPaper : Array (Option Value)} {oc_BadPaper kV_BadPaper dc_BadPaper pm_BadPaper cd_BadPaper ct_BadPaper : Value}
    {C_OutOfPlace i_OutOfPlace : Addr} {nm_OutOfPlace q_OutOfPlace : Str} {N_OutOfPlace : Addr} {bs_OutOfPlace : List Value} {sn_OutOfPlace : List Str} {sub_OutOfPlace : List Value} {ab_OutOfPlace : Bool} {col_OutOfPlace : Option Bool} {dd_OutOfPlace : Option Addr} {m0_OutOfPlace m1_OutOfPlace m2_OutOfPlace m3_OutOfPlace m5_OutOfPlace : Option Value}
    {od_OutOfPlace an_OutOfPlace : Option Addr} {sl_OutOfPlace : Array (Option Value)} {oc_OutOfPlace kV_OutOfPlace dc_OutOfPlace pm_OutOfPlace cd_OutOfPlace ct_OutOfPlace : Value}
    (a_is_whole : PySem.W.nsIn K mainGlobals "is_whole" = some (some (.ref f_is_whole)))
    (l_is_whole : K.lookup f_is_whole = some ⟨oc_is_whole, od_is_whole, .func (PySem.W.fnOf "is_whole" "is_whole" (defArgs (top 9)) (defBody (top 9)) (defScope (top 9)) .none kV_is_whole dc_is_whole pm_is_whole an_is_whole cd_is_whole ct_is_whole), sl_is_whole⟩)
    (c_is_whole : PySem.W.codeIn K cd_is_whole "is_whole" = true)
    (k_is_whole : PySem.W.keepIn K (.ref f_is_whole) = true)
    (a_is_number : PySem.W.nsIn K mainGlobals "is_number" = some (some (.ref f_is_number)))
    (l_is_number : K.lookup f_is_number = some ⟨oc_is_number, od_is_number, .func (PySem.W.fnOf "is_number" "is_number" (defArgs (top 10)) (defBody (top 10)) (defScope (top 10)) .none kV_is_number dc_is_number pm_is_number an_is_number cd_is_number ct_is_number), sl_is_number⟩)
    (c_is_number : PySem.W.codeIn K cd_is_number "is_number" = true)
    (k_is_number : PySem.W.keepIn K (.ref f_is_number) = true)
    (a_loops_fault : PySem.W.nsIn K mainGlobals "loops_fault" = some (some (.ref f_loops_fault)))
    (l_loops_fault : K.lookup f_loops_fault = some ⟨oc_loops_fault, od_loops_fault, .func (PySem.W.fnOf "loops_fault" "loops_fault" (defArgs (top 11)) (defBody (top 11)) (defScope (top 11)) .none kV_loops_fault dc_loops_fault pm_loops_fault an_loops_fault cd_loops_fault ct_loops_fault), sl_loops_fault⟩)
    (c_loops_fault : PySem.W.codeIn K cd_loops_fault "loops_fault" = true)
    (k_loops_fault : PySem.W.keepIn K (.ref f_loops_fault) = true)
    (a_need_whole : PySem.W.nsIn K mainGlobals "need_whole" = some (some (.ref f_need_whole)))
    (l_need_whole : K.lookup f_need_whole = some ⟨oc_need_whole, od_need_whole, .func (PySem.W.fnOf "need_whole" "need_whole" (defArgs (top 12)) (defBody (top 12)) (defScope (top 12)) .none kV_need_whole dc_need_whole pm_need_whole an_need_whole cd_need_whole ct_need_whole), sl_need_whole⟩)
    (c_need_whole : PySem.W.codeIn K cd_need_whole "need_whole" = true)
    (k_need_whole : PySem.W.keepIn K (.ref f_need_whole) = true)
    (a_lengths_in : PySem.W.nsIn K mainGlobals "lengths_in" = some (some (.ref f_lengths_in)))
    (l_lengths_in : K.lookup f_lengths_in = some ⟨oc_lengths_in, od_lengths_in, .func (PySem.W.fnOf "lengths_in" "lengths_in" (defArgs (top 13)) (defBody (top 13)) (defScope (top 13)) .none kV_lengths_in dc_lengths_in pm_lengths_in an_lengths_in cd_lengths_in ct_lengths_in), sl_lengths_in⟩)
    (c_lengths_in : PySem.W.codeIn K cd_lengths_in "lengths_in" = true)
    (k_lengths_in : PySem.W.keepIn K (.ref f_lengths_in) = true)
    (a_heard_in : PySem.W.nsIn K mainGlobals "heard_in" = some (some (.ref f_heard_in)))
    (l_heard_in : K.lookup f_heard_in = some ⟨oc_heard_in, od_heard_in, .func (PySem.W.fnOf "heard_in" "heard_in" (defArgs (top 14)) (defBody (top 14)) (defScope (top 14)) .none kV_heard_in dc_heard_in pm_heard_in an_heard_in cd_heard_in ct_heard_in), sl_heard_in⟩)
    (c_heard_in : PySem.W.codeIn K cd_heard_in "heard_in" = true)
    (k_heard_in : PySem.W.keepIn K (.ref f_heard_in) = true)
    (a_need_lengths : PySem.W.nsIn K mainGlobals "need_lengths" = some (some (.ref f_need_lengths)))
    (l_need_lengths : K.lookup f_need_lengths = some ⟨oc_need_lengths, od_need_lengths, .func (PySem.W.fnOf "need_lengths" "need_lengths" (defArgs (top 16)) (defBody (top 16)) (defScope (top 16)) .none kV_need_lengths dc_need_lengths pm_need_lengths an_need_lengths cd_need_lengths ct_need_lengths), sl_need_lengths⟩)
    (c_need_lengths : PySem.W.codeIn K cd_need_lengths "need_lengths" = true)
    (k_need_lengths : PySem.W.keepIn K (.ref f_need_lengths) = true)
    (a_common : PySem.W.nsIn K mainGlobals "common" = some (some (.ref f_common)))
    (l_common : K.lookup f_common = some ⟨oc_common, od_common, .func (PySem.W.fnOf "common" "common" (defArgs (top 17)) (defBody (top 17)) (defScope (top 17)) .none kV_common dc_common pm_common an_common cd_common ct_common), sl_common⟩)
    (c_common : PySem.W.codeIn K cd_common "common" = true)
    (k_common : PySem.W.keepIn K (.ref f_common) = true)
    (a_bottoms : PySem.W.nsIn K mainGlobals "bottoms" = some (some (.ref f_bottoms)))
    (l_bottoms : K.lookup f_bottoms = some ⟨oc_bottoms, od_bottoms, .func (PySem.W.fnOf "bottoms" "bottoms" (defArgs (top 18)) (defBody (top 18)) (defScope (top 18)) .none kV_bottoms dc_bottoms pm_bottoms an_bottoms cd_bottoms ct_bottoms), sl_bottoms⟩)
    (c_bottoms : PySem.W.codeIn K cd_bottoms "bottoms" = true)
    (k_bottoms : PySem.W.keepIn K (.ref f_bottoms) = true)
    (a_span_in : PySem.W.nsIn K mainGlobals "span_in" = some (some (.ref f_span_in)))
    (l_span_in : K.lookup f_span_in = some ⟨oc_span_in, od_span_in, .func (PySem.W.fnOf "span_in" "span_in" (defArgs (top 19)) (defBody (top 19)) (defScope (top 19)) .none kV_span_in dc_span_in pm_span_in an_span_in cd_span_in ct_span_in), sl_span_in⟩)
    (c_span_in : PySem.W.codeIn K cd_span_in "span_in" = true)
    (k_span_in : PySem.W.keepIn K (.ref f_span_in) = true)
    (a_times : PySem.W.nsIn K mainGlobals "times" = some (some (.ref f_times)))
    (l_times : K.lookup f_times = some ⟨oc_times, od_times, .func (PySem.W.fnOf "times" "times" (defArgs (top 20)) (defBody (top 20)) (defScope (top 20)) .none kV_times dc_times pm_times an_times cd_times ct_times), sl_times⟩)
    (c_times : PySem.W.codeIn K cd_times "times" = true)
    (k_times : PySem.W.keepIn K (.ref f_times) = true)
    (a_without : PySem.W.nsIn K mainGlobals "without" = some (some (.ref f_without)))
    (l_without : K.lookup f_without = some ⟨oc_without, od_without, .func (PySem.W.fnOf "without" "without" (defArgs (top 21)) (defBody (top 21)) (defScope (top 21)) .none kV_without dc_without pm_without an_without cd_without ct_without), sl_without⟩)
    (c_without : PySem.W.codeIn K cd_without "without" = true)
    (k_without : PySem.W.keepIn K (.ref f_without) = true)
    (a_factor_of : PySem.W.nsIn K mainGlobals "factor_of" = some (some (.ref f_factor_of)))
    (l_factor_of : K.lookup f_factor_of = some ⟨oc_factor_of, od_factor_of, .func (PySem.W.fnOf "factor_of" "factor_of" (defArgs (top 22)) (defBody (top 22)) (defScope (top 22)) .none kV_factor_of dc_factor_of pm_factor_of an_factor_of cd_factor_of ct_factor_of), sl_factor_of⟩)
    (c_factor_of : PySem.W.codeIn K cd_factor_of "factor_of" = true)
    (k_factor_of : PySem.W.keepIn K (.ref f_factor_of) = true)
    (a_weights_in : PySem.W.nsIn K mainGlobals "weights_in" = some (some (.ref f_weights_in)))
    (l_weights_in : K.lookup f_weights_in = some ⟨oc_weights_in, od_weights_in, .func (PySem.W.fnOf "weights_in" "weights_in" (defArgs (top 23)) (defBody (top 23)) (defScope (top 23)) .none kV_weights_in dc_weights_in pm_weights_in an_weights_in cd_weights_in ct_weights_in), sl_weights_in⟩)
    (c_weights_in : PySem.W.codeIn K cd_weights_in "weights_in" = true)
    (k_weights_in : PySem.W.keepIn K (.ref f_weights_in) = true)
    (a_span : PySem.W.nsIn K mainGlobals "span" = some (some (.ref f_span)))
    (l_span : K.lookup f_span = some ⟨oc_span, od_span, .func (PySem.W.fnOf "span" "span" (defArgs (top 24)) (defBody (top 24)) (defScope (top 24)) .none kV_span dc_span pm_span an_span cd_span ct_span), sl_span⟩)
    (c_span : PySem.W.codeIn K cd_span "span" = true)
    (k_span : PySem.W.keepIn K (.ref f_span) = true)
    (a_weights : PySem.W.nsIn K mainGlobals "weights" = some (some (.ref f_weights)))
    (l_weights : K.lookup f_weights = some ⟨oc_weights, od_weights, .func (PySem.W.fnOf "weights" "weights" (defArgs (top 25)) (defBody (top 25)) (defScope (top 25)) .none kV_weights dc_weights pm_weights an_weights cd_weights ct_weights), sl_weights⟩)
    (c_weights : PySem.W.codeIn K cd_weights "weights" = true)
    (k_weights : PySem.W.keepIn K (.ref f_weights) = true)
    (a_carried_in : PySem.W.nsIn K mainGlobals "carried_in" = some (some (.ref f_carried_in)))
    (l_carried_in : K.lookup f_carried_in = some ⟨oc_carried_in, od_carried_in, .func (PySem.W.fnOf "carried_in" "carried_in" (defArgs (top 26)) (defBody (top 26)) (defScope (top 26)) .none kV_carried_in dc_carried_in pm_carried_in an_carried_in cd_carried_in ct_carried_in), sl_carried_in⟩)
    (c_carried_in : PySem.W.codeIn K cd_carried_in "carried_in" = true)
    (k_carried_in : PySem.W.keepIn K (.ref f_carried_in) = true)
    (a_carried : PySem.W.nsIn K mainGlobals "carried" = some (some (.ref f_carried)))
    (l_carried : K.lookup f_carried = some ⟨oc_carried, od_carried, .func (PySem.W.fnOf "carried" "carried" (defArgs (top 27)) (defBody (top 27)) (defScope (top 27)) .none kV_carried dc_carried pm_carried an_carried cd_carried ct_carried), sl_carried⟩)
    (c_carried : PySem.W.codeIn K cd_carried "carried" = true)
    (k_carried : PySem.W.keepIn K (.ref f_carried) = true)
    (a_need_small : PySem.W.nsIn K mainGlobals "need_small" = some (some (.ref f_need_small)))
    (l_need_small : K.lookup f_need_small = some ⟨oc_need_small, od_need_small, .func (PySem.W.fnOf "need_small" "need_small" (defArgs (top 32)) (defBody (top 32)) (defScope (top 32)) .none kV_need_small dc_need_small pm_need_small an_need_small cd_need_small ct_need_small), sl_need_small⟩)
    (c_need_small : PySem.W.codeIn K cd_need_small "need_small" = true)
    (k_need_small : PySem.W.keepIn K (.ref f_need_small) = true)
    (a_need_numbers : PySem.W.nsIn K mainGlobals "need_numbers" = some (some (.ref f_need_numbers)))
    (l_need_numbers : K.lookup f_need_numbers = some ⟨oc_need_numbers, od_need_numbers, .func (PySem.W.fnOf "need_numbers" "need_numbers" (defArgs (top 33)) (defBody (top 33)) (defScope (top 33)) .none kV_need_numbers dc_need_numbers pm_need_numbers an_need_numbers cd_need_numbers ct_need_numbers), sl_need_numbers⟩)
    (c_need_numbers : PySem.W.codeIn K cd_need_numbers "need_numbers" = true)
    (k_need_numbers : PySem.W.keepIn K (.ref f_need_numbers) = true)
    (a_reduced : PySem.W.nsIn K mainGlobals "reduced" = some (some (.ref f_reduced)))
    (l_reduced : K.lookup f_reduced = some ⟨oc_reduced, od_reduced, .func (PySem.W.fnOf "reduced" "reduced" (defArgs (top 34)) (defBody (top 34)) (defScope (top 34)) .none kV_reduced dc_reduced pm_reduced an_reduced cd_reduced ct_reduced), sl_reduced⟩)
    (c_reduced : PySem.W.codeIn K cd_reduced "reduced" = true)
    (k_reduced : PySem.W.keepIn K (.ref f_reduced) = true)
    (a_loops_like : PySem.W.nsIn K mainGlobals "loops_like" = some (some (.ref f_loops_like)))
    (l_loops_like : K.lookup f_loops_like = some ⟨oc_loops_like, od_loops_like, .func (PySem.W.fnOf "loops_like" "loops_like" (defArgs (top 35)) (defBody (top 35)) (defScope (top 35)) .none kV_loops_like dc_loops_like pm_loops_like an_loops_like cd_loops_like ct_loops_like), sl_loops_like⟩)
    (c_loops_like : PySem.W.codeIn K cd_loops_like "loops_like" = true)
    (k_loops_like : PySem.W.keepIn K (.ref f_loops_like) = true)
    (a_fit : PySem.W.nsIn K mainGlobals "fit" = some (some (.ref f_fit)))
    (l_fit : K.lookup f_fit = some ⟨oc_fit, od_fit, .func (PySem.W.fnOf "fit" "fit" (defArgs (top 36)) (defBody (top 36)) (defScope (top 36)) .none kV_fit dc_fit pm_fit an_fit cd_fit ct_fit), sl_fit⟩)
    (c_fit : PySem.W.codeIn K cd_fit "fit" = true)
    (k_fit : PySem.W.keepIn K (.ref f_fit) = true)
    (a_is_ground : PySem.W.nsIn K mainGlobals "is_ground" = some (some (.ref f_is_ground)))
    (l_is_ground : K.lookup f_is_ground = some ⟨oc_is_ground, od_is_ground, .func (PySem.W.fnOf "is_ground" "is_ground" (defArgs (top 37)) (defBody (top 37)) (defScope (top 37)) .none kV_is_ground dc_is_ground pm_is_ground an_is_ground cd_is_ground ct_is_ground), sl_is_ground⟩)
    (c_is_ground : PySem.W.codeIn K cd_is_ground "is_ground" = true)
    (k_is_ground : PySem.W.keepIn K (.ref f_is_ground) = true)
    (a_check_fit : PySem.W.nsIn K mainGlobals "check_fit" = some (some (.ref f_check_fit)))
    (l_check_fit : K.lookup f_check_fit = some ⟨oc_check_fit, od_check_fit, .func (PySem.W.fnOf "check_fit" "check_fit" (defArgs (top 38)) (defBody (top 38)) (defScope (top 38)) .none kV_check_fit dc_check_fit pm_check_fit an_check_fit cd_check_fit ct_check_fit), sl_check_fit⟩)
    (c_check_fit : PySem.W.codeIn K cd_check_fit "check_fit" = true)
    (k_check_fit : PySem.W.keepIn K (.ref f_check_fit) = true)
    (a_deceiver : PySem.W.nsIn K mainGlobals "deceiver" = some (some (.ref f_deceiver)))
    (l_deceiver : K.lookup f_deceiver = some ⟨oc_deceiver, od_deceiver, .func (PySem.W.fnOf "deceiver" "deceiver" (defArgs (top 39)) (defBody (top 39)) (defScope (top 39)) .none kV_deceiver dc_deceiver pm_deceiver an_deceiver cd_deceiver ct_deceiver), sl_deceiver⟩)
    (c_deceiver : PySem.W.codeIn K cd_deceiver "deceiver" = true)
    (k_deceiver : PySem.W.keepIn K (.ref f_deceiver) = true)
    (a_need_places : PySem.W.nsIn K mainGlobals "need_places" = some (some (.ref f_need_places)))
    (l_need_places : K.lookup f_need_places = some ⟨oc_need_places, od_need_places, .func (PySem.W.fnOf "need_places" "need_places" (defArgs (top 41)) (defBody (top 41)) (defScope (top 41)) .none kV_need_places dc_need_places pm_need_places an_need_places cd_need_places ct_need_places), sl_need_places⟩)
    (c_need_places : PySem.W.codeIn K cd_need_places "need_places" = true)
    (k_need_places : PySem.W.keepIn K (.ref f_need_places) = true)
    (a_never_meet : PySem.W.nsIn K mainGlobals "never_meet" = some (some (.ref f_never_meet)))
    (l_never_meet : K.lookup f_never_meet = some ⟨oc_never_meet, od_never_meet, .func (PySem.W.fnOf "never_meet" "never_meet" (defArgs (top 42)) (defBody (top 42)) (defScope (top 42)) .none kV_never_meet dc_never_meet pm_never_meet an_never_meet cd_never_meet ct_never_meet), sl_never_meet⟩)
    (c_never_meet : PySem.W.codeIn K cd_never_meet "never_meet" = true)
    (k_never_meet : PySem.W.keepIn K (.ref f_never_meet) = true)
    (a_meeting : PySem.W.nsIn K mainGlobals "meeting" = some (some (.ref f_meeting)))
    (l_meeting : K.lookup f_meeting = some ⟨oc_meeting, od_meeting, .func (PySem.W.fnOf "meeting" "meeting" (defArgs (top 43)) (defBody (top 43)) (defScope (top 43)) .none kV_meeting dc_meeting pm_meeting an_meeting cd_meeting ct_meeting), sl_meeting⟩)
    (c_meeting : PySem.W.codeIn K cd_meeting "meeting" = true)
    (k_meeting : PySem.W.keepIn K (.ref f_meeting) = true)
    (a_check_meeting : PySem.W.nsIn K mainGlobals "check_meeting" = some (some (.ref f_check_meeting)))
    (l_check_meeting : K.lookup f_check_meeting = some ⟨oc_check_meeting, od_check_meeting, .func (PySem.W.fnOf "check_meeting" "check_meeting" (defArgs (top 44)) (defBody (top 44)) (defScope (top 44)) .none kV_check_meeting dc_check_meeting pm_check_meeting an_check_meeting cd_check_meeting ct_check_meeting), sl_check_meeting⟩)
    (c_check_meeting : PySem.W.codeIn K cd_check_meeting "check_meeting" = true)
    (k_check_meeting : PySem.W.keepIn K (.ref f_check_meeting) = true)
    (a__law_begun : PySem.W.nsIn K mainGlobals "_law_begun" = some (some (.ref f__law_begun)))
    (l__law_begun : K.lookup f__law_begun = some ⟨oc__law_begun, od__law_begun, .func (PySem.W.fnOf "_law_begun" "_law_begun" (defArgs s_begun) (defBody s_begun) (defScope s_begun) .none kV__law_begun dc__law_begun pm__law_begun an__law_begun cd__law_begun ct__law_begun), sl__law_begun⟩)
    (c__law_begun : PySem.W.codeIn K cd__law_begun "_law_begun" = true)
    (k__law_begun : PySem.W.keepIn K (.ref f__law_begun) = true)
    (a__law_next : PySem.W.nsIn K mainGlobals "_law_next" = some (some (.ref f__law_next)))
    (l__law_next : K.lookup f__law_next = some ⟨oc__law_next, od__law_next, .func (PySem.W.fnOf "_law_next" "_law_next" (defArgs s_next) (defBody s_next) (defScope s_next) .none kV__law_next dc__law_next pm__law_next an__law_next cd__law_next ct__law_next), sl__law_next⟩)
    (c__law_next : PySem.W.codeIn K cd__law_next "_law_next" = true)
    (k__law_next : PySem.W.keepIn K (.ref f__law_next) = true)
    (a__law_lengths : PySem.W.nsIn K mainGlobals "_law_lengths" = some (some (.ref f__law_lengths)))
    (l__law_lengths : K.lookup f__law_lengths = some ⟨oc__law_lengths, od__law_lengths, .func (PySem.W.fnOf "_law_lengths" "_law_lengths" (defArgs (top 48)) (defBody (top 48)) (defScope (top 48)) .none kV__law_lengths dc__law_lengths pm__law_lengths an__law_lengths cd__law_lengths ct__law_lengths), sl__law_lengths⟩)
    (c__law_lengths : PySem.W.codeIn K cd__law_lengths "_law_lengths" = true)
    (k__law_lengths : PySem.W.keepIn K (.ref f__law_lengths) = true)
    (a__law_is_whole : PySem.W.nsIn K mainGlobals "_law_is_whole" = some (some (.ref f__law_is_whole)))
    (l__law_is_whole : K.lookup f__law_is_whole = some ⟨oc__law_is_whole, od__law_is_whole, .func (PySem.W.fnOf "_law_is_whole" "_law_is_whole" (defArgs (top 49)) (defBody (top 49)) (defScope (top 49)) .none kV__law_is_whole dc__law_is_whole pm__law_is_whole an__law_is_whole cd__law_is_whole ct__law_is_whole), sl__law_is_whole⟩)
    (c__law_is_whole : PySem.W.codeIn K cd__law_is_whole "_law_is_whole" = true)
    (k__law_is_whole : PySem.W.keepIn K (.ref f__law_is_whole) = true)
    (a__law_outcome : PySem.W.nsIn K mainGlobals "_law_outcome" = some (some (.ref f__law_outcome)))
    (l__law_outcome : K.lookup f__law_outcome = some ⟨oc__law_outcome, od__law_outcome, .func (PySem.W.fnOf "_law_outcome" "_law_outcome" (defArgs (top 50)) (defBody (top 50)) (defScope (top 50)) .none kV__law_outcome dc__law_outcome pm__law_outcome an__law_outcome cd__law_outcome ct__law_outcome), sl__law_outcome⟩)
    (c__law_outcome : PySem.W.codeIn K cd__law_outcome "_law_outcome" = true)
    (k__law_outcome : PySem.W.keepIn K (.ref f__law_outcome) = true)
    (a__law_fault : PySem.W.nsIn K mainGlobals "_law_fault" = some (some (.ref f__law_fault)))
    (l__law_fault : K.lookup f__law_fault = some ⟨oc__law_fault, od__law_fault, .func (PySem.W.fnOf "_law_fault" "_law_fault" (defArgs (top 51)) (defBody (top 51)) (defScope (top 51)) .none kV__law_fault dc__law_fault pm__law_fault an__law_fault cd__law_fault ct__law_fault), sl__law_fault⟩)
    (c__law_fault : PySem.W.codeIn K cd__law_fault "_law_fault" = true)
    (k__law_fault : PySem.W.keepIn K (.ref f__law_fault) = true)
    (a_law : PySem.W.nsIn K mainGlobals "law" = some (some (.ref f_law)))
    (l_law : K.lookup f_law = some ⟨oc_law, od_law, .func (PySem.W.fnOf "law" "law" (defArgs (top 52)) (defBody (top 52)) (defScope (top 52)) .none kV_law dc_law pm_law an_law cd_law ct_law), sl_law⟩)
    (c_law : PySem.W.codeIn K cd_law "law" = true)
    (k_law : PySem.W.keepIn K (.ref f_law) = true)
    (z_all : PySem.W.nsIn K mainGlobals "all" = some none)
    (z_any : PySem.W.nsIn K mainGlobals "any" = some none)
    (z_bool : PySem.W.nsIn K mainGlobals "bool" = some none)
    (z_enumerate : PySem.W.nsIn K mainGlobals "enumerate" = some none)
    (z_int : PySem.W.nsIn K mainGlobals "int" = some none)
    (z_isinstance : PySem.W.nsIn K mainGlobals "isinstance" = some none)
    (z_len : PySem.W.nsIn K mainGlobals "len" = some none)
    (z_list : PySem.W.nsIn K mainGlobals "list" = some none)
    (z_min : PySem.W.nsIn K mainGlobals "min" = some none)
    (z_range : PySem.W.nsIn K mainGlobals "range" = some none)
    (z_repr : PySem.W.nsIn K mainGlobals "repr" = some none)
    (z_reversed : PySem.W.nsIn K mainGlobals "reversed" = some none)
    (z_sorted : PySem.W.nsIn K mainGlobals "sorted" = some none)
    (z_str : PySem.W.nsIn K mainGlobals "str" = some none)
    (z_sum : PySem.W.nsIn K mainGlobals "sum" = some none)
    (z_tuple : PySem.W.nsIn K mainGlobals "tuple" = some none)
    (z_zip : PySem.W.nsIn K mainGlobals "zip" = some none)
    (v_LONGEST_FITTED : PySem.W.nsIn K mainGlobals "LONGEST_FITTED" = some (some (.int 24 t_LONGEST_FITTED)))
    (v_LONGEST_ROW : PySem.W.nsIn K mainGlobals "LONGEST_ROW" = some (some (.int 200 t_LONGEST_ROW)))
    (v_MOST_FITTED : PySem.W.nsIn K mainGlobals "MOST_FITTED" = some (some (.int 4 t_MOST_FITTED)))
    (v_MOST_LENGTH : PySem.W.nsIn K mainGlobals "MOST_LENGTH" = some (some (.int 64 t_MOST_LENGTH)))
    (v_MOST_LOOPS : PySem.W.nsIn K mainGlobals "MOST_LOOPS" = some (some (.int 6 t_MOST_LOOPS)))
    (v_MOST_MANY : PySem.W.nsIn K mainGlobals "MOST_MANY" = some (some (.int 1000 t_MOST_MANY)))
    (a_BadLengths : PySem.W.nsIn K mainGlobals "BadLengths" = some (some (.ref C_BadLengths)))
    (o_BadLengths : K.lookup C_BadLengths = some (excClassObj nm_BadLengths q_BadLengths C_BadLengths N_BadLengths bs_BadLengths [.type "ValueError", .type "Exception", .type "BaseException", .type "object"] true sn_BadLengths sub_BadLengths ab_BadLengths col_BadLengths dd_BadLengths m0_BadLengths m1_BadLengths m2_BadLengths m3_BadLengths m5_BadLengths "ValueError.__new__"))
    (sa_BadLengths : PySem.W.findIn K (.ref C_BadLengths) "__setattr__" = some (some (.builtin "object.__setattr__")))
    (ga_BadLengths : PySem.W.findIn K (.ref C_BadLengths) "__getattribute__" = some (some (.builtin "BaseException.__getattribute__")))
    (gg_BadLengths : PySem.W.findIn K (.ref C_BadLengths) "__getattr__" = some none)
    (no_BadLengths : PySem.W.findIn K (.ref C_BadLengths) "place" = some none)
    (in_BadLengths : PySem.W.findIn K (.ref C_BadLengths) "__init__" = some (some (.ref i_BadLengths)))
    (ti_BadLengths : PySem.W.typeIn K (.ref i_BadLengths) = some (.type "function"))
    (l_BadLengths : K.lookup i_BadLengths = some ⟨oc_BadLengths, od_BadLengths, .func (PySem.W.fnOf "__init__" "BadLengths.__init__" (defArgs (initOf (top 1))) (defBody (initOf (top 1))) (defScope (initOf (top 1))) .none kV_BadLengths dc_BadLengths pm_BadLengths an_BadLengths cd_BadLengths ct_BadLengths), sl_BadLengths⟩)
    (c_BadLengths : PySem.W.codeIn K cd_BadLengths "BadLengths.__init__" = true)
    (k_BadLengths : PySem.W.keepIn K (.ref i_BadLengths) = true)
    (kc_BadLengths : PySem.W.keepIn K (.ref C_BadLengths) = true)
    (ex_BadLengths : PySem.W.subIn K (.ref C_BadLengths) (.type "BaseException") = some true)
    (ty_BadLengths : PySem.W.typeIn K (.ref C_BadLengths) = some (.type "type"))
    (hd_BadLengths : PySem.W.hasDictIn K C_BadLengths = true)
    (a_BadPaper : PySem.W.nsIn K mainGlobals "BadPaper" = some (some (.ref C_BadPaper)))
    (o_BadPaper : K.lookup C_BadPaper = some (excClassObj nm_BadPaper q_BadPaper C_BadPaper N_BadPaper bs_BadPaper [.type "ValueError", .type "Exception", .type "BaseException", .type "object"] true sn_BadPaper sub_BadPaper ab_BadPaper col_BadPaper dd_BadPaper m0_BadPaper m1_BadPaper m2_BadPaper m3_BadPaper m5_BadPaper "ValueError.__new__"))
    (sa_BadPaper : PySem.W.findIn K (.ref C_BadPaper) "__setattr__" = some (some (.builtin "object.__setattr__")))
    (ga_BadPaper : PySem.W.findIn K (.ref C_BadPaper) "__getattribute__" = some (some (.builtin "BaseException.__getattribute__")))
    (gg_BadPaper : PySem.W.findIn K (.ref C_BadPaper) "__getattr__" = some none)
    (no_BadPaper : PySem.W.findIn K (.ref C_BadPaper) "part" = some none)
    (in_BadPaper : PySem.W.findIn K (.ref C_BadPaper) "__init__" = some (some (.ref i_BadPaper)))
    (ti_BadPaper : PySem.W.typeIn K (.ref i_BadPaper) = some (.type "function"))
    (l_BadPaper : K.lookup i_BadPaper = some ⟨oc_BadPaper, od_BadPaper, .func (PySem.W.fnOf "__init__" "BadPaper.__init__" (defArgs (initOf (top 2))) (defBody (initOf (top 2))) (defScope (initOf (top 2))) .none kV_BadPaper dc_BadPaper pm_BadPaper an_BadPaper cd_BadPaper ct_BadPaper), sl_BadPaper⟩)
    (c_BadPaper : PySem.W.codeIn K cd_BadPaper "BadPaper.__init__" = true)
    (k_BadPaper : PySem.W.keepIn K (.ref i_BadPaper) = true)
    (kc_BadPaper : PySem.W.keepIn K (.ref C_BadPaper) = true)
    (ex_BadPaper : PySem.W.subIn K (.ref C_BadPaper) (.type "BaseException") = some true)
    (ty_BadPaper : PySem.W.typeIn K (.ref C_BadPaper) = some (.type "type"))
    (hd_BadPaper : PySem.W.hasDictIn K C_BadPaper = true)
    (a_OutOfPlace : PySem.W.nsIn K mainGlobals "OutOfPlace" = some (some (.ref C_OutOfPlace)))
    (o_OutOfPlace : K.lookup C_OutOfPlace = some (excClassObj nm_OutOfPlace q_OutOfPlace C_OutOfPlace N_OutOfPlace bs_OutOfPlace [.type "ValueError", .type "Exception", .type "BaseException", .type "object"] true sn_OutOfPlace sub_OutOfPlace ab_OutOfPlace col_OutOfPlace dd_OutOfPlace m0_OutOfPlace m1_OutOfPlace m2_OutOfPlace m3_OutOfPlace m5_OutOfPlace "ValueError.__new__"))
    (sa_OutOfPlace : PySem.W.findIn K (.ref C_OutOfPlace) "__setattr__" = some (some (.builtin "object.__setattr__")))
    (ga_OutOfPlace : PySem.W.findIn K (.ref C_OutOfPlace) "__getattribute__" = some (some (.builtin "BaseException.__getattribute__")))
    (gg_OutOfPlace : PySem.W.findIn K (.ref C_OutOfPlace) "__getattr__" = some none)
    (no_OutOfPlace : PySem.W.findIn K (.ref C_OutOfPlace) "text" = some none)
    (in_OutOfPlace : PySem.W.findIn K (.ref C_OutOfPlace) "__init__" = some (some (.ref i_OutOfPlace)))
    (ti_OutOfPlace : PySem.W.typeIn K (.ref i_OutOfPlace) = some (.type "function"))
    (l_OutOfPlace : K.lookup i_OutOfPlace = some ⟨oc_OutOfPlace, od_OutOfPlace, .func (PySem.W.fnOf "__init__" "OutOfPlace.__init__" (defArgs (initOf (top 3))) (defBody (initOf (top 3))) (defScope (initOf (top 3))) .none kV_OutOfPlace dc_OutOfPlace pm_OutOfPlace an_OutOfPlace cd_OutOfPlace ct_OutOfPlace), sl_OutOfPlace⟩)
    (c_OutOfPlace : PySem.W.codeIn K cd_OutOfPlace "OutOfPlace.__init__" = true)
    (k_OutOfPlace : PySem.W.keepIn K (.ref i_OutOfPlace) = true)
    (kc_OutOfPlace : PySem.W.keepIn K (.ref C_OutOfPlace) = true)
    (ex_OutOfPlace : PySem.W.subIn K (.ref C_OutOfPlace) (.type "BaseException") = some true)
    (ty_OutOfPlace : PySem.W.typeIn K (.ref C_OutOfPlace) = some (.type "type"))
    (hd_OutOfPlace : PySem.W.hasDictIn K C_OutOfPlace = true)
    (s_BadLengths_BadLengths : PySem.W.subIn K (.ref C_BadLengths) (.ref C_BadLengths) = some true)
    (s_BadPaper_BadLengths : PySem.W.subIn K (.ref C_BadPaper) (.ref C_BadLengths) = some false)
    (s_OutOfPlace_BadLengths : PySem.W.subIn K (.ref C_OutOfPlace) (.ref C_BadLengths) = some false) :
    ∃ T : Prog w K mg, T.f_law = fa ∧ TOld T.cs K h := by
  have e : f_law = fa := by
    have z := hfa.symm.trans (PySem.W.mg_of X G a_law)
    cases z
    rfl
  exact ⟨{
    f_is_whole := f_is_whole, fd_is_whole := _, h_is_whole := ⟨fun_mk (st := (top 9)) l_is_whole c_is_whole k_is_whole, PySem.W.mg_of X G a_is_whole, (fun_mk (st := (top 9)) l_is_whole c_is_whole k_is_whole).binds (fun _ _ _ _ _ _ us hl => match us, hl with | [_, _, _], _ => rfl)⟩,
    f_is_number := f_is_number, fd_is_number := _, h_is_number := ⟨fun_mk (st := (top 10)) l_is_number c_is_number k_is_number, PySem.W.mg_of X G a_is_number, (fun_mk (st := (top 10)) l_is_number c_is_number k_is_number).binds (fun _ _ _ _ _ _ us hl => match us, hl with | [_], _ => rfl)⟩,
    f_loops_fault := f_loops_fault, fd_loops_fault := _, h_loops_fault := ⟨fun_mk (st := (top 11)) l_loops_fault c_loops_fault k_loops_fault, PySem.W.mg_of X G a_loops_fault, (fun_mk (st := (top 11)) l_loops_fault c_loops_fault k_loops_fault).binds (fun _ _ _ _ _ _ us hl => match us, hl with | [_], _ => rfl)⟩,
    f_need_whole := f_need_whole, fd_need_whole := _, h_need_whole := ⟨fun_mk (st := (top 12)) l_need_whole c_need_whole k_need_whole, PySem.W.mg_of X G a_need_whole, (fun_mk (st := (top 12)) l_need_whole c_need_whole k_need_whole).binds (fun _ _ _ _ _ _ us hl => match us, hl with | [_, _, _], _ => rfl)⟩,
    f_lengths_in := f_lengths_in, fd_lengths_in := _, h_lengths_in := ⟨fun_mk (st := (top 13)) l_lengths_in c_lengths_in k_lengths_in, PySem.W.mg_of X G a_lengths_in, (fun_mk (st := (top 13)) l_lengths_in c_lengths_in k_lengths_in).binds (fun _ _ _ _ _ _ us hl => match us, hl with | [_], _ => rfl)⟩,
    f_heard_in := f_heard_in, fd_heard_in := _, h_heard_in := ⟨fun_mk (st := (top 14)) l_heard_in c_heard_in k_heard_in, PySem.W.mg_of X G a_heard_in, (fun_mk (st := (top 14)) l_heard_in c_heard_in k_heard_in).binds (fun _ _ _ _ _ _ us hl => match us, hl with | [_, _], _ => rfl)⟩,
    f_need_lengths := f_need_lengths, fd_need_lengths := _, h_need_lengths := ⟨fun_mk (st := (top 16)) l_need_lengths c_need_lengths k_need_lengths, PySem.W.mg_of X G a_need_lengths, (fun_mk (st := (top 16)) l_need_lengths c_need_lengths k_need_lengths).binds (fun _ _ _ _ _ _ us hl => match us, hl with | [_], _ => rfl)⟩,
    f_common := f_common, fd_common := _, h_common := ⟨fun_mk (st := (top 17)) l_common c_common k_common, PySem.W.mg_of X G a_common, (fun_mk (st := (top 17)) l_common c_common k_common).binds (fun _ _ _ _ _ _ us hl => match us, hl with | [_, _], _ => rfl)⟩,
    f_bottoms := f_bottoms, fd_bottoms := _, h_bottoms := ⟨fun_mk (st := (top 18)) l_bottoms c_bottoms k_bottoms, PySem.W.mg_of X G a_bottoms, (fun_mk (st := (top 18)) l_bottoms c_bottoms k_bottoms).binds (fun _ _ _ _ _ _ us hl => match us, hl with | [_], _ => rfl)⟩,
    f_span_in := f_span_in, fd_span_in := _, h_span_in := ⟨fun_mk (st := (top 19)) l_span_in c_span_in k_span_in, PySem.W.mg_of X G a_span_in, (fun_mk (st := (top 19)) l_span_in c_span_in k_span_in).binds (fun _ _ _ _ _ _ us hl => match us, hl with | [_], _ => rfl)⟩,
    f_times := f_times, fd_times := _, h_times := ⟨fun_mk (st := (top 20)) l_times c_times k_times, PySem.W.mg_of X G a_times, (fun_mk (st := (top 20)) l_times c_times k_times).binds (fun _ _ _ _ _ _ us hl => match us, hl with | [_, _], _ => rfl)⟩,
    f_without := f_without, fd_without := _, h_without := ⟨fun_mk (st := (top 21)) l_without c_without k_without, PySem.W.mg_of X G a_without, (fun_mk (st := (top 21)) l_without c_without k_without).binds (fun _ _ _ _ _ _ us hl => match us, hl with | [_, _], _ => rfl)⟩,
    f_factor_of := f_factor_of, fd_factor_of := _, h_factor_of := ⟨fun_mk (st := (top 22)) l_factor_of c_factor_of k_factor_of, PySem.W.mg_of X G a_factor_of, (fun_mk (st := (top 22)) l_factor_of c_factor_of k_factor_of).binds (fun _ _ _ _ _ _ us hl => match us, hl with | [_, _], _ => rfl)⟩,
    f_weights_in := f_weights_in, fd_weights_in := _, h_weights_in := ⟨fun_mk (st := (top 23)) l_weights_in c_weights_in k_weights_in, PySem.W.mg_of X G a_weights_in, (fun_mk (st := (top 23)) l_weights_in c_weights_in k_weights_in).binds (fun _ _ _ _ _ _ us hl => match us, hl with | [_], _ => rfl)⟩,
    f_span := f_span, fd_span := _, h_span := ⟨fun_mk (st := (top 24)) l_span c_span k_span, PySem.W.mg_of X G a_span, (fun_mk (st := (top 24)) l_span c_span k_span).binds (fun _ _ _ _ _ _ us hl => match us, hl with | [_], _ => rfl)⟩,
    f_weights := f_weights, fd_weights := _, h_weights := ⟨fun_mk (st := (top 25)) l_weights c_weights k_weights, PySem.W.mg_of X G a_weights, (fun_mk (st := (top 25)) l_weights c_weights k_weights).binds (fun _ _ _ _ _ _ us hl => match us, hl with | [_], _ => rfl)⟩,
    f_carried_in := f_carried_in, fd_carried_in := _, h_carried_in := ⟨fun_mk (st := (top 26)) l_carried_in c_carried_in k_carried_in, PySem.W.mg_of X G a_carried_in, (fun_mk (st := (top 26)) l_carried_in c_carried_in k_carried_in).binds (fun _ _ _ _ _ _ us hl => match us, hl with | [_, _, _], _ => rfl)⟩,
    f_carried := f_carried, fd_carried := _, h_carried := ⟨fun_mk (st := (top 27)) l_carried c_carried k_carried, PySem.W.mg_of X G a_carried, (fun_mk (st := (top 27)) l_carried c_carried k_carried).binds (fun _ _ _ _ _ _ us hl => match us, hl with | [_, _, _], _ => rfl)⟩,
    f_need_small := f_need_small, fd_need_small := _, h_need_small := ⟨fun_mk (st := (top 32)) l_need_small c_need_small k_need_small, PySem.W.mg_of X G a_need_small, (fun_mk (st := (top 32)) l_need_small c_need_small k_need_small).binds (fun _ _ _ _ _ _ us hl => match us, hl with | [_], _ => rfl)⟩,
    f_need_numbers := f_need_numbers, fd_need_numbers := _, h_need_numbers := ⟨fun_mk (st := (top 33)) l_need_numbers c_need_numbers k_need_numbers, PySem.W.mg_of X G a_need_numbers, (fun_mk (st := (top 33)) l_need_numbers c_need_numbers k_need_numbers).binds (fun _ _ _ _ _ _ us hl => match us, hl with | [_], _ => rfl)⟩,
    f_reduced := f_reduced, fd_reduced := _, h_reduced := ⟨fun_mk (st := (top 34)) l_reduced c_reduced k_reduced, PySem.W.mg_of X G a_reduced, (fun_mk (st := (top 34)) l_reduced c_reduced k_reduced).binds (fun _ _ _ _ _ _ us hl => match us, hl with | [_, _], _ => rfl)⟩,
    f_loops_like := f_loops_like, fd_loops_like := _, h_loops_like := ⟨fun_mk (st := (top 35)) l_loops_like c_loops_like k_loops_like, PySem.W.mg_of X G a_loops_like, (fun_mk (st := (top 35)) l_loops_like c_loops_like k_loops_like).binds (fun _ _ _ _ _ _ us hl => match us, hl with | [_, _], _ => rfl)⟩,
    f_fit := f_fit, fd_fit := _, h_fit := ⟨fun_mk (st := (top 36)) l_fit c_fit k_fit, PySem.W.mg_of X G a_fit, (fun_mk (st := (top 36)) l_fit c_fit k_fit).binds (fun _ _ _ _ _ _ us hl => match us, hl with | [_, _], _ => rfl)⟩,
    f_is_ground := f_is_ground, fd_is_ground := _, h_is_ground := ⟨fun_mk (st := (top 37)) l_is_ground c_is_ground k_is_ground, PySem.W.mg_of X G a_is_ground, (fun_mk (st := (top 37)) l_is_ground c_is_ground k_is_ground).binds (fun _ _ _ _ _ _ us hl => match us, hl with | [_, _, _], _ => rfl)⟩,
    f_check_fit := f_check_fit, fd_check_fit := _, h_check_fit := ⟨fun_mk (st := (top 38)) l_check_fit c_check_fit k_check_fit, PySem.W.mg_of X G a_check_fit, (fun_mk (st := (top 38)) l_check_fit c_check_fit k_check_fit).binds (fun _ _ _ _ _ _ us hl => match us, hl with | [_, _, _], _ => rfl)⟩,
    f_deceiver := f_deceiver, fd_deceiver := _, h_deceiver := ⟨fun_mk (st := (top 39)) l_deceiver c_deceiver k_deceiver, PySem.W.mg_of X G a_deceiver, (fun_mk (st := (top 39)) l_deceiver c_deceiver k_deceiver).binds (fun _ _ _ _ _ _ us hl => match us, hl with | [_], _ => rfl)⟩,
    f_need_places := f_need_places, fd_need_places := _, h_need_places := ⟨fun_mk (st := (top 41)) l_need_places c_need_places k_need_places, PySem.W.mg_of X G a_need_places, (fun_mk (st := (top 41)) l_need_places c_need_places k_need_places).binds (fun _ _ _ _ _ _ us hl => match us, hl with | [_, _], _ => rfl)⟩,
    f_never_meet := f_never_meet, fd_never_meet := _, h_never_meet := ⟨fun_mk (st := (top 42)) l_never_meet c_never_meet k_never_meet, PySem.W.mg_of X G a_never_meet, (fun_mk (st := (top 42)) l_never_meet c_never_meet k_never_meet).binds (fun _ _ _ _ _ _ us hl => match us, hl with | [_, _, _, _], _ => rfl)⟩,
    f_meeting := f_meeting, fd_meeting := _, h_meeting := ⟨fun_mk (st := (top 43)) l_meeting c_meeting k_meeting, PySem.W.mg_of X G a_meeting, (fun_mk (st := (top 43)) l_meeting c_meeting k_meeting).binds (fun _ _ _ _ _ _ us hl => match us, hl with | [_, _], _ => rfl)⟩,
    f_check_meeting := f_check_meeting, fd_check_meeting := _, h_check_meeting := ⟨fun_mk (st := (top 44)) l_check_meeting c_check_meeting k_check_meeting, PySem.W.mg_of X G a_check_meeting, (fun_mk (st := (top 44)) l_check_meeting c_check_meeting k_check_meeting).binds (fun _ _ _ _ _ _ us hl => match us, hl with | [_, _, _], _ => rfl)⟩,
    f__law_begun := f__law_begun, fd__law_begun := _, h__law_begun := ⟨fun_mk (st := s_begun) l__law_begun c__law_begun k__law_begun, PySem.W.mg_of X G a__law_begun, (fun_mk (st := s_begun) l__law_begun c__law_begun k__law_begun).binds (fun _ _ _ _ _ _ us hl => match us, hl with | [_], _ => rfl)⟩,
    f__law_next := f__law_next, fd__law_next := _, h__law_next := ⟨fun_mk (st := s_next) l__law_next c__law_next k__law_next, PySem.W.mg_of X G a__law_next, (fun_mk (st := s_next) l__law_next c__law_next k__law_next).binds (fun _ _ _ _ _ _ us hl => match us, hl with | [_, _], _ => rfl)⟩,
    f__law_lengths := f__law_lengths, fd__law_lengths := _, h__law_lengths := ⟨fun_mk (st := (top 48)) l__law_lengths c__law_lengths k__law_lengths, PySem.W.mg_of X G a__law_lengths, (fun_mk (st := (top 48)) l__law_lengths c__law_lengths k__law_lengths).binds (fun _ _ _ _ _ _ us hl => match us, hl with | [_, _, _], _ => rfl)⟩,
    f__law_is_whole := f__law_is_whole, fd__law_is_whole := _, h__law_is_whole := ⟨fun_mk (st := (top 49)) l__law_is_whole c__law_is_whole k__law_is_whole, PySem.W.mg_of X G a__law_is_whole, (fun_mk (st := (top 49)) l__law_is_whole c__law_is_whole k__law_is_whole).binds (fun _ _ _ _ _ _ us hl => match us, hl with | [_, _, _], _ => rfl)⟩,
    f__law_outcome := f__law_outcome, fd__law_outcome := _, h__law_outcome := ⟨fun_mk (st := (top 50)) l__law_outcome c__law_outcome k__law_outcome, PySem.W.mg_of X G a__law_outcome, (fun_mk (st := (top 50)) l__law_outcome c__law_outcome k__law_outcome).binds (fun _ _ _ _ _ _ us hl => match us, hl with | [_, _], _ => rfl)⟩,
    f__law_fault := f__law_fault, fd__law_fault := _, h__law_fault := ⟨fun_mk (st := (top 51)) l__law_fault c__law_fault k__law_fault, PySem.W.mg_of X G a__law_fault, (fun_mk (st := (top 51)) l__law_fault c__law_fault k__law_fault).binds (fun _ _ _ _ _ _ us hl => match us, hl with | [_], _ => rfl)⟩,
    f_law := f_law, fd_law := _, h_law := ⟨fun_mk (st := (top 52)) l_law c_law k_law, PySem.W.mg_of X G a_law, (fun_mk (st := (top 52)) l_law c_law k_law).binds (fun _ _ _ _ _ _ us hl => match us, hl with | [_], _ => rfl)⟩,
    bi_all := PySem.W.mg_none_of X G z_all,
    bi_any := PySem.W.mg_none_of X G z_any,
    bi_bool := PySem.W.mg_none_of X G z_bool,
    bi_enumerate := PySem.W.mg_none_of X G z_enumerate,
    bi_int := PySem.W.mg_none_of X G z_int,
    bi_isinstance := PySem.W.mg_none_of X G z_isinstance,
    bi_len := PySem.W.mg_none_of X G z_len,
    bi_list := PySem.W.mg_none_of X G z_list,
    bi_min := PySem.W.mg_none_of X G z_min,
    bi_range := PySem.W.mg_none_of X G z_range,
    bi_repr := PySem.W.mg_none_of X G z_repr,
    bi_reversed := PySem.W.mg_none_of X G z_reversed,
    bi_sorted := PySem.W.mg_none_of X G z_sorted,
    bi_str := PySem.W.mg_none_of X G z_str,
    bi_sum := PySem.W.mg_none_of X G z_sum,
    bi_tuple := PySem.W.mg_none_of X G z_tuple,
    bi_zip := PySem.W.mg_none_of X G z_zip,
    t_LONGEST_FITTED := t_LONGEST_FITTED, c_LONGEST_FITTED := PySem.W.mg_of X G v_LONGEST_FITTED,
    t_LONGEST_ROW := t_LONGEST_ROW, c_LONGEST_ROW := PySem.W.mg_of X G v_LONGEST_ROW,
    t_MOST_FITTED := t_MOST_FITTED, c_MOST_FITTED := PySem.W.mg_of X G v_MOST_FITTED,
    t_MOST_LENGTH := t_MOST_LENGTH, c_MOST_LENGTH := PySem.W.mg_of X G v_MOST_LENGTH,
    t_MOST_LOOPS := t_MOST_LOOPS, c_MOST_LOOPS := PySem.W.mg_of X G v_MOST_LOOPS,
    t_MOST_MANY := t_MOST_MANY, c_MOST_MANY := PySem.W.mg_of X G v_MOST_MANY,
    a_BadLengths := C_BadLengths, i_BadLengths := i_BadLengths, fi_BadLengths := _, e_BadLengths := ⟨PySem.W.mg_of X G a_BadLengths, ⟨⟨_, _, _, _, _, _, _, _, _, _, _, _, _, _, _, o_BadLengths, by decide +kernel⟩, sa_BadLengths, ex_BadLengths, ty_BadLengths, kc_BadLengths⟩, ⟨ga_BadLengths, gg_BadLengths, ex_BadLengths, hd_BadLengths⟩, in_BadLengths, ti_BadLengths, fun_mk (st := (initOf (top 1))) l_BadLengths c_BadLengths k_BadLengths, (fun_mk (st := (initOf (top 1))) l_BadLengths c_BadLengths k_BadLengths).binds (fun _ _ _ _ _ _ us hl => match us, hl with | [_, _], _ => rfl), no_BadLengths⟩,
    a_BadPaper := C_BadPaper, i_BadPaper := i_BadPaper, fi_BadPaper := _, e_BadPaper := ⟨PySem.W.mg_of X G a_BadPaper, ⟨⟨_, _, _, _, _, _, _, _, _, _, _, _, _, _, _, o_BadPaper, by decide +kernel⟩, sa_BadPaper, ex_BadPaper, ty_BadPaper, kc_BadPaper⟩, ⟨ga_BadPaper, gg_BadPaper, ex_BadPaper, hd_BadPaper⟩, in_BadPaper, ti_BadPaper, fun_mk (st := (initOf (top 2))) l_BadPaper c_BadPaper k_BadPaper, (fun_mk (st := (initOf (top 2))) l_BadPaper c_BadPaper k_BadPaper).binds (fun _ _ _ _ _ _ us hl => match us, hl with | [_, _], _ => rfl), no_BadPaper⟩,
    a_OutOfPlace := C_OutOfPlace, i_OutOfPlace := i_OutOfPlace, fi_OutOfPlace := _, e_OutOfPlace := ⟨PySem.W.mg_of X G a_OutOfPlace, ⟨⟨_, _, _, _, _, _, _, _, _, _, _, _, _, _, _, o_OutOfPlace, by decide +kernel⟩, sa_OutOfPlace, ex_OutOfPlace, ty_OutOfPlace, kc_OutOfPlace⟩, ⟨ga_OutOfPlace, gg_OutOfPlace, ex_OutOfPlace, hd_OutOfPlace⟩, in_OutOfPlace, ti_OutOfPlace, fun_mk (st := (initOf (top 3))) l_OutOfPlace c_OutOfPlace k_OutOfPlace, (fun_mk (st := (initOf (top 3))) l_OutOfPlace c_OutOfPlace k_OutOfPlace).binds (fun _ _ _ _ _ _ us hl => match us, hl with | [_, _], _ => rfl), no_OutOfPlace⟩,
    x_BadLengths_BadLengths := PySem.W.exm_ref ex_BadLengths hd_BadLengths ty_BadLengths s_BadLengths_BadLengths,
    x_BadPaper_BadLengths := PySem.W.exm_ref ex_BadLengths hd_BadLengths ty_BadLengths s_BadPaper_BadLengths,
    x_OutOfPlace_BadLengths := PySem.W.exm_ref ex_BadLengths hd_BadLengths ty_BadLengths s_OutOfPlace_BadLengths,
    bl := fun s u => .of_eq rfl }, ⟨e, TOld.nil⟩⟩
theorem law_of {P : Program} {w : World} {K : PySem.W.Frag} {h : Heap} {mg : Str → Option Value} {fa : Addr} (X : K.In h) : (∃ T : Prog w K mg, T.f_law = fa ∧ TOld T.cs K h) →
    ∃ (fd : FuncData) (cl : Nat → Option (Addr × List Str)) (cs : Tcs), TOld cs K h ∧ (∀ (s : Shared) (u : Value), BindsTo s fd ⟨[u], []⟩ [("script", u)]) ∧ ∀ base : Heap, K.In base → base.Ns mainGlobals mg → (∀ p ∈ cs, LamX.TabB base mg p.1 p.2.1) → FnG (UD K cs.tb cl) P w K mg base 7 fa fd ["script"] F_law_k06 := by
  rintro ⟨T, rfl, TO⟩
  exact ⟨T.fd_law, T.cl, T.cs, TO, T.bl, fun base _ _ B => ok_law T B⟩
end Lw
open PySem PySem.W PyProof.Rows
set_option maxRecDepth 100000 in
set_option maxHeartbeats 0 in
theorem PySem.Challenge.cw_pedalrounds_k06_whole_faults_of_lengths_holds : PySem.Challenge.rw_pedalrounds_k06_whole_faults_of_lengths.Holds := by
  w_on; o_law; k_head; (case hw => w_witness2)
  k_fill
  refine Dl.walk_g (l := PySem.Challenge.rw_pedalrounds_k06_whole_faults_of_lengths) (k := 7) (x := "script") (F := Mr.F_law_k06) rfl rfl ⟨rfl, by decide, by decide⟩ (fun w h Y => PySem.W.km_in_of Y) ?F Mr.law_math_k06
  case F =>
    intro w mg fa h KX G hmg TT
    refine Lw.law_of KX ?_
    refine' Lw.all_mk TT KX G hmg ?a_is_whole ?l_is_whole ?c_is_whole ?k_is_whole ?a_is_number ?l_is_number ?c_is_number ?k_is_number ?a_loops_fault ?l_loops_fault ?c_loops_fault ?k_loops_fault ?a_need_whole ?l_need_whole ?c_need_whole ?k_need_whole ?a_lengths_in ?l_lengths_in ?c_lengths_in ?k_lengths_in ?a_heard_in ?l_heard_in ?c_heard_in ?k_heard_in ?a_need_lengths ?l_need_lengths ?c_need_lengths ?k_need_lengths ?a_common ?l_common ?c_common ?k_common ?a_bottoms ?l_bottoms ?c_bottoms ?k_bottoms ?a_span_in ?l_span_in ?c_span_in ?k_span_in ?a_times ?l_times ?c_times ?k_times ?a_without ?l_without ?c_without ?k_without ?a_factor_of ?l_factor_of ?c_factor_of ?k_factor_of ?a_weights_in ?l_weights_in ?c_weights_in ?k_weights_in ?a_span ?l_span ?c_span ?k_span ?a_weights ?l_weights ?c_weights ?k_weights ?a_carried_in ?l_carried_in ?c_carried_in ?k_carried_in ?a_carried ?l_carried ?c_carried ?k_carried ?a_need_small ?l_need_small ?c_need_small ?k_need_small ?a_need_numbers ?l_need_numbers ?c_need_numbers ?k_need_numbers ?a_reduced ?l_reduced ?c_reduced ?k_reduced ?a_loops_like ?l_loops_like ?c_loops_like ?k_loops_like ?a_fit ?l_fit ?c_fit ?k_fit ?a_is_ground ?l_is_ground ?c_is_ground ?k_is_ground ?a_check_fit ?l_check_fit ?c_check_fit ?k_check_fit ?a_deceiver ?l_deceiver ?c_deceiver ?k_deceiver ?a_need_places ?l_need_places ?c_need_places ?k_need_places ?a_never_meet ?l_never_meet ?c_never_meet ?k_never_meet ?a_meeting ?l_meeting ?c_meeting ?k_meeting ?a_check_meeting ?l_check_meeting ?c_check_meeting ?k_check_meeting ?a__law_begun ?l__law_begun ?c__law_begun ?k__law_begun ?a__law_next ?l__law_next ?c__law_next ?k__law_next ?a__law_lengths ?l__law_lengths ?c__law_lengths ?k__law_lengths ?a__law_is_whole ?l__law_is_whole ?c__law_is_whole ?k__law_is_whole ?a__law_outcome ?l__law_outcome ?c__law_outcome ?k__law_outcome ?a__law_fault ?l__law_fault ?c__law_fault ?k__law_fault ?a_law ?l_law ?c_law ?k_law ?z_all ?z_any ?z_bool ?z_enumerate ?z_int ?z_isinstance ?z_len ?z_list ?z_min ?z_range ?z_repr ?z_reversed ?z_sorted ?z_str ?z_sum ?z_tuple ?z_zip ?v_LONGEST_FITTED ?v_LONGEST_ROW ?v_MOST_FITTED ?v_MOST_LENGTH ?v_MOST_LOOPS ?v_MOST_MANY ?a_BadLengths ?o_BadLengths ?sa_BadLengths ?ga_BadLengths ?gg_BadLengths ?no_BadLengths ?in_BadLengths ?ti_BadLengths ?l_BadLengths ?c_BadLengths ?k_BadLengths ?kc_BadLengths ?ex_BadLengths ?ty_BadLengths ?hd_BadLengths ?a_BadPaper ?o_BadPaper ?sa_BadPaper ?ga_BadPaper ?gg_BadPaper ?no_BadPaper ?in_BadPaper ?ti_BadPaper ?l_BadPaper ?c_BadPaper ?k_BadPaper ?kc_BadPaper ?ex_BadPaper ?ty_BadPaper ?hd_BadPaper ?a_OutOfPlace ?o_OutOfPlace ?sa_OutOfPlace ?ga_OutOfPlace ?gg_OutOfPlace ?no_OutOfPlace ?in_OutOfPlace ?ti_OutOfPlace ?l_OutOfPlace ?c_OutOfPlace ?k_OutOfPlace ?kc_OutOfPlace ?ex_OutOfPlace ?ty_OutOfPlace ?hd_OutOfPlace ?s_BadLengths_BadLengths ?s_BadPaper_BadLengths ?s_OutOfPlace_BadLengths
    (case a_is_whole => k_is)
    (case l_is_whole => k_is)
    (case c_is_whole => k_is)
    (case k_is_whole => k_is)
    (case a_is_number => k_is)
    (case l_is_number => k_is)
    (case c_is_number => k_is)
    (case k_is_number => k_is)
    (case a_loops_fault => k_is)
    (case l_loops_fault => k_is)
    (case c_loops_fault => k_is)
    (case k_loops_fault => k_is)
    (case a_need_whole => k_is)
    (case l_need_whole => k_is)
    (case c_need_whole => k_is)
    (case k_need_whole => k_is)
    (case a_lengths_in => k_is)
    (case l_lengths_in => k_is)
    (case c_lengths_in => k_is)
    (case k_lengths_in => k_is)
    (case a_heard_in => k_is)
    (case l_heard_in => k_is)
    (case c_heard_in => k_is)
    (case k_heard_in => k_is)
    (case a_need_lengths => k_is)
    (case l_need_lengths => k_is)
    (case c_need_lengths => k_is)
    (case k_need_lengths => k_is)
    (case a_common => k_is)
    (case l_common => k_is)
    (case c_common => k_is)
    (case k_common => k_is)
    (case a_bottoms => k_is)
    (case l_bottoms => k_is)
    (case c_bottoms => k_is)
    (case k_bottoms => k_is)
    (case a_span_in => k_is)
    (case l_span_in => k_is)
    (case c_span_in => k_is)
    (case k_span_in => k_is)
    (case a_times => k_is)
    (case l_times => k_is)
    (case c_times => k_is)
    (case k_times => k_is)
    (case a_without => k_is)
    (case l_without => k_is)
    (case c_without => k_is)
    (case k_without => k_is)
    (case a_factor_of => k_is)
    (case l_factor_of => k_is)
    (case c_factor_of => k_is)
    (case k_factor_of => k_is)
    (case a_weights_in => k_is)
    (case l_weights_in => k_is)
    (case c_weights_in => k_is)
    (case k_weights_in => k_is)
    (case a_span => k_is)
    (case l_span => k_is)
    (case c_span => k_is)
    (case k_span => k_is)
    (case a_weights => k_is)
    (case l_weights => k_is)
    (case c_weights => k_is)
    (case k_weights => k_is)
    (case a_carried_in => k_is)
    (case l_carried_in => k_is)
    (case c_carried_in => k_is)
    (case k_carried_in => k_is)
    (case a_carried => k_is)
    (case l_carried => k_is)
    (case c_carried => k_is)
    (case k_carried => k_is)
    (case a_need_small => k_is)
    (case l_need_small => k_is)
    (case c_need_small => k_is)
    (case k_need_small => k_is)
    (case a_need_numbers => k_is)
    (case l_need_numbers => k_is)
    (case c_need_numbers => k_is)
    (case k_need_numbers => k_is)
    (case a_reduced => k_is)
    (case l_reduced => k_is)
    (case c_reduced => k_is)
    (case k_reduced => k_is)
    (case a_loops_like => k_is)
    (case l_loops_like => k_is)
    (case c_loops_like => k_is)
    (case k_loops_like => k_is)
    (case a_fit => k_is)
    (case l_fit => k_is)
    (case c_fit => k_is)
    (case k_fit => k_is)
    (case a_is_ground => k_is)
    (case l_is_ground => k_is)
    (case c_is_ground => k_is)
    (case k_is_ground => k_is)
    (case a_check_fit => k_is)
    (case l_check_fit => k_is)
    (case c_check_fit => k_is)
    (case k_check_fit => k_is)
    (case a_deceiver => k_is)
    (case l_deceiver => k_is)
    (case c_deceiver => k_is)
    (case k_deceiver => k_is)
    (case a_need_places => k_is)
    (case l_need_places => k_is)
    (case c_need_places => k_is)
    (case k_need_places => k_is)
    (case a_never_meet => k_is)
    (case l_never_meet => k_is)
    (case c_never_meet => k_is)
    (case k_never_meet => k_is)
    (case a_meeting => k_is)
    (case l_meeting => k_is)
    (case c_meeting => k_is)
    (case k_meeting => k_is)
    (case a_check_meeting => k_is)
    (case l_check_meeting => k_is)
    (case c_check_meeting => k_is)
    (case k_check_meeting => k_is)
    (case a__law_begun => k_is)
    (case l__law_begun => k_is)
    (case c__law_begun => k_is)
    (case k__law_begun => k_is)
    (case a__law_next => k_is)
    (case l__law_next => k_is)
    (case c__law_next => k_is)
    (case k__law_next => k_is)
    (case a__law_lengths => k_is)
    (case l__law_lengths => k_is)
    (case c__law_lengths => k_is)
    (case k__law_lengths => k_is)
    (case a__law_is_whole => k_is)
    (case l__law_is_whole => k_is)
    (case c__law_is_whole => k_is)
    (case k__law_is_whole => k_is)
    (case a__law_outcome => k_is)
    (case l__law_outcome => k_is)
    (case c__law_outcome => k_is)
    (case k__law_outcome => k_is)
    (case a__law_fault => k_is)
    (case l__law_fault => k_is)
    (case c__law_fault => k_is)
    (case k__law_fault => k_is)
    (case a_law => k_is)
    (case l_law => k_is)
    (case c_law => k_is)
    (case k_law => k_is)
    (case z_all => k_is)
    (case z_any => k_is)
    (case z_bool => k_is)
    (case z_enumerate => k_is)
    (case z_int => k_is)
    (case z_isinstance => k_is)
    (case z_len => k_is)
    (case z_list => k_is)
    (case z_min => k_is)
    (case z_range => k_is)
    (case z_repr => k_is)
    (case z_reversed => k_is)
    (case z_sorted => k_is)
    (case z_str => k_is)
    (case z_sum => k_is)
    (case z_tuple => k_is)
    (case z_zip => k_is)
    (case v_LONGEST_FITTED => k_is)
    (case v_LONGEST_ROW => k_is)
    (case v_MOST_FITTED => k_is)
    (case v_MOST_LENGTH => k_is)
    (case v_MOST_LOOPS => k_is)
    (case v_MOST_MANY => k_is)
    (case a_BadLengths => k_is)
    (case o_BadLengths => k_is)
    (case sa_BadLengths => k_is)
    (case ga_BadLengths => k_is)
    (case gg_BadLengths => k_is)
    (case no_BadLengths => k_is)
    (case in_BadLengths => k_is)
    (case ti_BadLengths => k_is)
    (case l_BadLengths => k_is)
    (case c_BadLengths => k_is)
    (case k_BadLengths => k_is)
    (case kc_BadLengths => k_is)
    (case ex_BadLengths => k_is)
    (case ty_BadLengths => k_is)
    (case hd_BadLengths => k_is)
    (case a_BadPaper => k_is)
    (case o_BadPaper => k_is)
    (case sa_BadPaper => k_is)
    (case ga_BadPaper => k_is)
    (case gg_BadPaper => k_is)
    (case no_BadPaper => k_is)
    (case in_BadPaper => k_is)
    (case ti_BadPaper => k_is)
    (case l_BadPaper => k_is)
    (case c_BadPaper => k_is)
    (case k_BadPaper => k_is)
    (case kc_BadPaper => k_is)
    (case ex_BadPaper => k_is)
    (case ty_BadPaper => k_is)
    (case hd_BadPaper => k_is)
    (case a_OutOfPlace => k_is)
    (case o_OutOfPlace => k_is)
    (case sa_OutOfPlace => k_is)
    (case ga_OutOfPlace => k_is)
    (case gg_OutOfPlace => k_is)
    (case no_OutOfPlace => k_is)
    (case in_OutOfPlace => k_is)
    (case ti_OutOfPlace => k_is)
    (case l_OutOfPlace => k_is)
    (case c_OutOfPlace => k_is)
    (case k_OutOfPlace => k_is)
    (case kc_OutOfPlace => k_is)
    (case ex_OutOfPlace => k_is)
    (case ty_OutOfPlace => k_is)
    (case hd_OutOfPlace => k_is)
    (case s_BadLengths_BadLengths => first | rfl | k_is)
    (case s_BadPaper_BadLengths => first | rfl | k_is)
    (case s_OutOfPlace_BadLengths => first | rfl | k_is)
