import PyProof.Rows.All
import HandS.ForMost
import HandS.Exc
import HandS.TryOnly
import HandS.TryMany
import HandS.ExcOwn
import HandS.ExcInit
import HandS.ExcField
import HandS.CallSlots
import HandS.IsInst
import HandS.Walk
import HandS.Wide
import HandS.TupAny
import HandS.TupMul
import HandS.Zip
import HandS.Conv
import HandS.EndBits
import HandS.RaiseMore
import KE.GoesZip
import KE.GoesEnum
import KE.GoesMore
import HandS.Lambda
import HandS.EndTab
import HandS.ExcIs
import HandS.Deep
import HandS.RevRange
import KE.GoesSet
import HandS.Strs
import HandS.Style
import HandS.Star
import KE.KTupSum
import HandS.Defaults
import HandS.MakeKwOnly
import HandS.TupLen
import KE.KTryMore
import KE.KExcIs
import KE.KExcInit
import HandS.Text
import KE.SortKeyHeap
import HandS.ExcValue
import KE.KDictDisplayH
import HandS.Property
import HandS.SlotsOwn
import OpenK.KOps
import HandS.More
import PyProof.RowDictHeap
import HandS.ReplaceLit
import HandS.ReplaceList
import HandS.DictComp
import HandS.SetBool
import KE.HD2
import HandS.SortRule
import HandS.TupSets
import PyProof.Rows.IntBool
import HandS.MakeKw
import PyProof.ReprLen
import PyProof.FitsInt
import PySem.Challenge.RW_pedalrounds_k54_ways_by_hand
set_option Elab.async false
set_option linter.all false
set_option maxRecDepth 100000
set_option maxHeartbeats 2000000
namespace Dl
open PySem L2

/-- what a name or an expression holds: data; the n-th object of the changing world; a list that a slot owns; a caught exception -/
inductive Val where
  | d (x : PyData)
  | ref (n : Nat)
  | own (xs : List PyData)
  | exc (c : Nat) (fs : List PyData)
  | ownd (t : Bool) (ks : List (List Int)) (ds : List PyData)
abbrev Rho := List (Option Val)
inductive Res (S α : Type) where
  | ok (a : α) (s : S)
  | exc (c : Nat) (fs : List PyData) (s : S)
  | stuck
def Res.bind {S α β : Type} : Res S α → (α → S → Res S β) → Res S β
  | .ok a s, f => f a s
  | .exc c fs s, _ => .exc c fs s
  | .stuck, _ => .stuck

/-- the changing part of the heap: its objects, their handles -/
structure Mw where
  h : Hp
  ad : Nat → Option Addr
  i : Hp
/-- a kind of world: its states, how a state lies in the heap; the classes of errors: where they stand, their fields -/
structure Uni where
  S : Type
  R : S → Mw → Prop
  cl : Nat → Option (Addr × List Str)

def kD : Key → PyData
  | .inl i => .int i
  | .inr x => .str x
mutual
inductive Rp (K : PySem.W.Frag) (I : Hp) : V → PyData → Prop
  | non : Rp K I .non .none
  | bl (b : Bool) : Rp K I (.bl b) (.bool b)
  | int (i : Int) : Rp K I (.int i) (.int i)
  | str (x : Str) : Rp K I (.str x) (.str x)
  | lst {a : Addr} {xs : List V} {ds : List PyData} : I a = some (.lst xs) → RpAll K I xs ds → Rp K I (.ref a) (.list ds)
  | tup {a : Addr} {xs : List V} {ds : List PyData} : SqT K I a xs → RpAll K I xs ds → Rp K I (.ref a) (.tuple ds)
  | dct {a : Addr} {ks : List Key} {xs : List V} {ds : List PyData} : I a = some (.dK (ks.zip xs)) → ks.length = xs.length → RpAll K I xs ds → Rp K I (.ref a) (.dict ((ks.map kD).zip ds))
inductive RpAll (K : PySem.W.Frag) (I : Hp) : List V → List PyData → Prop
  | nil : RpAll K I [] []
  | cons {x : V} {xs : List V} {d : PyData} {ds : List PyData} : Rp K I x d → RpAll K I xs ds → RpAll K I (x :: xs) (d :: ds)
end
theorem sqL_mono {K : PySem.W.Frag} {I J : Hp} {a : Addr} {xs : List V} (e : Same I J) (h : SqL K I a xs) : SqL K J a xs := e.seq h
theorem sqT_mono {K : PySem.W.Frag} {I J : Hp} {a : Addr} {xs : List V} (e : Same I J) (h : SqT K I a xs) : SqT K J a xs := by
  rcases h with (h | ⟨o, h⟩) | h
  · exact .inl (.inl (e _ _ h))
  · exact .inl (.inr ⟨o, e _ _ h⟩)
  · exact .inr h
mutual
theorem Rp.mono {K : PySem.W.Frag} {I J : Hp} (e : Same I J) : ∀ {x : V} {d : PyData}, Rp K I x d → Rp K J x d
  | _, _, .non => .non
  | _, _, .bl b => .bl b
  | _, _, .int i => .int i
  | _, _, .str x => .str x
  | _, _, .lst h r => .lst (e _ _ h) (RpAll.mono e r)
  | _, _, .tup h r => .tup (sqT_mono e h) (RpAll.mono e r)
  | _, _, .dct h l r => .dct (e _ _ h) l (RpAll.mono e r)
theorem RpAll.mono {K : PySem.W.Frag} {I J : Hp} (e : Same I J) : ∀ {xs : List V} {ds : List PyData}, RpAll K I xs ds → RpAll K J xs ds
  | _, _, .nil => .nil
  | _, _, .cons h r => .cons (Rp.mono e h) (RpAll.mono e r)
end

structure Grow (I : Hp) (M : Mw) (H : Hp) (I' : Hp) (M' : Mw) (H' : Hp) : Prop where
  i : Same I I'
  ni : ∀ a, H a ≠ none → I' a ≠ none → I a ≠ none
  nm : ∀ a, H a ≠ none → M'.h a ≠ none → M.h a ≠ none
  kp : ∀ a o, H a = some o → M.h a = none → H' a = some o
  th : ∀ a, H a ≠ none → H' a ≠ none
  ad : ∀ n a, M.ad n = some a → M'.ad n = some a
structure Ok (I : Hp) (M : Mw) (H : Hp) : Prop where
  ih : Same I H
  mh : Same M.h H
  dj : ∀ a, I a ≠ none → M.h a = none
  mi : Same M.i I
theorem Grow.refl (I : Hp) (M : Mw) (H : Hp) : Grow I M H I M H := ⟨Same.refl I, fun _ _ h => h, fun _ _ h => h, fun _ _ h _ => h, fun _ h => h, fun _ _ h => h⟩
theorem ne_none_of {α : Type} {o : Option α} {x : α} (h : o = some x) : o ≠ none := by rw [h]; exact fun z => nomatch z
theorem some_of_ne {α : Type} {o : Option α} (h : o ≠ none) : ∃ x, o = some x := by
  cases o with
  | none => exact absurd rfl h
  | some x => exact ⟨x, rfl⟩
theorem Grow.trans {I I1 I2 : Hp} {M M1 M2 : Mw} {H H1 H2 : Hp} (a : Grow I M H I1 M1 H1) (b : Grow I1 M1 H1 I2 M2 H2) : Grow I M H I2 M2 H2 where
  i := a.i.trans b.i
  ni := fun x h z => a.ni x h (b.ni x (a.th x h) z)
  nm := fun x h z => a.nm x h (b.nm x (a.th x h) z)
  kp := fun x o h m => by
    have h1 := a.kp x o h m
    refine b.kp x o h1 ?_
    cases z : M1.h x with
    | none => rfl
    | some u => exact absurd m (a.nm x (ne_none_of h) (ne_none_of z))
  th := fun x h => b.th x (a.th x h)
  ad := fun n x h => b.ad n x (a.ad n x h)
/-- a new unchanging object -/
theorem Grow.alloc {I : Hp} {M : Mw} {H : Hp} {p : Addr} {o : HO} (k : Ok I M H) (h : H p = none) : Grow I M H (upd I p o) M (upd H p o) ∧ Ok (upd I p o) M (upd H p o) := by
  have ip : I p = none := k.ih.free h
  have mp : M.h p = none := k.mh.free h
  refine ⟨⟨fun a u e => ?_, fun a e z => ?_, fun _ _ z => z, fun a u e _ => ?_, fun a e z => ?_, fun _ _ z => z⟩, ⟨fun a u e => ?_, fun a u e => ?_, fun a e => ?_, fun a u e => by rw [upd_ne (ne_of_none (k.mi a u e) ip)]; exact k.mi a u e⟩⟩
  · rw [upd_ne (ne_of_none e ip)]; exact e
  · by_cases ha : a = p
    · subst ha; exact absurd h e
    · rw [upd_ne ha] at z; exact z
  · rw [upd_ne (ne_of_none e h)]; exact e
  · by_cases ha : a = p
    · subst ha; rw [upd_same] at z; cases z
    · rw [upd_ne ha] at z; exact e z
  · by_cases ha : a = p
    · subst ha; rw [upd_same] at e ⊢; exact e
    · rw [upd_ne ha] at e ⊢; exact k.ih a u e
  · rw [upd_ne (fun z => by rw [z, mp] at e; cases e)]; exact k.mh a u e
  · by_cases ha : a = p
    · subst ha; exact mp
    · rw [upd_ne ha] at e; exact k.dj a e
/-- a new object that a slot will own -/
theorem Grow.allocO {I : Hp} {M : Mw} {H : Hp} {p : Addr} {o : HO} (k : Ok I M H) (h : H p = none) : Grow I M H I M (upd H p o) ∧ Ok I M (upd H p o) := by
  have ip : I p = none := k.ih.free h
  have mp : M.h p = none := k.mh.free h
  refine ⟨⟨Same.refl I, fun _ _ z => z, fun _ _ z => z, fun a u e _ => ?_, fun a e z => ?_, fun _ _ z => z⟩, ⟨fun a u e => ?_, fun a u e => ?_, k.dj, k.mi⟩⟩
  · rw [upd_ne (ne_of_none e h)]; exact e
  · by_cases ha : a = p
    · subst ha; rw [upd_same] at z; cases z
    · rw [upd_ne ha] at z; exact e z
  · rw [upd_ne (fun z => by rw [z, ip] at e; cases e)]; exact k.ih a u e
  · rw [upd_ne (fun z => by rw [z, mp] at e; cases e)]; exact k.mh a u e

/-- a dict of a slot's own: its keys are ints, or tuples of ints -/
def dHO (t : Bool) (ks : List (List Int)) (vs : List V) : HO := if t then .dT ((ks.map fun k => k.map Sum.inl).zip vs) else .dK ((ks.map fun k => Sum.inl (k.headD 0)).zip vs)
theorem dHO_lst {t : Bool} {ks : List (List Int)} {vs us : List V} (h : some (dHO t ks vs) = some (HO.lst us)) : False := by
  cases t <;> simp [dHO] at h
def VR (K : PySem.W.Frag) (I : Hp) (M : Mw) (H : Hp) (x : V) : Val → Prop
  | .d d => Rp K I x d
  | .ref n => ∃ a, M.ad n = some a ∧ x = .ref a
  | .own ds => ∃ p vs, x = .ref p ∧ H p = some (.lst vs) ∧ I p = none ∧ M.h p = none ∧ RpAll K I vs ds
  | .exc _ _ => ∃ a, x = .ref a
  | .ownd t ks ds => ∃ p vs, x = .ref p ∧ H p = some (dHO t ks vs) ∧ I p = none ∧ M.h p = none ∧ ks.length = vs.length ∧ RpAll K I vs ds
theorem VR.grow {K : PySem.W.Frag} {I I' : Hp} {M M' : Mw} {H H' : Hp} {x : V} (g : Grow I M H I' M' H') : ∀ {v : Val}, VR K I M H x v → VR K I' M' H' x v
  | .d _, h => Rp.mono g.i h
  | .ref _, ⟨a, h, e⟩ => ⟨a, g.ad _ _ h, e⟩
  | .own _, ⟨p, vs, e, h, i, m, r⟩ => by
    refine ⟨p, vs, e, g.kp _ _ h m, ?_, ?_, r.mono g.i⟩
    · cases z : I' p with
      | none => rfl
      | some u => exact absurd i (g.ni p (ne_none_of h) (ne_none_of z))
    · cases z : M'.h p with
      | none => rfl
      | some u => exact absurd m (g.nm p (ne_none_of h) (ne_none_of z))
  | .exc _ _, h => h
  | .ownd _ _ _, ⟨p, vs, e, h, i, m, l, r⟩ => by
    refine ⟨p, vs, e, g.kp _ _ h m, ?_, ?_, l, r.mono g.i⟩
    · cases z : I' p with
      | none => rfl
      | some u => exact absurd i (g.ni p (ne_none_of h) (ne_none_of z))
    · cases z : M'.h p with
      | none => rfl
      | some u => exact absurd m (g.nm p (ne_none_of h) (ne_none_of z))
inductive VRs (K : PySem.W.Frag) (I : Hp) (M : Mw) (H : Hp) : List V → List Val → Prop
  | nil : VRs K I M H [] []
  | cons {x : V} {xs : List V} {v : Val} {vs : List Val} : VR K I M H x v → VRs K I M H xs vs → VRs K I M H (x :: xs) (v :: vs)
theorem VRs.grow {K : PySem.W.Frag} {I I' : Hp} {M M' : Mw} {H H' : Hp} (g : Grow I M H I' M' H') : ∀ {xs : List V} {vs : List Val}, VRs K I M H xs vs → VRs K I' M' H' xs vs
  | _, _, .nil => .nil
  | _, _, .cons h r => .cons (h.grow g) (VRs.grow g r)

structure Base where
  I : Hp
  M : Mw
  H : Hp
structure Fit (U : Uni) (K : PySem.W.Frag) (Z : Base) (σ : L2.St) (ρ : Rho) (st : U.S) (I : Hp) (M : Mw) (H : Hp) : Prop where
  g : Grow Z.I Z.M Z.H I M H
  ok : Ok I M H
  rs : U.R st M
  len : ρ.length = σ.length
  env : ∀ (i : Nat) v, ρ[i]? = some (some v) → ∃ x, σ[i]? = some (some x) ∧ VR K I M H x v
  new : ∀ (i : Nat) ds p, ρ[i]? = some (some (.own ds)) → σ[i]? = some (some (.ref p)) → Z.H p = none
  sep : ∀ (i j : Nat) ds es p, ρ[i]? = some (some (.own ds)) → ρ[j]? = some (some (.own es)) → σ[i]? = some (some (.ref p)) → σ[j]? = some (some (.ref p)) → i = j
  newd : ∀ (i : Nat) t ks ds p, ρ[i]? = some (some (.ownd t ks ds)) → σ[i]? = some (some (.ref p)) → Z.H p = none
  sepd : ∀ (i j : Nat) t ks ds t' ks' es p, ρ[i]? = some (some (.ownd t ks ds)) → ρ[j]? = some (some (.ownd t' ks' es)) → σ[i]? = some (some (.ref p)) → σ[j]? = some (some (.ref p)) → i = j
theorem Fit.grow {U : Uni} {K : PySem.W.Frag} {Z : Base} {σ : L2.St} {ρ : Rho} {st st' : U.S} {I I' : Hp} {M M' : Mw} {H H' : Hp} (f : Fit U K Z σ ρ st I M H) (g : Grow I M H I' M' H') (k : Ok I' M' H') (r : U.R st' M') : Fit U K Z σ ρ st' I' M' H' :=
  ⟨f.g.trans g, k, r, f.len, fun i v e => let ⟨x, h, q⟩ := f.env i v e; ⟨x, h, q.grow g⟩, f.new, f.sep, f.newd, f.sepd⟩

/-- an exception of the c-th class, its fields -/
def XR (U : Uni) (K : PySem.W.Frag) (I : Hp) (c : Nat) (fs : List PyData) (cls : Value) (d : Option Addr) : Prop :=
  ∃ C nms dd vs, U.cl c = some (C, nms) ∧ cls = .ref C ∧ d = some dd ∧ I dd = some (.xd (nms.zip vs)) ∧ nms.length = vs.length ∧ RpAll K I vs fs
def Post (U : Uni) (K : PySem.W.Frag) {α β : Type} (rel : Hp → Mw → Hp → β → α → Prop) (r : Res U.S α) (I : Hp) (M : Mw) (H : Hp) (Q : β → Hp → Prop) (E : XK) : Prop :=
  match r with
  | .ok a st => ∀ x I' M' H', Grow I M H I' M' H' → Ok I' M' H' → U.R st M' → rel I' M' H' x a → Q x H'
  | .exc c fs st => ∀ cls d I' M' H', Grow I M H I' M' H' → Ok I' M' H' → U.R st M' → XR U K I' c fs cls d → E cls d H'
  | .stuck => False
section
variable {U : Uni} {K : PySem.W.Frag} {α β γ δ : Type} {rel : Hp → Mw → Hp → β → α → Prop} {rel' : Hp → Mw → Hp → δ → γ → Prop} {I I1 : Hp} {M M1 : Mw} {H H1 : Hp} {E : XK}
theorem Post.shift {r : Res U.S α} {Q : β → Hp → Prop} (g : Grow I M H I1 M1 H1) (h : Post U K rel r I M H Q E) : Post U K rel r I1 M1 H1 Q E := by
  cases r with
  | ok a st => exact fun x I' M' H' g' k r q => h x I' M' H' (g.trans g') k r q
  | exc c fs st => exact fun cls d I' M' H' g' k r q => h cls d I' M' H' (g.trans g') k r q
  | stuck => exact h
theorem Post.mono {r : Res U.S α} {Q Q' : β → Hp → Prop} (h : Post U K rel r I M H Q E) (m : ∀ x H', Q x H' → Q' x H') : Post U K rel r I M H Q' E := by
  cases r with
  | ok a st => exact fun x I' M' H' g k r q => m _ _ (h x I' M' H' g k r q)
  | exc c fs st => exact h
  | stuck => exact h
/-- what is known behind a part -/
def Mid (U : Uni) (K : PySem.W.Frag) {α β γ δ : Type} (rel : Hp → Mw → Hp → β → α → Prop) (rel' : Hp → Mw → Hp → δ → γ → Prop) (f : α → U.S → Res U.S γ) (I : Hp) (M : Mw) (H : Hp) (Q : δ → Hp → Prop) (E : XK) (x : β) (H1 : Hp) : Prop :=
  ∃ a st1 I1 M1, Grow I M H I1 M1 H1 ∧ Ok I1 M1 H1 ∧ U.R st1 M1 ∧ rel I1 M1 H1 x a ∧ Post U K rel' (f a st1) I1 M1 H1 Q E
theorem Post.bind {r : Res U.S α} {f : α → U.S → Res U.S γ} {Q : δ → Hp → Prop} (h : Post U K rel' (r.bind f) I M H Q E) : Post U K rel r I M H (Mid U K rel rel' f I M H Q E) E := by
  cases r with
  | ok a st => exact fun x I' M' H' g k r q => ⟨a, st, I', M', g, k, r, q, Post.shift g h⟩
  | exc c fs st => exact h
  | stuck => exact h
end

abbrev rTest : Hp → Mw → Hp → Bool → Bool → Prop := fun _ _ _ x a => x = a
def tG (U : Uni) (K : PySem.W.Frag) (W : WX) {α β : Type} (rel : Hp → Mw → Hp → β → α → Prop) (F : Rho → U.S → Res U.S α) : L2.St → Hp → (β → Hp → Prop) → Prop :=
  fun σ H Q => ∃ Z ρ st I M, Fit U K Z σ ρ st I M H ∧ Post U K rel (F ρ st) I M H Q (fun cls d H' => W cls d σ H')
abbrev tE (U : Uni) (K : PySem.W.Frag) (W : WX) (F : Rho → U.S → Res U.S Val) : TE := tG U K W (VR K) F
abbrev tB (U : Uni) (K : PySem.W.Frag) (W : WX) (F : Rho → U.S → Res U.S Bool) : TT := tG U K W rTest F
abbrev tAs (U : Uni) (K : PySem.W.Frag) (W : WX) (F : Rho → U.S → Res U.S (List Val)) : TA := tG U K W (VRs K) F
def PEd (U : Uni) (X : Cx) (W : WX) (e : Expr) (F : Rho → U.S → Res U.S Val) : Prop := PE X e (tE U X.K W F)
def PTd (U : Uni) (X : Cx) (W : WX) (e : Expr) (F : Rho → U.S → Res U.S Bool) : Prop := PT X e (tB U X.K W F)
def PWd (U : Uni) (X : Cx) (W : WX) (e : Expr) (F : Rho → U.S → Res U.S Bool) : Prop := PW X e (tB U X.K W F)
def PAd (U : Uni) (X : Cx) (W : WX) (es : List Expr) (F : Rho → U.S → Res U.S (List Val)) : Prop := PA X es (tAs U X.K W F)
theorem pe_imp {X : Cx} {e : Expr} {t t' : TE} (h : PE X e t) (m : ∀ σ H Q, t' σ H Q → t σ H Q) : PE X e t' := ⟨fun pins s σ H Q I q => h.run pins s σ H Q I (m σ H Q q)⟩
theorem pt_imp {X : Cx} {e : Expr} {t t' : TT} (h : PT X e t) (m : ∀ σ H Q, t' σ H Q → t σ H Q) : PT X e t' := ⟨fun pins s σ H Q I q => h.run pins s σ H Q I (m σ H Q q)⟩
theorem pw_imp {X : Cx} {e : Expr} {t t' : TT} (h : PW X e t) (m : ∀ σ H Q, t' σ H Q → t σ H Q) : PW X e t' := ⟨fun wh pins s σ H Q I q => h.run wh pins s σ H Q I (m σ H Q q)⟩
theorem pa_imp {X : Cx} {es : List Expr} {t t' : TA} (h : PA X es t) (m : ∀ σ H Q, t' σ H Q → t σ H Q) : PA X es t' := ⟨fun pos pins s σ H Q I q => h.run pos pins s σ H Q I (m σ H Q q)⟩

section
variable {U : Uni} {K : PySem.W.Frag} {W : WX} {α β γ δ : Type} {rel : Hp → Mw → Hp → β → α → Prop} {rel' : Hp → Mw → Hp → δ → γ → Prop}
/-- the first part of a reading: go on at the part's end -/
theorem tG.bind {F : Rho → U.S → Res U.S α} {f : Rho → α → U.S → Res U.S γ} {σ : L2.St} {H : Hp} {Q : δ → Hp → Prop} {R : β → Hp → Prop} (h : tG U K W rel' (fun ρ st => (F ρ st).bind (f ρ)) σ H Q)
    (m : ∀ Z ρ st1 x a I1 M1 H1, Fit U K Z σ ρ st1 I1 M1 H1 → rel I1 M1 H1 x a → Post U K rel' (f ρ a st1) I1 M1 H1 Q (fun cls d H' => W cls d σ H') → R x H1) : tG U K W rel F σ H R := by
  obtain ⟨Z, ρ, st, I, M, ft, ps⟩ := h
  refine ⟨Z, ρ, st, I, M, ft, (Post.bind (rel := rel) ps).mono fun x H1 ⟨a, st1, I1, M1, g, k, r, q, ps1⟩ => ?_⟩
  exact m Z ρ st1 x a I1 M1 H1 (ft.grow g k r) q ps1
/-- a further part -/
theorem Post.next {F : Rho → U.S → Res U.S α} {f : α → U.S → Res U.S γ} {Z : Base} {σ : L2.St} {ρ : Rho} {st : U.S} {I : Hp} {M : Mw} {H : Hp} {Q : δ → Hp → Prop} {R : β → Hp → Prop} (ft : Fit U K Z σ ρ st I M H)
    (h : Post U K rel' ((F ρ st).bind f) I M H Q (fun cls d H' => W cls d σ H'))
    (m : ∀ st1 x a I1 M1 H1, Grow I M H I1 M1 H1 → Fit U K Z σ ρ st1 I1 M1 H1 → rel I1 M1 H1 x a → Post U K rel' (f a st1) I1 M1 H1 Q (fun cls d H' => W cls d σ H') → R x H1) : tG U K W rel F σ H R :=
  ⟨Z, ρ, st, I, M, ft, (Post.bind (rel := rel) h).mono fun x H1 ⟨a, st1, I1, M1, g, k, r, q, ps1⟩ => m st1 x a I1 M1 H1 g (ft.grow g k r) q ps1⟩
/-- the end of a reading that is an ok -/
theorem Post.fin {α β : Type} {rel : Hp → Mw → Hp → β → α → Prop} {a : α} {x : β} {st : U.S} {I : Hp} {M : Mw} {H : Hp} {Q : β → Hp → Prop} {E : XK} (h : Post U K rel (.ok a st) I M H Q E) (k : Ok I M H) (r : U.R st M) (q : rel I M H x a) : Q x H :=
  h x I M H (Grow.refl I M H) k r q
end
end Dl
set_option maxRecDepth 100000
set_option maxHeartbeats 2000000
namespace Dl
open PySem L2
/-- a choice that no computing decides (so that big bounds are never computed) -/
noncomputable def cif {α : Sort _} (c : Prop) (a b : α) : α := @ite α c (Classical.propDecidable c) a b
theorem cif_pos {α : Sort _} {c : Prop} {a b : α} (h : c) : cif c a b = a := if_pos h
theorem cif_neg {α : Sort _} {c : Prop} {a b : α} (h : ¬ c) : cif c a b = b := if_neg h
theorem opt_cif {α : Type} {c : Prop} {x w : α} (h : cif c (some x) none = some w) : c ∧ x = w := by
  by_cases hc : c
  · rw [cif_pos hc] at h; exact ⟨hc, Option.some.inj h⟩
  · rw [cif_neg hc] at h; cases h
def smallI (n : Int) : Prop := -(2 ^ 62) ≤ n ∧ n < 2 ^ 62
section
variable {S : Type}
def eVar (i : Nat) : Rho → S → Res S Val := fun ρ st => match ρ[i]? with
  | some (some v) => .ok v st
  | _ => .stuck
def eC (d : PyData) : Rho → S → Res S Val := fun _ st => .ok (.d d) st
def lift (o : Option PyData) (st : S) : Res S Val := match o with
  | some d => .ok (.d d) st
  | none => .stuck
def liftB (o : Option Bool) (st : S) : Res S Bool := match o with
  | some b => .ok b st
  | none => .stuck
def eOp (f : Val → Val → Option PyData) (a b : Rho → S → Res S Val) : Rho → S → Res S Val := fun ρ st => (a ρ st).bind fun x st1 => (b ρ st1).bind fun y st2 => lift (f x y) st2
def eUn (f : Val → Option PyData) (a : Rho → S → Res S Val) : Rho → S → Res S Val := fun ρ st => (a ρ st).bind fun x st1 => lift (f x) st1
def eCmp (f : Val → Val → Option Bool) (a b : Rho → S → Res S Val) : Rho → S → Res S Bool := fun ρ st => (a ρ st).bind fun x st1 => (b ρ st1).bind fun y st2 => liftB (f x y) st2
def eB (t : Rho → S → Res S Bool) : Rho → S → Res S Val := fun ρ st => (t ρ st).bind fun b st1 => .ok (.d (.bool b)) st1
/-- a value that is True or False, as a test -/
def tVal (a : Rho → S → Res S Val) : Rho → S → Res S Bool := fun ρ st => (a ρ st).bind fun x st1 => match x with
  | .d (.bool b) => .ok b st1
  | _ => .stuck
def tAnd' (a b : Rho → S → Res S Bool) : Rho → S → Res S Bool := fun ρ st => (a ρ st).bind fun x st1 => if x = true then b ρ st1 else .ok false st1
def tOr' (a b : Rho → S → Res S Bool) : Rho → S → Res S Bool := fun ρ st => (a ρ st).bind fun x st1 => if x = true then .ok true st1 else b ρ st1
def tNot' (a : Rho → S → Res S Bool) : Rho → S → Res S Bool := fun ρ st => (a ρ st).bind fun x st1 => .ok (!x) st1
def eIf (t : Rho → S → Res S Bool) (a b : Rho → S → Res S Val) : Rho → S → Res S Val := fun ρ st => (t ρ st).bind fun x st1 => if x = true then a ρ st1 else b ρ st1
def aNil : Rho → S → Res S (List Val) := fun _ st => .ok [] st
def aCons (a : Rho → S → Res S Val) (r : Rho → S → Res S (List Val)) : Rho → S → Res S (List Val) := fun ρ st => (a ρ st).bind fun x st1 => (r ρ st1).bind fun xs st2 => .ok (x :: xs) st2
/-- data of values, all of them data -/
def datas : List Val → Option (List PyData)
  | [] => some []
  | .d x :: r => (datas r).map (x :: ·)
  | _ :: _ => none
def eTup (a : Rho → S → Res S (List Val)) : Rho → S → Res S Val := fun ρ st => (a ρ st).bind fun xs st1 => lift ((datas xs).bind fun ds => if ds.length ≤ 1000000 then some (.tuple ds) else none) st1
def eLst (a : Rho → S → Res S (List Val)) : Rho → S → Res S Val := fun ρ st => (a ρ st).bind fun xs st1 => lift ((datas xs).bind fun ds => if ds.length ≤ 1000000 then some (.list ds) else none) st1
end

theorem sz {n : Nat} (h : n ≤ 1000000) : n ≤ sizeLine := Nat.le_trans h (by decide)
theorem szl {n : Nat} (h : n < 1000000) : n < sizeLine := Nat.lt_of_lt_of_le h (by decide)
theorem VRs.datas {K : PySem.W.Frag} {I : Hp} {M : Mw} {H : Hp} {xs : List V} {vs : List Val} {ds : List PyData} (h : VRs K I M H xs vs) (e : datas vs = some ds) : RpAll K I xs ds := by
  induction h generalizing ds with
  | nil => cases e; exact .nil
  | @cons x xs v vs hx _ ih =>
    cases v with
    | d y =>
      have e : (Dl.datas vs).map (y :: ·) = some ds := e
      cases z : Dl.datas vs with
      | none => rw [z] at e; cases e
      | some es =>
        rw [z] at e
        cases e
        exact .cons hx (ih z)
    | ref n => exact nomatch e
    | own n => exact nomatch e
    | exc n m => exact nomatch e
    | ownd a b c => exact nomatch e
theorem RpAll.len {K : PySem.W.Frag} {I : Hp} : ∀ {xs : List V} {ds : List PyData}, RpAll K I xs ds → xs.length = ds.length
  | _, _, .nil => rfl
  | _, _, .cons _ r => by rw [List.length_cons, List.length_cons, r.len]

section
variable {U : Uni} {X : Cx} {W : WX} {a b c : Expr} {Fa Fb Fc : Rho → U.S → Res U.S Val} {T1 T2 : Rho → U.S → Res U.S Bool} {pos : Pos}
theorem Post.okE {K : PySem.W.Frag} {v : Val} {x : V} {st : U.S} {I : Hp} {M : Mw} {H : Hp} {Q : VK} {E : XK} (h : Post U K (VR K) (.ok v st) I M H Q E) (k : Ok I M H) (r : U.R st M) (q : VR K I M H x v) : Q x H := h x I M H (Grow.refl I M H) k r q
theorem Post.liftE {K : PySem.W.Frag} {o : Option PyData} {st : U.S} {I : Hp} {M : Mw} {H : Hp} {Q : VK} {E : XK} (h : Post U K (VR K) (lift o st) I M H Q E) (r : U.R st M) :
    ∃ w, o = some w ∧ ∀ z I' H', Grow I M H I' M H' → Ok I' M H' → Rp K I' z w → Q z H' := by
  cases o with
  | none => exact False.elim h
  | some w => exact ⟨w, rfl, fun z I' H' g k q => h z I' M H' g k r q⟩
theorem ped_var (i : Nat) {x : Str} (hN : X.N[i]? = some x := by rfl) (hv : Vis X.env.scope x := by first | exact Or.inl rfl | exact Or.inr (Or.inl rfl) | exact Or.inr (Or.inr rfl)) (hd : (x == ("__debug__" : Str)) = false := by decide) (hcd : (x == ("__classdict__" : Str)) = false := by decide) :
    PEd U X W (.Name x pos) (eVar i) := by
  refine pe_imp (pe_var hN hv hd hcd) fun σ H Q ⟨Z, ρ, st, I, M, ft, ps⟩ => ?_
  unfold eVar at ps
  cases e : ρ[i]? with
  | none => rw [e] at ps; exact False.elim ps
  | some o =>
    rw [e] at ps
    cases o with
    | none => exact False.elim ps
    | some v =>
      obtain ⟨y, hy, q⟩ := ft.env i v e
      exact ⟨y, hy, Post.okE ps ft.ok ft.rs q⟩
theorem ped_c {v : V} {d : PyData} (h : PE X a (tC v)) (r : ∀ I, Rp X.K I v d) : PEd U X W a (eC d) :=
  pe_imp h fun σ H Q ⟨Z, ρ, st, I, M, ft, ps⟩ => Post.okE ps ft.ok ft.rs (r I)

def Op2D (K : PySem.W.Frag) (r : R2) (f : Val → Val → Option PyData) : Prop := ∀ (x y : V) (u v : Val) (w : PyData) (I : Hp) (M : Mw) (H : Hp) (Q : VK), Ok I M H → VR K I M H x u → VR K I M H y v → f u v = some w →
  (∀ z I' H', Grow I M H I' M H' → Ok I' M H' → Rp K I' z w → Q z H') → r x y H Q
theorem op_read {r : R2} {f : Val → Val → Option PyData} (hd : Op2D X.K r f) (σ : L2.St) (H : Hp) (Q : VK) (h : tE U X.K W (eOp f Fa Fb) σ H Q) : tOp r (tE U X.K W Fa) (tE U X.K W Fb) σ H Q := by
  refine tG.bind h fun Z ρ st1 x u I1 M1 H1 ft hx ps => ?_
  refine Post.next ft ps fun st2 y v I2 M2 H2 g ft2 hy ps2 => ?_
  obtain ⟨w, e, q⟩ := Post.liftE ps2 ft2.rs
  exact hd x y u v w I2 M2 H2 Q ft2.ok (VR.grow g hx) hy e q
theorem ped_op {op : Operator} {r : R2} {f : Val → Val → Option PyData} (ho : OpR X (binaryOp op) r) (hd : Op2D X.K r f) (ha : PEd U X W a Fa) (hb : PEd U X W b Fb) : PEd U X W (.BinOp a op b pos) (eOp f Fa Fb) :=
  pe_imp (pe_op ho ha hb) (op_read hd)
def Un1D (K : PySem.W.Frag) (r : V → Hp → VK → Prop) (f : Val → Option PyData) : Prop := ∀ (x : V) (u : Val) (w : PyData) (I : Hp) (M : Mw) (H : Hp) (Q : VK), Ok I M H → VR K I M H x u → f u = some w →
  (∀ z I' H', Grow I M H I' M H' → Ok I' M H' → Rp K I' z w → Q z H') → r x H Q
theorem ped_un {op : UnaryOp} {r : V → Hp → VK → Prop} {f : Val → Option PyData} (ho : UnR X (unaryOp op) r) (hd : Un1D X.K r f) (ha : PEd U X W a Fa) : PEd U X W (.UnaryOp op a pos) (eUn f Fa) := by
  refine pe_imp (pe_un ho ha) fun σ H Q h => ?_
  refine tG.bind h fun Z ρ st1 x u I1 M1 H1 ft hx ps => ?_
  obtain ⟨w, e, q⟩ := Post.liftE ps ft.rs
  exact hd x u w I1 M1 H1 Q ft.ok hx e q
/-- a comparison -/
def Cmp2D (K : PySem.W.Frag) (r : R2) (f : Val → Val → Option Bool) : Prop := ∀ (x y : V) (u v : Val) (w : Bool) (I : Hp) (M : Mw) (H : Hp) (Q : VK), Ok I M H → VR K I M H x u → VR K I M H y v → f u v = some w → Q (.bl w) H → r x y H Q
theorem Post.liftB {K : PySem.W.Frag} {o : Option Bool} {st : U.S} {I : Hp} {M : Mw} {H : Hp} {Q : Bool → Hp → Prop} {E : XK} (h : Post U K rTest (liftB o st) I M H Q E) (k : Ok I M H) (r : U.R st M) : ∃ w, o = some w ∧ Q w H := by
  cases o with
  | none => exact False.elim h
  | some w => exact ⟨w, rfl, h w I M H (Grow.refl I M H) k r rfl⟩
theorem ptd_cmp {op : CmpOp} {r : R2} {f : Val → Val → Option Bool} (ho : OpR X (compareOp op) r) (hd : Cmp2D X.K r f) (ha : PEd U X W a Fa) (hb : PEd U X W b Fb) (hm : behindInMarks op b = false) : PTd U X W (.Compare a [op] [b] pos) (eCmp f Fa Fb) := by
  refine pt_imp (pt_cmpR ho ha hb hm) fun σ H Q h => ?_
  refine tG.bind h fun Z ρ st1 x u I1 M1 H1 ft hx ps => ?_
  refine Post.next ft ps fun st2 y v I2 M2 H2 g ft2 hy ps2 => ?_
  obtain ⟨w, e, q⟩ := Post.liftB ps2 ft2.ok ft2.rs
  exact hd x y u v w I2 M2 H2 _ ft2.ok (VR.grow g hx) hy e ⟨w, rfl, q⟩
theorem Post.boolE {K : PySem.W.Frag} {b : Bool} {st : U.S} {I : Hp} {M : Mw} {H : Hp} {Q : VK} {E : XK} (h : Post U K (VR K) (.ok (.d (.bool b)) st) I M H Q E) (k : Ok I M H) (r : U.R st M) : Q (.bl b) H := Post.okE h k r (show Rp K I (.bl b) (.bool b) from .bl b)
theorem ped_cmp {op : CmpOp} {r : R2} {f : Val → Val → Option Bool} (ho : OpR X (compareOp op) r) (hd : Cmp2D X.K r f) (ha : PEd U X W a Fa) (hb : PEd U X W b Fb) (hm : behindInMarks op b = false) : PEd U X W (.Compare a [op] [b] pos) (eB (eCmp f Fa Fb)) := by
  refine pe_imp (pe_cmpR ho ha hb hm) fun σ H Q h => ?_
  have h' : tE U X.K W (fun ρ st => (Fa ρ st).bind fun x st1 => ((Fb ρ st1).bind fun y st2 => (Dl.liftB (f x y) st2).bind fun b st3 => .ok (.d (.bool b)) st3)) σ H Q := by
    obtain ⟨Z, ρ, st, I, M, ft, ps⟩ := h
    refine ⟨Z, ρ, st, I, M, ft, ?_⟩
    have e : eB (eCmp f Fa Fb) ρ st = (Fa ρ st).bind fun x st1 => ((Fb ρ st1).bind fun y st2 => (Dl.liftB (f x y) st2).bind fun b st3 => .ok (.d (.bool b)) st3) := by
      unfold eB eCmp
      cases Fa ρ st with
      | ok x st1 =>
        show ((Fb ρ st1).bind _).bind _ = (Fb ρ st1).bind _
        cases Fb ρ st1 <;> rfl
      | exc _ _ _ => rfl
      | stuck => rfl
    rw [e] at ps
    exact ps
  refine tG.bind h' fun Z ρ st1 x u I1 M1 H1 ft hx ps => ?_
  refine Post.next ft ps fun st2 y v I2 M2 H2 g ft2 hy ps2 => ?_
  cases e : f u v with
  | none => rw [e] at ps2; exact False.elim ps2
  | some w =>
    rw [e] at ps2
    exact hd x y u v w I2 M2 H2 _ ft2.ok (VR.grow g hx) hy e (Post.boolE ps2 ft2.ok ft2.rs)
end
end Dl
set_option maxRecDepth 100000
set_option maxHeartbeats 2000000
namespace Dl
open PySem L2
section
variable {S : Type}
def eAnd' (a b : Rho → S → Res S Val) : Rho → S → Res S Val := fun ρ st => (a ρ st).bind fun x st1 => match x with
  | .d (.bool c) => if c = true then b ρ st1 else .ok (.d (.bool false)) st1
  | _ => .stuck
def eOr' (a b : Rho → S → Res S Val) : Rho → S → Res S Val := fun ρ st => (a ρ st).bind fun x st1 => match x with
  | .d (.bool c) => if c = true then .ok (.d (.bool true)) st1 else b ρ st1
  | _ => .stuck
def vNot : Val → Option PyData
  | .d (.bool c) => some (.bool (!c))
  | _ => none
/-- a op b op' c -/
def eChain (f g : Val → Val → Option Bool) (a b c : Rho → S → Res S Val) : Rho → S → Res S Bool := fun ρ st => (a ρ st).bind fun x st1 => (b ρ st1).bind fun y st2 => match f x y with
  | some true => (c ρ st2).bind fun z st3 => liftB (g y z) st3
  | some false => .ok false st2
  | none => .stuck
def eCall (f : List Val → Option PyData) (a : Rho → S → Res S (List Val)) : Rho → S → Res S Val := fun ρ st => (a ρ st).bind fun xs st1 => lift (f xs) st1
end
theorem Rp.bool_inv {K : PySem.W.Frag} {I : Hp} {x : V} {b : Bool} (h : Rp K I x (.bool b)) : x = .bl b := by cases h; rfl
theorem Rp.int_inv {K : PySem.W.Frag} {I : Hp} {x : V} {b : Int} (h : Rp K I x (.int b)) : x = .int b := by cases h; rfl
theorem Rp.str_inv {K : PySem.W.Frag} {I : Hp} {x : V} {b : Str} (h : Rp K I x (.str b)) : x = .str b := by cases h; rfl
theorem Rp.non_inv {K : PySem.W.Frag} {I : Hp} {x : V} (h : Rp K I x .none) : x = .non := by cases h; rfl
section
variable {U : Uni} {X : Cx} {W : WX} {a b c : Expr} {rest : List Expr} {Fa Fb Fc : Rho → U.S → Res U.S Val} {T1 T2 : Rho → U.S → Res U.S Bool} {A : Rho → U.S → Res U.S (List Val)} {pos : Pos}
theorem ptd_val {e : Expr} {F : Rho → U.S → Res U.S Val} (h : PEd U X W e F) (he : ∀ whole, isTrue e X.env whole = (do let v ← whole; standAt e.pos; holding [v] (truthy v)) := by intro _; rfl) : PTd U X W e (tVal F) := by
  refine pt_imp (pt_val h he) fun σ H Q h => ?_
  refine tG.bind h fun Z ρ st1 x u I1 M1 H1 ft hx ps => ?_
  match u, hx, ps with
  | .d (.bool b), hx, ps => exact ⟨b, Rp.bool_inv hx, ps b I1 M1 H1 (Grow.refl _ _ _) ft.ok ft.rs rfl⟩
theorem ptd_w {e : Expr} {T : Rho → U.S → Res U.S Bool} (h : PWd U X W e T) : PTd U X W e T := PW.pt h
theorem pwd_and1 (ha : PTd U X W a T1) : PWd U X W (.BoolOp .And [a] pos) T1 := pw_and1 ha
theorem pwd_or1 (ha : PTd U X W a T1) : PWd U X W (.BoolOp .Or [a] pos) T1 := pw_or1 ha
theorem pwd_and (ha : PTd U X W a T1) (hb : PWd U X W (.BoolOp .And (b :: rest) pos) T2) : PWd U X W (.BoolOp .And (a :: b :: rest) pos) (tAnd' T1 T2) := by
  refine pw_imp (pw_and ha hb) fun σ H Q h => ?_
  refine tG.bind h fun Z ρ st1 x u I1 M1 H1 ft hx ps => ?_
  have hx : x = u := hx
  subst hx
  cases x with
  | true => exact ⟨Z, ρ, st1, I1, M1, ft, ps⟩
  | false => exact ps false I1 M1 H1 (Grow.refl _ _ _) ft.ok ft.rs rfl
theorem pwd_or (ha : PTd U X W a T1) (hb : PWd U X W (.BoolOp .Or (b :: rest) pos) T2) : PWd U X W (.BoolOp .Or (a :: b :: rest) pos) (tOr' T1 T2) := by
  refine pw_imp (pw_or ha hb) fun σ H Q h => ?_
  refine tG.bind h fun Z ρ st1 x u I1 M1 H1 ft hx ps => ?_
  have hx : x = u := hx
  subst hx
  cases x with
  | true => exact ps true I1 M1 H1 (Grow.refl _ _ _) ft.ok ft.rs rfl
  | false => exact ⟨Z, ρ, st1, I1, M1, ft, ps⟩
theorem ptd_not (ha : PTd U X W a T1) : PTd U X W (.UnaryOp .Not a pos) (tNot' T1) := by
  refine pt_imp (pt_not ha) fun σ H Q h => ?_
  refine tG.bind h fun Z ρ st1 x u I1 M1 H1 ft hx ps => ?_
  have hx : x = u := hx
  subst hx
  exact ps (!x) I1 M1 H1 (Grow.refl _ _ _) ft.ok ft.rs rfl
theorem ped_one {op} (ha : PEd U X W a Fa) : PEd U X W (.BoolOp op [a] pos) Fa := pe_one ha
theorem ped_and (ha : PEd U X W a Fa) (hb : PEd U X W (.BoolOp .And (b :: rest) pos) Fb) : PEd U X W (.BoolOp .And (a :: b :: rest) pos) (eAnd' Fa Fb) := by
  refine pe_imp (pe_and ha hb) fun σ H Q h => ?_
  refine tG.bind h fun Z ρ st1 x u I1 M1 H1 ft hx ps => ?_
  match u, hx, ps with
  | .d (.bool true), hx, ps => exact ⟨true, Rp.bool_inv hx, ⟨Z, ρ, st1, I1, M1, ft, ps⟩⟩
  | .d (.bool false), hx, ps => exact ⟨false, Rp.bool_inv hx, Post.boolE ps ft.ok ft.rs⟩
theorem ped_not (ha : PEd U X W a Fa) : PEd U X W (.UnaryOp .Not a pos) (eUn vNot Fa) := by
  refine pe_imp (pe_not ha) fun σ H Q h => ?_
  refine tG.bind h fun Z ρ st1 x u I1 M1 H1 ft hx ps => ?_
  match u, hx, ps with
  | .d (.bool c), hx, ps => exact ⟨c, Rp.bool_inv hx, Post.boolE ps ft.ok ft.rs⟩
theorem ped_if {t : Expr} (hc : PTd U X W t T1) (ha : PEd U X W a Fa) (hb : PEd U X W b Fb) : PEd U X W (.IfExp t a b pos) (eIf T1 Fa Fb) := by
  refine pe_imp (pe_ifExp hc ha hb) fun σ H Q h => ?_
  refine tG.bind h fun Z ρ st1 x u I1 M1 H1 ft hx ps => ?_
  have hx : x = u := hx
  subst hx
  cases x with
  | true => exact ⟨Z, ρ, st1, I1, M1, ft, ps⟩
  | false => exact ⟨Z, ρ, st1, I1, M1, ft, ps⟩
theorem chain_read {r r' : R2} {f g : Val → Val → Option Bool} (hf : Cmp2D X.K r f) (hg : Cmp2D X.K r' g) (σ : L2.St) (H : Hp) (Q : VK) (h : tB U X.K W (eChain f g Fa Fb Fc) σ H fun k H' => Q (.bl k) H') :
    tChain r r' (tE U X.K W Fa) (tE U X.K W Fb) (tE U X.K W Fc) σ H Q := by
  refine tG.bind h fun Z ρ st1 x u I1 M1 H1 ft hx ps => ?_
  refine Post.next ft ps fun st2 y v I2 M2 H2 g2 ft2 hy ps2 => ?_
  cases e : f u v with
  | none => simp only [e] at ps2; exact False.elim ps2
  | some w =>
    refine hf x y u v w I2 M2 H2 _ ft2.ok (VR.grow g2 hx) hy e ⟨w, rfl, ?_⟩
    cases w with
    | false =>
      simp only [e] at ps2
      exact ps2 false I2 M2 H2 (Grow.refl _ _ _) ft2.ok ft2.rs rfl
    | true =>
      simp only [e] at ps2
      refine Post.next ft2 ps2 fun st3 z q I3 M3 H3 g3 ft3 hz ps3 => ?_
      obtain ⟨w, e', q'⟩ := Post.liftB ps3 ft3.ok ft3.rs
      exact hg y z v q w I3 M3 H3 _ ft3.ok (VR.grow g3 hy) hz e' q'
theorem ped_chain {op op' : CmpOp} {r r' : R2} {f g : Val → Val → Option Bool} (ho : OpR X (compareOp op) r) (hf : Cmp2D X.K r f) (ho' : OpR X (compareOp op') r') (hg : Cmp2D X.K r' g) (ha : PEd U X W a Fa) (hb : PEd U X W b Fb) (hc : PEd U X W c Fc)
    (hm : lastMarks [op, op'] [b, c] = false := by with_unfolding_all rfl) : PEd U X W (.Compare a [op, op'] [b, c] pos) (eB (eChain f g Fa Fb Fc)) := by
  refine pe_imp (pe_chain ho ho' ha hb hc hm) fun σ H Q h => chain_read hf hg σ H _ ?_
  refine tG.bind h fun Z ρ st1 x u I1 M1 H1 ft hx ps => ?_
  have hx : x = u := hx
  subst hx
  exact Post.boolE ps ft.ok ft.rs
theorem pad_nil : PAd U X W [] aNil := pa_imp pa_nil fun σ H Q ⟨Z, ρ, st, I, M, ft, ps⟩ => ps [] I M H (Grow.refl _ _ _) ft.ok ft.rs .nil
theorem pad_cons {e : Expr} {es : List Expr} {F : Rho → U.S → Res U.S Val} (ha : PEd U X W e F) (hr : PAd U X W es A) (hs : starEach (e :: es) X.env = (false, eval e X.env) :: starEach es X.env := by rfl) : PAd U X W (e :: es) (aCons F A) := by
  refine pa_imp (pa_cons ha hr hs) fun σ H Q h => ?_
  refine tG.bind h fun Z ρ st1 x u I1 M1 H1 ft hx ps => ?_
  refine Post.next ft ps fun st2 xs vs I2 M2 H2 g ft2 hy ps2 => ?_
  exact ps2 (x :: xs) I2 M2 H2 (Grow.refl _ _ _) ft2.ok ft2.rs (.cons (VR.grow g hx) hy)
theorem new_tup {K : PySem.W.Frag} {I : Hp} {M : Mw} {H : Hp} {xs : List V} {ds : List PyData} {Q : VK} {p : Addr} (k : Ok I M H) (r : RpAll K I xs ds) (hp : H p = none) (q : ∀ z I' H', Grow I M H I' M H' → Ok I' M H' → Rp K I' z (.tuple ds) → Q z H') : Q (.ref p) (upd H p (.tup xs)) := by
  obtain ⟨g, k'⟩ := Grow.alloc (o := .tup xs) k hp
  exact q _ _ _ g k' (.tup (SqT.of upd_same) (r.mono g.i))
theorem new_lst {K : PySem.W.Frag} {I : Hp} {M : Mw} {H : Hp} {xs : List V} {ds : List PyData} {Q : VK} {p : Addr} (k : Ok I M H) (r : RpAll K I xs ds) (hp : H p = none) (q : ∀ z I' H', Grow I M H I' M H' → Ok I' M H' → Rp K I' z (.list ds) → Q z H') : Q (.ref p) (upd H p (.lst xs)) := by
  obtain ⟨g, k'⟩ := Grow.alloc (o := .lst xs) k hp
  exact q _ _ _ g k' (.lst upd_same (r.mono g.i))
theorem ped_tup {es : List Expr} {x1} (h : PAd U X W es A) : PEd U X W (.Tuple es x1 pos) (eTup A) := by
  refine pe_imp (pe_tup h) fun σ H Q h => ?_
  refine tG.bind h fun Z ρ st1 xs vs I1 M1 H1 ft hx ps => ?_
  obtain ⟨w, e, q⟩ := Post.liftE ps ft.rs
  cases z : datas vs with
  | none => rw [z] at e; cases e
  | some ds =>
    rw [z] at e
    have r := VRs.datas hx z
    by_cases hl : ds.length ≤ 1000000
    · have e2 : some (PyData.tuple ds) = some w := by rw [← e]; exact (if_pos hl).symm
      cases e2
      exact ⟨sz (r.len ▸ hl), fun p hp => new_tup ft.ok r hp q⟩
    · have e2 : (none : Option PyData) = some w := by rw [← e]; exact (if_neg hl).symm
      cases e2
theorem ped_lst {es : List Expr} (h : PAd U X W es A) : PEd U X W (.List es pos) (eLst A) := by
  refine pe_imp (pe_lst h) fun σ H Q h => ?_
  refine tG.bind h fun Z ρ st1 xs vs I1 M1 H1 ft hx ps => ?_
  obtain ⟨w, e, q⟩ := Post.liftE ps ft.rs
  cases z : datas vs with
  | none => rw [z] at e; cases e
  | some ds =>
    rw [z] at e
    have r := VRs.datas hx z
    by_cases hl : ds.length ≤ 1000000
    · have e2 : some (PyData.list ds) = some w := by rw [← e]; exact (if_pos hl).symm
      cases e2
      exact ⟨sz (r.len ▸ hl), fun p hp => new_lst ft.ok r hp q⟩
    · have e2 : (none : Option PyData) = some w := by rw [← e]; exact (if_neg hl).symm
      cases e2
def CallD (K : PySem.W.Frag) (r : List V → Hp → VK → Prop) (f : List Val → Option PyData) : Prop := ∀ (xs : List V) (vs : List Val) (w : PyData) (I : Hp) (M : Mw) (H : Hp) (Q : VK), Ok I M H → VRs K I M H xs vs → f vs = some w →
  (∀ z I' H', Grow I M H I' M H' → Ok I' M H' → Rp K I' z w → Q z H') → r xs H Q
theorem call_read {r : List V → Hp → VK → Prop} {f : List Val → Option PyData} (hd : CallD X.K r f) (σ : L2.St) (H : Hp) (Q : VK) (h : tE U X.K W (eCall f A) σ H Q) : tCB r (tAs U X.K W A) σ H Q := by
  refine tG.bind h fun Z ρ st1 xs vs I1 M1 H1 ft hx ps => ?_
  obtain ⟨w, e, q⟩ := Post.liftE ps ft.rs
  exact hd xs vs w I1 M1 H1 Q ft.ok hx e q
theorem ped_callB {x : Str} {p : Pos} {e : Expr} {es : List Expr} {id : String} {r : List V → Hp → VK → Prop} {f : List Val → Option PyData} (hc : CallR X (.builtin id) r) (hd : CallD X.K r f) (hg : Gl X x) (hm : X.mg x = none) (hv : bootBuiltins x = some (.builtin id)) (ha : PAd U X W (e :: es) A)
    (hn : x ≠ "__name__" := by decide) (hdb : (x == ("__debug__" : Str)) = false := by decide) (he : starEach (e :: es) X.env = (false, eval e X.env) :: starEach es X.env := by rfl) (hpl : (backTo pos (starEach es X.env)).any (·.1) = false := by rfl) :
    PEd U X W (.Call (.Name x p) (e :: es) [] pos) (eCall f A) := pe_imp (pe_callB hc hg hm hv ha hn hdb he hpl) (call_read hd)
theorem ped_callTy {x : Str} {p : Pos} {e : Expr} {es : List Expr} {id : String} {r : List V → Hp → VK → Prop} {f : List Val → Option PyData} (hc : CallR X (.type id) r) (hd : CallD X.K r f) (hg : Gl X x) (hm : X.mg x = none) (hv : bootBuiltins x = some (.type id)) (ha : PAd U X W (e :: es) A)
    (hn : x ≠ "__name__" := by decide) (hdb : (x == ("__debug__" : Str)) = false := by decide) (he : starEach (e :: es) X.env = (false, eval e X.env) :: starEach es X.env := by rfl) (hpl : (backTo pos (starEach es X.env)).any (·.1) = false := by rfl) :
    PEd U X W (.Call (.Name x p) (e :: es) [] pos) (eCall f A) := pe_imp (pe_callTy hc hg hm hv ha hn hdb he hpl) (call_read hd)
end
end Dl
set_option maxRecDepth 100000
set_option maxHeartbeats 2000000
namespace Dl
open PySem L2
def lstOf : Val → Option (List PyData)
  | .d (.list xs) => some xs
  | .own xs => some xs
  | _ => none
def seqOf : Val → Option (List PyData)
  | .d (.list xs) => some xs
  | .d (.tuple xs) => some xs
  | .own xs => some xs
  | _ => none
def datOf : Val → Option PyData
  | .d x => some x
  | .own xs => some (.list xs)
  | _ => none
section
variable {K : PySem.W.Frag} {I : Hp} {M : Mw} {H : Hp} {x : V} {u : Val} {ds : List PyData}
theorem VR.lst (k : Ok I M H) (h : VR K I M H x u) (e : lstOf u = some ds) : ∃ p vs, x = .ref p ∧ H p = some (.lst vs) ∧ RpAll K I vs ds := by
  match u, h, e with
  | .d (.list xs), h, e =>
    cases e
    cases h with
    | lst a r => exact ⟨_, _, rfl, k.ih _ _ a, r⟩
  | .own xs, ⟨p, vs, e1, h1, _, _, r⟩, e =>
    cases e
    exact ⟨p, vs, e1, h1, r⟩
theorem VR.tup (k : Ok I M H) (h : VR K I M H x (.d (.tuple ds))) : ∃ p vs, x = .ref p ∧ SqT K H p vs ∧ RpAll K I vs ds := by
  cases h with
  | tup a r => exact ⟨_, _, rfl, sqT_mono k.ih a, r⟩
theorem VR.seq (k : Ok I M H) (h : VR K I M H x u) (e : seqOf u = some ds) : ∃ p vs, x = .ref p ∧ (SqL K H p vs ∨ SqT K H p vs) ∧ RpAll K I vs ds := by
  match u, h, e with
  | .d (.list xs), h, e =>
    obtain ⟨p, vs, h1, h2, h3⟩ := VR.lst k h e
    exact ⟨p, vs, h1, .inl (SqL.of h2), h3⟩
  | .own xs, h, e =>
    obtain ⟨p, vs, h1, h2, h3⟩ := VR.lst k h e
    exact ⟨p, vs, h1, .inl (SqL.of h2), h3⟩
  | .d (.tuple xs), h, e =>
    cases e
    obtain ⟨p, vs, h1, h2, h3⟩ := VR.tup k h
    exact ⟨p, vs, h1, .inr h2, h3⟩
theorem RpAll.append : ∀ {xs ys : List V} {ds es : List PyData}, RpAll K I xs ds → RpAll K I ys es → RpAll K I (xs ++ ys) (ds ++ es)
  | _, _, _, _, .nil, s => s
  | _, _, _, _, .cons h r, s => .cons h (RpAll.append r s)
theorem RpAll.drop : ∀ (n : Nat) {xs : List V} {ds : List PyData}, RpAll K I xs ds → RpAll K I (xs.drop n) (ds.drop n)
  | 0, _, _, r => r
  | _ + 1, _, _, .nil => .nil
  | n + 1, _, _, .cons _ r => RpAll.drop n r
theorem RpAll.take : ∀ (n : Nat) {xs : List V} {ds : List PyData}, RpAll K I xs ds → RpAll K I (xs.take n) (ds.take n)
  | 0, _, _, _ => .nil
  | _ + 1, _, _, .nil => .nil
  | n + 1, _, _, .cons h r => .cons h (RpAll.take n r)
theorem RpAll.get : ∀ {xs : List V} {ds : List PyData} {i : Nat} {d : PyData}, RpAll K I xs ds → ds[i]? = some d → ∃ x, xs[i]? = some x ∧ Rp K I x d
  | _, _, _, _, .nil, e => by simp at e
  | _, _, 0, _, .cons h _, e => by simp at e; subst e; exact ⟨_, rfl, h⟩
  | _, _, i + 1, d, .cons _ r, e => by
    obtain ⟨x, h1, h2⟩ := RpAll.get (i := i) (d := d) r (by simpa using e)
    exact ⟨x, by simpa using h1, h2⟩
theorem RpAll.rep {xs : List V} {ds : List PyData} (h : RpAll K I xs ds) : ∀ n : Nat, RpAll K I (List.replicate n xs).flatten (List.replicate n ds).flatten
  | 0 => .nil
  | n + 1 => by
    rw [List.replicate_succ, List.replicate_succ, List.flatten_cons, List.flatten_cons]
    exact h.append (RpAll.rep h n)
theorem RpAll.atI {xs : List V} {ds : List PyData} {i : Int} {d : PyData} (r : RpAll K I xs ds) (e : atI ds i = some d) : ∃ x, atI xs i = some x ∧ Rp K I x d := by
  unfold L2.atI at e ⊢
  rw [r.len]
  cases z : ixN ds.length i with
  | none => rw [z] at e; cases e
  | some j =>
    rw [z] at e
    exact r.get (i := j) e
theorem RpAll.ints : ∀ {xs : List V} {ns : List Int}, RpAll K I xs (ns.map PyData.int) → xs = ns.map V.int
  | _, [], .nil => rfl
  | _, n :: ns, .cons h r => by
    cases h
    rw [List.map_cons, RpAll.ints r]
theorem RpAll.bools : ∀ {xs : List V} {ns : List Bool}, RpAll K I xs (ns.map PyData.bool) → xs = ns.map V.bl
  | _, [], .nil => rfl
  | _, n :: ns, .cons h r => by
    cases h
    rw [List.map_cons, RpAll.bools r]
mutual
theorem Rp.dp (e : Same I H) : ∀ {x : V} {d : PyData}, Rp K I x d → d.canLay0 = true → Dp K H x d
  | _, _, .non, _ => .non
  | _, _, .bl b, _ => .bl b
  | _, _, .int i, _ => .int i
  | _, _, .str x, _ => .str x
  | _, _, .lst h r, c => .lst (SqL.of (e _ _ h)) (RpAll.dp e r (by simpa [PyData.canLay0] using c))
  | _, _, .tup h r, c => .tup (sqT_mono e h) (RpAll.dp e r (by simpa [PyData.canLay0] using c))
  | _, _, .dct h l r, c => by simp [PyData.canLay0] at c
theorem RpAll.dp (e : Same I H) : ∀ {xs : List V} {ds : List PyData}, RpAll K I xs ds → PyData.canLayAll0 ds = true → DpAll K H xs ds
  | _, _, .nil, _ => .nil
  | _, _, .cons (d := d) (ds := ds) h r, c => by
    have c' : d.canLay0 = true ∧ PyData.canLayAll0 ds = true := by simpa [PyData.canLayAll0] using c
    exact .cons (Rp.dp e h c'.1) (RpAll.dp e r c'.2)
end
theorem VR.dp (k : Ok I M H) (h : VR K I M H x u) {d : PyData} (e : datOf u = some d) (c : d.canLay0 = true) : Dp K H x d := by
  match u, h, e with
  | .d y, h, e =>
    cases e
    exact Rp.dp k.ih h c
  | .own xs, ⟨p, vs, e1, h1, _, _, r⟩, e =>
    cases e
    subst e1
    exact .lst (SqL.of h1) (RpAll.dp k.ih r (by simpa [PyData.canLay0] using c))
end

def vAdd : Val → Val → Option PyData
  | .d (.int i), .d (.int j) => some (.int (i + j))
  | .d (.str i), .d (.str j) => if i.length + j.length ≤ 1000000 then some (.str (i ++ j)) else none
  | .d (.tuple a), .d (.tuple b) => if a.length + b.length ≤ 1000000 then some (.tuple (a ++ b)) else none
  | .d (.list a), .d (.list b) => if a.length + b.length ≤ 1000000 then some (.list (a ++ b)) else none
  | .own a, .d (.list b) => if a.length + b.length ≤ 1000000 then some (.list (a ++ b)) else none
  | .d (.list a), .own b => if a.length + b.length ≤ 1000000 then some (.list (a ++ b)) else none
  | .own a, .own b => if a.length + b.length ≤ 1000000 then some (.list (a ++ b)) else none
  | _, _ => none
def vSub : Val → Val → Option PyData
  | .d (.int i), .d (.int j) => some (.int (i - j))
  | _, _ => none
noncomputable def vPow : Val → Val → Option PyData
  | .d (.int i), .d (.int j) => cif (0 ≤ j ∧ j ≤ 1000000 ∧ i.natAbs < 2 ^ 64) (some (.int (i ^ j.toNat))) none
  | _, _ => none
def vNeg : Val → Option PyData
  | .d (.int i) => some (.int (-i))
  | _ => none
def vLt : Val → Val → Option Bool
  | .d (.int i), .d (.int j) => some (decide (i < j))
  | _, _ => none
def vLe : Val → Val → Option Bool
  | .d (.int i), .d (.int j) => some (decide (i ≤ j))
  | _, _ => none
def vGt : Val → Val → Option Bool
  | .d (.int i), .d (.int j) => some (decide (j < i))
  | _, _ => none
def vGe : Val → Val → Option Bool
  | .d (.int i), .d (.int j) => some (decide (j ≤ i))
  | _, _ => none
def okD (d : PyData) : Bool := SeqAt.shaped d
instance (xs : List PyData) : Decidable (xs = []) := match xs with
  | [] => isTrue rfl
  | _ :: _ => isFalse (fun h => nomatch h)
def vEqD (u v : Val) : Option Bool := (datOf u).bind fun d => (datOf v).bind fun e => if okD d && okD e then some (PyData.eqv d e) else none
def vEq : Val → Val → Option Bool
  | .d (.str a), .d (.str b) => some (decide (a = b))
  | .d (.tuple xs), .d (.tuple []) => some (decide (xs = []))
  | u, v => vEqD u v
def vNe (u v : Val) : Option Bool := (vEq u v).map (!·)
def vIsN : Val → Option Bool
  | .d .none => some true
  | .exc _ _ => none
  | _ => some false
def vIsNot (v : Val) : Option Bool := (vIsN v).map (!·)

theorem opt_if {α : Type} {c : Prop} [Decidable c] {x w : α} (h : (if c then some x else none) = some w) : c ∧ x = w := by
  by_cases hc : c
  · rw [if_pos hc] at h; exact ⟨hc, Option.some.inj h⟩
  · rw [if_neg hc] at h; cases h
section
variable {X : Cx} {K : PySem.W.Frag}
theorem cat_lst {x y : V} {u v : Val} {a b : List PyData} {I : Hp} {M : Mw} {H : Hp} {Q : VK} (k : Ok I M H) (hx : VR K I M H x u) (hy : VR K I M H y v) (ea : lstOf u = some a) (eb : lstOf v = some b) (hl : a.length + b.length ≤ 1000000)
    (q : ∀ z I' H', Grow I M H I' M H' → Ok I' M H' → Rp K I' z (.list (a ++ b)) → Q z H') : rCat x y H Q := by
  obtain ⟨p, xs, rfl, h1, r1⟩ := VR.lst k hx ea
  obtain ⟨p', ys, rfl, h2, r2⟩ := VR.lst k hy eb
  exact ⟨p, p', xs, ys, rfl, rfl, h1, h2, sz (by rw [r1.len, r2.len]; exact hl), fun l hp => new_lst k (r1.append r2) hp q⟩
def rAddD (K : PySem.W.Frag) : R2 := fun x y H Q => rI0 (fun i j => .int (i + j)) x y H Q ∨ (∃ i j, x = .str i ∧ y = .str j ∧ i.length + j.length ≤ sizeLine ∧ Q (.str (i ++ j)) H) ∨ rCatA K x y H Q ∨ rCat x y H Q
theorem op_addD : OpR X (binaryOp .Add) (rAddD X.K) := OpR.or op_add (OpR.or op_add_str (OpR.or op_catA op_cat))
theorem d_add : Op2D K (rAddD K) vAdd := by
  intro x y u v w I M H Q k hx hy e q
  unfold vAdd at e
  split at e
  · cases e
    exact .inl ⟨_, _, Rp.int_inv hx, Rp.int_inv hy, q _ I H (Grow.refl _ _ _) k (.int _)⟩
  · obtain ⟨hl, rfl⟩ := opt_if e
    exact .inr (.inl ⟨_, _, Rp.str_inv hx, Rp.str_inv hy, sz hl, q _ I H (Grow.refl _ _ _) k (.str _)⟩)
  · obtain ⟨hl, rfl⟩ := opt_if e
    obtain ⟨p, xs, rfl, h1, r1⟩ := VR.tup k hx
    obtain ⟨p', ys, rfl, h2, r2⟩ := VR.tup k hy
    refine .inr (.inr (.inl ⟨p, p', xs, ys, rfl, rfl, h1, h2, sz (by rw [r1.len, r2.len]; exact hl), fun z => ?_, fun _ z => ?_, fun _ _ l hp => new_tup k (r1.append r2) hp q⟩))
    · subst z
      cases r1
      exact q _ I H (Grow.refl _ _ _) k hy
    · subst z
      cases r2
      rw [List.append_nil] at q
      exact q _ I H (Grow.refl _ _ _) k hx
  · obtain ⟨hl, rfl⟩ := opt_if e
    exact .inr (.inr (.inr (cat_lst k hx hy rfl rfl hl q)))
  · obtain ⟨hl, rfl⟩ := opt_if e
    exact .inr (.inr (.inr (cat_lst k hx hy rfl rfl hl q)))
  · obtain ⟨hl, rfl⟩ := opt_if e
    exact .inr (.inr (.inr (cat_lst k hx hy rfl rfl hl q)))
  · obtain ⟨hl, rfl⟩ := opt_if e
    exact .inr (.inr (.inr (cat_lst k hx hy rfl rfl hl q)))
  · cases e
theorem d_sub : Op2D K (rI0 fun i j => .int (i - j)) vSub := by
  intro x y u v w I M H Q k hx hy e q
  unfold vSub at e
  split at e
  · cases e
    exact ⟨_, _, Rp.int_inv hx, Rp.int_inv hy, q _ I H (Grow.refl _ _ _) k (.int _)⟩
  · cases e
theorem d_neg : Un1D K (rU fun i => .int (-i)) vNeg := by
  intro x u w I M H Q k hx e q
  unfold vNeg at e
  split at e
  · cases e
    exact ⟨_, Rp.int_inv hx, q _ I H (Grow.refl _ _ _) k (.int _)⟩
  · cases e
theorem d_lt : Cmp2D K (rI0 fun i j => .bl (decide (i < j))) vLt := by
  intro x y u v w I M H Q k hx hy e q
  unfold vLt at e
  split at e
  · cases e
    exact ⟨_, _, Rp.int_inv hx, Rp.int_inv hy, q⟩
  · cases e
theorem d_le : Cmp2D K (rI0 fun i j => .bl (decide (i ≤ j))) vLe := by
  intro x y u v w I M H Q k hx hy e q
  unfold vLe at e
  split at e
  · cases e
    exact ⟨_, _, Rp.int_inv hx, Rp.int_inv hy, q⟩
  · cases e
theorem d_gt : Cmp2D K (rI0 fun i j => .bl (decide (j < i))) vGt := by
  intro x y u v w I M H Q k hx hy e q
  unfold vGt at e
  split at e
  · cases e
    exact ⟨_, _, Rp.int_inv hx, Rp.int_inv hy, q⟩
  · cases e
theorem vEq_some {u v : Val} {w : Bool} (e : vEqD u v = some w) : ∃ d e, datOf u = some d ∧ datOf v = some e ∧ SeqAt.shaped d = true ∧ SeqAt.shaped e = true ∧ PyData.eqv d e = w := by
  unfold vEqD at e
  cases h1 : datOf u with
  | none => rw [h1] at e; cases e
  | some d =>
    cases h2 : datOf v with
    | none => rw [h1, h2] at e; cases e
    | some f =>
      rw [h1, h2] at e
      have e' : (if (okD d && okD f) = true then some (PyData.eqv d f) else none) = some w := e
      obtain ⟨hc, rfl⟩ := opt_if e'
      rw [Bool.and_eq_true] at hc
      exact ⟨d, f, rfl, rfl, hc.1, hc.2, rfl⟩
def rEqT (K : PySem.W.Frag) (n : Bool) : R2 := fun x y H Q => ∃ a b xs, x = .ref a ∧ y = .ref b ∧ SqT K H a xs ∧ SqT K H b [] ∧ Q (.bl (n != xs.isEmpty)) H
theorem op_eqT (hu : X.A.units + 64 < cLine) : OpR X (compareOp .Eq) (rEqT X.K false) := by
  intro pins s σ H x y v u Q I rx ry h
  obtain ⟨a, b, xs, rfl, rfl, h1, h2, q⟩ := h
  cases rx
  cases ry
  obtain ⟨its, r, p, _⟩ := I.tuple h1
  obtain ⟨its2, r2, p2, _⟩ := I.tuple h2
  cases r2
  refine SeqAt.eq_tupleAt (e := fun _ => true) p p2 (by omega) (fun j h1 h2 => absurd h2 (by simp)) ⟨.bl _, H, I, ?_, q⟩
  have e : ((List.range (min its.toArray.size ([] : List Value).toArray.size)).all (fun _ => true) && its.toArray.size == ([] : List Value).toArray.size) = (false != xs.isEmpty) := by
    cases r with
    | nil => rfl
    | cons _ _ => simp
  rw [e]
  rfl
theorem op_neT (hu : X.A.units + 64 < cLine) : OpR X (compareOp .NotEq) (rEqT X.K true) := by
  intro pins s σ H x y v u Q I rx ry h
  obtain ⟨a, b, xs, rfl, rfl, h1, h2, q⟩ := h
  cases rx
  cases ry
  obtain ⟨its, r, p, _⟩ := I.tuple h1
  obtain ⟨its2, r2, p2, _⟩ := I.tuple h2
  cases r2
  refine SeqAt.RcNeAt.tuples (e := fun _ => true) p p2 (by omega) (fun j h1 h2 => absurd h2 (by simp)) _ _ _ _ ⟨.bl _, H, I, ?_, q⟩
  have e : (!((List.range (min its.toArray.size ([] : List Value).toArray.size)).all (fun _ => true) && its.toArray.size == ([] : List Value).toArray.size)) = (true != xs.isEmpty) := by
    cases r with
    | nil => rfl
    | cons _ _ => simp
  rw [e]
  rfl
def rEqE (K : PySem.W.Frag) : R2 := fun x y H Q => rEq x y H Q ∨ rEqT K false x y H Q ∨ rEqD K x y H Q
def rNeE (K : PySem.W.Frag) : R2 := fun x y H Q => rNe x y H Q ∨ rEqT K true x y H Q ∨ rNeD K x y H Q
theorem op_eqE (hu : X.A.units + 64 < cLine) : OpR X (compareOp .Eq) (rEqE X.K) := OpR.or op_eq (OpR.or (op_eqT hu) (op_eqD hu))
theorem op_neE (hu : X.A.units + 64 < cLine) : OpR X (compareOp .NotEq) (rNeE X.K) := OpR.or op_ne (OpR.or (op_neT hu) (op_neD hu))
theorem emp_len {K : PySem.W.Frag} {I : Hp} {vs : List V} {ds : List PyData} (r : RpAll K I vs ds) : vs.isEmpty = decide (ds = []) := by cases r <;> rfl
theorem dec_str (a b : Str) : decide (V.str a = V.str b) = decide (a = b) := by
  by_cases h : a = b
  · subst h; rw [decide_eq_true rfl, decide_eq_true rfl]
  · rw [decide_eq_false h, decide_eq_false (fun z => h (V.str.inj z))]
theorem d_eq : Cmp2D K (rEqE K) vEq := by
  intro x y u v w I M H Q k hx hy e q
  unfold vEq at e
  split at e
  · cases e
    cases Rp.str_inv hx
    cases Rp.str_inv hy
    exact .inl ⟨rfl, by rw [dec_str]; exact q⟩
  · cases e
    obtain ⟨p, vs, rfl, h1, r⟩ := VR.tup k hx
    obtain ⟨p', vs', rfl, h2, r2⟩ := VR.tup k hy
    cases r2
    exact .inr (.inl ⟨p, p', vs, rfl, rfl, h1, h2, by rw [emp_len r]; simpa using q⟩)
  · obtain ⟨d, f, h1, h2, s1, s2, rfl⟩ := vEq_some e
    refine .inr (.inr ?_)
    exact ⟨d, f, hx.dp k h1 (SeqAt.canLay_of_shaped s1), hy.dp k h2 (SeqAt.canLay_of_shaped s2), s1, s2, q⟩
theorem d_ne : Cmp2D K (rNeE K) vNe := by
  intro x y u v w I M H Q k hx hy e q
  unfold vNe at e
  cases z : vEq u v with
  | none => rw [z] at e; cases e
  | some b =>
    rw [z] at e
    cases e
    unfold vEq at z
    split at z
    · cases z
      cases Rp.str_inv hx
      cases Rp.str_inv hy
      exact .inl ⟨rfl, by rw [dec_str]; exact q⟩
    · cases z
      obtain ⟨p, vs, rfl, h1, r⟩ := VR.tup k hx
      obtain ⟨p', vs', rfl, h2, r2⟩ := VR.tup k hy
      cases r2
      exact .inr (.inl ⟨p, p', vs, rfl, rfl, h1, h2, by rw [emp_len r]; simpa using q⟩)
    · obtain ⟨d, f, h1, h2, s1, s2, rfl⟩ := vEq_some z
      refine .inr (.inr ?_)
      exact ⟨d, f, hx.dp k h1 (SeqAt.canLay_of_shaped s1), hy.dp k h2 (SeqAt.canLay_of_shaped s2), s1, s2, q⟩
end
end Dl
set_option maxRecDepth 100000
set_option maxHeartbeats 4000000
namespace Dl
open PySem L2 PyProof.Rows
theorem mulT_same (l : Addr) (items : Array Value) (n : Nat) (dd : Option Addr) (sl : Array (Option Value)) (x : Int) (u : Tok) (hx : (decide (x < -(2 ^ 63)) || decide (x ≥ 2 ^ 63)) = false) (he : (items.isEmpty || x == 1) = true) :
    Meets (Builtin.«tuple.__mul__» ⟨[.ref l, .int x u], []⟩) (fun _ R s => s.heap.get? l = some { cls := .type "tuple", dict := dd, data := .seq items n, slots := sl } ∧ R (.ok (.ret (Value.ref l))) s) :=
  .of_wp fun prog w A R s h => by
    obtain ⟨hp, g, d, tk, os⟩ := s
    obtain ⟨hl, h⟩ := h
    have f1 := AutoSeq1.idx_int
    wp_walk using AutoSeq1.wpAny_loadPart' hl
    repeat (first
      | (refine wpAny_ite_false (decide_eq_false (by rw [hx]; exact Bool.false_ne_true)) ?_; wp_walk using AutoSeq1.wpAny_loadPart' hl)
      | (refine wpAny_ite_true (decide_eq_true he) ?_; wp_walk using AutoSeq1.wpAny_loadPart' hl))
    exact ⟨_, rfl, h⟩
theorem mulT_none (l : Addr) (items : Array Value) (n : Nat) (dd : Option Addr) (sl : Array (Option Value)) (x : Int) (u : Tok) (hx : (decide (x < -(2 ^ 63)) || decide (x ≥ 2 ^ 63)) = false) (he : (items.isEmpty || x == 1) = false) (h0 : (decide (x ≤ 0) || items.isEmpty) = true) :
    Meets (Builtin.«tuple.__mul__» ⟨[.ref l, .int x u], []⟩) (fun _ R s => s.heap.get? l = some { cls := .type "tuple", dict := dd, data := .seq items n, slots := sl } ∧
      R (.ok (.ret (Value.ref s.heap.objs.size))) { s with heap := s.heap.push { cls := Value.type "tuple", data := Data.seq #[] }, toks := s.toks }) :=
  .of_wp fun prog w A R s h => by
    obtain ⟨hp, g, d, tk, os⟩ := s
    obtain ⟨hl, h⟩ := h
    have f1 := AutoSeq1.idx_int
    wp_walk using AutoSeq1.wpAny_loadPart' hl
    repeat (first
      | (refine wpAny_ite_false (decide_eq_false (by rw [hx]; exact Bool.false_ne_true)) ?_; wp_walk using AutoSeq1.wpAny_loadPart' hl)
      | (refine wpAny_ite_false (decide_eq_false (by rw [he]; exact Bool.false_ne_true)) ?_; wp_walk using AutoSeq1.wpAny_loadPart' hl)
      | (refine wpAny_ite_true (decide_eq_true h0) ?_; wp_walk using AutoSeq1.wpAny_loadPart' hl))
    exact ⟨_, rfl, h⟩
def rRepT0 (K : PySem.W.Frag) : R2 := fun x y H Q => ∃ l k xs, x = .ref l ∧ y = .int k ∧ SqT K H l xs ∧ -(2 ^ 63) ≤ k ∧ k < 2 ^ 63 ∧
  (((xs = [] ∨ k = 1) ∧ Q (.ref l) H) ∨ (xs ≠ [] ∧ k ≤ 0 ∧ ∀ p, H p = none → Q (.ref p) (upd H p (.tup []))))
theorem op_repT0 {X : Cx} : OpR X (binaryOp .Mult) (rRepT0 X.K) := by
  intro pins s σ H x y v u Q I rx ry h
  obtain ⟨l, k, xs, rfl, rfl, hT, hlo, hhi, h⟩ := h
  cases rx
  obtain ⟨t, rfl⟩ := ry
  obtain ⟨its, r, ⟨⟨cls, dd, data, sl⟩, ho, hc, n, hd⟩, hs⟩ := I.tuple hT
  simp only at hc hd
  subst hc hd
  have hin : (decide (k < -(2 ^ 63)) || decide (k ≥ 2 ^ 63)) = false := by
    rw [decide_eq_false (by omega), decide_eq_false (by omega), Bool.or_false]
  rcases h with ⟨hs1, q⟩ | ⟨hne, h0, q⟩
  · have he : (its.toArray.isEmpty || k == 1) = true := by
      rcases hs1 with z | z
      · subst z
        cases r
        rfl
      · rw [z]; simp
    refine wpAny_binaryOp_repeat_ref (T := "tuple") (U := "int") (by decide) ⟨_, ho, rfl⟩ (fun s' => typeIs_int s' k t) noFill_tuple_mul F.fills_int_mul F.slot_int_rmul repeat_tuple F.slot_int_index.lookup ?_
    refine call_meets F.slot_int_rmul (typeIs_int s k t) F.entry_int_rmul (F.args_int_rmul_2 _ _) (int_rmul_tuple k t l its.toArray n dd sl) ⟨ho, rfl, ⟨_, ho, rfl⟩, ?_⟩
    exact call_meets F.slot_tuple_mul ⟨_, ho, rfl⟩ F.entry_tuple_mul (F.args_tuple_mul_2 _ _) (mulT_same l its.toArray n dd sl k t hin he) ⟨ho, ⟨.ref l, H, I, rfl, q⟩⟩
  · have hn : its.toArray.isEmpty = false := by
      cases its with
      | nil => cases r; exact absurd rfl hne
      | cons a b => rfl
    have he : (its.toArray.isEmpty || k == 1) = false := by
      rw [hn, Bool.false_or]
      exact beq_eq_false_iff_ne.mpr (by omega)
    have hz : (decide (k ≤ 0) || its.toArray.isEmpty) = true := by rw [decide_eq_true h0, Bool.true_or]
    refine wpAny_binaryOp_repeat_ref (T := "tuple") (U := "int") (by decide) ⟨_, ho, rfl⟩ (fun s' => typeIs_int s' k t) noFill_tuple_mul F.fills_int_mul F.slot_int_rmul repeat_tuple F.slot_int_index.lookup ?_
    refine call_meets F.slot_int_rmul (typeIs_int s k t) F.entry_int_rmul (F.args_int_rmul_2 _ _) (int_rmul_tuple k t l its.toArray n dd sl) ⟨ho, rfl, ⟨_, ho, rfl⟩, ?_⟩
    refine call_meets F.slot_tuple_mul ⟨_, ho, rfl⟩ F.entry_tuple_mul (F.args_tuple_mul_2 _ _) (mulT_none l its.toArray n dd sl k t hin he hz) ⟨ho, ?_⟩
    refine ⟨.ref s.heap.objs.size, _, I.laid (t' := s.toks) (o := .tup []) (fun b ob q => Heap.get?_push_of_some _ q) (Nat.le_refl _) ?_, rfl, q _ (I.hok.fresh (Nat.le_refl _))⟩
    exact ⟨Nat.zero_le _, [], .nil, IsTup.new _ _⟩

def rRepW (K : PySem.W.Frag) : R2 := fun x y H Q => ∃ l k xs, x = .ref l ∧ y = .int k ∧ SqT K H l xs ∧ xs ≠ [] ∧ 2 ≤ k ∧ k.toNat * xs.length ≤ 1000000 ∧ ∀ p, H p = none → Q (.ref p) (upd H p (.tup (List.replicate k.toNat xs).flatten))
theorem op_repW {X : Cx} : OpR X (binaryOp .Mult) (rRepW X.K) := by
  intro pins s σ H x y v u Q I rx ry h
  obtain ⟨l, k, xs, rfl, rfl, hT, hne, h1, hz, q⟩ := h
  cases rx
  obtain ⟨t, rfl⟩ := ry
  obtain ⟨its, r, ⟨⟨cls, dd, data, sl⟩, ho, hc, n, hd⟩, hs⟩ := I.tuple hT
  simp only at hc hd
  subst hc hd
  have hl := r.length
  have hz' : k.toNat * its.length ≤ 1000000 := by rw [← hl]; exact hz
  have hp : 1 ≤ its.length := by
    cases its with
    | nil => cases r; exact absurd rfl hne
    | cons a b => simp
  have hn : its.toArray.isEmpty = false := by
    cases its with
    | nil => simp at hp
    | cons a b => rfl
  have hkle : k.toNat ≤ 1000000 := Nat.le_trans (Nat.le_mul_of_pos_right _ (by omega)) hz'
  have hmI : ((its.toArray.size : Nat) : Int) * k ≤ 1000000 := by
    rw [List.size_toArray]
    have : ((its.length : Nat) : Int) * k = ((k.toNat * its.length : Nat) : Int) := by
      rw [Int.natCast_mul, Int.mul_comm, Int.toNat_of_nonneg (by omega)]
    omega
  have fl : (List.replicate k.toNat its).flatten.length ≤ sizeLine := by
    rw [PyProof.Rows.lm_len_rep_flat]
    exact sz hz'
  have hin : (decide (k < -(2 ^ 63)) || decide (k ≥ 2 ^ 63)) = false := by
    rw [decide_eq_false (by omega), decide_eq_false (by omega), Bool.or_false]
  have he : (its.toArray.isEmpty || k == 1) = false := by
    rw [hn, Bool.false_or]
    exact beq_eq_false_iff_ne.mpr (by omega)
  have h0 : (decide (k ≤ 0) || its.toArray.isEmpty) = false := by
    rw [hn, decide_eq_false (by omega)]; rfl
  have hmany : Builtin.Tuple.tupleTooMany (((its.toArray.size : Nat) : Int) * k) = false := by
    unfold Builtin.Tuple.tupleTooMany
    exact decide_eq_false (by rw [sizeLine_eq]; omega)
  refine wpAny_binaryOp_repeat_ref (T := "tuple") (U := "int") (by decide) ⟨_, ho, rfl⟩ (fun s' => typeIs_int s' k t) noFill_tuple_mul F.fills_int_mul F.slot_int_rmul repeat_tuple F.slot_int_index.lookup ?_
  refine call_meets F.slot_int_rmul (typeIs_int s k t) F.entry_int_rmul (F.args_int_rmul_2 _ _) (int_rmul_tuple k t l its.toArray n dd sl) ⟨ho, rfl, ⟨_, ho, rfl⟩, ?_⟩
  refine call_meets F.slot_tuple_mul ⟨_, ho, rfl⟩ F.entry_tuple_mul (F.args_tuple_mul_2 _ _) (tuple_mulW l its.toArray n dd sl k t hin he h0 (by omega) hmany (by rw [size_rep, List.size_toArray]; exact fl)) ⟨ho, ?_⟩
  rw [size_rep]
  refine ⟨.ref s.heap.objs.size, _, I.laid (t' := s.toks) (o := .tup (List.replicate k.toNat xs).flatten) (fun b ob q => Heap.get?_push_of_some _ q) (Nat.le_refl _) ?_, rfl, q _ (I.hok.fresh (Nat.le_refl _))⟩
  refine ⟨?_, _, r.rep k.toNat, IsTup.new _ _⟩
  rw [PyProof.Rows.lm_len_rep_flat]
  exact sz hz

noncomputable def vMul : Val → Val → Option PyData
  | .d (.int i), .d (.int j) => cif (i.natAbs.log2 + j.natAbs.log2 < 1000000) (some (.int (i * j))) none
  | .d (.tuple a), .d (.int k) => cif (-1000 ≤ k ∧ k ≤ 1000 ∧ a.length ≤ 1000) (some (.tuple (List.replicate k.toNat a).flatten)) (cif (1 ≤ k ∧ k ≤ 1000000 ∧ k.toNat * a.length ≤ 1000000) (some (.tuple (List.replicate k.toNat a).flatten)) none)
  | .d (.list a), .d (.int k) => cif (-1000000 ≤ k ∧ k ≤ 1000000 ∧ a.length * k.toNat ≤ 1000000) (some (.list (List.replicate k.toNat a).flatten)) none
  | .own a, .d (.int k) => cif (-1000000 ≤ k ∧ k ≤ 1000000 ∧ a.length * k.toNat ≤ 1000000) (some (.list (List.replicate k.toNat a).flatten)) none
  | _, _ => none
def rMulD (K : PySem.W.Frag) : R2 := fun x y H Q => rI CMulW (fun i j => .int (i * j)) x y H Q ∨ rRepT K x y H Q ∨ rRepT0 K x y H Q ∨ rRep x y H Q ∨ rRepW K x y H Q
theorem op_mulD {X : Cx} : OpR X (binaryOp .Mult) (rMulD X.K) := OpR.or op_mulW (OpR.or op_repT (OpR.or op_repT0 (OpR.or op_rep op_repW)))
theorem rep_one {α : Type} (a : List α) : (List.replicate (1 : Int).toNat a).flatten = a := by
  show (List.replicate 1 a).flatten = a
  simp
theorem rep_nil {α : Type} : ∀ n : Nat, (List.replicate n ([] : List α)).flatten = []
  | 0 => rfl
  | n + 1 => by rw [List.replicate_succ, List.flatten_cons, rep_nil n]; rfl
theorem rep_lst {K : PySem.W.Frag} {x y : V} {u : Val} {a : List PyData} {kk : Int} {I : Hp} {M : Mw} {H : Hp} {Q : VK} (k : Ok I M H) (hx : VR K I M H x u) (hy : VR K I M H y (.d (.int kk))) (ea : lstOf u = some a)
    (hl : -1000000 ≤ kk ∧ kk ≤ 1000000 ∧ a.length * kk.toNat ≤ 1000000)
    (q : ∀ z I' H', Grow I M H I' M H' → Ok I' M H' → Rp K I' z (.list (List.replicate kk.toNat a).flatten) → Q z H') : rRep x y H Q := by
  obtain ⟨p, xs, rfl, h1, r1⟩ := VR.lst k hx ea
  exact ⟨p, kk, xs, rfl, Rp.int_inv hy, h1, by omega, by omega, sz (by rw [r1.len]; exact hl.2.2), fun l hp => new_lst k (r1.rep _) hp q⟩
theorem d_mul {K : PySem.W.Frag} : Op2D K (rMulD K) vMul := by
  intro x y u v w I M H Q k hx hy e q
  unfold vMul at e
  split at e
  · obtain ⟨hc, rfl⟩ := opt_cif e
    exact .inl ⟨_, _, Rp.int_inv hx, Rp.int_inv hy, hc, q _ I H (Grow.refl _ _ _) k (.int _)⟩
  · rename_i a kk
    by_cases hold : -1000 ≤ kk ∧ kk ≤ 1000 ∧ a.length ≤ 1000
    case neg =>
      rw [cif_neg hold] at e
      obtain ⟨⟨h2, h3, hl2⟩, rfl⟩ := opt_cif e
      have hxx := hx
      obtain ⟨p, xs, rfl, h1, r1⟩ := VR.tup k hx
      by_cases hz : xs = []
      · subst hz
        cases r1
        rw [rep_nil] at q
        exact .inr (.inr (.inl ⟨p, kk, [], rfl, Rp.int_inv hy, h1, by omega, by omega, .inl ⟨.inl rfl, q _ I H (Grow.refl _ _ _) k hxx⟩⟩))
      · by_cases hk1 : kk = 1
        · subst hk1
          rw [rep_one] at q
          exact .inr (.inr (.inl ⟨p, 1, xs, rfl, Rp.int_inv hy, h1, by omega, by omega, .inl ⟨.inr rfl, q _ I H (Grow.refl _ _ _) k hxx⟩⟩))
        · exact .inr (.inr (.inr (.inr ⟨p, kk, xs, rfl, Rp.int_inv hy, h1, hz, by omega, by rw [r1.len]; exact hl2, fun l hp => new_tup k (r1.rep _) hp q⟩)))
    rw [cif_pos hold] at e
    cases e
    obtain ⟨hlo, hhi, hl⟩ := hold
    have hxx := hx
    obtain ⟨p, xs, rfl, h1, r1⟩ := VR.tup k hx
    by_cases hz : xs = []
    · subst hz
      cases r1
      rw [rep_nil] at q
      exact .inr (.inr (.inl ⟨p, kk, [], rfl, Rp.int_inv hy, h1, by omega, by omega, .inl ⟨.inl rfl, q _ I H (Grow.refl _ _ _) k hxx⟩⟩))
    · by_cases hk : kk = 1
      · subst hk
        rw [rep_one] at q
        exact .inr (.inr (.inl ⟨p, 1, xs, rfl, Rp.int_inv hy, h1, by omega, by omega, .inl ⟨.inr rfl, q _ I H (Grow.refl _ _ _) k hxx⟩⟩))
      · by_cases h0 : kk ≤ 0
        · have e0 : kk.toNat = 0 := by omega
          rw [e0] at q
          exact .inr (.inr (.inl ⟨p, kk, xs, rfl, Rp.int_inv hy, h1, by omega, by omega, .inr ⟨hz, h0, fun l hp => new_tup k .nil hp q⟩⟩))
        · exact .inr (.inl ⟨p, kk, xs, rfl, Rp.int_inv hy, h1, hz, by omega, hhi, by rw [r1.len]; exact hl, fun l hp => new_tup k (r1.rep _) hp q⟩)
  · obtain ⟨hc, rfl⟩ := opt_cif e
    exact .inr (.inr (.inr (.inl (rep_lst k hx hy rfl hc q))))
  · obtain ⟨hc, rfl⟩ := opt_cif e
    exact .inr (.inr (.inr (.inl (rep_lst k hx hy rfl hc q))))
  · cases e
end Dl
set_option maxRecDepth 100000
set_option maxHeartbeats 4000000
namespace Dl
open PySem L2
section
variable {S : Type}
def tIs (f : Val → Option Bool) (a : Rho → S → Res S Val) : Rho → S → Res S Bool := fun ρ st => (a ρ st).bind fun x st1 => liftB (f x) st1
end
theorem VR.isN {K : PySem.W.Frag} {I : Hp} {M : Mw} {H : Hp} {x : V} {u : Val} {b : Bool} (h : VR K I M H x u) (e : vIsN u = some b) : decide (x = .non) = b := by
  match u, h, e with
  | .d .none, h, e => cases e; rw [Rp.non_inv h]; rfl
  | .d (.bool c), h, e => cases e; rw [Rp.bool_inv h]; rfl
  | .d (.int c), h, e => cases e; rw [Rp.int_inv h]; rfl
  | .d (.str c), h, e => cases e; rw [Rp.str_inv h]; rfl
  | .d (.list c), h, e => cases e; cases h; rfl
  | .d (.tuple c), h, e => cases e; cases h; rfl
  | .d (.dict c), h, e => cases e; cases h; rfl
  | .ref n, ⟨a, _, z⟩, e => cases e; rw [z]; rfl
  | .own xs, ⟨p, vs, z, _⟩, e => cases e; rw [z]; rfl
  | .ownd a b c, ⟨p, vs, z, _⟩, e => cases e; rw [z]; rfl
section
variable {U : Uni} {X : Cx} {W : WX} {a b c : Expr} {Fa Fb Fc : Rho → U.S → Res U.S Val} {A : Rho → U.S → Res U.S (List Val)} {pos : Pos}
theorem ptd_notN {j p} (ha : PEd U X W a Fa) : PTd U X W (.Compare a [.IsNot] [.Constant .none j p] pos) (tIs vIsNot Fa) := by
  refine pt_imp (pt_cmp (pc_notN ha)) fun σ H Q h => ?_
  refine tG.bind h fun Z ρ st1 x u I1 M1 H1 ft hx ps => ?_
  obtain ⟨w, e, q⟩ := Post.liftB ps ft.ok ft.rs
  unfold vIsNot at e
  cases z : vIsN u with
  | none => rw [z] at e; cases e
  | some c =>
    rw [z] at e
    cases e
    exact ⟨!c, by rw [VR.isN hx z], q⟩
end

theorem VRs.one {K : PySem.W.Frag} {I : Hp} {M : Mw} {H : Hp} {xs : List V} {v : Val} (h : VRs K I M H xs [v]) : ∃ x, xs = [x] ∧ VR K I M H x v := by
  cases h with
  | cons a r => cases r; exact ⟨_, rfl, a⟩
theorem VRs.two {K : PySem.W.Frag} {I : Hp} {M : Mw} {H : Hp} {xs : List V} {v w : Val} (h : VRs K I M H xs [v, w]) : ∃ x y, xs = [x, y] ∧ VR K I M H x v ∧ VR K I M H y w := by
  cases h with
  | cons a r =>
    cases r with
    | cons b r => cases r; exact ⟨_, _, rfl, a, b⟩
def bLen : List Val → Option PyData
  | [.d (.str z)] => if z.length ≤ 1000000 then some (.int z.length) else none
  | [u] => (seqOf u).map fun ds => .int ds.length
  | _ => none
def bInt : List Val → Option PyData
  | [.d (.int i)] => some (.int i)
  | [.d (.bool b)] => some (.int (if b then 1 else 0))
  | _ => none
def bAbs : List Val → Option PyData
  | [.d (.int i)] => some (.int (if i < 0 then -i else i))
  | _ => none
def bMin : List Val → Option PyData
  | [.d (.int i), .d (.int j)] => some (.int (if j < i then j else i))
  | _ => none
def bMax : List Val → Option PyData
  | [.d (.int i), .d (.int j)] => some (.int (if j > i then j else i))
  | _ => none
def allInts : List PyData → Option (List Int)
  | [] => some []
  | .int i :: r => (allInts r).map (i :: ·)
  | _ :: _ => none
def allBools : List PyData → Option (List Bool)
  | [] => some []
  | .bool i :: r => (allBools r).map (i :: ·)
  | _ :: _ => none
def bSum : List Val → Option PyData
  | [u] => (lstOf u).bind fun ds => (allInts ds).map fun ns => .int ns.sum
  | _ => none
def bAll : List Val → Option PyData
  | [u] => (lstOf u).bind fun ds => (allBools ds).map fun bs => .bool (bs.all id)
  | _ => none
def bAny : List Val → Option PyData
  | [u] => (lstOf u).bind fun ds => (allBools ds).map fun bs => .bool (bs.any id)
  | _ => none
def bTuple : List Val → Option PyData
  | [u] => (seqOf u).map .tuple
  | _ => none
def bList : List Val → Option PyData
  | [u] => (seqOf u).map .list
  | _ => none
theorem allInts_eq : ∀ {ds : List PyData} {ns : List Int}, allInts ds = some ns → ds = ns.map PyData.int
  | [], _, e => by cases e; rfl
  | .int i :: r, ns, e => by
    unfold allInts at e
    cases z : allInts r with
    | none => rw [z] at e; cases e
    | some ms => rw [z] at e; cases e; rw [List.map_cons, ← allInts_eq z]
theorem allInts_map (ns : List Int) : allInts (ns.map PyData.int) = some ns := by
  induction ns with
  | nil => rfl
  | cons n ns ih => rw [List.map_cons]; unfold allInts; rw [ih]; rfl
theorem allBools_eq : ∀ {ds : List PyData} {ns : List Bool}, allBools ds = some ns → ds = ns.map PyData.bool
  | [], _, e => by cases e; rfl
  | .bool i :: r, ns, e => by
    unfold allBools at e
    cases z : allBools r with
    | none => rw [z] at e; cases e
    | some ms => rw [z] at e; cases e; rw [List.map_cons, ← allBools_eq z]
theorem allBools_map (ns : List Bool) : allBools (ns.map PyData.bool) = some ns := by
  induction ns with
  | nil => rfl
  | cons n ns ih => rw [List.map_cons]; unfold allBools; rw [ih]; rfl
theorem map_some {α β : Type} {o : Option α} {f : α → β} {w : β} (h : o.map f = some w) : ∃ a, o = some a ∧ f a = w := by
  cases o with
  | none => cases h
  | some a => exact ⟨a, rfl, Option.some.inj h⟩
theorem bind_some {α β : Type} {o : Option α} {f : α → Option β} {w : β} (h : o.bind f = some w) : ∃ a, o = some a ∧ f a = some w := by
  cases o with
  | none => cases h
  | some a => exact ⟨a, rfl, h⟩
section
variable {X : Cx} {K : PySem.W.Frag}
def rLenD (K : PySem.W.Frag) : List V → Hp → VK → Prop := fun xs H Q => (∃ p ys, xs = [.ref p] ∧ (SqL K H p ys ∨ SqT K H p ys) ∧ Q (.int ys.length) H) ∨ ∃ z, xs = [.str z] ∧ z.length ≤ sizeLine ∧ Q (.int z.length) H
theorem call_lenD : CallR X (.builtin "len") (rLenD X.K) := CallR.or call_len_seq call_len_str
theorem d_len : CallD K (rLenD K) bLen := by
  intro xs vs w I M H Q k hs e q
  unfold bLen at e
  split at e
  · obtain ⟨x, rfl, hx⟩ := VRs.one hs
    obtain ⟨hc, rfl⟩ := opt_if e
    exact .inr ⟨_, by rw [Rp.str_inv hx], sz hc, q _ I H (Grow.refl _ _ _) k (.int _)⟩
  · obtain ⟨x, rfl, hx⟩ := VRs.one hs
    obtain ⟨ds, e1, rfl⟩ := map_some e
    obtain ⟨p, ys, rfl, h1, r⟩ := VR.seq k hx e1
    exact .inl ⟨p, ys, rfl, h1, q _ I H (Grow.refl _ _ _) k (by rw [r.len]; exact .int _)⟩
  · cases e
theorem d_all : CallD K (rAll K) bAll := by
  intro xs vs w I M H Q k hs e q
  unfold bAll at e
  split at e
  · obtain ⟨x, rfl, hx⟩ := VRs.one hs
    obtain ⟨ds, e1, e2⟩ := bind_some e
    obtain ⟨ns, e3, rfl⟩ := map_some e2
    obtain ⟨p, ys, rfl, h1, r⟩ := VR.lst k hx e1
    rw [allBools_eq e3] at r
    exact ⟨p, ns, rfl, SqL.of (by rw [← r.bools]; exact h1), q _ I H (Grow.refl _ _ _) k (.bl _)⟩
  · cases e
theorem d_tuple : CallD K (fun xs H Q => ∃ p ys, xs = [.ref p] ∧ ((SqL K H p ys ∧ ∀ l, H l = none → Q (.ref l) (upd H l (.tup ys))) ∨ (SqT K H p ys ∧ Q (.ref p) H))) bTuple := by
  intro xs vs w I M H Q k hs e q
  unfold bTuple at e
  split at e
  · rename_i u
    obtain ⟨x, rfl, hx⟩ := VRs.one hs
    obtain ⟨ds, e1, rfl⟩ := map_some e
    match u, hx, e1 with
    | .d (.tuple xs), hx, e1 =>
      cases e1
      have h0 := hx
      obtain ⟨p, ys, rfl, h1, r⟩ := VR.tup k hx
      exact ⟨p, ys, rfl, .inr ⟨h1, q _ I H (Grow.refl _ _ _) k h0⟩⟩
    | .d (.list xs), hx, e1 =>
      obtain ⟨p, ys, rfl, h1, r⟩ := VR.lst k hx (show lstOf (.d (.list xs)) = some ds from e1)
      exact ⟨p, ys, rfl, .inl ⟨SqL.of h1, fun l hl => new_tup k r hl q⟩⟩
    | .own xs, hx, e1 =>
      obtain ⟨p, ys, rfl, h1, r⟩ := VR.lst k hx (show lstOf (.own xs) = some ds from e1)
      exact ⟨p, ys, rfl, .inl ⟨SqL.of h1, fun l hl => new_tup k r hl q⟩⟩
  · cases e
theorem d_list : CallD K (fun xs H Q => ∃ p ys, xs = [.ref p] ∧ (SqL K H p ys ∨ SqT K H p ys) ∧ ∀ l, H l = none → Q (.ref l) (upd H l (.lst ys))) bList := by
  intro xs vs w I M H Q k hs e q
  unfold bList at e
  split at e
  · obtain ⟨x, rfl, hx⟩ := VRs.one hs
    obtain ⟨ds, e1, rfl⟩ := map_some e
    obtain ⟨p, ys, rfl, h1, r⟩ := VR.seq k hx e1
    exact ⟨p, ys, rfl, h1, fun l hl => new_lst k r hl q⟩
  · cases e
end

inductive Ty | int | bool | tuple | str
def tyName : Ty → String
  | .int => "int" | .bool => "bool" | .tuple => "tuple" | .str => "str"
def isTy : Ty → Val → Option PyData
  | .int, .d (.int _) => some (.bool true)
  | .int, .d (.bool _) => some (.bool true)
  | .bool, .d (.bool _) => some (.bool true)
  | .tuple, .d (.tuple _) => some (.bool true)
  | .str, .d (.str _) => some (.bool true)
  | _, .d _ => some (.bool false)
  | _, _ => none
def tyD : PyData → String
  | .none => "NoneType" | .bool _ => "bool" | .int _ => "int" | .str _ => "str" | .list _ => "list" | .tuple _ => "tuple" | .dict _ => "dict"
theorem VR.tyX {K : PySem.W.Frag} {I : Hp} {M : Mw} {H : Hp} {x : V} {d : PyData} (k : Ok I M H) (h : VR K I M H x (.d d)) : TyX K H x (.type (tyD d)) := by
  cases h with
  | non => exact .base .non
  | bl b => exact .base (.bl b)
  | int b => exact .base (.int b)
  | str b => exact .base (.str b)
  | lst a r => exact .base (.lst (k.ih _ _ a))
  | dct a l r => exact .base (.dK (k.ih _ _ a))
  | tup a r =>
    rcases a with (a | ⟨o, a⟩) | ⟨o, its, n, a, c, _⟩
    · exact .base (.tup (k.ih _ _ a))
    · exact .fTuple (k.ih _ _ a)
    · exact .kTuple a c
theorem kit_of_ty {K : PySem.W.Frag} {T : Ty} {d w : PyData} (e : isTy T (.d d) = some w) : ∃ b, w = .bool b ∧ PySem.W.kitOne K (.type (tyD d)) (.type (tyName T)) = some b := by
  have key : ∀ (a b : String) (r : Bool), kitB a b = some r → PySem.W.kitOne K (.type a) (.type b) = some r := fun a b r h => kit_ty h
  cases d with
  | none => cases T <;> cases e <;> exact ⟨_, rfl, key "NoneType" _ _ (by decide +kernel)⟩
  | bool b => cases T <;> cases e <;> exact ⟨_, rfl, key "bool" _ _ (by decide +kernel)⟩
  | int b => cases T <;> cases e <;> exact ⟨_, rfl, key "int" _ _ (by decide +kernel)⟩
  | str b => cases T <;> cases e <;> exact ⟨_, rfl, key "str" _ _ (by decide +kernel)⟩
  | list b => cases T <;> cases e <;> exact ⟨_, rfl, key "list" _ _ (by decide +kernel)⟩
  | tuple b => cases T <;> cases e <;> exact ⟨_, rfl, key "tuple" _ _ (by decide +kernel)⟩
  | dict b => cases T <;> cases e <;> exact ⟨_, rfl, key "dict" _ _ (by decide +kernel)⟩
section
variable {U : Uni} {X : Cx} {W : WX} {a : Expr} {Fa : Rho → U.S → Res U.S Val} {pos p q : Pos}
theorem ped_isi (T : Ty) {x : Str} (hg : Gl X "isinstance") (hm : X.mg "isinstance" = none) (hgT : Gl X x) (hmT : X.mg x = none) (hT : bootBuiltins x = some (.type (tyName T))) (ha : PEd U X W a Fa)
    (hs : starEach (a :: [.Name x q]) X.env = (false, eval a X.env) :: starEach [.Name x q] X.env := by rfl) (hn : x ≠ "__name__" := by decide) (hd : (x == ("__debug__" : Str)) = false := by decide) :
    PEd U X W (.Call (.Name "isinstance" p) [a, .Name x q] [] pos) (eUn (isTy T) Fa) := by
  refine pe_imp (pe_callB call_isi hg hm (by decide +kernel) (pa_cons ha (pa_cons (pe_bltn (v := .ty (tyName T)) hgT hmT hT rfl hn hd) pa_nil) hs) (by decide) (by decide) hs) fun σ H Q h => ?_
  refine tG.bind h fun Z ρ st1 x u I1 M1 H1 ft hx ps => ?_
  obtain ⟨w, e, q⟩ := Post.liftE ps ft.rs
  match u, hx, e with
  | .d d, hx, e =>
    obtain ⟨b, rfl, hk⟩ := kit_of_ty (K := X.K) e
    exact ⟨x, .ty (tyName T), _, _, b, rfl, .ty _, VR.tyX ft.ok hx, hk, q _ I1 H1 (Grow.refl _ _ _) ft.ok (.bl b)⟩
  | .ref n, hx, e => cases T <;> cases e
  | .own n, hx, e => cases T <;> cases e
  | .exc n m, hx, e => cases T <;> cases e
  | .ownd a b c, hx, e => cases T <;> cases e
end
end Dl
set_option maxRecDepth 100000
set_option maxHeartbeats 4000000
namespace Dl
open PySem L2
def vIx : Val → Val → Option PyData
  | .d (.str z), .d (.int i) => if z.length ≤ 1000000 then (atI z.cps.toList i).map fun c => .str ⟨#[c]⟩ else none
  | u, .d (.int i) => (seqOf u).bind fun ds => atI ds i
  | _, _ => none
def cutD {α : Type} (xs : List α) (lo hi : Option Int) : List α := (xs.drop (HT.sIx xs.length 0 lo)).take (HT.sIx xs.length xs.length hi - HT.sIx xs.length 0 lo)
section
variable {K : PySem.W.Frag}
theorem RpAll.cut {I : Hp} {xs : List V} {ds : List PyData} (r : RpAll K I xs ds) (lo hi : Option Int) : RpAll K I (cutV xs lo hi) (cutD ds lo hi) := by
  unfold cutV cutD
  rw [r.len]
  exact (r.drop _).take _
theorem d_ix : Op2D K (rIx K) vIx := by
  intro x y u v w I M H Q k hx hy e q
  unfold vIx at e
  split at e
  · obtain ⟨hc, e⟩ : _ ∧ _ := by
      split at e
      · rename_i hc; exact ⟨hc, e⟩
      · cases e
    obtain ⟨c, e1, rfl⟩ := map_some e
    exact .inr (.inr ⟨_, _, c, Rp.str_inv hx, Rp.int_inv hy, sz hc, e1, q _ I H (Grow.refl _ _ _) k (.str _)⟩)
  · obtain ⟨ds, e1, e2⟩ := bind_some e
    obtain ⟨p, ys, rfl, h1, r⟩ := VR.seq k hx e1
    obtain ⟨z, h2, h3⟩ := r.atI e2
    rcases h1 with h1 | h1
    · exact .inl ⟨p, ys, _, z, rfl, Rp.int_inv hy, h1, h2, q _ I H (Grow.refl _ _ _) k h3⟩
    · exact .inr (.inl ⟨p, ys, _, z, rfl, Rp.int_inv hy, h1, h2, q _ I H (Grow.refl _ _ _) k h3⟩)
  · cases e
end
section
variable {S : Type}
def oNone : Rho → S → Res S (Option Int) := fun _ st => .ok none st
def oSome (a : Rho → S → Res S Val) : Rho → S → Res S (Option Int) := fun ρ st => (a ρ st).bind fun x st1 => match x with
  | .d (.int i) => .ok (some i) st1
  | _ => .stuck
def eSl (f : Val → Option Int → Option Int → Option PyData) (a : Rho → S → Res S Val) (lo hi : Rho → S → Res S (Option Int)) : Rho → S → Res S Val := fun ρ st => (a ρ st).bind fun x st1 => (lo ρ st1).bind fun l st2 => (hi ρ st2).bind fun h st3 => lift (f x l h) st3
end
def vSl : Val → Option Int → Option Int → Option PyData
  | .d (.tuple xs), lo, hi => some (.tuple (cutD xs lo hi))
  | .d (.list xs), lo, hi => some (.list (cutD xs lo hi))
  | .own xs, lo, hi => some (.list (cutD xs lo hi))
  | _, _, _ => none
theorem po_imp {X : Cx} {e : Option Expr} {t t' : TO} (h : PO X e t) (m : ∀ σ H Q, t' σ H Q → t σ H Q) : PO X e t' := ⟨fun pins s σ H Q I q => h.run pins s σ H Q I (m σ H Q q)⟩
abbrev rOpt : Hp → Mw → Hp → Option Int → Option Int → Prop := fun _ _ _ x a => x = a
def POd (U : Uni) (X : Cx) (W : WX) (e : Option Expr) (F : Rho → U.S → Res U.S (Option Int)) : Prop := PO X e (tG U X.K W rOpt F)
def rSlD (K : PySem.W.Frag) : V → Option Int → Option Int → Hp → VK → Prop := fun x lo hi H Q => rSlA K x lo hi H Q ∨ rSlL K x lo hi H Q
theorem sl_D {X : Cx} : SlR X (rSlD X.K) := SlR.or sl_tupA sl_list
theorem cut_whole {α : Type} {xs : List α} {lo hi : Option Int} (h : HT.sIx xs.length 0 lo = 0 ∧ HT.sIx xs.length xs.length hi = xs.length) : cutD xs lo hi = xs := by
  unfold cutD
  rw [h.1, h.2]
  simp
section
variable {U : Uni} {X : Cx} {W : WX} {a b : Expr} {Fa Fb : Rho → U.S → Res U.S Val} {G1 G2 : Rho → U.S → Res U.S (Option Int)} {lo hi : Option Expr} {pos p2 : Pos}
theorem ped_ix (ha : PEd U X W a Fa) (hb : PEd U X W b Fb) (hs : PlainIx b) : PEd U X W (.Subscript a b pos) (eOp vIx Fa Fb) := pe_imp (pe_ix ix_seq ha hb hs) (op_read d_ix)
theorem pod_none : POd U X W none oNone := po_imp po_none fun σ H Q ⟨Z, ρ, st, I, M, ft, ps⟩ => ps none I M H (Grow.refl _ _ _) ft.ok ft.rs rfl
theorem pod_some (ha : PEd U X W a Fa) : POd U X W (some a) (oSome Fa) := by
  refine po_imp (po_some ha) fun σ H Q h => ?_
  refine tG.bind h fun Z ρ st1 x u I1 M1 H1 ft hx ps => ?_
  match u, hx, ps with
  | .d (.int i), hx, ps => exact ⟨i, Rp.int_inv hx, ps (some i) I1 M1 H1 (Grow.refl _ _ _) ft.ok ft.rs rfl⟩
theorem ped_sl (ha : PEd U X W a Fa) (hl : POd U X W lo G1) (hh : POd U X W hi G2) : PEd U X W (.Subscript a (.Slice lo hi none p2) pos) (eSl vSl Fa G1 G2) := by
  refine pe_imp (pe_slice sl_D ha hl hh) fun σ H Q h => ?_
  refine tG.bind h fun Z ρ st1 x u I1 M1 H1 ft hx ps => ?_
  refine Post.next ft ps fun st2 y l I2 M2 H2 g2 ft2 hy ps2 => ?_
  refine Post.next ft2 ps2 fun st3 z m I3 M3 H3 g3 ft3 hz ps3 => ?_
  have hy : y = l := hy
  have hz : z = m := hz
  subst hy hz
  have hx3 := VR.grow (g2.trans g3) hx
  obtain ⟨w, e, q⟩ := Post.liftE ps3 ft3.rs
  match u, hx3, e with
  | .d (.tuple xs), hx3, e =>
    cases e
    have h0 := hx3
    obtain ⟨p, vs, rfl, h1, r⟩ := VR.tup ft3.ok hx3
    refine .inl ⟨p, vs, rfl, h1, fun hw => ?_, fun hw l hl => new_tup ft3.ok (r.cut y z) hl q⟩
    rw [cut_whole (by rw [← r.len]; exact hw)] at q
    exact q _ I3 H3 (Grow.refl _ _ _) ft3.ok h0
  | .d (.list xs), hx3, e =>
    cases e
    obtain ⟨p, vs, rfl, h1, r⟩ := VR.lst ft3.ok hx3 rfl
    exact .inr ⟨p, vs, rfl, SqL.of h1, fun l hl => new_lst ft3.ok (r.cut y z) hl q⟩
  | .own xs, hx3, e =>
    cases e
    obtain ⟨p, vs, rfl, h1, r⟩ := VR.lst ft3.ok hx3 rfl
    exact .inr ⟨p, vs, rfl, SqL.of h1, fun l hl => new_lst ft3.ok (r.cut y z) hl q⟩
end
def flatD : PyData → Bool
  | .none => true | .bool _ => true | .int _ => true | .str _ => true
  | _ => false
def vIn (u v : Val) : Option Bool := match u with
  | .d x => if flatD x then (seqOf v).bind fun ds => if ds.all flatD then some (ds.any fun y => PyData.eqv y x) else none else none
  | _ => none
def vNotIn (u v : Val) : Option Bool := (vIn u v).map (!·)
section
variable {K : PySem.W.Frag} {I : Hp}
theorem Rp.flat {x : V} {d : PyData} (h : Rp K I x d) (f : flatD d = true) : flatV x = true := by
  cases h <;> first | rfl | cases f
theorem RpAll.flat : ∀ {xs : List V} {ds : List PyData}, RpAll K I xs ds → ds.all flatD = true → xs.all flatV = true
  | _, _, .nil, _ => rfl
  | _, _, .cons h r, f => by
    rw [List.all_cons, Bool.and_eq_true] at f ⊢
    exact ⟨h.flat f.1, RpAll.flat r f.2⟩
theorem eqV_eqv {x y : V} {d e : PyData} (hx : Rp K I x d) (hy : Rp K I y e) (f : flatD d = true) (g : flatD e = true) : eqV x y = PyData.eqv d e := by
  cases hx <;> first | (cases f; done) | (cases hy <;> first | (cases g; done) | rfl | (simp [eqV, PyData.eqv]))
theorem any_eqv {x : V} {d : PyData} (hx : Rp K I x d) (f : flatD d = true) : ∀ {xs : List V} {ds : List PyData}, RpAll K I xs ds → ds.all flatD = true → xs.any (fun y => eqV y x) = ds.any fun e => PyData.eqv e d
  | _, _, .nil, _ => rfl
  | _, _, .cons h r, g => by
    rw [List.all_cons, Bool.and_eq_true] at g
    rw [List.any_cons, List.any_cons, eqV_eqv h hx g.1 f, any_eqv hx f r g.2]
theorem vIn_read {M : Mw} {H : Hp} {x y : V} {u v : Val} {w : Bool} (k : Ok I M H) (hx : VR K I M H x u) (hy : VR K I M H y v) (e : vIn u v = some w) :
    ∃ p xs, y = .ref p ∧ (SqL K H p xs ∨ SqT K H p xs) ∧ flatV x = true ∧ xs.all flatV = true ∧ inV x xs = w := by
  unfold vIn at e
  match u, hx, e with
  | .d d, hx, e =>
    have e : (if flatD d = true then (seqOf v).bind fun ds => if ds.all flatD = true then some (ds.any fun y => PyData.eqv y d) else none else none) = some w := e
    split at e
    · rename_i f
      obtain ⟨ds, e1, e2⟩ := bind_some e
      obtain ⟨g, rfl⟩ := opt_if e2
      obtain ⟨p, ys, rfl, h1, r⟩ := VR.seq k hy e1
      exact ⟨p, ys, rfl, h1, Rp.flat hx f, r.flat g, any_eqv hx f r g⟩
    · cases e
theorem d_in : Cmp2D K (rIn K false) vIn := by
  intro x y u v w I M H Q k hx hy e q
  obtain ⟨p, xs, h1, h2, h3, h4, rfl⟩ := vIn_read k hx hy e
  exact ⟨p, xs, h1, h2, h3, h4, q⟩
theorem d_notIn : Cmp2D K (rIn K true) vNotIn := by
  intro x y u v w I M H Q k hx hy e q
  obtain ⟨b, e1, rfl⟩ := map_some e
  obtain ⟨p, xs, h1, h2, h3, h4, rfl⟩ := vIn_read k hx hy e1
  exact ⟨p, xs, h1, h2, h3, h4, q⟩
end
end Dl
set_option maxRecDepth 100000
set_option maxHeartbeats 4000000
namespace Dl
open PySem L2
/-- data or a handle: what may be handed on -/
def isDR : Val → Bool
  | .d _ => true
  | .ref _ => true
  | _ => false
structure FnG (U : Uni) (P : Program) (w : World) (K : PySem.W.Frag) (mg : Str → Option Value) (base : Heap) (k : Nat) (f : Addr) (fd : FuncData) (ps : List Str) (F : List Val → U.S → Res U.S Val) : Prop where
  run : ∀ (A : Around) (outer : List Env) (s : Shared) (H : Hp) (args : Args) (us : List Value) (xs : List V) (Q : VK) (E : XK) (vs : List Val) (st : U.S) (I : Hp) (M : Mw),
    Room k A → A.guards = some [] → Env0 P w K mg base A outer s H → BindsTo s fd args (ps.zip us) → Vals xs us → xs.length = ps.length → Ok I M H → U.R st M → VRs K I M H xs vs → vs.all isDR = true →
    Post U K (VR K) (F vs st) I M H Q E → codeAny (model P w) A (.call (.ref f) args) (CR (L2.CX P w) outer P w H s Q E) s
theorem FnG.mono {U : Uni} {P : Program} {w : World} {K : PySem.W.Frag} {mg : Str → Option Value} {base : Heap} {j k : Nat} {f : Addr} {fd : FuncData} {ps : List Str} {F : List Val → U.S → Res U.S Val} (h : FnG U P w K mg base j f fd ps F) (le : j ≤ k) : FnG U P w K mg base k f fd ps F :=
  ⟨fun A outer s H args us xs Q E vs st I M hr => h.run A outer s H args us xs Q E vs st I M (hr.mono le)⟩
section
variable {S : Type}
def eApp (F : List Val → S → Res S Val) (n : Nat) (a : Rho → S → Res S (List Val)) : Rho → S → Res S Val := fun ρ st => (a ρ st).bind fun xs st1 => if xs.all isDR = true ∧ xs.length = n then F xs st1 else .stuck
end
theorem VRs.len {K : PySem.W.Frag} {I : Hp} {M : Mw} {H : Hp} : ∀ {xs : List V} {vs : List Val}, VRs K I M H xs vs → xs.length = vs.length
  | _, _, .nil => rfl
  | _, _, .cons _ r => by rw [List.length_cons, List.length_cons, r.len]
section
variable {U : Uni} {X : Cx} {W : WX} {k : Nat} {f : Addr} {fd : FuncData} {ps : List Str} {F : List Val → U.S → Res U.S Val} {x : Str} {p pos : Pos} {e : Expr} {es : List Expr} {A : Rho → U.S → Res U.S (List Val)}
theorem run_g {pins : List (Addr × Obj)} {σ : L2.St} {H : Hp} {s : Shared} {Q : VK} {us : List Value} {xs : List V} {vs : List Val} {st : U.S} {I : Hp} {M : Mw} (G : FnG U X.prog X.w X.K X.mg X.base k f fd ps F) (hr : Room k X.A) (hgd : X.A.guards = some []) (hb : Binds X.K fd ps []) (tk : Takes X W)
    (J : Inv X pins σ H s) (r : Vals xs us) (hl : xs.length = ps.length) (ok : Ok I M H) (rs : U.R st M) (hv : VRs X.K I M H xs vs) (hd : vs.all isDR = true) (h : Post U X.K (VR X.K) (F vs st) I M H Q (fun cls d H' => W cls d σ H')) :
    wpAny (model X.prog X.w) X.A (call (.ref f) us) (EP X pins σ Q) X.xe s := by
  have hbs : BindsTo s fd ⟨us, []⟩ (ps.zip us) := by
    have z := hb s us J.kIn (by rw [List.append_nil, ← r.length]; exact hl)
    rw [List.append_nil] at z
    exact z
  refine wpAny_call (codeAny_mono (G.run X.A X.stack s H ⟨us, []⟩ us xs Q (WE W σ) vs st I M hr hgd J.env0 hbs r hl ok rs hv hd h) fun res s' hq => ?_)
  match res, hq with
  | .error er, hq => exact passAt tk σ pins H s er s' J hq
  | .ok (.ret u), hq => exact J.after hq
theorem ped_call (G : FnG U X.prog X.w X.K X.mg X.base k f fd ps F) (hr : Room k X.A) (hgd : X.A.guards = some []) (hg : Gl X x) (hm : X.mg x = some (.ref f)) (hk : PySem.W.keepIn X.K (.ref f) = true) (hb : Binds X.K fd ps []) (tk : Takes X W)
    (ha : PAd U X W (e :: es) A) (hdb : (x == ("__debug__" : Str)) = false := by decide) (he : starEach (e :: es) X.env = (false, eval e X.env) :: starEach es X.env := by rfl) (hpl : (backTo pos (starEach es X.env)).any (·.1) = false := by rfl) :
    PEd U X W (.Call (.Name x p) (e :: es) [] pos) (eApp F ps.length A) := by
  refine ⟨fun pins s σ H Q J h => wpAny_Call_Name_kw (ld_glob J hg hm ?_ hdb)⟩
  have h1 : tAs U X.K W A σ H (fun xs H1 => ∃ vs st1 I1 M1, Ok I1 M1 H1 ∧ U.R st1 M1 ∧ VRs X.K I1 M1 H1 xs vs ∧ vs.all isDR = true ∧ vs.length = ps.length ∧ Post U X.K (VR X.K) (F vs st1) I1 M1 H1 Q (fun cls d H' => W cls d σ H')) := by
    refine tG.bind h fun Z ρ st1 xs vs I1 M1 H1 ft hx ps1 => ?_
    by_cases hc : vs.all isDR = true ∧ vs.length = ps.length
    · rw [if_pos hc] at ps1
      exact ⟨vs, st1, I1, M1, ft.ok, ft.rs, hx, hc.1, hc.2, ps1⟩
    · rw [if_neg hc] at ps1
      exact False.elim ps1
  refine PySem.W.callWith_K (h₀ := X.base) J.ok.mod.kin hk (thn (ha.run pos pins s σ H _ J h1) fun us s1 ⟨xs, H1, J1, r, q⟩ => ⟨J1.kIn, ?_⟩) he hpl
  obtain ⟨vs, st1, I1, M1, ok, rs, hv, hd, hl, ps1⟩ := q
  exact run_g G hr hgd hb tk J1 r (hv.len.trans hl) ok rs hv hd ps1
theorem ped_call0 (G : FnG U X.prog X.w X.K X.mg X.base k f fd ps F) (hr : Room k X.A) (hgd : X.A.guards = some []) (hg : Gl X x) (hm : X.mg x = some (.ref f)) (hk : PySem.W.keepIn X.K (.ref f) = true) (hb : Binds X.K fd ps []) (tk : Takes X W)
    (hdb : (x == ("__debug__" : Str)) = false := by decide) : PEd U X W (.Call (.Name x p) [] [] pos) (eApp F ps.length aNil) := by
  refine ⟨fun pins s σ H Q J h => wpAny_Call_Name_kw (ld_glob J hg hm ?_ hdb)⟩
  obtain ⟨Z, ρ, st, I, M, ft, ps1⟩ := h
  have ps1 : Post U X.K (VR X.K) (if ([] : List Val).all isDR = true ∧ ([] : List Val).length = ps.length then F [] st else .stuck) I M H Q (fun cls d H' => W cls d σ H') := ps1
  by_cases hc : ([] : List Val).all isDR = true ∧ ([] : List Val).length = ps.length
  · rw [if_pos hc] at ps1
    exact PySem.W.callWith_K0 J.kIn hk (run_g (us := []) G hr hgd hb tk J .nil hc.2 ft.ok ft.rs .nil rfl ps1)
  · rw [if_neg hc] at ps1
    exact False.elim ps1
end

inductive SRes (S : Type) where
  | next (ρ : Rho) (s : S)
  | ret (v : Val) (s : S)
  | brk (ρ : Rho) (s : S)
  | cnt (ρ : Rho) (s : S)
  | exc (c : Nat) (fs : List PyData) (ρ : Rho) (s : S)
  | stuck
def SPost (U : Uni) (K : PySem.W.Frag) (W : WX) (Z : Base) (I0 : Hp) (D : Ends) (r : SRes U.S) : Prop :=
  match r with
  | .next ρ st => ∀ σ I M H, Same I0 I → Fit U K Z σ ρ st I M H → D.nx σ H
  | .brk ρ st => ∀ σ I M H, Same I0 I → Fit U K Z σ ρ st I M H → D.bk σ H
  | .cnt ρ st => ∀ σ I M H, Same I0 I → Fit U K Z σ ρ st I M H → D.ct σ H
  | .ret v st => ∀ x I M H, Grow Z.I Z.M Z.H I M H → Ok I M H → U.R st M → VR K I M H x v → D.rt x H
  | .exc c fs ρ st => ∀ σ cls d I M H, Same I0 I → Fit U K Z σ ρ st I M H → XR U K I c fs cls d → W cls d σ H
  | .stuck => False
theorem SPost.shift {U : Uni} {K : PySem.W.Frag} {W : WX} {Z : Base} {I0 I1 : Hp} {D : Ends} {r : SRes U.S} (e : Same I0 I1) (h : SPost U K W Z I0 D r) : SPost U K W Z I1 D r := by
  cases r with
  | next ρ st => exact fun σ I M H s f => h σ I M H (e.trans s) f
  | brk ρ st => exact fun σ I M H s f => h σ I M H (e.trans s) f
  | cnt ρ st => exact fun σ I M H s f => h σ I M H (e.trans s) f
  | ret v st => exact h
  | exc c fs ρ st => exact fun σ cls d I M H s f => h σ cls d I M H (e.trans s) f
  | stuck => exact h
def tS (U : Uni) (K : PySem.W.Frag) (W : WX) (F : Rho → U.S → SRes U.S) : TS := fun D σ H => ∃ Z ρ st I M, Fit U K Z σ ρ st I M H ∧ SPost U K W Z I D (F ρ st)
def PSd (U : Uni) (X : Cx) (W : WX) (s : Stmt) (F : Rho → U.S → SRes U.S) : Prop := PS X s (tS U X.K W F)
def PBd (U : Uni) (X : Cx) (W : WX) (s : List Stmt) (F : Rho → U.S → SRes U.S) : Prop := PSs X s (tS U X.K W F)
theorem ps_imp {X : Cx} {s : Stmt} {t t' : TS} (h : PS X s t) (m : ∀ D σ H, t' D σ H → t D σ H) : PS X s t' := ⟨fun pins s σ H D J q => h.run pins s σ H D J (m D σ H q)⟩
theorem pss_imp {X : Cx} {s : List Stmt} {t t' : TS} (h : PSs X s t) (m : ∀ D σ H, t' D σ H → t D σ H) : PSs X s t' := ⟨fun pins s σ H D J q => h.run pins s σ H D J (m D σ H q)⟩
section
variable {S : Type}
def sNop : Rho → S → SRes S := fun ρ st => .next ρ st
def sSeq (F G : Rho → S → SRes S) : Rho → S → SRes S := fun ρ st => match F ρ st with
  | .next ρ' st' => G ρ' st'
  | r => r
/-- the end of an expression within a statement -/
def sBind {α : Type} (r : Res S α) (ρ : Rho) (f : α → S → SRes S) : SRes S := match r with
  | .ok a st => f a st
  | .exc c fs st => .exc c fs ρ st
  | .stuck => .stuck
def sSet (i : Nat) (F : Rho → S → Res S Val) : Rho → S → SRes S := fun ρ st => sBind (F ρ st) ρ fun v st1 => if isDR v = true then .next (ρ.set i (some v)) st1 else .stuck
def sRet (F : Rho → S → Res S Val) : Rho → S → SRes S := fun ρ st => sBind (F ρ st) ρ fun v st1 => if isDR v = true then .ret v st1 else .stuck
def sRetN : Rho → S → SRes S := fun _ st => .ret (.d .none) st
def sDrop (F : Rho → S → Res S Val) : Rho → S → SRes S := fun ρ st => sBind (F ρ st) ρ fun _ st1 => .next ρ st1
def sIf (T : Rho → S → Res S Bool) (F G : Rho → S → SRes S) : Rho → S → SRes S := fun ρ st => sBind (T ρ st) ρ fun b st1 => if b = true then F ρ st1 else G ρ st1
def sRetOwn (i : Nat) : Rho → S → SRes S := fun ρ st => match ρ[i]? with
  | some (some (.own ds)) => .ret (.d (.list ds)) st
  | _ => .stuck
def sApp (i : Nat) (F : Rho → S → Res S Val) : Rho → S → SRes S := fun ρ st => match ρ[i]? with
  | some (some (.own ds)) => sBind (F ρ st) ρ fun v st1 => match v with
    | .d x => if ds.length < 1000000 then .next (ρ.set i (some (.own (ds ++ [x])))) st1 else .stuck
    | _ => .stuck
  | _ => .stuck
end
section
variable {U : Uni} {K : PySem.W.Frag} {W : WX} {α β : Type} {rel : Hp → Mw → Hp → β → α → Prop}
/-- an expression within a statement -/
theorem tS.bind {F : Rho → U.S → Res U.S α} {f : Rho → α → U.S → SRes U.S} {σ : L2.St} {H : Hp} {D : Ends} {R : β → Hp → Prop} (h : tS U K W (fun ρ st => sBind (F ρ st) ρ (f ρ)) D σ H)
    (m : ∀ Z ρ st1 x a I1 M1 H1, Fit U K Z σ ρ st1 I1 M1 H1 → rel I1 M1 H1 x a → SPost U K W Z I1 D (f ρ a st1) → R x H1) : tG U K W rel F σ H R := by
  obtain ⟨Z, ρ, st, I, M, ft, ps⟩ := h
  refine ⟨Z, ρ, st, I, M, ft, ?_⟩
  have ps : SPost U K W Z I D (sBind (F ρ st) ρ (f ρ)) := ps
  cases e : F ρ st with
  | ok a st1 =>
    rw [e] at ps
    exact fun x I1 M1 H1 g k r q => m Z ρ st1 x a I1 M1 H1 (ft.grow g k r) q (ps.shift g.i)
  | exc c fs st1 =>
    rw [e] at ps
    exact fun cls d I1 M1 H1 g k r q => ps σ cls d I1 M1 H1 g.i (ft.grow g k r) q
  | stuck =>
    rw [e] at ps
    exact ps
/-- a further expression within a statement -/
theorem SPost.next {F : Rho → U.S → Res U.S α} {f : α → U.S → SRes U.S} {Z : Base} {σ : L2.St} {ρ : Rho} {st : U.S} {I : Hp} {M : Mw} {H : Hp} {D : Ends} {R : β → Hp → Prop} (ft : Fit U K Z σ ρ st I M H) (h : SPost U K W Z I D (sBind (F ρ st) ρ f))
    (m : ∀ st1 x a I1 M1 H1, Grow I M H I1 M1 H1 → Fit U K Z σ ρ st1 I1 M1 H1 → rel I1 M1 H1 x a → SPost U K W Z I1 D (f a st1) → R x H1) : tG U K W rel F σ H R := by
  refine ⟨Z, ρ, st, I, M, ft, ?_⟩
  cases e : F ρ st with
  | ok a st1 =>
    rw [e] at h
    exact fun x I1 M1 H1 g k r q => m st1 x a I1 M1 H1 g (ft.grow g k r) q (SPost.shift g.i h)
  | exc c fs st1 =>
    rw [e] at h
    exact fun cls d I1 M1 H1 g k r q => h σ cls d I1 M1 H1 g.i (ft.grow g k r) q
  | stuck =>
    rw [e] at h
    exact h
theorem Fit.set {Z : Base} {σ : L2.St} {ρ : Rho} {st : U.S} {I : Hp} {M : Mw} {H : Hp} {x : V} {v : Val} (f : Fit U K Z σ ρ st I M H) (i : Nat) (h : VR K I M H x v) (hd : isDR v = true) : Fit U K Z (σ.set i (some x)) (ρ.set i (some v)) st I M H := by
  have key : ∀ (j : Nat) (w : Val), (ρ.set i (some v))[j]? = some (some w) → (j = i ∧ w = v ∧ (σ.set i (some x))[j]? = some (some x)) ∨ (j ≠ i ∧ ρ[j]? = some (some w) ∧ (σ.set i (some x))[j]? = σ[j]?) := fun j w e => by
    by_cases hj : j = i
    · subst hj
      have hlt : j < ρ.length := by
        have := (List.getElem?_eq_some_iff.mp e).1
        rwa [List.length_set] at this
      rw [List.getElem?_set_self hlt] at e
      have e := Option.some.inj (Option.some.inj e)
      refine .inl ⟨rfl, e.symm, ?_⟩
      rw [List.getElem?_set_self (by rw [← f.len]; exact hlt)]
    · rw [List.getElem?_set_ne (Ne.symm hj)] at e
      exact .inr ⟨hj, e, List.getElem?_set_ne (Ne.symm hj)⟩
  refine ⟨f.g, f.ok, f.rs, by rw [List.length_set, List.length_set]; exact f.len, fun j w e => ?_, fun j ds p e1 e2 => ?_, fun j l ds es p e1 e2 e3 e4 => ?_, fun j t ks ds p e1 e2 => ?_, fun j l t ks ds t' ks' es p e1 e2 e3 e4 => ?_⟩
  · rcases key j w e with ⟨_, rfl, h2⟩ | ⟨_, h1, h2⟩
    · exact ⟨x, h2, h⟩
    · rw [h2]; exact f.env j w h1
  · rcases key j _ e1 with ⟨_, h1, _⟩ | ⟨_, h1, h2⟩
    · subst h1; cases hd
    · rw [h2] at e2; exact f.new j ds p h1 e2
  · rcases key j _ e1 with ⟨_, h1, _⟩ | ⟨_, h1, h2⟩
    · subst h1; cases hd
    · rcases key l _ e2 with ⟨_, h3, _⟩ | ⟨_, h3, h4⟩
      · subst h3; cases hd
      · rw [h2] at e3
        rw [h4] at e4
        exact f.sep j l ds es p h1 h3 e3 e4
  · rcases key j _ e1 with ⟨_, h1, _⟩ | ⟨_, h1, h2⟩
    · subst h1; cases hd
    · rw [h2] at e2; exact f.newd j t ks ds p h1 e2
  · rcases key j _ e1 with ⟨_, h1, _⟩ | ⟨_, h1, h2⟩
    · subst h1; cases hd
    · rcases key l _ e2 with ⟨_, h3, _⟩ | ⟨_, h3, h4⟩
      · subst h3; cases hd
      · rw [h2] at e3
        rw [h4] at e4
        exact f.sepd j l t ks ds t' ks' es p h1 h3 e3 e4
end
section
variable {U : Uni} {X : Cx} {W : WX} {s : Stmt} {rest : List Stmt} {F G : Rho → U.S → SRes U.S} {e : Expr} {Fe : Rho → U.S → Res U.S Val} {T : Rho → U.S → Res U.S Bool} {pos : Pos}
theorem pbd_nil : PBd U X W [] sNop := pss_imp pss_nil fun D σ H ⟨Z, ρ, st, I, M, ft, ps⟩ => ps σ I M H (Same.refl I) ft
theorem pbd_cons (h1 : PSd U X W s F) (h2 : PBd U X W rest G) : PBd U X W (s :: rest) (sSeq F G) := by
  refine pss_imp (pss_cons h1 h2) fun D σ H ⟨Z, ρ, st, I, M, ft, ps⟩ => ⟨Z, ρ, st, I, M, ft, ?_⟩
  unfold sSeq at ps
  cases e : F ρ st with
  | next ρ' st' =>
    rw [e] at ps
    exact fun σ' I' M' H' e' ft' => ⟨Z, ρ', st', I', M', ft', SPost.shift e' ps⟩
  | ret v st' => rw [e] at ps; exact ps
  | brk ρ' st' => rw [e] at ps; exact ps
  | cnt ρ' st' => rw [e] at ps; exact ps
  | exc c fs ρ' st' => rw [e] at ps; exact ps
  | stuck => rw [e] at ps; exact ps
theorem pbd_one (h1 : PSd U X W s F) : PBd U X W [s] F := pss_one h1
theorem psd_set {i : Nat} {x : Str} {pos' : Pos} (hN : X.N.Nodup) (hi : X.N[i]? = some x) (hx : Loc X.env.scope x) (he : PEd U X W e Fe) (hs : swapsWith e (some (.Name x pos')) pos.line X.env = pure false := by rfl)
    (hf : X.fn x = true ∨ X.env.scope.names.lookup x = some .local := by first | exact .inl rfl | exact .inr rfl | assumption) : PSd U X W (.Assign [.Name x pos'] e pos) (sSet i Fe) := by
  refine ps_imp (ps_set hN hi hx he hs hf) fun D σ H h => ?_
  refine tS.bind h fun Z ρ st1 x a I1 M1 H1 ft hx ps => ?_
  by_cases hd : isDR a = true
  · rw [if_pos hd] at ps
    exact ps _ I1 M1 H1 (Same.refl _) (ft.set i hx hd)
  · rw [if_neg hd] at ps
    exact False.elim ps
theorem psd_ret (he : PEd U X W e Fe) : PSd U X W (.Return (some e) pos) (sRet Fe) := by
  refine ps_imp (ps_ret he) fun D σ H h => ?_
  refine tS.bind h fun Z ρ st1 x a I1 M1 H1 ft hx ps => ?_
  by_cases hd : isDR a = true
  · rw [if_pos hd] at ps
    exact ps x I1 M1 H1 ft.g ft.ok ft.rs hx
  · rw [if_neg hd] at ps
    exact False.elim ps
theorem psd_if {c : Expr} {a b : List Stmt} (hc : PTd U X W c T) (ha : PBd U X W a F) (hb : PBd U X W b G) : PSd U X W (.If c a b pos) (sIf T F G) := by
  refine ps_imp (ps_if hc ha hb) fun D σ H h => ?_
  refine tS.bind h fun Z ρ st1 x v I1 M1 H1 ft hx ps => ?_
  have hx : x = v := hx
  subst hx
  cases x with
  | true => exact ⟨Z, ρ, st1, I1, M1, ft, ps⟩
  | false => exact ⟨Z, ρ, st1, I1, M1, ft, ps⟩
end
end Dl
set_option maxRecDepth 100000
set_option maxHeartbeats 4000000
namespace Dl
open PySem L2
def PostN (U : Uni) (K : PySem.W.Frag) (r : Res U.S (List PyData)) (I : Hp) (M : Mw) (H : Hp) (Q : VK) (E : XK) : Prop :=
  match r with
  | .ok ds st => ∀ p vs I' M' H', H p = none → Grow I M H I' M' H' → Ok I' M' H' → U.R st M' → H' p = some (.lst vs) → I' p = none → M'.h p = none → RpAll K I' vs ds → Q (.ref p) H'
  | .exc c fs st => ∀ cls d I' M' H', Grow I M H I' M' H' → Ok I' M' H' → U.R st M' → XR U K I' c fs cls d → E cls d H'
  | .stuck => False
def tN (U : Uni) (K : PySem.W.Frag) (W : WX) (F : Rho → U.S → Res U.S (List PyData)) : TE := fun σ H Q => ∃ Z ρ st I M, Fit U K Z σ ρ st I M H ∧ PostN U K (F ρ st) I M H Q (fun cls d H' => W cls d σ H')
def PNd (U : Uni) (X : Cx) (W : WX) (e : Expr) (F : Rho → U.S → Res U.S (List PyData)) : Prop := PE X e (tN U X.K W F)
theorem PostN.shift {U : Uni} {K : PySem.W.Frag} {r : Res U.S (List PyData)} {I I1 : Hp} {M M1 : Mw} {H H1 : Hp} {Q : VK} {E : XK} (g : Grow I M H I1 M1 H1) (h : PostN U K r I M H Q E) : PostN U K r I1 M1 H1 Q E := by
  cases r with
  | ok ds st =>
    refine fun p vs I' M' H' hp g' k r => h p vs I' M' H' ?_ (g.trans g') k r
    cases z : H p with
    | none => rfl
    | some o => exact absurd hp (g.th p (ne_none_of z))
  | exc c fs st => exact fun cls d I' M' H' g' k r q => h cls d I' M' H' (g.trans g') k r q
  | stuck => exact h
section
variable {S : Type}
/-- the list as data -/
def eFrz (F : Rho → S → Res S (List PyData)) : Rho → S → Res S Val := fun ρ st => (F ρ st).bind fun ds st1 => .ok (.d (.list ds)) st1
def nLst (a : Rho → S → Res S (List Val)) : Rho → S → Res S (List PyData) := fun ρ st => (a ρ st).bind fun xs st1 => match datas xs with
  | some ds => if ds.length ≤ 1000000 then .ok ds st1 else .stuck
  | none => .stuck
def nList (a : Rho → S → Res S Val) : Rho → S → Res S (List PyData) := fun ρ st => (a ρ st).bind fun x st1 => match seqOf x with
  | some ds => .ok ds st1
  | none => .stuck
noncomputable def nRep (a b : Rho → S → Res S Val) : Rho → S → Res S (List PyData) := fun ρ st => (a ρ st).bind fun x st1 => (b ρ st1).bind fun y st2 => match lstOf x, y with
  | some ds, .d (.int k) => cif (-1000000 ≤ k ∧ k ≤ 1000000 ∧ ds.length * k.toNat ≤ 1000000) (.ok (List.replicate k.toNat ds).flatten st2) .stuck
  | _, _ => .stuck
def sNew (i : Nat) (F : Rho → S → Res S (List PyData)) : Rho → S → SRes S := fun ρ st => sBind (F ρ st) ρ fun ds st1 => .next (ρ.set i (some (.own ds))) st1
def sSetI (i : Nat) (Fi Fe : Rho → S → Res S Val) : Rho → S → SRes S := fun ρ st => sBind (Fe ρ st) ρ fun v st1 => match v, ρ[i]? with
  | .d x, some (some (.own ds)) => sBind (Fi ρ st1) ρ fun k st2 => match k with
    | .d (.int k) => match ixN ds.length k with
      | some j => .next (ρ.set i (some (.own (ds.set j x)))) st2
      | none => .stuck
    | _ => .stuck
  | _, _ => .stuck
def sAugI (f : Int → Int → Int) (i : Nat) (Fi Fe : Rho → S → Res S Val) : Rho → S → SRes S := fun ρ st => match ρ[i]? with
  | some (some (.own ds)) => sBind (Fi ρ st) ρ fun k st1 => match k with
    | .d (.int k) => match atI ds k, ixN ds.length k with
      | some (.int x), some j => sBind (Fe ρ st1) ρ fun v st2 => match v with
        | .d (.int y) => .next (ρ.set i (some (.own (ds.set j (.int (f x y)))))) st2
        | _ => .stuck
      | _, _ => .stuck
    | _ => .stuck
  | _ => .stuck
def sAug (f : Int → Int → Int) (i : Nat) (Fe : Rho → S → Res S Val) : Rho → S → SRes S := fun ρ st => match ρ[i]? with
  | some (some (.d (.int x))) => sBind (Fe ρ st) ρ fun v st1 => match v with
    | .d (.int y) => .next (ρ.set i (some (.d (.int (f x y))))) st1
    | _ => .stuck
  | _ => .stuck
end
section
variable {U : Uni} {K : PySem.W.Frag} {Z : Base} {σ : L2.St} {ρ : Rho} {st : U.S} {I : Hp} {M : Mw} {H : Hp}
theorem set_key {α β : Type} {ρ : List α} {σ : List β} {v w : α} {x : β} {i j : Nat} (hl : ρ.length = σ.length) (e : (ρ.set i v)[j]? = some w) :
    (j = i ∧ w = v ∧ (σ.set i x)[j]? = some x) ∨ (j ≠ i ∧ ρ[j]? = some w ∧ (σ.set i x)[j]? = σ[j]?) := by
  by_cases hj : j = i
  · subst hj
    have hlt : j < ρ.length := by
      have := (List.getElem?_eq_some_iff.mp e).1
      rwa [List.length_set] at this
    rw [List.getElem?_set_self hlt] at e
    exact .inl ⟨rfl, (Option.some.inj e).symm, List.getElem?_set_self (by rw [← hl]; exact hlt)⟩
  · rw [List.getElem?_set_ne (Ne.symm hj)] at e
    exact .inr ⟨hj, e, List.getElem?_set_ne (Ne.symm hj)⟩
/-- a new list goes to a slot -/
theorem Fit.setNew (f : Fit U K Z σ ρ st I M H) (i : Nat) {p : Addr} {vs : List V} {ds : List PyData} (hz : Z.H p = none) (hq : ∀ (j : Nat) es q, ρ[j]? = some (some (.own es)) → σ[j]? = some (some (.ref q)) → q ≠ p)
    (hp : H p = some (.lst vs)) (hi : I p = none) (hm : M.h p = none) (r : RpAll K I vs ds) : Fit U K Z (σ.set i (some (.ref p))) (ρ.set i (some (.own ds))) st I M H := by
  refine ⟨f.g, f.ok, f.rs, by rw [List.length_set, List.length_set]; exact f.len, fun j w e => ?_, fun j es q e1 e2 => ?_, fun j l es fs q e1 e2 e3 e4 => ?_, fun j t ks es q e1 e2 => ?_, fun j l t ks es t' ks' fs q e1 e2 e3 e4 => ?_⟩
  · rcases set_key (x := some (V.ref p)) f.len e with ⟨_, h1, h2⟩ | ⟨_, h1, h2⟩
    · cases h1
      exact ⟨_, h2, p, vs, rfl, hp, hi, hm, r⟩
    · rw [h2]; exact f.env j w h1
  · rcases set_key (x := some (V.ref p)) f.len e1 with ⟨_, h1, h2⟩ | ⟨_, h1, h2⟩
    · rw [h2] at e2
      cases e2
      exact hz
    · rw [h2] at e2; exact f.new j es q h1 e2
  · rcases set_key (x := some (V.ref p)) f.len e1 with ⟨a1, h1, h2⟩ | ⟨_, h1, h2⟩
    · rcases set_key (x := some (V.ref p)) f.len e2 with ⟨a2, h3, h4⟩ | ⟨_, h3, h4⟩
      · rw [a1, a2]
      · rw [h2] at e3
        rw [h4] at e4
        cases e3
        exact absurd rfl (hq l fs p h3 e4)
    · rcases set_key (x := some (V.ref p)) f.len e2 with ⟨a2, h3, h4⟩ | ⟨_, h3, h4⟩
      · rw [h4] at e4
        rw [h2] at e3
        cases e4
        exact absurd rfl (hq j es p h1 e3)
      · rw [h2] at e3
        rw [h4] at e4
        exact f.sep j l es fs q h1 h3 e3 e4
  · rcases set_key (x := some (V.ref p)) f.len e1 with ⟨_, h1, h2⟩ | ⟨_, h1, h2⟩
    · cases h1
    · rw [h2] at e2; exact f.newd j t ks es q h1 e2
  · rcases set_key (x := some (V.ref p)) f.len e1 with ⟨_, h1, h2⟩ | ⟨_, h1, h2⟩
    · cases h1
    · rcases set_key (x := some (V.ref p)) f.len e2 with ⟨_, h3, h4⟩ | ⟨_, h3, h4⟩
      · cases h3
      · rw [h2] at e3
        rw [h4] at e4
        exact f.sepd j l t ks es t' ks' fs q h1 h3 e3 e4
/-- an owned list changes -/
theorem Fit.updOwn (f : Fit U K Z σ ρ st I M H) {i : Nat} {p : Addr} {vs vs' : List V} {ds ds' : List PyData} (e : ρ[i]? = some (some (.own ds))) (e' : σ[i]? = some (some (.ref p))) (hp : H p = some (.lst vs)) (hi : I p = none) (hm : M.h p = none) (r : RpAll K I vs' ds') :
    Fit U K Z σ (ρ.set i (some (.own ds'))) st I M (upd H p (.lst vs')) := by
  have hz := f.new i ds p e e'
  have hset : σ.set i (some (.ref p)) = σ := by
    obtain ⟨hlt, hx⟩ := List.getElem?_eq_some_iff.mp e'
    rw [← hx]
    exact List.set_getElem_self hlt
  have hg : Grow Z.I Z.M Z.H I M (upd H p (.lst vs')) := ⟨f.g.i, f.g.ni, f.g.nm, fun a o h m => by rw [upd_ne (ne_of_none h hz)]; exact f.g.kp a o h m, fun a h => by
    rw [upd_ne (fun z => h (by rw [z]; exact hz))]
    exact f.g.th a h, f.g.ad⟩
  have hk : Ok I M (upd H p (.lst vs')) := ⟨fun a o h => by rw [upd_ne (ne_of_none h hi)]; exact f.ok.ih a o h, fun a o h => by rw [upd_ne (ne_of_none h hm)]; exact f.ok.mh a o h, f.ok.dj, f.ok.mi⟩
  have hv : ∀ (j : Nat) (w : Val) (x : V), j ≠ i → ρ[j]? = some (some w) → σ[j]? = some (some x) → VR K I M H x w → VR K I M (upd H p (.lst vs')) x w := fun j w x hj h1 h2 h => by
    match w, h1, h with
    | .d _, _, h => exact h
    | .ref _, _, h => exact h
    | .exc _ _, _, h => exact h
    | .own es, h1, ⟨q, us, z, a, b, c, r⟩ =>
      subst z
      have hne : q ≠ p := fun z => by
        subst z
        exact hj (f.sep j i es ds q h1 e h2 e')
      exact ⟨q, us, rfl, by rw [upd_ne hne]; exact a, b, c, r⟩
    | .ownd t ks es, h1, ⟨q, us, z, a, b, c, r⟩ =>
      have hne : q ≠ p := fun z => by
        subst z
        rw [hp] at a
        exact dHO_lst a.symm
      exact ⟨q, us, z, by rw [upd_ne hne]; exact a, b, c, r⟩
  refine ⟨hg, hk, f.rs, by rw [List.length_set]; exact f.len, fun j w h => ?_, fun j es q h1 h2 => ?_, fun j l es fs q h1 h2 h3 h4 => ?_, fun j t ks es q h1 h2 => ?_, fun j l t ks es t' ks' fs q h1 h2 h3 h4 => ?_⟩
  · rcases set_key (x := some (V.ref p)) f.len h with ⟨rfl, h1, h2⟩ | ⟨hj, h1, h2⟩
    · cases h1
      exact ⟨_, e', p, vs', rfl, upd_same, hi, hm, r⟩
    · obtain ⟨x, h3, h4⟩ := f.env j w h1
      exact ⟨x, h3, hv j w x hj h1 h3 h4⟩
  · rcases set_key (x := some (V.ref p)) f.len h1 with ⟨rfl, h3, h4⟩ | ⟨hj, h3, h4⟩
    · rw [e'] at h2
      cases h2
      exact hz
    · exact f.new j es q h3 h2
  · rcases set_key (x := some (V.ref p)) f.len h1 with ⟨rfl, h5, h6⟩ | ⟨hj, h5, h6⟩
    · rcases set_key (x := some (V.ref p)) f.len h2 with ⟨rfl, h7, h8⟩ | ⟨hl, h7, h8⟩
      · rfl
      · exact f.sep j l ds fs q e h7 h3 h4
    · rcases set_key (x := some (V.ref p)) f.len h2 with ⟨rfl, h7, h8⟩ | ⟨hl, h7, h8⟩
      · exact f.sep j l es ds q h5 e h3 h4
      · exact f.sep j l es fs q h5 h7 h3 h4
  · rcases set_key (x := some (V.ref p)) f.len h1 with ⟨rfl, h3, h4⟩ | ⟨hj, h3, h4⟩
    · cases h3
    · exact f.newd j t ks es q h3 h2
  · rcases set_key (x := some (V.ref p)) f.len h1 with ⟨rfl, h5, h6⟩ | ⟨hj, h5, h6⟩
    · cases h5
    · rcases set_key (x := some (V.ref p)) f.len h2 with ⟨rfl, h7, h8⟩ | ⟨hl, h7, h8⟩
      · cases h7
      · exact f.sepd j l t ks es t' ks' fs q h5 h7 h3 h4
theorem Fit.own (f : Fit U K Z σ ρ st I M H) {i : Nat} {ds : List PyData} (e : ρ[i]? = some (some (.own ds))) : ∃ p vs, σ[i]? = some (some (.ref p)) ∧ H p = some (.lst vs) ∧ I p = none ∧ M.h p = none ∧ RpAll K I vs ds := by
  obtain ⟨x, h, p, vs, rfl, a, b, c, r⟩ := f.env i _ e
  exact ⟨p, vs, h, a, b, c, r⟩
end
section
variable {U : Uni} {X : Cx} {W : WX} {a b e : Expr} {es : List Expr} {Fa Fb Fe : Rho → U.S → Res U.S Val} {A : Rho → U.S → Res U.S (List Val)} {F : Rho → U.S → Res U.S (List PyData)} {pos : Pos}
theorem freeze_ok {I : Hp} {M : Mw} {H H0 : Hp} {I0 : Hp} {M0 : Mw} {p : Addr} {vs : List V} (g : Grow I0 M0 H0 I M H) (k : Ok I M H) (h0 : H0 p = none) (hp : H p = some (.lst vs)) (hi : I p = none) (hm : M.h p = none) : Grow I0 M0 H0 (upd I p (.lst vs)) M H ∧ Ok (upd I p (.lst vs)) M H ∧ Same I (upd I p (.lst vs)) := by
  have hs : Same I (upd I p (.lst vs)) := fun a o h => by rw [upd_ne (ne_of_none h hi)]; exact h
  refine ⟨⟨g.i.trans hs, fun a h z => ?_, g.nm, g.kp, g.th, g.ad⟩, ⟨fun a o h => ?_, k.mh, fun a h => ?_, k.mi.trans hs⟩, hs⟩
  · by_cases ha : a = p
    · subst ha; exact absurd h0 h
    · rw [upd_ne ha] at z; exact g.ni a h z
  · by_cases ha : a = p
    · subst ha; rw [upd_same] at h; rw [← h]; exact hp
    · rw [upd_ne ha] at h; exact k.ih a o h
  · by_cases ha : a = p
    · subst ha; exact hm
    · rw [upd_ne ha] at h; exact k.dj a h
theorem ped_frz (h : PNd U X W e F) : PEd U X W e (eFrz F) := by
  refine pe_imp h fun σ H Q ⟨Z, ρ, st, I, M, ft, ps⟩ => ⟨Z, ρ, st, I, M, ft, ?_⟩
  unfold eFrz at ps
  cases z : F ρ st with
  | ok ds st1 =>
    rw [z] at ps
    intro p vs I' M' H' h0 g k r hp hi hm ra
    obtain ⟨g', k', hs⟩ := freeze_ok g k h0 hp hi hm
    exact ps (.ref p) _ M' H' g' k' r (Rp.lst upd_same (ra.mono hs))
  | exc c fs st1 => rw [z] at ps; exact ps
  | stuck => rw [z] at ps; exact ps
theorem tN.bind {K : PySem.W.Frag} {α β : Type} {rel : Hp → Mw → Hp → β → α → Prop} {F : Rho → U.S → Res U.S α} {f : Rho → α → U.S → Res U.S (List PyData)} {σ : L2.St} {H : Hp} {Q : VK} {R : β → Hp → Prop} (h : tN U K W (fun ρ st => (F ρ st).bind (f ρ)) σ H Q)
    (m : ∀ Z ρ st1 x a I1 M1 H1, Fit U K Z σ ρ st1 I1 M1 H1 → rel I1 M1 H1 x a → PostN U K (f ρ a st1) I1 M1 H1 Q (fun cls d H' => W cls d σ H') → R x H1) : tG U K W rel F σ H R := by
  obtain ⟨Z, ρ, st, I, M, ft, ps⟩ := h
  refine ⟨Z, ρ, st, I, M, ft, ?_⟩
  have ps : PostN U K ((F ρ st).bind (f ρ)) I M H Q (fun cls d H' => W cls d σ H') := ps
  cases e : F ρ st with
  | ok a st1 =>
    rw [e] at ps
    exact fun x I1 M1 H1 g k r q => m Z ρ st1 x a I1 M1 H1 (ft.grow g k r) q (PostN.shift g ps)
  | exc c fs st1 => rw [e] at ps; exact ps
  | stuck => rw [e] at ps; exact ps
theorem PostN.next {K : PySem.W.Frag} {α β : Type} {rel : Hp → Mw → Hp → β → α → Prop} {F : Rho → U.S → Res U.S α} {f : α → U.S → Res U.S (List PyData)} {Z : Base} {σ : L2.St} {ρ : Rho} {st : U.S} {I : Hp} {M : Mw} {H : Hp} {Q : VK} {R : β → Hp → Prop} (ft : Fit U K Z σ ρ st I M H)
    (ps : PostN U K ((F ρ st).bind f) I M H Q (fun cls d H' => W cls d σ H'))
    (m : ∀ st1 x a I1 M1 H1, Grow I M H I1 M1 H1 → Fit U K Z σ ρ st1 I1 M1 H1 → rel I1 M1 H1 x a → PostN U K (f a st1) I1 M1 H1 Q (fun cls d H' => W cls d σ H') → R x H1) : tG U K W rel F σ H R := by
  refine ⟨Z, ρ, st, I, M, ft, ?_⟩
  cases e : F ρ st with
  | ok a st1 =>
    rw [e] at ps
    exact fun x I1 M1 H1 g k r q => m st1 x a I1 M1 H1 g (ft.grow g k r) q (PostN.shift g ps)
  | exc c fs st1 => rw [e] at ps; exact ps
  | stuck => rw [e] at ps; exact ps
theorem PostN.fin {K : PySem.W.Frag} {ds : List PyData} {st : U.S} {I : Hp} {M : Mw} {H : Hp} {Q : VK} {E : XK} {p : Addr} {vs : List V} (h : PostN U K (.ok ds st) I M H Q E) (k : Ok I M H) (r : U.R st M) (ra : RpAll K I vs ds) (hp : H p = none) : Q (.ref p) (upd H p (.lst vs)) := by
  obtain ⟨g, k'⟩ := Grow.allocO (o := .lst vs) k hp
  exact h p vs I M _ hp g k' r upd_same (k.ih.free hp) (k.mh.free hp) ra
theorem pnd_lst (h : PAd U X W es A) : PNd U X W (.List es pos) (nLst A) := by
  refine pe_imp (pe_lst h) fun σ H Q h => ?_
  refine tN.bind h fun Z ρ st1 xs vs I1 M1 H1 ft hx ps => ?_
  cases z : datas vs with
  | none => simp only [z] at ps; exact False.elim ps
  | some ds =>
    simp only [z] at ps
    have r := VRs.datas hx z
    by_cases hl : ds.length ≤ 1000000
    · rw [if_pos hl] at ps
      exact ⟨sz (r.len ▸ hl), fun p hp => PostN.fin ps ft.ok ft.rs r hp⟩
    · rw [if_neg hl] at ps
      exact False.elim ps
theorem new_slot {K : PySem.W.Frag} {D : Ends} {i : Nat} {σ : L2.St} {H : Hp} (h : tS U K W (sNew i F) D σ H) : tN U K W F σ H fun x H1 => D.nx (σ.set i (some x)) H1 := by
  obtain ⟨Z, ρ, st, I, M, ft, ps⟩ := h
  refine ⟨Z, ρ, st, I, M, ft, ?_⟩
  unfold sNew at ps
  cases z : F ρ st with
  | ok ds st1 =>
    rw [z] at ps
    intro p vs I' M' H' h0 g k r hp hi hm ra
    refine ps _ I' M' H' g.i ((ft.grow g k r).setNew i ?_ (fun j es q e1 e2 => ?_) hp hi hm ra)
    · cases w : Z.H p with
      | none => rfl
      | some o => exact absurd h0 (ft.g.th p (ne_none_of w))
    · obtain ⟨q', us, e3, h1, _⟩ := ft.own e1
      rw [e3] at e2
      cases e2
      exact ne_of_none h1 h0
  | exc c fs st1 =>
    rw [z] at ps
    exact fun cls d I1 M1 H1 g k r q => ps σ cls d I1 M1 H1 g.i (ft.grow g k r) q
  | stuck => rw [z] at ps; exact ps
theorem psd_new {i : Nat} {x : Str} {pos' : Pos} (hN : X.N.Nodup) (hi : X.N[i]? = some x) (hx : Loc X.env.scope x) (he : PNd U X W e F) (hs : swapsWith e (some (.Name x pos')) pos.line X.env = pure false := by rfl)
    (hf : X.fn x = true ∨ X.env.scope.names.lookup x = some .local := by first | exact .inl rfl | exact .inr rfl | assumption) : PSd U X W (.Assign [.Name x pos'] e pos) (sNew i F) :=
  ps_imp (ps_set hN hi hx he hs hf) fun D σ H h => new_slot h
theorem psd_app {i : Nat} {x : Str} {p apos cpos : Pos} (he : PEd U X W e Fe) (hN : X.N[i]? = some x := by rfl) (hv : Vis X.env.scope x := by first | exact Or.inl rfl | exact Or.inr (Or.inl rfl) | exact Or.inr (Or.inr rfl)) (hd : (x == ("__debug__" : Str)) = false := by decide) (hcd : (x == ("__classdict__" : Str)) = false := by decide)
    (hs : starEach [e] X.env = (false, eval e X.env) :: starEach [] X.env := by rfl) (hbase : attributeBase (.Name x p) "append" X.env (eval (.Name x p) X.env) = eval (.Name x p) X.env := by rfl)
    (hfew : ((backTo cpos (starEach [e] X.env)).all (fun x => !x.1) && (backToKw cpos (keywordEach [] X.env)).all (fun x => x.1.isSome) && decide ([e].length + ([] : List Keyword).length + (if ([] : List Keyword).isEmpty then 0 else 1) < 30)) = true := by rfl)
    (hline : (apos.endLine == cpos.line) = true := by rfl) (hpl : (backTo cpos (starEach [] X.env)).any (·.1) = false := by rfl) (hsw : swapsWith (.Call (.Attribute (.Name x p) "append" apos) [e] [] cpos) none pos.line X.env = pure false := by rfl) :
    PSd U X W (.Expr (.Call (.Attribute (.Name x p) "append" apos) [e] [] cpos) pos) (sApp i Fe) := by
  refine ps_imp (ps_expr (pe_bm PySem.F.plainAttrs_list PySem.F.slot_list_append PySem.F.type_list_append mt_append (pe_var hN hv hd hcd) (pa_cons he pa_nil hs) hbase hfew hline hs hpl) hsw) fun D σ H h => ?_
  obtain ⟨Z, ρ, st, I, M, ft, ps⟩ := h
  unfold sApp at ps
  split at ps
  · rename_i ds e
    obtain ⟨q, vs, e', hp, hi, hm, r⟩ := ft.own e
    refine ⟨_, e', .inl ⟨rfl, _, SqL.of hp⟩, ?_⟩
    refine SPost.next (rel := VR X.K) ft ps fun st1 y v I1 M1 H1 g ft1 hy ps1 => ?_
    obtain ⟨q', vs', e2', hp', hi', hm', r'⟩ := ft1.own e
    rw [e'] at e2'
    cases e2'
    match v, hy, ps1 with
    | .d d, hy, ps1 =>
      simp only at ps1
      by_cases hl : ds.length < 1000000
      · rw [if_pos hl] at ps1
        exact ⟨q, vs', y, rfl, rfl, hp', szl (by rw [r'.len]; exact hl), ps1 σ I1 M1 _ (Same.refl _) (ft1.updOwn e e' hp' hi' hm' (r'.append (.cons hy .nil)))⟩
      · rw [if_neg hl] at ps1
        exact False.elim ps1
  · exact False.elim ps
theorem RpAll.set {K : PySem.W.Frag} {I : Hp} {x : V} {d : PyData} (h : Rp K I x d) : ∀ {xs : List V} {ds : List PyData} (i : Nat), RpAll K I xs ds → RpAll K I (xs.set i x) (ds.set i d)
  | _, _, _, .nil => .nil
  | _, _, 0, .cons _ t => .cons h t
  | _, _, i + 1, .cons q t => .cons q (RpAll.set h i t)
end
end Dl
set_option maxRecDepth 100000
set_option maxHeartbeats 4000000
namespace Dl
open PySem L2
inductive Tg where
  | name (i : Nat)
  | tup (is : List Nat)
def Tg.slots : Tg → List Nat
  | .name i => [i]
  | .tup is => is
def gNames : List Nat → TGs
  | [] => gNil
  | i :: r => gCons (gName i) (gNames r)
def gT (K : PySem.W.Frag) : Tg → TG
  | .name i => gName i
  | .tup is => gTup K is.length (gNames is)
def setAll : Rho → List Nat → List PyData → Rho
  | ρ, i :: is, d :: ds => setAll (ρ.set i (some (.d d))) is ds
  | ρ, _, _ => ρ
/-- data goes to a target -/
def setT : Tg → PyData → Rho → Option Rho
  | .name i, d, ρ => some (ρ.set i (some (.d d)))
  | .tup is, .tuple ds, ρ => if ds.length = is.length then some (setAll ρ is ds) else none
  | .tup _, _, _ => none
theorem wipe_in {σ : L2.St} {i : Nat} {x : Option V} : ∀ {vs : List Nat}, i ∈ vs → wipe (σ.set i x) vs = wipe σ vs
  | v :: vs, h => by
    unfold wipe
    by_cases hv : i ∈ vs
    · rw [wipe_in hv]
    · have e : i = v := by
        rcases List.mem_cons.mp h with e | e
        · exact e
        · exact absurd e hv
      subst e
      have out : ∀ (us : List Nat), i ∉ us → (wipe (σ.set i x) us) = (wipe σ us).set i x := fun us hu => by
        induction us with
        | nil => rfl
        | cons u us ih =>
          unfold wipe
          have hne : i ≠ u := fun z => hu (by rw [z]; exact List.mem_cons_self)
          rw [ih (fun z => hu (List.mem_cons_of_mem _ z)), List.set_comm _ _ hne]
      rw [out vs hv, List.set_set]
theorem names_read {U : Uni} {K : PySem.W.Frag} {Z : Base} {st : U.S} {I : Hp} {M : Mw} {H : Hp} {Q : L2.St → Hp → Prop} : ∀ (is : List Nat) (xs : List V) (ds : List PyData) (σ : L2.St) (ρ : Rho), Fit U K Z σ ρ st I M H → RpAll K I xs ds → ds.length = is.length →
    (∀ σ1, Fit U K Z σ1 (setAll ρ is ds) st I M H → (∀ vs : List Nat, (∀ i ∈ is, i ∈ vs) → wipe σ1 vs = wipe σ vs) → Q σ1 H) → gNames is xs σ H Q
  | [], [], [], σ, ρ, ft, _, _, q => ⟨rfl, q σ ft fun _ _ => rfl⟩
  | [], _, _ :: _, _, _, _, _, hl, _ => by cases hl
  | _ :: _, _, [], _, _, _, _, hl, _ => by cases hl
  | i :: is, x :: xs, d :: ds, σ, ρ, ft, .cons h r, hl, q => by
    refine ⟨x, xs, rfl, ?_⟩
    refine names_read is xs ds (σ.set i (some x)) (ρ.set i (some (.d d))) (ft.set i h rfl) r (by simpa using hl) fun σ1 f1 w1 => q σ1 f1 fun vs hv => ?_
    rw [w1 vs fun j hj => hv j (List.mem_cons_of_mem _ hj), wipe_in (hv i List.mem_cons_self)]
theorem tg_read {U : Uni} {K : PySem.W.Frag} {Z : Base} {st : U.S} {I : Hp} {M : Mw} {H : Hp} {Q : L2.St → Hp → Prop} {x : V} {d : PyData} {σ : L2.St} {ρ ρ1 : Rho} (tg : Tg) (ft : Fit U K Z σ ρ st I M H) (h : Rp K I x d) (e : setT tg d ρ = some ρ1)
    (q : ∀ σ1, Fit U K Z σ1 ρ1 st I M H → (∀ vs : List Nat, (∀ i ∈ tg.slots, i ∈ vs) → wipe σ1 vs = wipe σ vs) → Q σ1 H) : gT K tg x σ H Q := by
  cases tg with
  | name i =>
    cases e
    exact q _ (ft.set i h rfl) fun vs hv => wipe_in (hv i List.mem_cons_self)
  | tup is =>
    match d, h, e with
    | .tuple ds, h, e =>
      obtain ⟨hl, rfl⟩ := opt_if e
      cases h with
      | tup a r => exact ⟨_, _, rfl, sqT_mono ft.ok.ih a, by rw [r.len]; exact hl, names_read is _ ds σ ρ ft r hl q⟩
theorem pgd_name {X : Cx} {pos : Pos} (i : Nat) {x : Str} (hN : X.N.Nodup) (hi : X.N[i]? = some x) (hx : Loc X.env.scope x) (hf : X.fn x = true ∨ X.env.scope.names.lookup x = some .local := by first | exact .inl rfl | exact .inr rfl | assumption) : PG X (.Name x pos) (gT X.K (.name i)) := pg_name hN hi hx hf
theorem pgd_tup {X : Cx} {pos : Pos} (is : List Nat) {es : List Expr} {k : Nat} (hc : X.calm = true) (h : PGs X es (gNames is)) (hn : (assignEach es X.env).length = is.length := by rfl) (hst : (assignEach es X.env).findIdx? (·.1) = none := by rfl) : PG X (.Tuple es k pos) (gT X.K (.tup is)) := pg_tup hc h hn hst
section
variable {S : Type}
/-- a, b = e (a tuple) -/
def sUnp (tg : Tg) (F : Rho → S → Res S Val) : Rho → S → SRes S := fun ρ st => sBind (F ρ st) ρ fun v st1 => match v with
  | .d d => match setT tg d ρ with
    | some ρ1 => .next ρ1 st1
    | none => .stuck
  | _ => .stuck
/-- a, b = e1, e2 -/
def sPar (i j : Nat) (A : Rho → S → Res S (List Val)) : Rho → S → SRes S := fun ρ st => sBind (A ρ st) ρ fun vs st1 => match vs with
  | [v, w] => if isDR v = true ∧ isDR w = true then .next ((ρ.set i (some v)).set j (some w)) st1 else .stuck
  | _ => .stuck
/-- behind a turn: on, or out -/
def goOn (r : SRes S) (k : Rho → S → SRes S) : SRes S := match r with
  | .next ρ st => k ρ st
  | .cnt ρ st => k ρ st
  | .brk ρ st => .next ρ st
  | res => res
/-- the turns of a for -/
def forL (tg : Tg) (B : Rho → S → SRes S) : List PyData → Rho → S → SRes S
  | [], ρ, st => .next ρ st
  | d :: r, ρ, st => match setT tg d ρ with
    | none => .stuck
    | some ρ1 => goOn (B ρ1 st) (forL tg B r)
def sFor (G : Rho → S → Res S (List PyData)) (tg : Tg) (B : Rho → S → SRes S) : Rho → S → SRes S := fun ρ st => sBind (G ρ st) ρ fun ds st1 => forL tg B ds ρ st1
def whileF (T : Rho → S → Res S Bool) (B : Rho → S → SRes S) : Nat → Rho → S → SRes S
  | 0, _, _ => .stuck
  | n + 1, ρ, st => sBind (T ρ st) ρ fun b st1 => if b = true then goOn (B ρ st1) (whileF T B n) else .next ρ st1
open Classical in
noncomputable def sWhile (T : Rho → S → Res S Bool) (B : Rho → S → SRes S) : Rho → S → SRes S := fun ρ st => if h : ∃ n, whileF T B n ρ st ≠ .stuck then whileF T B (choose h) ρ st else .stuck
end
/-- the items of an iterator, as data -/
structure ItD (K : PySem.W.Frag) (J : It) (I : Hp) (ds : List PyData) : Prop where
  go : ∀ i I2 M2 H2, Same I I2 → Ok I2 M2 H2 → i < ds.length → J.go i H2
  stop : ∀ I2 M2 H2, Same I I2 → Ok I2 M2 H2 → J.stop ds.length H2
  yld : ∀ i I2 M2 H2 x H3, Same I I2 → Ok I2 M2 H2 → i < ds.length → J.yld i H2 x H3 → ∃ d I3, ds[i]? = some d ∧ Grow I2 M2 H2 I3 M2 H3 ∧ Ok I3 M2 H3 ∧ Rp K I3 x d
abbrev rIt (K : PySem.W.Frag) : Hp → Mw → Hp → It → List PyData → Prop := fun I _ _ J ds => ItD K J I ds
def PId (U : Uni) (X : Cx) (W : WX) (tg iter : Expr) (F : Rho → U.S → Res U.S (List PyData)) : Prop := PI X tg iter (tG U X.K W (rIt X.K) F)
theorem pi_imp {X : Cx} {tg iter : Expr} {t t' : TI} (h : PI X tg iter t) (m : ∀ σ H R, t' σ H R → t σ H R) : PI X tg iter t' := ⟨fun pins s σ H R J q => h.run pins s σ H R J (m σ H R q)⟩
theorem it_of_walk {K : PySem.W.Frag} {J : It} {I : Hp} {ds : List PyData} {n : Nat} {G : Hp → Prop} {Y : Nat → Hp → V → Hp → Prop} (w : Walk J n G Y) (hn : n = ds.length) (hG : ∀ I2 M2 H2, Same I I2 → Ok I2 M2 H2 → G H2)
    (hY : ∀ i I2 M2 H2 x H3, Same I I2 → Ok I2 M2 H2 → i < ds.length → Y i H2 x H3 → ∃ d I3, ds[i]? = some d ∧ Grow I2 M2 H2 I3 M2 H3 ∧ Ok I3 M2 H3 ∧ Rp K I3 x d) : ItD K J I ds := by
  subst hn
  exact ⟨fun i I2 M2 H2 e k hi => w.goes i H2 hi (hG I2 M2 H2 e k), fun I2 M2 H2 e k => w.stops H2 (hG I2 M2 H2 e k), fun i I2 M2 H2 x H3 e k hi y => hY i I2 M2 H2 x H3 e k hi (w.yields i H2 x H3 hi (hG I2 M2 H2 e k) y)⟩
section
variable {U : Uni} {X : Cx} {W : WX} {tg iter c e : Expr} {body : List Stmt} {Fe : Rho → U.S → Res U.S Val} {G : Rho → U.S → Res U.S (List PyData)} {T : Rho → U.S → Res U.S Bool} {B : Rho → U.S → SRes U.S} {A : Rho → U.S → Res U.S (List Val)} {pos : Pos}
theorem psd_unp {t : Expr} {g : Tg} (he : PEd U X W e Fe) (hg : PG X t (gT X.K g)) (hs : swapsWithSole [t] e pos.line X.env = pure false := by rfl) (hw : swappedStores [t] e X.env = pure none := by rfl)
    (h1 : (assignEach [t] X.env).map (·.2) = [assign t X.env] := by rfl) : PSd U X W (.Assign [t] e pos) (sUnp g Fe) := by
  refine ps_imp (ps_asg he hg hs hw h1) fun D σ H h => ?_
  refine tS.bind (rel := VR X.K) h fun Z ρ st1 x v I1 M1 H1 ft hx ps => ?_
  match v, hx, ps with
  | .d d, hx, ps =>
    simp only at ps
    cases z : setT g d ρ with
    | none => rw [z] at ps; exact False.elim ps
    | some ρ1 =>
      rw [z] at ps
      exact tg_read g ft hx z fun σ1 f1 _ => ps σ1 I1 M1 H1 (Same.refl _) f1
theorem psd_par {i j : Nat} {x y : Str} {a b : Expr} {px py pt : Pos} {kt k2 pt2} (hc : X.calm = true) (hN : X.N.Nodup) (hi : X.N[i]? = some x) (hj : X.N[j]? = some y) (hij : i ≠ j)
    (hx : X.env.scope.names.lookup x = some .local) (hy : X.env.scope.names.lookup y = some .local) (ha : PAd U X W [a, b] A)
    (hw : swappedStores [.Tuple [.Name x px, .Name y py] kt pt] (.Tuple [a, b] k2 pt2) X.env = pure (some [x, y]) := by rfl)
    (hs : swapsWithSole [.Tuple [.Name x px, .Name y py] kt pt] (.Tuple [a, b] k2 pt2) pos.line X.env = pure false := by rfl) :
    PSd U X W (.Assign [.Tuple [.Name x px, .Name y py] kt pt] (.Tuple [a, b] k2 pt2) pos) (sPar i j A) := by
  refine ps_imp (ps_par hc hN hi hj hij hx hy ha hw hs) fun D σ H h => ?_
  refine tS.bind (rel := VRs X.K) h fun Z ρ st1 xs vs I1 M1 H1 ft hx ps => ?_
  match vs, hx, ps with
  | [v, w], hx, ps =>
    obtain ⟨x, y, rfl, h1, h2⟩ := VRs.two hx
    simp only at ps
    by_cases hd : isDR v = true ∧ isDR w = true
    · rw [if_pos hd] at ps
      exact ⟨x, y, rfl, ps _ I1 M1 H1 (Same.refl _) ((ft.set i h1 hd.1).set j h2 hd.2)⟩
    · rw [if_neg hd] at ps
      exact False.elim ps
theorem for_read {K : PySem.W.Frag} {g : Tg} {D : Ends} {σ : L2.St} {H : Hp} (h : tS U K W (sFor G g B) D σ H) : tFor (tG U K W (rIt K) G) (gT K g) (tS U K W B) D σ H := by
  refine tS.bind (rel := rIt K) h fun Z ρ st1 J ds I1 M1 H1 ft hJ ps => ?_
  refine ⟨fun i m σ H => m = ds.length - i ∧ i ≤ ds.length ∧ ∃ ρ st I M, Same I1 I ∧ Fit U K Z σ ρ st I M H ∧ SPost U K W Z I D (forL g B (ds.drop i) ρ st), ⟨ds.length, rfl, Nat.zero_le _, ρ, st1, I1, M1, Same.refl _, ft, ps⟩, ?_⟩
  rintro i m σ H ⟨rfl, hi, ρ, st, I, M, es, ft, ps⟩
  by_cases hlt : i < ds.length
  · have hdrop : ds.drop i = ds[i] :: ds.drop (i + 1) := List.drop_eq_getElem_cons hlt
    rw [hdrop] at ps
    refine .inr ⟨hJ.go i I M H es ft.ok hlt, fun σ' H' => ∃ ρ st I M, Same I1 I ∧ Fit U K Z σ' ρ st I M H' ∧ SPost U K W Z I D (forL g B (ds.drop (i + 1)) ρ st),
      fun σ' H' ⟨ρ', st', I', M', e', f', p'⟩ => ⟨ds.length - (i + 1), by omega, rfl, hlt, ρ', st', I', M', e', f', p'⟩, fun x H' hy => ?_⟩
    obtain ⟨d, I3, hd, g3, k3, r3⟩ := hJ.yld i I M H x H' es ft.ok hlt hy
    have hd' : d = ds[i] := by
      rw [List.getElem?_eq_getElem hlt] at hd
      exact (Option.some.inj hd).symm
    subst hd'
    have f3 := ft.grow g3 k3 ft.rs
    have ps3 := SPost.shift g3.i ps
    unfold forL at ps3
    cases z : setT g ds[i] ρ with
    | none => rw [z] at ps3; exact False.elim ps3
    | some ρ1 =>
      rw [z] at ps3
      refine tg_read g f3 r3 z fun σ1 f1 _ => ⟨Z, ρ1, st, I3, M, f1, ?_⟩
      have ps3 : SPost U K W Z I3 D (goOn (B ρ1 st) (forL g B (ds.drop (i + 1)))) := ps3
      cases zb : B ρ1 st with
      | next ρ2 st2 =>
        rw [zb] at ps3
        exact fun σ' I' M' H' e' f' => ⟨ρ2, st2, I', M', es.trans (g3.i.trans e'), f', SPost.shift e' ps3⟩
      | cnt ρ2 st2 =>
        rw [zb] at ps3
        exact fun σ' I' M' H' e' f' => ⟨ρ2, st2, I', M', es.trans (g3.i.trans e'), f', SPost.shift e' ps3⟩
      | brk ρ2 st2 => rw [zb] at ps3; exact ps3
      | ret v st2 => rw [zb] at ps3; exact ps3
      | exc c fs ρ2 st2 => rw [zb] at ps3; exact ps3
      | stuck => rw [zb] at ps3; exact ps3
  · have he : i = ds.length := by omega
    subst he
    rw [List.drop_length] at ps
    exact .inl ⟨hJ.stop I M H es ft.ok, ps σ I M H (Same.refl _) ft⟩
theorem psd_for {g : Tg} (hp : PassesOwn (model X.prog X.w) X.A X.env X.xe) (hc : X.calm = true) (hi : PId U X W tg iter G) (hg : PG X tg (gT X.K g)) (hb : PBd U X W body B) (hs : ∀ x, foldedSetIterable iter X.env x = pure x := by intro _; rfl) :
    PSd U X W (.For tg iter body [] pos) (sFor G g B) := ps_imp (ps_for hp hc hi hg hb hs) fun D σ H h => for_read h
theorem while_read {K : PySem.W.Frag} {D : Ends} {σ : L2.St} {H : Hp} (h : tS U K W (sWhile T B) D σ H) : tWhile (tB U K W T) (tS U K W B) D σ H := by
  obtain ⟨Z, ρ, st, I, M, ft, ps⟩ := h
  unfold sWhile at ps
  split at ps
  · rename_i hn
    refine ⟨fun m σ H => ∃ ρ st I M, Fit U K Z σ ρ st I M H ∧ SPost U K W Z I D (whileF T B m ρ st), ⟨_, ρ, st, I, M, ft, ps⟩, ?_⟩
    rintro m σ H ⟨ρ, st, I, M, ft, ps⟩
    cases m with
    | zero => exact False.elim ps
    | succ m =>
      refine SPost.next (rel := rTest) ft ps fun st1 x b I1 M1 H1 g ft1 hx ps1 => ?_
      have hx : x = b := hx
      subst hx
      cases x with
      | false => exact ps1 σ I1 M1 H1 (Same.refl _) ft1
      | true =>
        refine ⟨fun σ' H' => ∃ ρ st I M, Fit U K Z σ' ρ st I M H' ∧ SPost U K W Z I D (whileF T B m ρ st), fun σ' H' q => ⟨m, Nat.lt_succ_self m, q⟩, Z, ρ, st1, I1, M1, ft1, ?_⟩
        have ps1 : SPost U K W Z I1 D (goOn (B ρ st1) (whileF T B m)) := ps1
        cases zb : B ρ st1 with
        | next ρ2 st2 =>
          rw [zb] at ps1
          exact fun σ' I' M' H' e' f' => ⟨ρ2, st2, I', M', f', SPost.shift e' ps1⟩
        | cnt ρ2 st2 =>
          rw [zb] at ps1
          exact fun σ' I' M' H' e' f' => ⟨ρ2, st2, I', M', f', SPost.shift e' ps1⟩
        | brk ρ2 st2 => rw [zb] at ps1; exact ps1
        | ret v st2 => rw [zb] at ps1; exact ps1
        | exc c fs ρ2 st2 => rw [zb] at ps1; exact ps1
        | stuck => rw [zb] at ps1; exact ps1
  · exact False.elim ps
theorem psd_while (hp : PassesOwn (model X.prog X.w) X.A X.env X.xe) (hc : PTd U X W c T) (hb : PBd U X W body B) : PSd U X W (.While c body [] pos) (sWhile T B) := ps_imp (ps_while hp hc hb) fun D σ H h => while_read h
end
end Dl
set_option maxRecDepth 100000
set_option maxHeartbeats 4000000
namespace Dl
open PySem L2 PyProof.Rows
def Sq (l : Bool) (K : PySem.W.Frag) (H : Hp) (a : Addr) (xs : List V) : Prop := match l with
  | true => SqL K H a xs
  | false => SqT K H a xs
def IsSrc (l : Bool) (h : Heap) (a : Addr) (items : Array Value) : Prop := match l with
  | true => h.IsList a items
  | false => h.IsTuple a items
def IsIt (l : Bool) (h : Heap) (it a : Addr) (i : Nat) : Prop := match l with
  | true => h.IsListIter it a i
  | false => h.IsTupleIter it a i
def itObj (l : Bool) (a : Addr) : Obj := match l with
  | true => { cls := .type "list_iterator", data := .fields #[.ref a, .int 0 0] }
  | false => { cls := .type "tuple_iterator", data := .fields #[.ref a, .int 0 0] }
theorem begins_src (l : Bool) (a : Addr) (items : Array Value) : Begins (.ref a) (itObj l a) (fun h => IsSrc l h a items) := by
  cases l with
  | true => exact begins_list a items
  | false => exact begins_tuple a items
theorem draws_src {prog : Program} {w : World} {A : Around} (l : Bool) (hh : A.handled = none) (it a : Addr) (hne : a ≠ it) (items : Array Value) :
    Draws prog w A it [it, a] items.size (fun i v => items[i]? = some v) (fun i h => IsIt l h it a i ∧ IsSrc l h a items) := by
  cases l with
  | true => exact Draws.list hh it a hne items
  | false => exact Draws.tuple hh it a hne items
section
variable {X : Cx} {pins : List (Addr × Obj)} {σ : L2.St} {H : Hp} {s : Shared} {a : Addr} {xs ys : List V} {l : Bool}
theorem inv_src (J : Inv X pins σ H s) (h : Sq l X.K H a xs) : ∃ its : List Value, Vals xs its ∧ IsSrc l s.heap a its.toArray ∧ xs.length ≤ sizeLine ∧ a < s.heap.objs.size := by
  cases l with
  | true =>
    obtain ⟨its, r, p, z⟩ := J.list h
    exact ⟨its, r, p.isList, z, p.lt⟩
  | false =>
    obtain ⟨its, r, p, z⟩ := J.tuple h
    exact ⟨its, r, p, z, p.lt⟩
end
theorem IsIt.obj {l : Bool} {h : Heap} {it a : Addr} {i : Nat} (x : IsIt l h it a i) : ∃ o, h.get? it = some o ∧ ∀ v, o.data ≠ .cell v := by
  cases l with
  | true =>
    obtain ⟨o, ho, _, hd⟩ := x
    exact ⟨o, ho, fun v q => by rw [hd] at q; cases q⟩
  | false =>
    obtain ⟨o, ho, _, hd⟩ := x
    exact ⟨o, ho, fun v q => by rw [hd] at q; cases q⟩
theorem IsIt.at {l : Bool} {h h' : Heap} {it a : Addr} {i : Nat} (x : IsIt l h it a i) (k : ∀ o, h.get? it = some o → h'.get? it = some o) : IsIt l h' it a i := by
  cases l with
  | true => exact Heap.IsListIter.at x k
  | false => exact Heap.IsTupleIter.at x k
theorem IsIt.new {l : Bool} {h : Heap} {it a : Addr} (x : h.get? it = some (itObj l a)) : IsIt l h it a 0 := by
  cases l with
  | true => exact ⟨_, x, rfl, rfl⟩
  | false => exact ⟨_, x, rfl, rfl⟩
theorem IsIt.lt {l : Bool} {h : Heap} {it a : Addr} {i : Nat} (x : IsIt l h it a i) : it < h.objs.size := by
  obtain ⟨o, ho, _⟩ := x.obj
  exact Heap.lt_size ho

section
variable {prog : Program} {w : World} {A : Around} {E : Value → Shared → Prop} {s : Shared}
end
end Dl
set_option maxRecDepth 100000
set_option maxHeartbeats 4000000
namespace Dl
open PySem L2 PyProof.Rows
section
variable {S : Type}
def iSeq (a : Rho → S → Res S Val) : Rho → S → Res S (List PyData) := fun ρ st => (a ρ st).bind fun x st1 => match x with
  | .d (.list xs) => .ok xs st1
  | .d (.tuple xs) => .ok xs st1
  | _ => .stuck
def upto (n : Int) : List PyData := (List.range n.toNat).map fun k => .int (k : Nat)
noncomputable def iRng (a : Rho → S → Res S Val) : Rho → S → Res S (List PyData) := fun ρ st => (a ρ st).bind fun x st1 => match x with
  | .d (.int n) => cif (smallI n) (.ok (upto n) st1) .stuck
  | _ => .stuck
def fromTo (a b : Int) : List PyData := (List.range (b - a).toNat).map fun k => .int (a + (k : Nat))
noncomputable def iRng2 (a b : Rho → S → Res S Val) : Rho → S → Res S (List PyData) := fun ρ st => (a ρ st).bind fun x st1 => (b ρ st1).bind fun y st2 => match x, y with
  | .d (.int i), .d (.int j) => cif (smallI i ∧ smallI j) (.ok (fromTo i j) st2) .stuck
  | _, _ => .stuck
def enumD (xs : List PyData) : List PyData := xs.mapIdx fun i d => .tuple [.int (i : Nat), d]
def iEnm (a : Rho → S → Res S Val) : Rho → S → Res S (List PyData) := fun ρ st => (a ρ st).bind fun x st1 => match x with
  | .d (.list xs) => .ok (enumD xs) st1
  | .d (.tuple xs) => .ok (enumD xs) st1
  | _ => .stuck
def zipD (xs ys : List PyData) : List PyData := List.zipWith (fun x y => .tuple [x, y]) xs ys
def dSeq : Val → Option (List PyData)
  | .d (.list xs) => some xs
  | .d (.tuple xs) => some xs
  | _ => none
def iZp (a b : Rho → S → Res S Val) : Rho → S → Res S (List PyData) := fun ρ st => (a ρ st).bind fun x st1 => (b ρ st1).bind fun y st2 => match dSeq x, dSeq y with
  | some xs, some ys => .ok (zipD xs ys) st2
  | _, _ => .stuck
end
theorem VR.src {K : PySem.W.Frag} {I : Hp} {M : Mw} {H : Hp} {x : V} {u : Val} {ds : List PyData} (h : VR K I M H x u) (e : dSeq u = some ds) : ∃ l p vs, x = .ref p ∧ Sq l K I p vs ∧ RpAll K I vs ds := by
  match u, h, e with
  | .d (.list xs), h, e =>
    cases e
    cases h with
    | lst a r => exact ⟨true, _, _, rfl, SqL.of a, r⟩
  | .d (.tuple xs), h, e =>
    cases e
    cases h with
    | tup a r => exact ⟨false, _, _, rfl, a, r⟩
section
variable {U : Uni} {X : Cx} {W : WX} {tg a b : Expr} {Fa Fb : Rho → U.S → Res U.S Val} {pos p : Pos}
theorem itd_seq {K : PySem.W.Frag} {I : Hp} {q : Addr} {vs : List V} {ds : List PyData} (l : Bool) (h : Sq l K I q vs) (r : RpAll K I vs ds) : ItD K (match l with | true => Itl K q | false => Itt K q) I ds := by
  have hy : ∀ (i : Nat) (I2 : Hp) (M2 : Mw) (H2 : Hp) (x : V) (H3 : Hp), Same I I2 → Ok I2 M2 H2 → i < ds.length → YAt vs i H2 x H3 → ∃ d I3, ds[i]? = some d ∧ Grow I2 M2 H2 I3 M2 H3 ∧ Ok I3 M2 H3 ∧ Rp K I3 x d := fun i I2 M2 H2 x H3 es k hi y => by
    obtain ⟨rfl, hx⟩ := y
    have hd : ds[i]? = some ds[i] := List.getElem?_eq_getElem hi
    obtain ⟨x', h1, h2⟩ := r.get hd
    rw [hx] at h1
    cases h1
    exact ⟨_, I2, hd, Grow.refl _ _ _, k, h2.mono es⟩
  cases l with
  | true => exact it_of_walk walk_list r.len (fun I2 M2 H2 es k => sqL_mono (es.trans k.ih) h) hy
  | false => exact it_of_walk walk_tup r.len (fun I2 M2 H2 es k => sqT_mono (es.trans k.ih) h) hy
theorem pid_seq (ha : PEd U X W a Fa) : PId U X W tg a (iSeq Fa) := by
  refine ⟨fun pins s σ H R J h => ?_⟩
  have h1 : tE U X.K W Fa σ H (fun x H1 => (∃ q, x = .ref q ∧ (∃ xs, SqL X.K H1 q xs) ∧ R (Itl X.K q) H1) ∨ (∃ q, x = .ref q ∧ (∃ xs, SqT X.K H1 q xs) ∧ R (Itt X.K q) H1)) := by
    refine tG.bind h fun Z ρ st1 x u I1 M1 H1 ft hx ps => ?_
    match u, hx, ps with
    | .d (.list xs), hx, ps =>
      cases hx with
      | lst e r => exact .inl ⟨_, rfl, ⟨_, SqL.of (ft.ok.ih _ _ e)⟩, ps _ I1 M1 H1 (Grow.refl _ _ _) ft.ok ft.rs (itd_seq true (SqL.of e) r)⟩
    | .d (.tuple xs), hx, ps =>
      cases hx with
      | tup e r => exact .inr ⟨_, rfl, ⟨_, sqT_mono ft.ok.ih e⟩, ps _ I1 M1 H1 (Grow.refl _ _ _) ft.ok ft.rs (itd_seq false e r)⟩
  have h2 : PE X a (tE U X.K W Fa) := ha
  refine thn (h2.run pins s σ H _ J h1) fun v s1 ⟨x, H1, J1, r1, q1⟩ => ?_
  rcases q1 with ⟨q, rfl, ⟨xs, hq⟩, k⟩ | ⟨q, rfl, ⟨xs, hq⟩, k⟩
  · cases r1
    obtain ⟨its, rv, pl, hz⟩ := J1.list hq
    refine wpAny_pyIter_list pl.isList ⟨s1.heap.objs.size, [s1.heap.objs.size], _, _, H1, rfl, J1.kept (t' := s1.toks) fun b o e => Heap.get?_push_of_some _ e, turn_list q _, ⟨_, Heap.get?_push_size _ rfl, rfl, rfl⟩, fun b hb => ?_, k⟩
    cases (show b = s1.heap.objs.size by simpa using hb)
    exact J1.fpOk (Nat.le_refl _) (J1.hok.fresh (Nat.le_refl _))
  · cases r1
    obtain ⟨its, rv, pl, hz⟩ := J1.tuple hq
    refine wpAny_pyIter_tuple (show s1.heap.IsTuple q its.toArray from pl) ⟨s1.heap.objs.size, [s1.heap.objs.size], _, _, H1, rfl, J1.kept (t' := s1.toks) fun b o e => Heap.get?_push_of_some _ e, turn_tuple q _, ⟨_, Heap.get?_push_size _ rfl, rfl, rfl⟩, fun b hb => ?_, k⟩
    cases (show b = s1.heap.objs.size by simpa using hb)
    exact J1.fpOk (Nat.le_refl _) (J1.hok.fresh (Nat.le_refl _))
end
end Dl
set_option maxRecDepth 100000
set_option maxHeartbeats 4000000
namespace Dl
open PySem L2
def wipeR (ρ : Rho) : List Nat → Rho
  | [] => ρ
  | v :: vs => (wipeR ρ vs).set v none
abbrev WF : WX := fun _ _ _ _ => False
theorem wipeR_len (ρ : Rho) : ∀ vs : List Nat, (wipeR ρ vs).length = ρ.length
  | [] => rfl
  | v :: vs => by unfold wipeR; rw [List.length_set, wipeR_len ρ vs]
theorem wipeR_some {ρ : Rho} {i : Nat} {x : Val} : ∀ {vs : List Nat}, (wipeR ρ vs)[i]? = some (some x) → ρ[i]? = some (some x) ∧ i ∉ vs
  | [], h => ⟨h, by simp⟩
  | v :: vs, h => by
    unfold wipeR at h
    by_cases hi : v = i
    · subst hi
      by_cases hv : v < (wipeR ρ vs).length
      · rw [List.getElem?_set_self hv] at h; cases h
      · rw [List.getElem?_eq_none (by simpa using hv)] at h; cases h
    · rw [List.getElem?_set_ne hi] at h
      obtain ⟨h1, h2⟩ := wipeR_some h
      exact ⟨h1, fun z => (List.mem_cons.mp z).elim (fun e => hi e.symm) h2⟩
theorem Fit.wipe {U : Uni} {K : PySem.W.Frag} {Z : Base} {σ : L2.St} {ρ : Rho} {st : U.S} {I : Hp} {M : Mw} {H : Hp} (f : Fit U K Z σ ρ st I M H) (vs : List Nat) : Fit U K Z (wipe σ vs) (wipeR ρ vs) st I M H :=
  ⟨f.g, f.ok, f.rs, by rw [wipeR_len, wipe_length]; exact f.len, fun i v e => by
    obtain ⟨h1, h2⟩ := wipeR_some e
    rw [wipe_out h2]
    exact f.env i v h1, fun i ds p e1 e2 => by
    obtain ⟨h1, h2⟩ := wipeR_some e1
    rw [wipe_out h2] at e2
    exact f.new i ds p h1 e2, fun i j ds es p e1 e2 e3 e4 => by
    obtain ⟨h1, h2⟩ := wipeR_some e1
    obtain ⟨h3, h4⟩ := wipeR_some e2
    rw [wipe_out h2] at e3
    rw [wipe_out h4] at e4
    exact f.sep i j ds es p h1 h3 e3 e4, fun i t ks ds p e1 e2 => by
    obtain ⟨h1, h2⟩ := wipeR_some e1
    rw [wipe_out h2] at e2
    exact f.newd i t ks ds p h1 e2, fun i j t ks ds t' ks' es p e1 e2 e3 e4 => by
    obtain ⟨h1, h2⟩ := wipeR_some e1
    obtain ⟨h3, h4⟩ := wipeR_some e2
    rw [wipe_out h2] at e3
    rw [wipe_out h4] at e4
    exact f.sepd i j t ks ds t' ks' es p h1 h3 e3 e4⟩
theorem wipe_wipe (σ : L2.St) (vs : List Nat) : ∀ us : List Nat, (∀ i ∈ us, i ∈ vs) → wipe (wipe σ us) vs = wipe σ vs
  | [], _ => rfl
  | u :: us, hu => by
    have e : wipe σ (u :: us) = (wipe σ us).set u none := rfl
    rw [e, wipe_in (hu u List.mem_cons_self), wipe_wipe σ vs us fun i hi => hu i (List.mem_cons_of_mem _ hi)]
section
variable {S : Type}
/-- the turns of a list comprehension: nothing may be raised within -/
def compL (tg : Tg) (T : Rho → S → Res S Bool) (E : Rho → S → Res S Val) (ρ : Rho) : List PyData → List PyData → S → Res S (List PyData)
  | [], acc, st => .ok acc st
  | d :: r, acc, st => match setT tg d ρ with
    | none => .stuck
    | some ρ1 => match T ρ1 st with
      | .ok true st1 => match E ρ1 st1 with
        | .ok (.d y) st2 => if acc.length < 1000000 then compL tg T E ρ r (acc ++ [y]) st2 else .stuck
        | _ => .stuck
      | .ok false st1 => compL tg T E ρ r acc st1
      | _ => .stuck
def nComp (G : Rho → S → Res S (List PyData)) (vs : List Nat) (tg : Tg) (T : Rho → S → Res S Bool) (E : Rho → S → Res S Val) : Rho → S → Res S (List PyData) := fun ρ st => (G ρ st).bind fun ds st1 => compL tg T E (wipeR ρ vs) ds [] st1
def tYes' : Rho → S → Res S Bool := fun _ st => .ok true st
end
section
variable {U : Uni} {X : Cx} {W : WX}
def PTsd (U : Uni) (X : Cx) (W : WX) (ifs : List Expr) (T : Rho → U.S → Res U.S Bool) : Prop := PTs X ifs (tB U X.K W T)
theorem pts_imp {X : Cx} {es : List Expr} {t t' : TT} (h : PTs X es t) (m : ∀ σ H Q, t' σ H Q → t σ H Q) : PTs X es t' := ⟨fun pins s σ H Q J q => h.run pins s σ H Q J (m σ H Q q)⟩
theorem ptsd_nil : PTsd U X W [] tYes' := pts_imp pts_nil fun σ H Q ⟨Z, ρ, st, I, M, ft, ps⟩ => ps true I M H (Grow.refl _ _ _) ft.ok ft.rs rfl
theorem lc_read {K : PySem.W.Frag} {g : Tg} {vs : List Nat} {G : Rho → U.S → Res U.S (List PyData)} {T : Rho → U.S → Res U.S Bool} {E : Rho → U.S → Res U.S Val} {σ : L2.St} {H : Hp} {Q : VK} (hv : ∀ i ∈ g.slots, i ∈ vs)
    (h : tN U K W (nComp G vs g T E) σ H Q) : tLc (tG U K W (rIt K) G) (gT K g) (tB U K WF T) (tE U K WF E) vs σ H Q := by
  refine tN.bind (rel := rIt K) h fun Z ρ st1 J ds I1 M1 H1 ft hJ ps => ?_
  intro D hD
  have iD : I1 D = none := ft.ok.ih.free hD
  have mD : M1.h D = none := ft.ok.mh.free hD
  obtain ⟨g0, k0⟩ := Grow.allocO (o := .lst []) ft.ok hD
  have f0 := (ft.grow g0 k0 ft.rs).wipe vs
  have hww : ∀ σ2, wipe σ2 vs = wipe (wipe σ vs) vs → wipe σ2 vs = wipe σ vs := fun σ2 e => e.trans (wipe_wipe σ vs vs fun _ h => h)
  refine ⟨fun i m H => m = ds.length - i ∧ i ≤ ds.length ∧ ∃ st I M acc av, Same I1 I ∧ Grow I1 M1 H1 I M H ∧ Fit U K Z (wipe σ vs) (wipeR ρ vs) st I M H ∧ H D = some (.lst av) ∧ I D = none ∧ M.h D = none ∧ RpAll K I av acc ∧
      PostN U K (compL g T E (wipeR ρ vs) (ds.drop i) acc st) I1 M1 H1 Q (fun cls d H' => W cls d σ H'), ⟨ds.length, rfl, Nat.zero_le _, st1, I1, M1, [], [], Same.refl _, g0, f0, upd_same, iD, mD, .nil, ps⟩, ?_⟩
  rintro i m H ⟨rfl, hi, st, I, M, acc, av, es, gr, ft, hd, di, dm, ra, ps⟩
  by_cases hlt : i < ds.length
  · have hdrop : ds.drop i = ds[i] :: ds.drop (i + 1) := List.drop_eq_getElem_cons hlt
    rw [hdrop] at ps
    refine .inr ⟨hJ.go i I M H es ft.ok hlt, fun H' => ∃ st I M acc av, Same I1 I ∧ Grow I1 M1 H1 I M H' ∧ Fit U K Z (wipe σ vs) (wipeR ρ vs) st I M H' ∧ H' D = some (.lst av) ∧ I D = none ∧ M.h D = none ∧ RpAll K I av acc ∧
      PostN U K (compL g T E (wipeR ρ vs) (ds.drop (i + 1)) acc st) I1 M1 H1 Q (fun cls d H' => W cls d σ H'), fun H' ⟨st', I', M', acc', av', a1, a2, a3, a4, a5, a6, a7, a8⟩ => ⟨ds.length - (i + 1), by omega, rfl, hlt, st', I', M', acc', av', a1, a2, a3, a4, a5, a6, a7, a8⟩, fun x H' hy => ?_⟩
    obtain ⟨d, I3, hdd, g3, k3, r3⟩ := hJ.yld i I M H x H' es ft.ok hlt hy
    have hd' : d = ds[i] := by
      rw [List.getElem?_eq_getElem hlt] at hdd
      exact (Option.some.inj hdd).symm
    subst hd'
    have f3 := ft.grow g3 k3 ft.rs
    unfold compL at ps
    cases z : setT g ds[i] (wipeR ρ vs) with
    | none => rw [z] at ps; exact False.elim ps
    | some ρ1 =>
      rw [z] at ps
      refine tg_read g f3 r3 z fun σ1 f1 w1 => ⟨hww σ1 (w1 vs hv), ?_⟩
      -- the list so far, whatever is evaluated
      have keepD : ∀ {I' : Hp} {M' : Mw} {Hq : Hp}, Grow I M H I' M' Hq → Hq D = some (.lst av) ∧ I' D = none ∧ M'.h D = none ∧ RpAll K I' av acc := fun {I' M' Hq} gq => by
        obtain ⟨p, us, e, a, b, c, r⟩ := VR.grow (x := .ref D) gq (show VR K I M H (.ref D) (.own acc) from ⟨D, av, rfl, hd, di, dm, ra⟩)
        cases e
        have : us = av := by
          have z := gq.kp D _ hd dm
          rw [z] at a
          cases a
          rfl
        subst this
        exact ⟨a, b, c, r⟩
      refine ⟨Z, ρ1, st, I3, M, f1, ?_⟩
      have back : ∀ {st' : U.S} {I' : Hp} {M' : Mw} {Hq : Hp}, Grow I3 M H' I' M' Hq → Ok I' M' Hq → U.R st' M' → Fit U K Z (wipe σ vs) (wipeR ρ vs) st' I' M' Hq := fun gq kq rq => ft.grow (g3.trans gq) kq rq
      cases zt : T ρ1 st with
      | stuck => simp only [zt] at ps; exact ps
      | exc c fs st' => simp only [zt] at ps; exact False.elim ps
      | ok b st2 =>
        simp only [zt] at ps
        intro b' I4 M4 H4 g4 k4 r4 eb
        have eb : b' = b := eb
        subst eb
        cases b' with
        | false =>
          obtain ⟨q1, q2, q3, q4⟩ := keepD (g3.trans g4)
          exact ⟨st2, I4, M4, acc, av, es.trans (g3.i.trans g4.i), gr.trans (g3.trans g4), back g4 k4 r4, q1, q2, q3, q4, ps⟩
        | true =>
          refine ⟨Z, ρ1, st2, I4, M4, f1.grow g4 k4 r4, ?_⟩
          cases ze : E ρ1 st2 with
          | stuck => simp only [ze] at ps; exact False.elim ps
          | exc c fs st' => simp only [ze] at ps; exact False.elim ps
          | ok v st3 =>
            simp only [ze] at ps
            intro y I5 M5 H5 g5 k5 r5 hy5
            match v, hy5, ps with
            | .d yd, hy5, ps =>
              simp only at ps
              by_cases hl : acc.length < 1000000
              · rw [if_pos hl] at ps
                obtain ⟨q1, q2, q3, q4⟩ := keepD (g3.trans (g4.trans g5))
                refine ⟨av, q1, szl (by rw [q4.len]; exact hl), st3, I5, M5, acc ++ [yd], av ++ [y], es.trans (g3.i.trans (g4.i.trans g5.i)), ?_, ?_, upd_same, q2, q3, q4.append (.cons hy5 .nil), ps⟩
                · have gg := gr.trans (g3.trans (g4.trans g5))
                  have hDn : H1 D = none := hD
                  exact ⟨gg.i, gg.ni, gg.nm, fun a o h m => by rw [upd_ne (ne_of_none h hDn)]; exact gg.kp a o h m, fun a h => by
                    rw [upd_ne (fun z => h (by rw [z]; exact hDn))]
                    exact gg.th a h, gg.ad⟩
                · have f5 := back (g4.trans g5) k5 r5
                  have nown : ∀ (j : Nat) es' q, (wipeR ρ vs)[j]? = some (some (.own es')) → (wipe σ vs)[j]? = some (some (.ref q)) → q ≠ D := fun j es' q e1 e2 => by
                    have f00 := f0
                    obtain ⟨p', us, e3, h1, _⟩ := ft.own e1
                    have hz := f0.own e1
                    obtain ⟨p2, us2, e4, h2, _⟩ := hz
                    rw [e4] at e2
                    cases e2
                    intro z
                    subst z
                    -- an owned list stood ahead of the comprehension
                    have : H1 q ≠ none := by
                      have w := (‹Fit U K Z σ ρ st1 I1 M1 H1›).wipe vs
                      obtain ⟨p3, us3, e5, h3, _⟩ := w.own e1
                      rw [e4] at e5
                      cases e5
                      exact ne_none_of h3
                    exact this hD
                  have hzD : Z.H D = none := by
                    cases w : Z.H D with
                    | none => rfl
                    | some o => exact absurd hD ((‹Fit U K Z σ ρ st1 I1 M1 H1›).g.th D (ne_none_of w))
                  refine ⟨⟨f5.g.i, f5.g.ni, f5.g.nm, fun a o h m => by rw [upd_ne (ne_of_none h hzD)]; exact f5.g.kp a o h m, fun a h => by
                    rw [upd_ne (fun z => h (by rw [z]; exact hzD))]
                    exact f5.g.th a h, f5.g.ad⟩, ⟨fun a o h => by rw [upd_ne (ne_of_none h q2)]; exact f5.ok.ih a o h, fun a o h => by rw [upd_ne (ne_of_none h q3)]; exact f5.ok.mh a o h, f5.ok.dj, f5.ok.mi⟩, f5.rs, f5.len, fun j w e => ?_, f5.new, f5.sep, f5.newd, f5.sepd⟩
                  obtain ⟨x', h1, h2⟩ := f5.env j w e
                  refine ⟨x', h1, ?_⟩
                  match w, e, h2 with
                  | .d _, _, h2 => exact h2
                  | .ref _, _, h2 => exact h2
                  | .exc _ _, _, h2 => exact h2
                  | .own es', e, ⟨q', us, z1, a1, b1, c1, r1⟩ =>
                    subst z1
                    exact ⟨q', us, rfl, by rw [upd_ne (nown j es' q' e h1)]; exact a1, b1, c1, r1⟩
                  | .ownd t' ks' es', e, ⟨q', us, z1, a1, b1, c1, r1⟩ =>
                    exact ⟨q', us, z1, by rw [upd_ne (fun z => by subst z; rw [q1] at a1; exact dHO_lst a1.symm)]; exact a1, b1, c1, r1⟩
              · rw [if_neg hl] at ps
                exact False.elim ps
  · have he : i = ds.length := by omega
    subst he
    rw [List.drop_length] at ps
    exact .inl ⟨hJ.stop I M H es ft.ok, ps D av I M H hD gr ft.ok ft.rs hd di dm ra⟩
variable {elt tg iter : Expr} {ifs : List Expr} {scope : Scope} {own : List (Str × Nat)} {pos spos py : Pos} {g : Tg} {G : Rho → U.S → Res U.S (List PyData)} {T : Rho → U.S → Res U.S Bool} {E : Rho → U.S → Res U.S Val}
theorem pnd_comp (hc : X.calm = true) (hN : X.N.Nodup) (hi : PId U X W tg iter G) (ok : BlkOk X.N X.env.scope scope own) (hv : ∀ i ∈ g.slots, i ∈ own.map (·.2))
    (hg : ∀ (s : Shared) (H : Hp) (C : Addr) (cl : List (Str × Addr)) (fp : List Addr), PG (X.blk s H scope (compEnvC scope cl C X.env) fp) tg (gT X.K g))
    (ht : ∀ (s : Shared) (H : Hp) (C : Addr) (cl : List (Str × Addr)) (fp : List Addr), PTsd U (X.blk s H scope (compEnvC scope cl C X.env) fp) WF ifs T)
    (he : ∀ (s : Shared) (H : Hp) (C : Addr) (cl : List (Str × Addr)) (fp : List Addr), PEd U (X.blk s H scope (compEnvC scope cl C X.env) fp) WF elt E) (hs : ∀ x, foldedSetIterable iter X.env x = pure x := by intro _; rfl) :
    PNd U X W (.ListComp elt [⟨tg, iter, ifs, 0⟩] scope pos) (nComp G (own.map (·.2)) g T E) :=
  pe_imp (pe_lc (tt := tB U X.K WF T) (te := tE U X.K WF E) hc hN hi ok hg ht he hs) fun σ H Q h => lc_read hv h
end
end Dl
set_option maxRecDepth 100000
set_option maxHeartbeats 4000000
namespace Dl
open PySem L2 PySem.Spec PyProof.Rows
section
variable {S : Type}
def begin' (n : Nat) (vs : List Val) : Rho := vs.map some ++ List.replicate (n - vs.length) none
def fnF (n : Nat) (B : Rho → S → SRes S) : List Val → S → Res S Val := fun vs st => match B (begin' n vs) st with
  | .ret v st' => .ok v st'
  | .next _ st' => .ok (.d .none) st'
  | .exc c fs _ st' => .exc c fs st'
  | _ => .stuck
end
theorem VRs.get {K : PySem.W.Frag} {I : Hp} {M : Mw} {H : Hp} : ∀ {xs : List V} {vs : List Val} {i : Nat} {v : Val}, VRs K I M H xs vs → vs[i]? = some v → ∃ x, xs[i]? = some x ∧ VR K I M H x v
  | _, _, _, _, .nil, e => by simp at e
  | _, _, 0, _, .cons h _, e => by simp at e; subst e; exact ⟨_, rfl, h⟩
  | _, _, i + 1, v, .cons _ r, e => by
    obtain ⟨x, h1, h2⟩ := VRs.get (i := i) (v := v) r (by simpa using e)
    exact ⟨x, by simpa using h1, h2⟩
theorem fit_begin {U : Uni} {K : PySem.W.Frag} {st : U.S} {I : Hp} {M : Mw} {H : Hp} {N : List Str} {xs : List V} {vs : List Val} (ok : Ok I M H) (rs : U.R st M) (hv : VRs K I M H xs vs) (hd : vs.all isDR = true) :
    Fit U K ⟨I, M, H⟩ (L2.start N xs) (begin' N.length vs) st I M H := by
  have hl := hv.len
  have key : ∀ (i : Nat) (v : Val), (begin' N.length vs)[i]? = some (some v) → vs[i]? = some v ∧ isDR v = true := fun i v e => by
    unfold begin' at e
    by_cases hi : i < vs.length
    · rw [List.getElem?_append_left (by simpa using hi)] at e
      rw [List.getElem?_map] at e
      cases z : vs[i]? with
      | none => rw [z] at e; cases e
      | some w =>
        rw [z] at e
        cases e
        exact ⟨rfl, List.all_eq_true.mp hd _ (List.mem_of_getElem? z)⟩
    · rw [List.getElem?_append_right (by simpa using hi), List.getElem?_replicate] at e
      split at e <;> cases e
  refine ⟨Grow.refl _ _ _, ok, rs, by unfold begin' L2.start; simp [hl], fun i v e => ?_, fun i ds p e1 e2 => ?_, fun i j ds es p e1 e2 e3 e4 => ?_, fun i t ks ds p e1 e2 => ?_, fun i j t ks ds t' ks' es p e1 e2 e3 e4 => ?_⟩
  · obtain ⟨h1, _⟩ := key i v e
    obtain ⟨x, h2, h3⟩ := hv.get h1
    refine ⟨x, ?_, h3⟩
    unfold L2.start
    have hi : i < xs.length := (List.getElem?_eq_some_iff.mp h2).1
    rw [List.getElem?_append_left (by simpa using hi), List.getElem?_map, h2]
    rfl
  · cases (key i _ e1).2
  · cases (key i _ e1).2
  · cases (key i _ e1).2
  · cases (key i _ e1).2
section
variable {U : Uni} {P : Program} {w : World} {K : PySem.W.Frag} {mg : Str → Option Value} {base : Heap}
/-- a def by any reading of its body -/
theorem fn_h {x qual : Str} {st : Stmt} {f : Addr} {fd : FuncData} {N ps : List Str} {k : Nat} {F : List Val → U.S → Res U.S Val} (Fn : Fun K x qual st f fd) (S : FnScope N ps (defScope st))
    (hb : ∀ (cdv : Value) (A : Around) (outer : List Env) (s : Shared) (H : Hp) (xs : List V) (Q : VK) (E : XK) (vs : List Val) (t : U.S) (I : Hp) (M : Mw), Room k (A.deeper (envOfC qual (defScope st) s.heap.objs.size f cdv)) → A.guards = some [] → xs.length = ps.length → Ok I M H → U.R t M → VRs K I M H xs vs →
      vs.all isDR = true → Post U K (VR K) (F vs t) I M H Q E →
      ∃ tt, PSs (cxOf (L2.CX P w) P w K mg base N qual (defScope st) f cdv A outer s H E) (defBody st) tt ∧ tt { nx := fun _ H' => Q .non H', rt := Q } (L2.start N xs) H) : FnG U P w K mg base (k + 1) f fd ps F := by
  obtain ⟨oc, od, kV, doc, pm, an, cdv, ct, osl, rfl, lk, hcd⟩ := Fn.ex
  refine ⟨fun A outer s H args us xs Q E vs t I M hr hgd e0 hbd rv hl ok rs hv hd h => ?_⟩
  have KX : K.In s.heap := e0.mod.kin.keeps fun b o e => (e0.bs b o e).1
  have lim : s.heap.NoLimit := e0.mod.nolimit.keeps fun b o e => (e0.bs b o e).1
  have kinds : ∀ y ∈ ps.zip us, (defScope st).names.lookup y.1 = some .local ∨ ((defScope st).names.lookup y.1 = some .cell ∧ ((cellsFrom (s.heap.objs.size + 1) (defScope st).names []).lookup y.1).isSome = true) := fun ⟨n, v⟩ hy => by
    rcases S.par n (List.of_mem_zip hy).1 with q | q
    · exact Or.inl q
    · exact Or.inr ⟨q, PySem.W.cellsFrom_some _ _ _ (.inl q)⟩
  refine codeAny_call_function hr.depth (KX _ _ lk) rfl S.co S.gen rfl (PySem.W.codeRec_of KX hcd) (hbd _ _ _ _ (wpAny_newFunctionEnv_cells S.kind kinds fun env he s1 ic => ?_))
  subst he
  refine ⟨lim.keeps ic.toInCall.keep, codeAny_func ?_⟩
  obtain ⟨tt, hbody, hsp⟩ := hb cdv A outer s H xs Q E vs t I M (hr.deeper _) hgd hl ok rs hv hd h
  have J : Inv (cxOf (L2.CX P w) P w K mg base N qual (defScope st) f cdv A outer s H E) [] (L2.start N xs) H s1 := inv_start S hr.hd e0 hl rv ic
  refine wpAny_mono (PSs.run hbody [] s1 (L2.start N xs) H _ J hsp) (fun fl s' hs => ?_) fun e s' hs => hs
  match fl, hs with
  | .ret u, ⟨v, σ', H', J', rv', q⟩ => exact ⟨v, H', J'.os, J'.bare, J'.base, J'.hok, rv', q⟩
  | .next, ⟨σ', H', J', q⟩ => exact ⟨.non, H', J'.os, J'.bare, J'.base, J'.hok, rfl, q⟩
  | .brk, ⟨_, _, _, q⟩ => exact False.elim q
  | .cont, ⟨_, _, _, q⟩ => exact False.elim q
theorem fn_g {x qual : Str} {st : Stmt} {f : Addr} {fd : FuncData} {N ps : List Str} {k : Nat} {B : Rho → U.S → SRes U.S} (Fn : Fun K x qual st f fd) (S : FnScope N ps (defScope st))
    (hb : ∀ (cdv : Value) (A : Around) (outer : List Env) (s : Shared) (H : Hp) (E : XK), Room k (A.deeper (envOfC qual (defScope st) s.heap.objs.size f cdv)) → A.guards = some [] →
      PBd U (cxOf (L2.CX P w) P w K mg base N qual (defScope st) f cdv A outer s H E) (fun cls d _ H => E cls d H) (defBody st) B) : FnG U P w K mg base (k + 1) f fd ps (fnF N.length B) := by
  refine fn_h Fn S fun cdv A outer s H xs Q E vs t I M hr hgd hl ok rs hv hd h => ⟨_, hb cdv A outer s H E hr hgd, ⟨I, M, H⟩, begin' N.length vs, t, I, M, fit_begin ok rs hv hd, ?_⟩
  unfold fnF at h
  cases z : B (begin' N.length vs) t with
  | ret v st' => rw [z] at h; exact fun x I' M' H' g k r q => h x I' M' H' g k r q
  | next ρ' st' => rw [z] at h; exact fun σ' I' M' H' e' ft => h .non I' M' H' ft.g ft.ok ft.rs .non
  | exc c fs ρ' st' => rw [z] at h; exact fun σ' cls d I' M' H' e' ft q => h cls d I' M' H' ft.g ft.ok ft.rs q
  | brk ρ' st' => rw [z] at h; exact False.elim h
  | cnt ρ' st' => rw [z] at h; exact False.elim h
  | stuck => rw [z] at h; exact h
end

/-- an error's __init__ that keeps its n arguments: fill tells how its fields are found -/
def spX (C : Addr) (n : Nat) (fill : List V → List (Str × V)) : Sp := fun vs H Q _ => ∃ a ys, vs = .ref a :: ys ∧ ys.length = n ∧ H a = some (exo a C none) ∧
  ∀ dx, H dx = none → dx ≠ a → ∀ H', (∀ b, b ≠ a → b ≠ dx → H' b = H b) → H' a = some (exo a C (some dx)) → H' dx = some (exd dx (fill ys)) → Q .non H'
section
variable {S : Type}
def sRaise (c n : Nat) (fill : List PyData → List PyData) (A : Rho → S → Res S (List Val)) : Rho → S → SRes S := fun ρ st => sBind (A ρ st) ρ fun vs st1 => match datas vs with
  | some ds => if ds.length = n then .exc c (fill ds) ρ st1 else .stuck
  | none => .stuck
end
/-- how a class of errors is made: its number, its __init__ -/
structure ExcT (U : Uni) (P : Program) (w : World) (K : PySem.W.Frag) (mg : Str → Option Value) (base : Heap) (x : Str) (c n : Nat) (nms : List Str) (fill : List PyData → List PyData) : Prop where
  ex : ∃ (C fI : Addr) (k : Nat) (fd : FuncData) (ps : List Str) (fillV : List V → List V), k + 1 ≤ 2 ∧ n ≤ 5 ∧ OexC K C ∧ PySem.W.findIn K (.ref C) "__init__" = some (some (.ref fI)) ∧ PySem.W.typeIn K (.ref fI) = some (.type "function") ∧
    FnOk P w K mg base CX0 k fI fd ps (spX C n (fun ys => nms.zip (fillV ys))) ∧ Binds K fd ps [] ∧ U.cl c = some (C, nms) ∧ mg x = some (.ref C) ∧
    ∀ I xs ds, RpAll K I xs ds → xs.length = n → RpAll K I (fillV xs) (fill ds) ∧ nms.length = (fillV xs).length
section
variable {U : Uni} {X : Cx} {W : WX} {e : Expr} {es : List Expr} {A : Rho → U.S → Res U.S (List Val)} {pos p : Pos}
theorem psd_raise {x : Str} {c n : Nat} {nms : List Str} {fill : List PyData → List PyData} (T : ExcT U X.prog X.w X.K X.mg X.base x c n nms fill) (hc : X.calm = true) (tk : Takes X W) (hr : Room 2 X.A) (hg : Gl X x) (ha : PAd U X W (e :: es) A)
    (hdb : (x == ("__debug__" : Str)) = false := by decide) (he : starEach (e :: es) X.env = (false, eval e X.env) :: starEach es X.env := by rfl) (hpl : (backTo p (starEach es X.env)).any (·.1) = false := by rfl) {q : Pos} :
    PSd U X W (.Raise (some (.Call (.Name x q) (e :: es) [] p)) none pos) (sRaise c n fill A) := by
  obtain ⟨C, fI, k, fd, ps, fillV, hk, h5, TC, iC, tI, F1, hb, hcl, hm, hf⟩ := T.ex
  refine ps_imp (ps_raise hc tk (pmk_oex TC iC tI F1 (hr.mono hk) hb .nil pass0 hg hm ha hdb he hpl)) fun D σ H h => ?_
  refine tS.bind (rel := VRs X.K) h fun Z ρ st1 xs vs I1 M1 H1 ft hx ps => ?_
  cases z : datas vs with
  | none => simp only [z] at ps; exact False.elim ps
  | some ds =>
    simp only [z] at ps
    have r := VRs.datas hx z
    by_cases hn : ds.length = n
    · rw [if_pos hn] at ps
      have hl : xs.length = n := r.len.trans hn
      obtain ⟨r2, l2⟩ := hf I1 xs ds r hl
      refine ⟨Nat.le_trans (Nat.le_of_eq hl) (Nat.le_trans h5 (by decide)), fun a ha0 => ?_⟩
      rw [List.append_nil]
      refine ⟨a, xs, rfl, hl, upd_same, fun dx hdx hne H' hb' ha' hd' => ⟨rfl, dx, _, ha', hd', ?_, ?_⟩⟩
      · rw [upd_ne hne] at hdx; exact hdx
      · rw [upd_ne hne] at hdx
        have e : upd (del H' a) dx (.xd (nms.zip (fillV xs))) = upd H1 dx (.xd (nms.zip (fillV xs))) := by
          funext b
          by_cases h1 : b = dx
          · subst h1; rw [upd_same, upd_same]
          · rw [upd_ne h1, upd_ne h1]
            by_cases h2 : b = a
            · subst h2; rw [del_same, ha0]
            · rw [del_ne h2, hb' b h2 h1, upd_ne h2]
        rw [e]
        obtain ⟨g, k'⟩ := Grow.alloc (o := .xd (nms.zip (fillV xs))) ft.ok hdx
        exact ps σ (.ref C) (some dx) _ M1 _ g.i (ft.grow g k' ft.rs) ⟨C, nms, dx, fillV xs, hcl, rfl, rfl, upd_same, l2, r2.mono g.i⟩
    · rw [if_neg hn] at ps
      exact False.elim ps
end
end Dl
set_option maxRecDepth 100000
set_option maxHeartbeats 4000000
namespace Dl
open PySem L2
theorem XR.mono {U : Uni} {K : PySem.W.Frag} {I I' : Hp} {c : Nat} {fs : List PyData} {cls : Value} {d : Option Addr} (e : Same I I') : XR U K I c fs cls d → XR U K I' c fs cls d
  | ⟨C, nms, dd, vs, h1, h2, h3, h4, h5, h6⟩ => ⟨C, nms, dd, vs, h1, h2, h3, e _ _ h4, h5, h6.mono e⟩
section
variable {U : Uni} {X : Cx} {a : Addr} {oe : Obj} {cls : Value} {d : Option Addr} {pn : List (Addr × Obj)} {i : Option Nat} {c : Nat} {pos p : Pos}
end
section
variable {S : Type}
end
section
variable {U : Uni} {X : Cx} {W : WX} {x n y : Str} {C : Addr} {c i j : Nat} {body : List Stmt} {B : Rho → U.S → SRes U.S} {np pos pos' sp py : Pos} {e : Expr} {f : List PyData → Option PyData}
end
end Dl
set_option maxRecDepth 100000
set_option maxHeartbeats 4000000
namespace Dl
open PySem L2 PySem.Spec PyProof.Rows
structure DS where
  ns : List Int
  cells : List Int
  left : List Int
  at_ : Int
  on : Bool
def drawKv (c l : Addr) (k : Int) : List (Key × V) := [(Sum.inr "cells", .ref c), (Sum.inr "left", .ref l), (Sum.inr "at", .int k)]
structure DOn (st : DS) (M : Mw) (m c l : Addr) : Prop where
  hm : M.h m = some (.dK (drawKv c l st.at_))
  hc : M.h c = some (.lst (st.cells.map V.int))
  hl : M.h l = some (.lst (st.left.map V.int))
  ncl : c ≠ l
  lc : st.cells.length ≤ 100
  ll : st.left.length ≤ 100
/-- the script's list: known to the object, or one of the module's -/
def ScrAt (K : PySem.W.Frag) (h : Hp) (a : Addr) (xs : List V) : Prop := (∃ o, h a = some (.frz o (.lst xs))) ∨
  ∃ (o : Obj) (its : Array Value) (n : Nat), K.lookup a = some o ∧ o.cls = .type "list" ∧ o.dict = none ∧ o.data = .seq its n ∧ its.size ≤ sizeLine ∧ Vals xs its.toList
theorem ScrAt.sq {K : PySem.W.Frag} {h : Hp} {a : Addr} {xs : List V} : ScrAt K h a xs → SqL K h a xs
  | .inl ⟨o, e⟩ => .inl (.inr ⟨o, e⟩)
  | .inr e => .inr e
theorem ScrAt.mono {K : PySem.W.Frag} {h h' : Hp} {a : Addr} {xs : List V} (k : ∀ o u, h a = some (.frz o u) → h' a = some (.frz o u)) : ScrAt K h a xs → ScrAt K h' a xs
  | .inl ⟨o, e⟩ => .inl ⟨o, k _ _ e⟩
  | .inr e => .inr e
structure RD (K : PySem.W.Frag) (tb : List (Addr × Str)) (st : DS) (M : Mw) : Prop where
  scr : ∃ a, M.ad 1 = some a ∧ ScrAt K M.h a (st.ns.map V.int)
  len : st.ns.length ≤ 63
  off : st.on = false → M.ad 0 = none
  dr : st.on = true → ∃ m c l, M.ad 0 = some m ∧ DOn st M m c l
  tab : LamX.Tabs tb M.h
def UD (K : PySem.W.Frag) (tb : List (Addr × Str)) (cl : Nat → Option (Addr × List Str)) : Uni := ⟨DS, RD K tb, cl⟩
/-- a world whose states say nothing of the unchanging objects -/
def UFree (U : Uni) : Prop := ∀ st M i, U.R st M → U.R st ⟨M.h, M.ad, i⟩
theorem ud_free {K : PySem.W.Frag} {tb : List (Addr × Str)} {cl : Nat → Option (Addr × List Str)} : UFree (UD K tb cl) := fun st M i r => by
  have r : RD K tb st M := r
  exact ⟨r.scr, r.len, r.off, fun h => let ⟨m, c, l, e, d⟩ := r.dr h; ⟨m, c, l, e, ⟨d.hm, d.hc, d.hl, d.ncl, d.lc, d.ll⟩⟩, r.tab⟩
def dropZ : List Int → List Int
  | [] => []
  | x :: r => if x = 0 then dropZ r else x :: r
def cellAt (cells : List Int) (k : Int) : Int := if cells = [] then 3 else cells.getD (k % (cells.length : Int)).toNat 0
def mix (cell k : Int) : Int := ((cell % 2147483629 + 7919 * k + 19 * k * k) * 48271 % 2147483647 + 104729 * k) * 69621 % 2147483587 / 11
def drawn (st : DS) (many : Int) : Int × DS := match dropZ st.left with
  | r :: rest => (r % many, { st with left := r / many :: rest })
  | [] => (mix (cellAt st.cells (st.at_ + 1)) (st.at_ + 1) % many, { st with left := [], at_ := st.at_ + 1 })
def fBegun : List Val → DS → Res DS Val
  | [.ref 1], st => if st.on = false then .ok (.ref 0) { st with on := true, cells := st.ns, left := st.ns.filter (fun x => decide (10 ^ 18 ≤ x)), at_ := 0 } else .stuck
  | _, _ => .stuck
def fNext : List Val → DS → Res DS Val
  | [.ref 0, .d (.int many)], st => if st.on = true ∧ 0 < many ∧ many.natAbs.log2 < 9000 ∧ 0 ≤ st.at_ ∧ st.at_ < 2 ^ 40 then .ok (.d (.int (drawn st many).1)) (drawn st many).2 else .stuck
  | _, _ => .stuck
/-- len(script) -/
def eLenS (a : Rho → DS → Res DS Val) : Rho → DS → Res DS Val := fun ρ st => (a ρ st).bind fun x st1 => match x with
  | .ref 1 => .ok (.d (.int st1.ns.length)) st1
  | _ => .stuck
section
variable {X : Cx} {tb : List (Addr × Str)} {cl : Nat → Option (Addr × List Str)} {W : WX} {a : Expr} {Fa : Rho → DS → Res DS Val} {pos p : Pos}
end
/-- the tables' objects that a law may write: the code object, its table, the name of what is made -/
abbrev Tcs := List (Addr × Addr × Str)
def Tcs.tb (cs : Tcs) : List (Addr × Str) := cs.map fun p => (p.2.1, p.2.2)
def Tcs.ps (cs : Tcs) : List Addr := cs.map fun p => p.2.1
/-- what is known of the tables at the law's begin -/
structure TOld (cs : Tcs) (K : PySem.W.Frag) (h : Heap) : Prop where
  at_ : ∀ p ∈ cs, h.get? p.2.1 = some { cls := .none, data := .fields #[] }
  no : ∀ p ∈ cs, K.lookup p.2.1 = none
  code : ∀ p ∈ cs, PySem.W.CodeHd h p.1 p.2.1
theorem TOld.nil {K : PySem.W.Frag} {h : Heap} : TOld [] K h := ⟨(fun _ hp => by cases hp), (fun _ hp => by cases hp), (fun _ hp => by cases hp)⟩
theorem law_g {P : Program} {w : World} {K : PySem.W.Frag} {mg mb : Str → Option Value} {cl : Nat → Option (Addr × List Str)} {k : Nat} {fa a : Addr} {fd : FuncData} {x : Str} {F : List Val → DS → Res DS Val} {s1 : Shared} {vs : List Value} {ns : List Int} {cs : Tcs}
    (KX : K.In s1.heap) (hns : s1.heap.Ns mainGlobals mg) (hb : s1.heap.Ns builtinsNs mb) (hbb : ∀ x : Str, x ≠ "__name__" → mb x = bootBuiltins x) (hlim : s1.heap.NoLimit) (hg : s1.gens = #[])
    (hbm : ∃ (bm : Addr) (ob : Obj), mg "__builtins__" = some (.ref bm) ∧ bm ≠ builtinsNs ∧ s1.heap.get? bm = some ob ∧ ob.cls = .type "module" ∧ ob.dict = some builtinsNs ∧ ob.data = .plain) (TO : TOld cs K s1.heap)
    (ha : s1.heap.get? a = some { cls := .type "list", data := .seq vs.toArray }) (hi : IntsAre vs ns) (hl : ns.length ≤ 63) (hr : Room k callerA)
    (G : ∀ base : Heap, K.In base → base.Ns mainGlobals mg → (∀ p ∈ cs, LamX.TabB base mg p.1 p.2.1) → FnG (UD K cs.tb cl) P w K mg base k fa fd [x] F) (hbind : ∀ (s : Shared) (u : Value), BindsTo s fd ⟨[u], []⟩ [(x, u)])
    (hF : ∃ st', F [.ref 1] ⟨ns, [], [], 0, false⟩ = .ok (.d (.bool true)) st') :
    codeAny (model P w) callerA (.call (.ref fa) ⟨[.ref a], []⟩) (fun r s' => r = .ok (.ret (.bool true)) ∧ OldK s1.heap s'.heap ∧ s'.os = s1.os ∧ AllBare s'.gens) s1 := by
  have rv : Vals (ns.map V.int) vs := vals_of_ints hi
  have lenV := hi.length
  have tabAt : ∀ b : Addr, b ∈ cs.ps → s1.heap.get? b = some { cls := .none, data := .fields #[] } := by
    intro b hb
    obtain ⟨p, hp, rfl⟩ := List.mem_map.mp hb
    exact TO.at_ p hp
  have aNo : a ∉ cs.ps := by
    intro z
    have q := (tabAt a z).symm.trans ha
    cases q
  have inPs : ∀ p ∈ cs, p.2.1 ∈ cs.ps := fun p hp => List.mem_map.mpr ⟨p, hp, rfl⟩
  have main : ∀ H : Hp, (∀ p ∈ cs, H p.2.1 = some (.tbl #[])) → (∀ b, H b = none ∨ b ∈ cs.ps ∨ ∃ o ys, H b = some (.frz o (.lst ys))) → ScrAt K H a (ns.map V.int) → HOk P w H s1.heap → (∀ b, H b ≠ none → b = a ∨ b ∈ cs.ps) → (H a ≠ none → K.lookup a = none) →
      codeAny (model P w) callerA (.call (.ref fa) ⟨[.ref a], []⟩) (fun r s' => r = .ok (.ret (.bool true)) ∧ OldK s1.heap s'.heap ∧ s'.os = s1.os ∧ AllBare s'.gens) s1 := by
    intro H hT only hS hok only_a hK
    have free : ∀ {b : Addr} {o : Obj}, s1.heap.get? b = some o → (∀ l n, o.data ≠ .seq l n) → o.data ≠ .fields #[] → H b = none := by
      intro b o e h1 h2
      cases q : H b with
      | none => rfl
      | some u =>
        rcases only_a b (ne_none_of q) with hba | hba
        · subst hba
          have z := ha.symm.trans e
          cases z
          exact absurd rfl (h1 _ _)
        · have z := (tabAt b hba).symm.trans e
          cases z
          exact absurd rfl h2
    have noDict : ∀ {b : Addr} {o : Obj} {es : Array DictEntry} {ep : Nat}, s1.heap.get? b = some o → o.data = .dict es ep → H b = none := fun e d => free e (fun _ _ z => by rw [d] at z; cases z) (fun z => by rw [d] at z; cases z)
    have nsK : ∀ {b : Addr} {m : Str → Option Value}, s1.heap.Ns b m → (hidT s1.heap H).Ns b m := by
      rintro b m ⟨o, es, ep, e, d, r⟩
      exact ⟨o, es, ep, hidT_get e (noDict e d), d, r⟩
    have hKb : K.In (hidT s1.heap H) := by
      intro b o e
      refine hidT_get (KX b o e) ?_
      cases q : H b with
      | none => rfl
      | some u =>
        rcases only_a b (ne_none_of q) with hba | hba
        · subst hba
          rw [hK (ne_none_of q)] at e
          cases e
        · obtain ⟨p, hp, rfl⟩ := List.mem_map.mp hba
          rw [TO.no p hp] at e
          cases e
    have hM : Mod K mg (hidT s1.heap H) := by
      obtain ⟨mc, c1, c2⟩ := hlim
      exact ⟨hKb, nsK hns, ⟨mb, nsK hb, hbb⟩, ⟨mc, nsK c1, c2⟩⟩
    have e0 : Env0 P w K mg (hidT s1.heap H) callerA [] s1 H :=
      ⟨rfl, hM, fun b o e => of_hidT e, Nat.le_of_eq (hidT_size _ _), trivial, (fun b hb => by cases hb), hok, .of_eq hg⟩
    have hTB : ∀ p ∈ cs, LamX.TabB (hidT s1.heap H) mg p.1 p.2.1 := by
      intro p hp
      have tp := TO.at_ p hp
      refine ⟨?_, ?_, ?_⟩
      · obtain ⟨o, us, f1, f2, f3, f4, f5, f6, f7, q1, q2, q3, q4, q5⟩ := TO.code p hp
        refine ⟨o, us, f1, f2, f3, f4, f5, f6, f7, hidT_get q1 (free q1 (fun _ _ z => ?_) fun z => ?_), q2, q3, q4, q5⟩
        · rw [q3] at z; cases z
        · rw [q3] at z
          cases z
          simp at q4
      · obtain ⟨bm, ob, b1, b2, b3, b4, b5, b6⟩ := hbm
        refine ⟨bm, ob, b1, b2, ?_, ?_, hidT_get b3 (free b3 (fun _ _ z => ?_) fun z => ?_), b4, b5, b6⟩
        · rintro rfl
          obtain ⟨o, es, ep, e, d, _⟩ := hns
          have z := e.symm.trans b3
          cases z
          have z2 := d.symm.trans b6
          cases z2
        · rintro rfl
          have z := tp.symm.trans b3
          cases z
          cases b6
        · rw [b6] at z; cases z
        · rw [b6] at z; cases z
      · intro z
        obtain ⟨o, es, ep, e, d, _⟩ := hns
        have q := tp.symm.trans (z ▸ e)
        cases q
        cases d
    have hOk : Ok (fun _ => none) ⟨H, fun n => if n = 1 then some a else none, fun _ => none⟩ H := ⟨(fun _ _ e => nomatch e), Same.refl H, fun _ e => absurd rfl e, (fun _ _ e => nomatch e)⟩
    have hRD : RD K cs.tb ⟨ns, [], [], 0, false⟩ ⟨H, fun n => if n = 1 then some a else none, fun _ => none⟩ := by
      refine ⟨⟨a, rfl, hS⟩, hl, fun _ => rfl, (fun e => by cases e), fun p hp => ?_⟩
      obtain ⟨q, hq, rfl⟩ := List.mem_map.mp hp
      exact LamX.TabS.nil (hT q hq)
    obtain ⟨st', hst⟩ := hF
    refine codeAny_mono ((G _ hKb (nsK hns) hTB).run callerA [] s1 H ⟨[.ref a], []⟩ [.ref a] [.ref a] (fun v H' => v = .bl true) (fun _ _ _ => False) [.ref 1] ⟨ns, [], [], 0, false⟩ _ _ hr rfl e0 (hbind s1 (.ref a)) (.cons rfl .nil) rfl hOk hRD (.cons ⟨a, rfl, rfl⟩ .nil) rfl ?_) fun r s' h => ?_
    · rw [hst]
      exact fun z I' M' H' g k r q => Rp.bool_inv q
    · match r, h with
      | .error e, ⟨_, _, _, _, _, _, _, _, _, _, _, _, f⟩ => exact False.elim f
      | .ok (.ret u), h =>
        obtain ⟨v, H', os, bare, un, hok', r', q⟩ := h
        have q' : v = .bl true := q
        subst q'
        have hu : u = Value.bool true := r'
        subst hu
        have kept : ∀ b o, b ∉ cs.ps → s1.heap.get? b = some o → s'.heap.get? b = some o := by
          intro b o nb e
          cases q : H b with
          | none => exact un.keep b o e q (fun z => by cases z) (fun z => by cases z)
          | some u =>
            rcases only b with z | z | ⟨ob, ys, z⟩
            · rw [q] at z; cases z
            · exact absurd z nb
            · have z2 := un.frzs b ob _ z
              have e1 := (hok b _ z).1
              have e2 := (hok' b _ z2).1
              rw [e] at e1
              cases e1
              exact e2
        have more : ∀ p ∈ cs, ∃ vs : Array Value, s'.heap.get? p.2.1 = some { cls := .none, data := .fields vs } := fun p hp => by
          obtain ⟨vs, z⟩ := un.tbls p.2.1 #[] (hT p hp)
          exact ⟨_, hok' _ _ z⟩
        refine ⟨rfl, ⟨fun b o e => ?_, fun b o e => ?_⟩, os, bare⟩
        · by_cases hb : b ∈ cs.ps
          · obtain ⟨p, hp, rfl⟩ := List.mem_map.mp hb
            obtain ⟨vs, hv⟩ := more p hp
            have z := (TO.at_ p hp).symm.trans e
            cases z
            exact .inr (.inl ⟨((TO.code p hp).tab (TO.at_ p hp)).isCodeTable, rfl, #[], vs, rfl, by rw [Array.empty_append]; exact hv⟩)
          · exact .inl (kept b o hb e)
        · by_cases hb : b ∈ cs.ps
          · obtain ⟨p, hp, rfl⟩ := List.mem_map.mp hb
            obtain ⟨vs, hv⟩ := more p hp
            exact ⟨_, hv⟩
          · exact ⟨o, kept b o hb e⟩
  have hl2 : ns.length ≤ sizeLine := Nat.le_trans hl (by decide)
  by_cases hk : ∃ o, K.lookup a = some o
  · obtain ⟨o, hk⟩ := hk
    have e := KX a o hk
    rw [ha] at e
    cases e
    refine main (fun b => if b ∈ cs.ps then some (.tbl #[]) else none) (fun p hp => if_pos (inPs p hp)) (fun b => ?_) (.inr ⟨_, vs.toArray, _, hk, rfl, rfl, rfl, by rw [List.size_toArray, lenV]; exact hl2, by simpa using rv⟩) (fun b u z => ?_) (fun b z => ?_) (fun z => absurd (if_neg aNo) z)
    · by_cases hb : b ∈ cs.ps
      · exact .inr (.inl hb)
      · exact .inl (if_neg hb)
    · by_cases hb : b ∈ cs.ps
      · simp only [if_pos hb] at z; cases z; exact tabAt b hb
      · simp only [if_neg hb] at z; cases z
    · by_cases hb : b ∈ cs.ps
      · exact .inr hb
      · exact absurd (if_neg hb) z
  · have hk' : K.lookup a = none := by
      cases q : K.lookup a with
      | none => rfl
      | some o => exact absurd ⟨o, q⟩ hk
    have nP : ∀ p ∈ cs, p.2.1 ≠ a := fun p hp z => aNo (z ▸ inPs p hp)
    refine main (upd (fun b => if b ∈ cs.ps then some (.tbl #[]) else none) a (.frz { cls := .type "list", data := .seq vs.toArray } (.lst (ns.map V.int)))) (fun p hp => by rw [upd_ne (nP p hp)]; exact if_pos (inPs p hp)) (fun b => ?_) (.inl ⟨_, upd_same⟩) (fun b u z => ?_) (fun b z => ?_) fun _ => hk'
    · by_cases hba : b = a
      · subst hba; exact .inr (.inr ⟨_, _, upd_same⟩)
      · rw [upd_ne hba]
        by_cases hb : b ∈ cs.ps
        · exact .inr (.inl hb)
        · exact .inl (if_neg hb)
    · by_cases hba : b = a
      · subst hba
        rw [upd_same] at z
        cases z
        exact ⟨ha, by rw [List.length_map]; exact hl2, vs, _, rv, ha⟩
      · rw [upd_ne hba] at z
        by_cases hb : b ∈ cs.ps
        · simp only [if_pos hb] at z; cases z; exact tabAt b hb
        · simp only [if_neg hb] at z; cases z
    · by_cases hba : b = a
      · exact .inl hba
      · rw [upd_ne hba] at z
        by_cases hb : b ∈ cs.ps
        · exact .inr hb
        · exact absurd (if_neg hb) z
/-- what the head tells of tables -/
def TabTold (q : Program) (K : PySem.W.Frag) (h : Heap) : Prop := ∀ (d : DefRec) (x : Str) (c P : Addr), (recsOf q).find? (fun e => e.name == x) = some d → PySem.W.tabIn K x = some (c, P) → PySem.W.CodeHd h c P ∧ h.get? P = some { cls := .none, data := .fields #[] }
theorem walk_g {l : PySem.W.OpenLaw} {k : Nat} {q : Program} {loose : List Str} {XP : (Str → Option Value) → Heap → Prop} {YP : World → Heap → Prop} {d : DefRec} {K : Params → PySem.W.Frag} {x : Str} {F : List Val → DS → Res DS Val}
    (hn : l.most = some 63) (hdf : d.params.defaults = []) (hr : Room k callerA) (hY : ∀ (w : World) (h : Heap), YP w h → (K w.params).In h)
    (G : ∀ (w : World) (mg : Str → Option Value) (fa : Addr) (h : Heap), (K w.params).In h → h.Ns mainGlobals mg → mg d.name = some (.ref fa) → TabTold q (K w.params) h →
      ∃ (fd : FuncData) (cl : Nat → Option (Addr × List Str)) (cs : Tcs), TOld cs (K w.params) h ∧ (∀ (s : Shared) (u : Value), BindsTo s fd ⟨[u], []⟩ [(x, u)]) ∧
        ∀ base : Heap, (K w.params).In base → base.Ns mainGlobals mg → (∀ p ∈ cs, LamX.TabB base mg p.1 p.2.1) → FnG (UD (K w.params) cs.tb cl) l.prog w (K w.params) mg base k fa fd [x] F)
    (hF : ∀ ns : List Int, ns.length ≤ 63 → (∀ z ∈ ns, Builtin.Int.intBits z ≤ 1048576) → ∃ st', F [.ref 1] ⟨ns, [], [], 0, false⟩ = .ok (.d (.bool true)) st') :
    PySem.W.WalkO q loose XP YP l.row.toRowW d [] (fun f vs => PySem.call f vs) := by
  refine Att.attach_callB hn hdf fun w s0 s1 mg mb fa o pm cd doc a vs ns Gr Y ho hd hcd hmg hobj hints hlen hbits hg => ?_
  have KX := hY w _ Y
  obtain ⟨fd, cl, cs, TO, hb, hG⟩ := G w mg fa _ KX Gr.T.g hmg (fun d x c P h1 h2 => PySem.W.tab_of Gr.T KX h1 h2)
  exact law_g KX Gr.T.g Gr.T.b Gr.T.builtins Gr.T.nolimit hg Gr.T.bmain TO hobj hints hlen hr hG hb (hF ns hlen hbits)
end Dl
set_option maxRecDepth 100000
set_option maxHeartbeats 4000000
namespace Dl
open PySem L2 PySem.Spec PyProof.Rows
theorem k_cl : ¬ (("cells" : Str) = "left") := by decide +kernel
theorem k_ca : ¬ (("cells" : Str) = "at") := by decide +kernel
theorem k_la : ¬ (("left" : Str) = "at") := by decide +kernel
theorem kv_cells (c l : Addr) (k : Int) : valV (drawKv c l k) (Sum.inr "cells" : Key) = some (.ref c) := by
  simp [drawKv, valV]
theorem kv_left (c l : Addr) (k : Int) : valV (drawKv c l k) (Sum.inr "left" : Key) = some (.ref l) := by
  have h := k_cl
  simp [drawKv, valV, h]
theorem kv_at (c l : Addr) (k : Int) : valV (drawKv c l k) (Sum.inr "at" : Key) = some (.int k) := by
  have h := k_ca
  have h2 := k_la
  simp [drawKv, valV, h, h2]
theorem put_left (c l l' : Addr) (k : Int) : putK (drawKv c l k) (Sum.inr "left" : Key) (.ref l') = drawKv c l' k := by
  have h := k_cl
  have h2 : ¬ (("at" : Str) = "left") := fun e => k_la e.symm
  simp [drawKv, putK, h, h2]
theorem put_at (c l : Addr) (k k' : Int) : putK (drawKv c l k) (Sum.inr "at" : Key) (.int k') = drawKv c l k' := by
  have h := k_ca
  have h2 := k_la
  simp [drawKv, putK, h, h2]
theorem merge_draw (c l : Addr) (k : Int) : mergeK [] [((Sum.inr "cells" : Key), V.ref c), (Sum.inr "left", .ref l), (Sum.inr "at", .int k)] = drawKv c l k := by
  have h := k_cl
  have h1 := k_ca
  have h2 := k_la
  have h' : ¬ (("left" : Str) = "cells") := fun e => h e.symm
  have h1' : ¬ (("at" : Str) = "cells") := fun e => h1 e.symm
  have h2' : ¬ (("at" : Str) = "left") := fun e => h2 e.symm
  simp [drawKv, mergeK, putK, h, h1, h2, h', h1', h2']
theorem lookL {K : PySem.W.Frag} {H : Hp} {l : Addr} (xs : List Int) (h : H l = some (.lst (xs.map V.int))) : Dp K H (.ref l) (.list (xs.map PyData.int)) := by
  refine .lst (SqL.of h) ?_
  clear h
  induction xs with
  | nil => exact .nil
  | cons x xs ih => exact .cons (.int x) ih
theorem shaped_ints (xs : List Int) : SeqAt.shaped (.list (xs.map PyData.int)) = true := by
  have c : ∀ xs : List Int, PyData.canLayAll0 (xs.map PyData.int) = true := fun xs => by
    induction xs with
    | nil => rfl
    | cons x xs ih => simp [PyData.canLayAll0, PyData.canLay0, ih]
  have d : ∀ xs : List Int, PyData.depthAll (xs.map PyData.int) = 0 := fun xs => by
    induction xs with
    | nil => rfl
    | cons x xs ih => simp [PyData.depthAll, PyData.depth, ih]
  simp [SeqAt.shaped, PyData.canLay0, PyData.depth, c, d]
theorem ne_nil (xs : List Int) : PyData.eqv (.list (xs.map PyData.int)) (.list []) = decide (xs = []) := by
  cases xs with
  | nil => rfl
  | cons x xs => simp [PyData.eqv, PyData.eqvAll]
/-- the draws' dict within the heap that has come out of H -/
structure DrawH (H H' : Hp) (m c l0 l : Addr) (cells left : List Int) (k : Int) : Prop where
  hm : H' m = some (.dK (drawKv c l k))
  hc : H' c = some (.lst (cells.map V.int))
  hl : H' l = some (.lst (left.map V.int))
  cl : c ≠ l
  nl : l = l0 ∨ H l = none
  fr : ∀ b o, H b = some o → b ≠ m → b ≠ l0 → H' b = some o
  h0 : H' l0 ≠ none
theorem DrawH.ml {H H' : Hp} {m c l0 l : Addr} {cells left : List Int} {k : Int} (d : DrawH H H' m c l0 l cells left k) : m ≠ l := ne_of d.hm d.hl (fun z => nomatch z)
theorem DrawH.mc {H H' : Hp} {m c l0 l : Addr} {cells left : List Int} {k : Int} (d : DrawH H H' m c l0 l cells left k) : m ≠ c := ne_of d.hm d.hc (fun z => nomatch z)
/-- a new object besides -/
theorem DrawH.new {H H' : Hp} {m c l0 l p : Addr} {cells left : List Int} {k : Int} {o : HO} (d : DrawH H H' m c l0 l cells left k) (hp : H' p = none) : DrawH H (upd H' p o) m c l0 l cells left k :=
  ⟨by rw [upd_ne (ne_of_none d.hm hp)]; exact d.hm, by rw [upd_ne (ne_of_none d.hc hp)]; exact d.hc, by rw [upd_ne (ne_of_none d.hl hp)]; exact d.hl, d.cl, d.nl,
   fun b u e h1 h2 => by rw [upd_ne (ne_of_none (d.fr b u e h1 h2) hp)]; exact d.fr b u e h1 h2, by
    by_cases h : l0 = p
    · rw [h, upd_same]; exact fun z => nomatch z
    · rw [upd_ne h]; exact d.h0⟩
/-- the dict's list another one, just made -/
theorem DrawH.put {H H' : Hp} {m c l0 l p : Addr} {cells left left' : List Int} {k : Int} (d : DrawH H H' m c l0 l cells left k) (hp : H' p = none) (hm0 : H m ≠ none) : DrawH H (upd (upd H' p (.lst (left'.map V.int))) m (.dK (drawKv c p k))) m c l0 p cells left' k := by
  have d1 := d.new (o := .lst (left'.map V.int)) hp
  have mp : m ≠ p := ne_of_none d.hm hp
  refine ⟨upd_same, by rw [upd_ne d.mc.symm]; exact d1.hc, by rw [upd_ne mp.symm]; exact upd_same, ne_of_none d.hc hp, ?_, fun b u e h1 h2 => by rw [upd_ne h1]; exact d1.fr b u e h1 h2, ?_⟩
  · by_cases h : p = l0
    · exact .inl h
    · refine .inr ?_
      cases z : H p with
      | none => rfl
      | some o =>
        have := d.fr p o z mp.symm h
        rw [hp] at this
        cases this
  · by_cases h : l0 = m
    · rw [h, upd_same]; exact fun z => nomatch z
    · rw [upd_ne h]; exact d1.h0
/-- the counter -/
theorem DrawH.count {H H' : Hp} {m c l0 l : Addr} {cells left : List Int} {k k' : Int} (d : DrawH H H' m c l0 l cells left k) : DrawH H (upd H' m (.dK (drawKv c l k'))) m c l0 l cells left k' :=
  ⟨upd_same, by rw [upd_ne d.mc.symm]; exact d.hc, by rw [upd_ne d.ml.symm]; exact d.hl, d.cl, d.nl, fun b u e h1 h2 => by rw [upd_ne h1]; exact d.fr b u e h1 h2, by
    by_cases h : l0 = m
    · rw [h, upd_same]; exact fun z => nomatch z
    · rw [upd_ne h]; exact d.h0⟩
/-- the list itself -/
theorem DrawH.set {H H' : Hp} {m c l0 l : Addr} {cells left left' : List Int} {k : Int} (d : DrawH H H' m c l0 l cells left k) : DrawH H (upd H' l (.lst (left'.map V.int))) m c l0 l cells left' k :=
  ⟨by rw [upd_ne d.ml]; exact d.hm, by rw [upd_ne d.cl]; exact d.hc, upd_same, d.cl, d.nl, fun b u e h1 h2 => by
    have hb : b ≠ l := fun z => by
      rcases d.nl with q | q
      · exact h2 (z.trans q)
      · rw [z, q] at e; cases e
    rw [upd_ne hb]; exact d.fr b u e h1 h2, by
    by_cases h : l0 = l
    · rw [h, upd_same]; exact fun z => nomatch z
    · rw [upd_ne h]; exact d.h0⟩
/-- the end of a draw -/
theorem DrawH.fin {K : PySem.W.Frag} {tb : List (Addr × Str)} {I : Hp} {M : Mw} {H H' : Hp} {m c l0 l : Addr} {t : DS} {left : List Int} {k : Int} (d : DrawH H H' m c l0 l t.cells left k) (ok : Ok I M H) (rd : RD K tb t M) (had : M.ad 0 = some m) (don : DOn t M m c l0) (hlen : left.length ≤ 100) (hon : t.on = true) :
    ∃ M', Grow I M H I M' H' ∧ Ok I M' H' ∧ RD K tb { t with left := left, at_ := k } M' := by
  have mH := ok.mh _ _ don.hm
  have cH := ok.mh _ _ don.hc
  have lH := ok.mh _ _ don.hl
  have inM : ∀ b, H b ≠ none → upd (upd (del M.h l0) m (.dK (drawKv c l k))) l (.lst (left.map V.int)) b ≠ none → M.h b ≠ none := fun b hb z => by
    by_cases h1 : b = l
    · rcases d.nl with q | q
      · rw [h1, q]; exact ne_none_of don.hl
      · rw [h1] at hb; exact absurd q hb
    · rw [upd_ne h1] at z
      by_cases h2 : b = m
      · rw [h2]; exact ne_none_of don.hm
      · rw [upd_ne h2] at z
        by_cases h3 : b = l0
        · rw [h3, del_same] at z; exact absurd rfl z
        · rw [del_ne h3] at z; exact z
  refine ⟨⟨upd (upd (del M.h l0) m (.dK (drawKv c l k))) l (.lst (left.map V.int)), M.ad, M.i⟩, ⟨Same.refl I, fun _ _ z => z, inM, fun b o e z => ?_, fun b hb => ?_, fun _ _ z => z⟩, ⟨fun b o e => ?_, fun b o e => ?_, fun b hb => ?_, ok.mi⟩, ?_⟩
  · exact d.fr b o e (fun w => by rw [w, don.hm] at z; cases z) (fun w => by rw [w, don.hl] at z; cases z)
  · by_cases h1 : b = m
    · rw [h1]; exact ne_none_of d.hm
    · by_cases h2 : b = l0
      · rw [h2]; exact d.h0
      · obtain ⟨o, ho⟩ := some_of_ne hb
        exact ne_none_of (d.fr b o ho h1 h2)
  · have nm : M.h b = none := ok.dj b (ne_none_of e)
    exact d.fr b o (ok.ih b o e) (fun w => by rw [w, don.hm] at nm; cases nm) (fun w => by rw [w, don.hl] at nm; cases nm)
  · have e : upd (upd (del M.h l0) m (.dK (drawKv c l k))) l (.lst (left.map V.int)) b = some o := e
    by_cases h1 : b = l
    · subst h1
      rw [upd_same] at e
      rw [d.hl]
      exact e
    · rw [upd_ne h1] at e
      by_cases h2 : b = m
      · subst h2
        rw [upd_same] at e
        rw [d.hm]
        exact e
      · rw [upd_ne h2] at e
        by_cases h3 : b = l0
        · rw [h3, del_same] at e; cases e
        · rw [del_ne h3] at e; exact d.fr b o (ok.mh b o e) h2 h3
  · show upd (upd (del M.h l0) m (.dK (drawKv c l k))) l (.lst (left.map V.int)) b = none
    cases z : upd (upd (del M.h l0) m (.dK (drawKv c l k))) l (.lst (left.map V.int)) b with
    | none => rfl
    | some o =>
      obtain ⟨u, hu⟩ := some_of_ne hb
      exact absurd (ok.dj b hb) (inM b (ne_none_of (ok.ih b u hu)) (ne_none_of z))
  · obtain ⟨a, ha, hS⟩ := rd.scr
    refine ⟨⟨a, ha, hS.mono fun o u e => ?_⟩, rd.len, (fun e => by rw [show ({ t with left := left, at_ := k } : DS).on = t.on from rfl, hon] at e; cases e), fun _ => ⟨m, c, l, had, ⟨?_, ?_, upd_same, d.cl, don.lc, hlen⟩⟩, ?_⟩
    · show upd (upd (del M.h l0) m (.dK (drawKv c l k))) l (.lst (left.map V.int)) a = _
      have e' := ok.mh a _ e
      have n1 : a ≠ m := ne_of e don.hm (fun z => nomatch z)
      have n2 : a ≠ l := fun w => by
        rcases d.nl with q | q
        · rw [w, q, don.hl] at e; cases e
        · rw [w, q] at e'; cases e'
      have n3 : a ≠ l0 := ne_of e don.hl (fun z => nomatch z)
      rw [upd_ne n2, upd_ne n1, del_ne n3]
      exact e
    · show upd (upd (del M.h l0) m (.dK (drawKv c l k))) l (.lst (left.map V.int)) m = _
      rw [upd_ne d.ml, upd_same]
    · show upd (upd (del M.h l0) m (.dK (drawKv c l k))) l (.lst (left.map V.int)) c = _
      rw [upd_ne d.cl, upd_ne d.mc.symm, del_ne don.ncl]
      exact don.hc
    · have stay : ∀ b o, M.h b = some o → (∀ xs, o ≠ .lst xs) → (∀ kv, o ≠ .dK kv) → upd (upd (del M.h l0) m (.dK (drawKv c l k))) l (.lst (left.map V.int)) b = some o := by
        intro b o e n1 n2
        have hm' : b ≠ m := fun w => by rw [w, don.hm] at e; cases e; exact n2 _ rfl
        have hl0 : b ≠ l0 := fun w => by rw [w, don.hl] at e; cases e; exact n1 _ rfl
        have hl' : b ≠ l := fun w => by
          rcases d.nl with q | q
          · exact hl0 (w.trans q)
          · have e' := ok.mh b o e
            rw [w, q] at e'
            cases e'
        rw [upd_ne hl', upd_ne hm', del_ne hl0]
        exact e
      intro p hp
      obtain ⟨ps, t1, t2, t3⟩ := rd.tab p hp
      refine ⟨ps, stay _ _ t1 (fun _ z => nomatch z) (fun _ z => nomatch z), t2, fun pos cv hc => ?_⟩
      obtain ⟨q, e1, e2⟩ := t3 pos cv hc
      exact ⟨q, e1, stay _ _ e2 (fun _ z => nomatch z) (fun _ z => nomatch z)⟩
section
variable {K : PySem.W.Frag} {σ : L2.St} {H H' : Hp} {m c l0 l : Addr} {cells left : List Int} {k : Int}
theorem rd_left (hσ : σ[0]? = some (some (.ref m))) (d : DrawH H H' m c l0 l cells left k) {Q : VK} (q : Q (.ref l) H') : tDGet (tVar 0) (tC (.str "left")) σ H' Q := ⟨_, hσ, m, _, rfl, (kv_left c l k) ▸ DGet.k (k := Sum.inr "left") d.hm, q⟩
theorem rd_cells (hσ : σ[0]? = some (some (.ref m))) (d : DrawH H H' m c l0 l cells left k) {Q : VK} (q : Q (.ref c) H') : tDGet (tVar 0) (tC (.str "cells")) σ H' Q := ⟨_, hσ, m, _, rfl, (kv_cells c l k) ▸ DGet.k (k := Sum.inr "cells") d.hm, q⟩
theorem rd_at (hσ : σ[0]? = some (some (.ref m))) (d : DrawH H H' m c l0 l cells left k) {Q : VK} (q : Q (.int k) H') : tDGet (tVar 0) (tC (.str "at")) σ H' Q := ⟨_, hσ, m, _, rfl, (kv_at c l k) ▸ DGet.k (k := Sum.inr "at") d.hm, q⟩
theorem nil_ne {p : Addr} {xs : List Int} {Q : VK} {H1 : Hp} {a : Addr} (ha : H1 a = some (.lst (xs.map V.int))) (hp : H1 p = some (.lst [])) (q : Q (.bl (decide (xs ≠ []))) H1) : rNeD K (.ref a) (.ref p) H1 Q := by
  refine ⟨_, _, lookL xs ha, .lst (SqL.of hp) .nil, shaped_ints xs, by decide, ?_⟩
  rw [ne_nil]
  have e : (!decide (xs = [])) = decide (xs ≠ []) := by by_cases h : xs = [] <;> simp [h]
  rw [e]
  exact q
theorem ne_left (hσ : σ[0]? = some (some (.ref m))) (d : DrawH H H' m c l0 l cells left k) {Q : Bool → Hp → Prop} (q : ∀ H1, DrawH H H1 m c l0 l cells left k → Q (decide (left ≠ [])) H1) : tTest (tOp (rNeD K) (tDGet (tVar 0) (tC (.str "left"))) (tLst tNil)) σ H' Q := by
  refine rd_left hσ d ⟨Nat.zero_le _, fun p hp => ?_⟩
  have d1 := d.new (o := .lst []) hp
  exact nil_ne d1.hl upd_same ⟨_, rfl, q _ d1⟩
theorem ne_cells (hσ : σ[0]? = some (some (.ref m))) (d : DrawH H H' m c l0 l cells left k) {Q : Bool → Hp → Prop} (q : ∀ H1, DrawH H H1 m c l0 l cells left k → Q (decide (cells ≠ [])) H1) : tTest (tOp (rNeD K) (tDGet (tVar 0) (tC (.str "cells"))) (tLst tNil)) σ H' Q := by
  refine rd_cells hσ d ⟨Nat.zero_le _, fun p hp => ?_⟩
  have d1 := d.new (o := .lst []) hp
  exact nil_ne d1.hc upd_same ⟨_, rfl, q _ d1⟩
def zeroHead : List Int → Bool
  | [] => false
  | x :: _ => decide (x = 0)
theorem test_left (hσ : σ[0]? = some (some (.ref m))) (d : DrawH H H' m c l0 l cells left k) {Q : Bool → Hp → Prop} (q : ∀ H1, DrawH H H1 m c l0 l cells left k → Q (zeroHead left) H1) :
    L2.tAnd (tTest (tOp (rNeD K) (tDGet (tVar 0) (tC (.str "left"))) (tLst tNil))) (tTest (tOp rEq (tOp (rIxL K) (tDGet (tVar 0) (tC (.str "left"))) (tC (.int 0))) (tC (.int 0)))) σ H' Q := by
  refine ne_left hσ d fun H1 d1 => ?_
  cases left with
  | nil => exact iteF (q H1 d1)
  | cons x r =>
    refine iteT (rd_left hσ d1 ⟨l, _, 0, .int x, rfl, rfl, SqL.of d1.hl, atI_nat (j := 0) rfl, rfl, _, rfl, ?_⟩)
    have e : decide (V.int x = V.int 0) = zeroHead (x :: r) := by
      show decide (V.int x = V.int 0) = decide (x = 0)
      by_cases h : x = 0
      · subst h; rfl
      · rw [decide_eq_false h, decide_eq_false]
        exact fun z => h (V.int.inj z)
    rw [e]
    exact q H1 d1
end
theorem dropZ_zero {x : Int} {r : List Int} (h : x = 0) : dropZ (x :: r) = dropZ r := by
  show (if x = 0 then dropZ r else x :: r) = dropZ r
  rw [if_pos h]
theorem dropZ_stop : ∀ {left : List Int}, zeroHead left = false → dropZ left = left
  | [], _ => rfl
  | x :: r, h => by
    show (if x = 0 then dropZ r else x :: r) = x :: r
    rw [if_neg (of_decide_eq_false h)]
end Dl
set_option maxRecDepth 100000
set_option maxHeartbeats 4000000
namespace Dl
open PySem L2 PySem.Spec PyProof.Rows
structure PF (K : PySem.W.Frag) (mg : Str → Option Value) (x : Str) (st : Stmt) (ps : List Str) (f : Addr) (fd : FuncData) : Prop where
  fn : Fun K x x st f fd
  m : mg x = some (.ref f)
  b : Binds K fd ps []
def initOf : Stmt → Stmt
  | .ClassDef _ _ _ body .. => body.getD 0 (.Pass ⟨0, 0, 0, 0⟩)
  | s => s
structure EF (K : PySem.W.Frag) (mg : Str → Option Value) (x q : Str) (st : Stmt) (nm : Str) (C fI : Addr) (fd : FuncData) : Prop where
  m : mg x = some (.ref C)
  ox : OexC K C
  xf : XfC K C
  iC : PySem.W.findIn K (.ref C) "__init__" = some (some (.ref fI))
  tI : PySem.W.typeIn K (.ref fI) = some (.type "function")
  fn : Fun K "__init__" q st fI fd
  b : Binds K fd ["self", nm] []
  no : PySem.W.findIn K (.ref C) nm = some none
theorem room70 {k : Nat} {A : Around} (h : Room k A) : A.units + 70 < cLine := by
  have := h.un
  omega
theorem init_read {K : PySem.W.Frag} {C : Addr} {nm : Str} (T : OexC K C) (hno : PySem.W.findIn K (.ref C) nm = some none) (vs : List V) (H : Hp) (Q : VK) (E : XK) (h : spX C 1 (fun ys => [nm].zip ys) vs H Q E) :
    tOst K nm (tVar 0) (tVar 1) { nx := fun _ H' => Q .non H', rt := Q } (L2.start ["self", nm] vs) H := by
  obtain ⟨a, ys, rfl, hl, ha, hq⟩ := h
  match ys, hl with
  | [y], _ =>
    refine ⟨y, rfl, .ref a, rfl, a, C, rfl, T, hno, .inl ⟨ha, fun dx hdx hne => hq dx hdx hne _ (fun b h1 h2 => ?_) upd_same ?_⟩⟩
    · rw [upd_ne h1, upd_ne h2]
    · rw [upd_ne hne, upd_same]
      rfl
theorem exc_of {U : Uni} {P : Program} {w : World} {K : PySem.W.Frag} {mg : Str → Option Value} {base : Heap} {x q nm : Str} {st : Stmt} {C fI : Addr} {fd : FuncData} {c : Nat} (E : EF K mg x q st nm C fI fd) (hcl : U.cl c = some (C, [nm]))
    (hI : FnOk P w K mg base CX0 1 fI fd ["self", nm] (spX C 1 (fun ys => [nm].zip ys))) : ExcT U P w K mg base x c 1 [nm] id :=
  ⟨C, fI, 1, fd, _, id, by decide, by decide, E.ox, E.iC, E.tI, hI, E.b, hcl, E.m, fun I xs ds r hl => ⟨r, by rw [show ([nm] : List Str).length = 1 from rfl]; exact hl.symm⟩⟩
section
variable {U : Uni} {X : Cx} {W : WX} {k n : Nat} {f : Addr} {fd : FuncData} {ps : List Str} {F : List Val → U.S → Res U.S Val} {x : Str} {p pos : Pos} {e : Expr} {es : List Expr} {A : Rho → U.S → Res U.S (List Val)}
theorem ped_callN (G : FnG U X.prog X.w X.K X.mg X.base k f fd ps F) (hr : Room k X.A) (hgd : X.A.guards = some []) (hg : Gl X x) (hm : X.mg x = some (.ref f)) (hk : PySem.W.keepIn X.K (.ref f) = true) (hb : Binds X.K fd ps []) (tk : Takes X W)
    (ha : PAd U X W (e :: es) A) (hn : ps.length = n := by rfl) (hdb : (x == ("__debug__" : Str)) = false := by decide) (he : starEach (e :: es) X.env = (false, eval e X.env) :: starEach es X.env := by rfl) (hpl : (backTo pos (starEach es X.env)).any (·.1) = false := by rfl) :
    PEd U X W (.Call (.Name x p) (e :: es) [] pos) (eApp F n A) := hn ▸ ped_call G hr hgd hg hm hk hb tk ha hdb he hpl
theorem ped_callN0 (G : FnG U X.prog X.w X.K X.mg X.base k f fd ps F) (hr : Room k X.A) (hgd : X.A.guards = some []) (hg : Gl X x) (hm : X.mg x = some (.ref f)) (hk : PySem.W.keepIn X.K (.ref f) = true) (hb : Binds X.K fd ps []) (tk : Takes X W)
    (hn : ps.length = n := by rfl) (hdb : (x == ("__debug__" : Str)) = false := by decide) : PEd U X W (.Call (.Name x p) [] [] pos) (eApp F n aNil) := hn ▸ ped_call0 G hr hgd hg hm hk hb tk hdb
end
theorem takesF {X : Cx} : Takes X WF := fun _ _ x => by
  obtain ⟨_, _, _, _, _, _, _, _, _, _, _, _, _, _, _, _, f⟩ := x
  exact False.elim f
end Dl
set_option maxRecDepth 100000
set_option maxHeartbeats 4000000
namespace Dl
open PySem L2 PySem.Spec PyProof.Rows
noncomputable def vPowW : Val → Val → Option PyData
  | .d (.int i), .d (.int j) => cif (0 ≤ j ∧ (Builtin.Int.intBits i : Int) * j ≤ 2 ^ 27) (some (.int (i ^ j.toNat))) none
  | _, _ => none
section
variable {S α β : Type}
set_option checkBinderAnnotations false in
def Wp {S α : Type} (r : Res S α) [X : Nat → List PyData → S → Prop] [Q : α → S → Prop] : Prop := match r with
  | .ok a s => Q a s
  | .exc c fs s => X c fs s
  | .stuck => False
theorem wp_bind {r : Res S α} {f : α → S → Res S β} {X : Nat → List PyData → S → Prop} {Q : β → S → Prop} : @Wp _ _ (r.bind f) X Q ↔ @Wp _ _ r X fun a s => @Wp _ _ (f a s) X Q := by
  cases r <;> exact Iff.rfl
theorem wp_mono {r : Res S α} {X : Nat → List PyData → S → Prop} {Q Q' : α → S → Prop} (h : @Wp _ _ r X Q) (m : ∀ a s, Q a s → Q' a s) : @Wp _ _ r X Q' := by
  cases r with
  | ok a s => exact m a s h
  | exc c fs s => exact h
  | stuck => exact h
/-- where a statement may end -/
structure En (S : Type) where
  n : Rho → S → Prop
  r : Val → S → Prop
  x : Nat → List PyData → Rho → S → Prop
  b : Rho → S → Prop
  c : Rho → S → Prop
set_option checkBinderAnnotations false in
def Ws {S : Type} (r : SRes S) [E : En S] : Prop := match r with
  | .next ρ s => E.n ρ s
  | .ret v s => E.r v s
  | .exc c fs ρ s => E.x c fs ρ s
  | .brk ρ s => E.b ρ s
  | .cnt ρ s => E.c ρ s
  | .stuck => False
variable {E : En S} {ρ : Rho} {st : S}
theorem ws_bind {r : Res S α} {f : α → S → SRes S} : @Ws _ (sBind r ρ f) E ↔ @Wp _ _ r (fun c fs s => E.x c fs ρ s) fun a s => @Ws _ (f a s) E := by
  cases r <;> exact Iff.rfl
theorem ws_mono {r : SRes S} {E E' : En S} (h : @Ws _ r E) (hn : ∀ ρ s, E.n ρ s → E'.n ρ s) (hr : ∀ v s, E.r v s → E'.r v s) (hx : ∀ c fs ρ s, E.x c fs ρ s → E'.x c fs ρ s) (hb : ∀ ρ s, E.b ρ s → E'.b ρ s) (hc : ∀ ρ s, E.c ρ s → E'.c ρ s) : @Ws _ r E' := by
  cases r with
  | next ρ s => exact hn _ _ h
  | ret v s => exact hr _ _ h
  | exc c fs ρ s => exact hx _ _ _ _ h
  | brk ρ s => exact hb _ _ h
  | cnt ρ s => exact hc _ _ h
  | stuck => exact h
theorem ws_seq {F G : Rho → S → SRes S} : @Ws _ (sSeq F G ρ st) E ↔ @Ws _ (F ρ st) { E with n := fun ρ' s' => @Ws _ (G ρ' s') E } := by
  unfold sSeq
  cases F ρ st <;> exact Iff.rfl
theorem ws_if {T : Rho → S → Res S Bool} {F G : Rho → S → SRes S} : @Ws _ (sIf T F G ρ st) E ↔ @Wp _ _ (T ρ st) (fun c fs s => E.x c fs ρ s) fun b s => @Ws _ (if b = true then F ρ s else G ρ s) E := ws_bind
theorem ws_set {i : Nat} {F : Rho → S → Res S Val} : @Ws _ (sSet i F ρ st) E ↔ @Wp _ _ (F ρ st) (fun c fs s => E.x c fs ρ s) fun v s => isDR v = true ∧ E.n (ρ.set i (some v)) s := by
  unfold sSet
  rw [ws_bind]
  refine ⟨fun h => wp_mono h fun v s q => ?_, fun h => wp_mono h fun v s q => ?_⟩
  · by_cases c : isDR v = true
    · rw [if_pos c] at q; exact ⟨c, q⟩
    · rw [if_neg c] at q; exact q.elim
  · rw [if_pos q.1]; exact q.2
theorem ws_ret {F : Rho → S → Res S Val} : @Ws _ (sRet F ρ st) E ↔ @Wp _ _ (F ρ st) (fun c fs s => E.x c fs ρ s) fun v s => isDR v = true ∧ E.r v s := by
  unfold sRet
  rw [ws_bind]
  refine ⟨fun h => wp_mono h fun v s q => ?_, fun h => wp_mono h fun v s q => ?_⟩
  · by_cases c : isDR v = true
    · rw [if_pos c] at q; exact ⟨c, q⟩
    · rw [if_neg c] at q; exact q.elim
  · rw [if_pos q.1]; exact q.2
theorem ws_drop {F : Rho → S → Res S Val} : @Ws _ (sDrop F ρ st) E ↔ @Wp _ _ (F ρ st) (fun c fs s => E.x c fs ρ s) fun v s => E.n ρ s := ws_bind
theorem ws_for {G : Rho → S → Res S (List PyData)} {tg : Tg} {B : Rho → S → SRes S} : @Ws _ (sFor G tg B ρ st) E ↔ @Wp _ _ (G ρ st) (fun c fs s => E.x c fs ρ s) fun ds s => @Ws _ (forL tg B ds ρ s) E := ws_bind
theorem ws_goOn {r : SRes S} {k : Rho → S → SRes S} : @Ws _ (goOn r k) E ↔ @Ws _ r { E with n := fun ρ s => @Ws _ (k ρ s) E, c := fun ρ s => @Ws _ (k ρ s) E, b := E.n } := by
  cases r <;> exact Iff.rfl
/-- the turns of a for, by what holds ahead of the i-th -/
theorem ws_forL {tg : Tg} {B : Rho → S → SRes S} (J : Nat → Rho → S → Prop) : ∀ (ds : List PyData) (i : Nat) (ρ : Rho) (st : S), J i ρ st →
    (∀ j d ρ s, ds[j]? = some d → J (i + j) ρ s → ∃ ρ1, setT tg d ρ = some ρ1 ∧ @Ws _ (B ρ1 s) { E with n := J (i + j + 1), c := J (i + j + 1), b := E.n }) → (∀ ρ s, J (i + ds.length) ρ s → E.n ρ s) → @Ws _ (forL tg B ds ρ st) E
  | [], i, ρ, st, h, _, e => e ρ st h
  | d :: ds, i, ρ, st, h, t, e => by
    obtain ⟨ρ1, h1, h2⟩ := t 0 d ρ st rfl h
    unfold forL
    rw [h1]
    refine ws_goOn.mpr ?_
    have go : ∀ ρ s, J (i + 1) ρ s → @Ws _ (forL tg B ds ρ s) E := fun ρ s hj => ws_forL J ds (i + 1) ρ s hj
      (fun j d ρ s hd hj => by
        have := t (j + 1) d ρ s hd (by rw [show i + (j + 1) = i + 1 + j by omega]; exact hj)
        rwa [show i + (j + 1) + 1 = i + 1 + j + 1 by omega] at this) (fun ρ s hj => e ρ s (by rw [List.length_cons, show i + (ds.length + 1) = i + 1 + ds.length by omega]; exact hj))
    exact ws_mono h2 go (fun _ _ q => q) (fun _ _ _ _ q => q) (fun _ _ q => q) go
/-- a def's mirror -/
theorem wp_fn {n : Nat} {B : Rho → S → SRes S} {vs : List Val} {X : Nat → List PyData → S → Prop} {Q : Val → S → Prop} : @Wp _ _ (fnF n B vs st) X Q ↔ @Ws _ (B (begin' n vs) st) ⟨fun _ s => Q (.d .none) s, Q, fun c fs _ s => X c fs s, fun _ _ => False, fun _ _ => False⟩ := by
  unfold fnF
  cases B (begin' n vs) st <;> exact Iff.rfl
/-- a comprehension that draws nothing -/
theorem compL_map {tg : Tg} {F : Rho → S → Res S Val} (f : PyData → PyData) : ∀ (ds acc : List PyData), acc.length + ds.length ≤ 1000000 → (∀ d ∈ ds, ∃ ρ1, setT tg d ρ = some ρ1 ∧ F ρ1 st = .ok (.d (f d)) st) → compL tg tYes' F ρ ds acc st = .ok (acc ++ ds.map f) st
  | [], acc, _, _ => by simp [compL]
  | d :: ds, acc, hl, h => by
    obtain ⟨ρ1, h1, h2⟩ := h d List.mem_cons_self
    have hl' : acc.length + (ds.length + 1) ≤ 1000000 := hl
    unfold compL
    rw [h1]
    show (match tYes' ρ1 st with | _ => _) = _
    simp only [tYes', h2]
    rw [if_pos (by omega), compL_map f ds (acc ++ [f d]) (by simp; omega) fun d hd => h d (List.mem_cons_of_mem _ hd)]
    simp
end
structure Good (B : Int) (st : DS) : Prop where
  on : st.on = true
  lo : 0 ≤ st.at_
  hi : st.at_ ≤ B
theorem Good.mono {B C : Int} {st : DS} (h : Good B st) (l : B ≤ C) : Good C st := ⟨h.on, h.lo, Int.le_trans h.hi l⟩
theorem drawn_good {B : Int} {st : DS} (h : Good B st) (n : Int) : Good (B + 1) (drawn st n).2 := by
  unfold drawn
  cases dropZ st.left with
  | nil => exact ⟨h.on, by have := h.lo; show 0 ≤ st.at_ + 1; omega, by have := h.hi; show st.at_ + 1 ≤ B + 1; omega⟩
  | cons r rest => exact ⟨h.on, h.lo, by have := h.hi; show st.at_ ≤ B + 1; omega⟩
theorem drawn_ns {st : DS} (n : Int) : (drawn st n).2.ns = st.ns := by
  unfold drawn
  cases dropZ st.left <;> rfl
theorem drawn_in {st : DS} {n : Int} (hn : 0 < n) : 0 ≤ (drawn st n).1 ∧ (drawn st n).1 < n := by
  unfold drawn
  cases dropZ st.left with
  | nil => exact ⟨Int.emod_nonneg _ (by omega), Int.emod_lt_of_pos _ hn⟩
  | cons r rest => exact ⟨Int.emod_nonneg _ (by omega), Int.emod_lt_of_pos _ hn⟩
theorem log_small {n : Int} (hn : 0 < n) (h2 : n ≤ 10 ^ 40) : n.natAbs.log2 < 9000 := by
  have h : n.natAbs ≤ 10 ^ 40 := by omega
  have : n.natAbs.log2 ≤ (10 ^ 40 : Nat).log2 := by
    rw [Nat.le_log2 (by decide)]
    exact Nat.le_trans (Nat.log2_self_le (by omega)) h
  exact Nat.lt_of_le_of_lt this (by decide +kernel)
theorem wp_next {B n : Int} {st : DS} {X : Nat → List PyData → DS → Prop} {Q : Val → DS → Prop} (h : Good B st) (hn : 0 < n) (h2 : n ≤ 10 ^ 40) (hB : B ≤ 2 ^ 39) (q : ∀ x st', 0 ≤ x → x < n → Good (B + 1) st' → st'.ns = st.ns → Q (.d (.int x)) st') : @Wp _ _ (fNext [.ref 0, .d (.int n)] st) X Q := by
  have hc : st.on = true ∧ 0 < n ∧ n.natAbs.log2 < 9000 ∧ 0 ≤ st.at_ ∧ st.at_ < 2 ^ 40 := ⟨h.on, hn, log_small hn h2, h.lo, by have := h.hi; omega⟩
  show @Wp _ _ (if _ then _ else _) X Q
  rw [if_pos hc]
  exact q _ _ (drawn_in hn).1 (drawn_in hn).2 (drawn_good h n) (drawn_ns n)
theorem wp_begun {ns : List Int} {X : Nat → List PyData → DS → Prop} {Q : Val → DS → Prop} (q : ∀ st', Good 0 st' → st'.ns = ns → Q (.ref 0) st') : @Wp _ _ (fBegun [.ref 1] ⟨ns, [], [], 0, false⟩) X Q :=
  q _ ⟨rfl, Int.le_refl 0, Int.le_refl 0⟩ rfl
end Dl
namespace Dl
open PySem L2
section
variable {S α β : Type} {a : α} {s : S} {X : Nat → List PyData → S → Prop} {Q : α → S → Prop} {E : En S} {ρ : Rho} {v : Val}
end
section
variable (i j : Int) (xs ys : List PyData) (x y : PyData) (b c : Bool) (z z' : Str)
theorem ints_all (ns : List Int) : allInts (ns.map PyData.int) = some ns := by
  induction ns with
  | nil => rfl
  | cons n ns ih => simp [allInts, ih]
theorem bSum_l (ns : List Int) : bSum [.d (.list (ns.map PyData.int))] = some (.int ns.sum) := by
  show ((allInts (ns.map PyData.int)).map fun ns => PyData.int ns.sum) = _
  rw [ints_all]
  rfl
theorem atI_ok {i : Nat} {x : PyData} (h : xs[i]? = some x) : atI xs (i : Int) = some x := by
  have hl : i < xs.length := (List.getElem?_eq_some_iff.mp h).1
  unfold atI ixN
  rw [if_pos (by omega : (0 : Int) ≤ (i : Int)), if_pos (by omega)]
  show xs[((i : Int)).toNat]? = _
  rw [Int.toNat_natCast]
  exact h
end
end Dl
set_option maxRecDepth 100000
set_option maxHeartbeats 4000000
namespace Dl
open PySem L2
theorem cif_T {α : Sort _} {a b : α} : cif True a b = a := cif_pos trivial
theorem cif_F {α : Sort _} {a b : α} : cif False a b = b := cif_neg (fun h => h)
section
variable {S α β : Type} {a : α} {s st : S} {X : Nat → List PyData → S → Prop} {Q : α → S → Prop} {E : En S} {ρ : Rho} {v : Val}
set_option checkBinderAnnotations false in
def bnd {S α β : Type} (r : Res S α) [f : α → S → Res S β] : Res S β := r.bind f
set_option checkBinderAnnotations false in
def sbnd {S α : Type} (r : Res S α) (ρ : Rho) [f : α → S → SRes S] : SRes S := sBind r ρ f
def isTyB : Ty → PyData → Bool
  | .int, .int _ => true
  | .int, .bool _ => true
  | .bool, .bool _ => true
  | .tuple, .tuple _ => true
  | .str, .str _ => true
  | _, _ => false
set_option checkBinderAnnotations false in
abbrev Hid [p : Prop] : Prop := p
def En.seq (E : En S) (G : Rho → S → SRes S) : En S := { E with n := fun ρ s => @Ws _ (G ρ s) E }
theorem seq_n {G : Rho → S → SRes S} : (E.seq G).n ρ s = @Ws _ (G ρ s) E := rfl
theorem seq_r {G : Rho → S → SRes S} : (E.seq G).r v s = E.r v s := rfl
theorem seq_x {G : Rho → S → SRes S} {c : Nat} {fs : List PyData} : (E.seq G).x c fs ρ s = E.x c fs ρ s := rfl
theorem seq_b {G : Rho → S → SRes S} : (E.seq G).b ρ s = E.b ρ s := rfl
theorem seq_c {G : Rho → S → SRes S} : (E.seq G).c ρ s = E.c ρ s := rfl
theorem w_seq {F G : Rho → S → SRes S} : @Ws _ (sSeq F G ρ st) E = @Ws _ (F ρ st) (E.seq G) := propext ws_seq
theorem w_if {T : Rho → S → Res S Bool} {F G : Rho → S → SRes S} : @Ws _ (sIf T F G ρ st) E = @Wp _ _ (T ρ st) (fun c fs s => E.x c fs ρ s) fun b s => @Ws _ (if b = true then F ρ s else G ρ s) E := propext ws_if
theorem w_set {i : Nat} {F : Rho → S → Res S Val} : @Ws _ (sSet i F ρ st) E = @Wp _ _ (F ρ st) (fun c fs s => E.x c fs ρ s) fun v s => isDR v = true ∧ E.n (ρ.set i (some v)) s := propext ws_set
theorem w_ret {F : Rho → S → Res S Val} : @Ws _ (sRet F ρ st) E = @Wp _ _ (F ρ st) (fun c fs s => E.x c fs ρ s) fun v s => isDR v = true ∧ E.r v s := propext ws_ret
theorem w_drop {F : Rho → S → Res S Val} : @Ws _ (sDrop F ρ st) E = @Wp _ _ (F ρ st) (fun c fs s => E.x c fs ρ s) fun v s => E.n ρ s := propext ws_drop
theorem w_for {G : Rho → S → Res S (List PyData)} {tg : Tg} {B : Rho → S → SRes S} : @Ws _ (sFor G tg B ρ st) E = @Wp _ _ (G ρ st) (fun c fs s => E.x c fs ρ s) fun ds s => @Ws _ (forL tg B ds ρ s) E := propext ws_for
theorem w_new {i : Nat} {F : Rho → S → Res S (List PyData)} : @Ws _ (sNew i F ρ st) E = @Wp _ _ (F ρ st) (fun c fs s => E.x c fs ρ s) fun ds s => E.n (ρ.set i (some (.own ds))) s := propext ws_bind
theorem w_sBind {r : Res S α} {f : α → S → SRes S} : @Ws _ (@sbnd _ _ r ρ f) E = @Wp _ _ r (fun c fs s => E.x c fs ρ s) fun a s => @Ws _ (f a s) E := propext ws_bind
theorem w_unp {tg : Tg} {F : Rho → S → Res S Val} : @Ws _ (sUnp tg F ρ st) E = @Wp _ _ (F ρ st) (fun c fs s => E.x c fs ρ s) fun v s => @Ws _ (match v with
  | .d d => match setT tg d ρ with
    | some ρ1 => .next ρ1 s
    | none => .stuck
  | _ => .stuck) E := propext ws_bind
theorem w_par {i j : Nat} {A : Rho → S → Res S (List Val)} : @Ws _ (sPar i j A ρ st) E = @Wp _ _ (A ρ st) (fun c fs s => E.x c fs ρ s) fun vs s => @Ws _ (match vs with
  | [v, w] => if isDR v = true ∧ isDR w = true then .next ((ρ.set i (some v)).set j (some w)) s else .stuck
  | _ => .stuck) E := propext ws_bind
theorem w_raise {c n : Nat} {fill : List PyData → List PyData} {A : Rho → S → Res S (List Val)} : @Ws _ (sRaise c n fill A ρ st) E = @Wp _ _ (A ρ st) (fun c fs s => E.x c fs ρ s) fun vs s => @Ws _ (match datas vs with
  | some ds => if ds.length = n then .exc c (fill ds) ρ s else .stuck
  | none => .stuck) E := propext ws_bind
theorem w_retN : @Ws _ (sRetN ρ st) E = E.r (.d .none) st := rfl
theorem w_nop : @Ws _ (sNop ρ st) E = E.n ρ st := rfl
theorem w_nx : @Ws _ (.next ρ s) E = E.n ρ s := rfl
theorem w_rt : @Ws _ (.ret v s) E = E.r v s := rfl
theorem w_exc {c : Nat} {fs : List PyData} : @Ws _ (.exc c fs ρ s) E = E.x c fs ρ s := rfl
theorem w_brk : @Ws _ (.brk ρ s) E = E.b ρ s := rfl
theorem w_cnt : @Ws _ (.cnt ρ s) E = E.c ρ s := rfl
theorem w_stuck : @Ws _ (.stuck : SRes S) E = False := rfl
theorem w_goOn {r : SRes S} {k : Rho → S → SRes S} : @Ws _ (goOn r k) E = @Ws _ r { E with n := fun ρ s => @Ws _ (k ρ s) E, c := fun ρ s => @Ws _ (k ρ s) E, b := E.n } := propext ws_goOn
theorem w_retOwn {i : Nat} : @Ws _ (sRetOwn i ρ st) E = @Ws _ (match ρ[i]? with
  | some (some (.own ds)) => .ret (.d (.list ds)) st
  | _ => .stuck) E := rfl
theorem w_app {i : Nat} {F : Rho → S → Res S Val} : @Ws _ (sApp i F ρ st) E = @Ws _ (match ρ[i]? with
  | some (some (.own ds)) => @sbnd _ _ (F ρ st) ρ fun v st1 => match v with
    | .d x => if ds.length < 1000000 then .next (ρ.set i (some (.own (ds ++ [x])))) st1 else .stuck
    | _ => .stuck
  | _ => .stuck) E := rfl
theorem w_setI {i : Nat} {Fi Fe : Rho → S → Res S Val} : @Ws _ (sSetI i Fi Fe ρ st) E = @Wp _ _ (Fe ρ st) (fun c fs s => E.x c fs ρ s) fun v s => @Ws _ (match v, ρ[i]? with
  | .d x, some (some (.own ds)) => @sbnd _ _ (Fi ρ s) ρ fun k st2 => match k with
    | .d (.int k) => match ixN ds.length k with
      | some j => .next (ρ.set i (some (.own (ds.set j x)))) st2
      | none => .stuck
    | _ => .stuck
  | _, _ => .stuck) E := propext ws_bind
theorem w_augI {f : Int → Int → Int} {i : Nat} {Fi Fe : Rho → S → Res S Val} : @Ws _ (sAugI f i Fi Fe ρ st) E = @Ws _ (match ρ[i]? with
  | some (some (.own ds)) => @sbnd _ _ (Fi ρ st) ρ fun k st1 => match k with
    | .d (.int k) => match atI ds k, ixN ds.length k with
      | some (.int x), some j => @sbnd _ _ (Fe ρ st1) ρ fun v st2 => match v with
        | .d (.int y) => .next (ρ.set i (some (.own (ds.set j (.int (f x y)))))) st2
        | _ => .stuck
      | _, _ => .stuck
    | _ => .stuck
  | _ => .stuck) E := rfl
theorem w_aug {f : Int → Int → Int} {i : Nat} {Fe : Rho → S → Res S Val} : @Ws _ (sAug f i Fe ρ st) E = @Ws _ (match ρ[i]? with
  | some (some (.d (.int x))) => @sbnd _ _ (Fe ρ st) ρ fun v st1 => match v with
    | .d (.int y) => .next (ρ.set i (some (.d (.int (f x y))))) st1
    | _ => .stuck
  | _ => .stuck) E := rfl
theorem p_ok : @Wp _ _ (.ok a s) X Q = Q a s := rfl
theorem p_exc {c : Nat} {fs : List PyData} : @Wp _ _ (.exc c fs s : Res S α) X Q = X c fs s := rfl
theorem p_stuck : @Wp _ _ (.stuck : Res S α) X Q = False := rfl
theorem p_bind {r : Res S α} {f : α → S → Res S β} {Q : β → S → Prop} : @Wp _ _ (@bnd _ _ _ r f) X Q = @Wp _ _ r X fun a s => @Wp _ _ (f a s) X Q := propext wp_bind
theorem b_ok {f : α → S → Res S β} : @bnd _ _ _ (Res.ok a s) f = f a s := rfl
theorem b_exc {c : Nat} {fs : List PyData} {f : α → S → Res S β} : @bnd _ _ _ (Res.exc c fs s) f = .exc c fs s := rfl
theorem sb_ok {f : α → S → SRes S} : @sbnd _ _ (.ok a s) ρ f = f a s := rfl
theorem sb_exc {c : Nat} {fs : List PyData} {f : α → S → SRes S} : @sbnd _ _ (.exc c fs s) ρ f = .exc c fs ρ s := rfl
theorem go_nx {k : Rho → S → SRes S} : goOn (.next ρ s) k = k ρ s := rfl
theorem go_rt {k : Rho → S → SRes S} : goOn (.ret v s) k = .ret v s := rfl
theorem go_exc {c : Nat} {fs : List PyData} {k : Rho → S → SRes S} : goOn (.exc c fs ρ s) k = .exc c fs ρ s := rfl
theorem ok_ite {p : Prop} [Decidable p] {a b : α} : (if p then (Res.ok a s : Res S α) else .ok b s) = .ok (if p then a else b) s := by by_cases h : p <;> simp only [h, if_true, if_false]
theorem l_some {d : PyData} : lift (some d) s = .ok (.d d) s := rfl
theorem lb_some {b : Bool} : liftB (some b) s = .ok b s := rfl
section
variable {Fa Fb Fc : Rho → S → Res S Val} {T1 T2 : Rho → S → Res S Bool} {A : Rho → S → Res S (List Val)} {N : Rho → S → Res S (List PyData)}
theorem x_var {i : Nat} : eVar i ρ st = match ρ[i]? with | some (some v) => .ok v st | _ => .stuck := rfl
theorem x_c {d : PyData} : eC d ρ st = .ok (.d d) st := rfl
theorem x_op {f : Val → Val → Option PyData} : eOp f Fa Fb ρ st = @bnd _ _ _ (Fa ρ st) fun x st1 => @bnd _ _ _ (Fb ρ st1) fun y st2 => lift (f x y) st2 := rfl
theorem x_un {f : Val → Option PyData} : eUn f Fa ρ st = @bnd _ _ _ (Fa ρ st) fun x st1 => lift (f x) st1 := rfl
theorem x_cmp {f : Val → Val → Option Bool} : eCmp f Fa Fb ρ st = @bnd _ _ _ (Fa ρ st) fun x st1 => @bnd _ _ _ (Fb ρ st1) fun y st2 => liftB (f x y) st2 := rfl
theorem x_B : eB T1 ρ st = @bnd _ _ _ (T1 ρ st) fun b st1 => .ok (.d (.bool b)) st1 := rfl
theorem x_tVal : tVal Fa ρ st = @bnd _ _ _ (Fa ρ st) fun x st1 => match x with
  | .d (.bool b) => .ok b st1
  | _ => .stuck := rfl
theorem x_tAnd : tAnd' T1 T2 ρ st = @bnd _ _ _ (T1 ρ st) fun x st1 => if x = true then T2 ρ st1 else .ok false st1 := rfl
theorem x_tOr : tOr' T1 T2 ρ st = @bnd _ _ _ (T1 ρ st) fun x st1 => if x = true then .ok true st1 else T2 ρ st1 := rfl
theorem x_tNot : tNot' T1 ρ st = @bnd _ _ _ (T1 ρ st) fun x st1 => .ok (!x) st1 := rfl
theorem x_if : eIf T1 Fa Fb ρ st = @bnd _ _ _ (T1 ρ st) fun x st1 => if x = true then Fa ρ st1 else Fb ρ st1 := rfl
theorem x_aNil : aNil ρ st = .ok [] st := rfl
theorem x_aCons : aCons Fa A ρ st = @bnd _ _ _ (Fa ρ st) fun x st1 => @bnd _ _ _ (A ρ st1) fun xs st2 => .ok (x :: xs) st2 := rfl
theorem x_tup : eTup A ρ st = @bnd _ _ _ (A ρ st) fun xs st1 => lift ((datas xs).bind fun ds => if ds.length ≤ 1000000 then some (.tuple ds) else none) st1 := rfl
theorem x_lst : eLst A ρ st = @bnd _ _ _ (A ρ st) fun xs st1 => lift ((datas xs).bind fun ds => if ds.length ≤ 1000000 then some (.list ds) else none) st1 := rfl
theorem x_and : eAnd' Fa Fb ρ st = @bnd _ _ _ (Fa ρ st) fun x st1 => match x with
  | .d (.bool c) => if c = true then Fb ρ st1 else .ok (.d (.bool false)) st1
  | _ => .stuck := rfl
theorem x_or : eOr' Fa Fb ρ st = @bnd _ _ _ (Fa ρ st) fun x st1 => match x with
  | .d (.bool c) => if c = true then .ok (.d (.bool true)) st1 else Fb ρ st1
  | _ => .stuck := rfl
def condB (o : Option Bool) (r : Res S Bool) (s : S) : Res S Bool := match o with
  | some true => r
  | some false => .ok false s
  | none => .stuck
theorem c_some {b : Bool} {r : Res S Bool} : condB (some b) r s = if b = true then r else .ok false s := by cases b <;> rfl
theorem x_chain {f g : Val → Val → Option Bool} : eChain f g Fa Fb Fc ρ st = @bnd _ _ _ (Fa ρ st) fun x st1 => @bnd _ _ _ (Fb ρ st1) fun y st2 => condB (f x y) (@bnd _ _ _ (Fc ρ st2) fun z st3 => liftB (g y z) st3) st2 := rfl
theorem x_call {f : List Val → Option PyData} : eCall f A ρ st = @bnd _ _ _ (A ρ st) fun xs st1 => lift (f xs) st1 := rfl
theorem x_tIs {f : Val → Option Bool} : tIs f Fa ρ st = @bnd _ _ _ (Fa ρ st) fun x st1 => liftB (f x) st1 := rfl
theorem x_app {F : List Val → S → Res S Val} {n : Nat} : eApp F n A ρ st = @bnd _ _ _ (A ρ st) fun xs st1 => if xs.all isDR = true ∧ xs.length = n then F xs st1 else .stuck := rfl
theorem x_sl {f : Val → Option Int → Option Int → Option PyData} {lo hi : Rho → S → Res S (Option Int)} : eSl f Fa lo hi ρ st = @bnd _ _ _ (Fa ρ st) fun x st1 => @bnd _ _ _ (lo ρ st1) fun l st2 => @bnd _ _ _ (hi ρ st2) fun h st3 => lift (f x l h) st3 := rfl
theorem x_oNone : oNone ρ st = .ok none st := rfl
theorem x_oSome : oSome Fa ρ st = @bnd _ _ _ (Fa ρ st) fun x st1 => match x with
  | .d (.int i) => .ok (some i) st1
  | _ => .stuck := rfl
theorem x_frz : eFrz N ρ st = @bnd _ _ _ (N ρ st) fun ds st1 => .ok (.d (.list ds)) st1 := rfl
theorem x_nLst : nLst A ρ st = @bnd _ _ _ (A ρ st) fun xs st1 => match datas xs with
  | some ds => if ds.length ≤ 1000000 then .ok ds st1 else .stuck
  | none => .stuck := rfl
theorem x_nList : nList Fa ρ st = @bnd _ _ _ (Fa ρ st) fun x st1 => match seqOf x with
  | some ds => .ok ds st1
  | none => .stuck := rfl
theorem x_nRep : nRep Fa Fb ρ st = @bnd _ _ _ (Fa ρ st) fun x st1 => @bnd _ _ _ (Fb ρ st1) fun y st2 => match lstOf x, y with
  | some ds, .d (.int k) => cif (-1000000 ≤ k ∧ k ≤ 1000000 ∧ ds.length * k.toNat ≤ 1000000) (.ok (List.replicate k.toNat ds).flatten st2) .stuck
  | _, _ => .stuck := rfl
theorem x_iSeq : iSeq Fa ρ st = @bnd _ _ _ (Fa ρ st) fun x st1 => match x with
  | .d (.list xs) => .ok xs st1
  | .d (.tuple xs) => .ok xs st1
  | _ => .stuck := rfl
theorem x_iRng : iRng Fa ρ st = @bnd _ _ _ (Fa ρ st) fun x st1 => match x with
  | .d (.int n) => cif (smallI n) (.ok (upto n) st1) .stuck
  | _ => .stuck := rfl
theorem x_iRng2 : iRng2 Fa Fb ρ st = @bnd _ _ _ (Fa ρ st) fun x st1 => @bnd _ _ _ (Fb ρ st1) fun y st2 => match x, y with
  | .d (.int i), .d (.int j) => cif (smallI i ∧ smallI j) (.ok (fromTo i j) st2) .stuck
  | _, _ => .stuck := rfl
theorem x_iEnm : iEnm Fa ρ st = @bnd _ _ _ (Fa ρ st) fun x st1 => match x with
  | .d (.list xs) => .ok (enumD xs) st1
  | .d (.tuple xs) => .ok (enumD xs) st1
  | _ => .stuck := rfl
theorem x_iZp : iZp Fa Fb ρ st = @bnd _ _ _ (Fa ρ st) fun x st1 => @bnd _ _ _ (Fb ρ st1) fun y st2 => match dSeq x, dSeq y with
  | some xs, some ys => .ok (zipD xs ys) st2
  | _, _ => .stuck := rfl
theorem x_comp {vs : List Nat} {tg : Tg} : nComp N vs tg T1 Fa ρ st = @bnd _ _ _ (N ρ st) fun ds st1 => compL tg T1 Fa (wipeR ρ vs) ds [] st1 := rfl
theorem x_yes : tYes' ρ st = .ok true st := rfl
theorem x_lenS {Fa : Rho → DS → Res DS Val} {st : DS} : eLenS Fa ρ st = @bnd _ _ _ (Fa ρ st) fun x st1 => match x with
  | .ref 1 => .ok (.d (.int st1.ns.length)) st1
  | _ => .stuck := rfl
end
theorem w_nil : wipeR ρ [] = ρ := rfl
theorem w_cons {i : Nat} {is : List Nat} : wipeR ρ (i :: is) = (wipeR ρ is).set i none := rfl
theorem t_name {i : Nat} {d : PyData} : setT (.name i) d ρ = some (ρ.set i (some (.d d))) := rfl
theorem t_tup {is : List Nat} {ds : List PyData} : setT (.tup is) (.tuple ds) ρ = if ds.length = is.length then some (setAll ρ is ds) else none := rfl
theorem t_all {i : Nat} {is : List Nat} {d : PyData} {ds : List PyData} : setAll ρ (i :: is) (d :: ds) = setAll (ρ.set i (some (.d d))) is ds := rfl
theorem t_nil {ds : List PyData} : setAll ρ [] ds = ρ := by cases ds <;> rfl
theorem bg {n : Nat} {vs : List Val} : begin' n vs = vs.map some ++ List.replicate (n - vs.length) none := rfl
/-- a def's mirror: what it ends with -/
theorem w_fn {n : Nat} {B : Rho → S → SRes S} {vs : List Val} {Q : Val → S → Prop} : @Wp _ _ (fnF n B vs st) X Q = @Ws _ (B (begin' n vs) st) ⟨fun _ s => Q (.d .none) s, Q, fun c fs _ s => X c fs s, fun _ _ => False, fun _ _ => False⟩ := propext wp_fn
/-- from what holds behind a part to the part itself -/
theorem ok_of {r : Res S α} (h : @Wp _ _ r (fun _ _ _ => False) fun v s => v = a ∧ s = st) : r = .ok a st := by
  cases r with
  | ok v s => obtain ⟨rfl, rfl⟩ := h; rfl
  | exc c fs s => exact h.elim
  | stuck => exact h.elim
theorem exc_of_wp {r : Res S α} {c : Nat} {fs : List PyData} (h : @Wp _ _ r (fun c' fs' s => c' = c ∧ fs' = fs ∧ s = st) fun _ _ => False) : r = .exc c fs st := by
  cases r with
  | ok v s => exact h.elim
  | exc c fs s => obtain ⟨rfl, rfl, rfl⟩ := h; rfl
  | stuck => exact h.elim
end
section
variable {α β : Type} (a b : α) (l m : List α) (f : α → β)
theorem r_map_cons : (a :: l).map f = f a :: l.map f := rfl
theorem r_map_nil : ([] : List α).map f = [] := rfl
theorem r_rep_succ (n : Nat) : List.replicate (n + 1) a = a :: List.replicate n a := rfl
theorem r_rep_zero : List.replicate 0 a = [] := rfl
theorem r_len_cons : (a :: l).length = l.length + 1 := rfl
theorem r_len_nil : ([] : List α).length = 0 := rfl
theorem r_len_map : (l.map f).length = l.length := List.length_map ..
theorem r_app_cons : (a :: l) ++ m = a :: (l ++ m) := rfl
theorem r_app_nil : [] ++ m = m := rfl
theorem r_nil_app : m ++ [] = m := List.append_nil m
theorem r_set_zero : (a :: l).set 0 b = b :: l := rfl
theorem r_set_succ (n : Nat) : (a :: l).set (n + 1) b = a :: l.set n b := rfl
theorem r_get_zero : (a :: l)[0]? = some a := rfl
theorem r_get_succ (n : Nat) : (a :: l)[n + 1]? = l[n]? := by simp
theorem r_omap (x : α) : (some x).map f = some (f x) := rfl
theorem r_obind (x : α) (g : α → Option β) : (some x).bind g = g x := rfl
theorem r_all_cons (p : α → Bool) : (a :: l).all p = (p a && l.all p) := rfl
theorem r_all_nil (p : α → Bool) : ([] : List α).all p = true := rfl
theorem r_and_t (x : Bool) : (x && true) = x := by cases x <;> rfl
theorem r_t_and (x : Bool) : (true && x) = x := rfl
theorem r_and_f (x : Bool) : (x && false) = false := by cases x <;> rfl
theorem r_f_and (x : Bool) : (false && x) = false := rfl
theorem r_or_t (x : Bool) : (x || true) = true := by cases x <;> rfl
theorem r_t_or (x : Bool) : (true || x) = true := rfl
theorem r_or_f (x : Bool) : (x || false) = x := by cases x <;> rfl
theorem r_f_or (x : Bool) : (false || x) = x := rfl
theorem r_not_t : (!true) = false := rfl
theorem r_not_f : (!false) = true := rfl
theorem r_not_not (x : Bool) : (!!x) = x := by cases x <;> rfl
theorem r_and_true (p : Prop) : (p ∧ True) = p := by simp
theorem r_true_and (p : Prop) : (True ∧ p) = p := by simp
theorem r_and_false (p : Prop) : (p ∧ False) = False := by simp
theorem r_false_and (p : Prop) : (False ∧ p) = False := by simp
theorem r_or_true (p : Prop) : (p ∨ True) = True := by simp
theorem r_true_or (p : Prop) : (True ∨ p) = True := by simp
theorem r_or_false (p : Prop) : (p ∨ False) = p := by simp
theorem r_false_or (p : Prop) : (False ∨ p) = p := by simp
theorem r_not_true : (¬ True) = False := by simp
theorem r_not_false : (¬ False) = True := by simp
theorem r_ft : (false = true) = False := by simp
theorem r_tt : (true = true) = True := by simp
theorem r_dt : decide True = true := by simp
theorem r_df : decide False = false := by simp
theorem r_de (p : Prop) [Decidable p] : (decide p = true) = p := by simp
theorem r_dn (p : Prop) [Decidable p] : (decide p = false) = ¬ p := by simp
theorem r_ne (x : Bool) : ((!x) = true) = ¬ (x = true) := by simp
theorem r_oe (x y : Bool) : ((x || y) = true) = (x = true ∨ y = true) := by simp
theorem r_ae (x y : Bool) : ((x && y) = true) = (x = true ∧ y = true) := by simp
theorem r_ite_t (x y : α) : (if True then x else y) = x := by simp
theorem r_ite_f (x y : α) : (if False then x else y) = y := by simp
theorem r_ite_tb (p : Prop) [Decidable p] (x : Bool) : (if p then true else x) = (decide p || x) := by by_cases h : p <;> simp [h]
theorem r_ite_bf (p : Prop) [Decidable p] (x : Bool) : (if p then x else false) = (decide p && x) := by by_cases h : p <;> simp [h]
theorem r_db (x : Bool) : decide (x = true) = x := by cases x <;> rfl
theorem r_self (x : α) : (x = x) = True := by simp
theorem r_ite_d (p : Prop) [Decidable p] (x y : PyData) : (if p then Val.d x else .d y) = .d (if p then x else y) := by by_cases h : p <;> simp [h]
theorem r_ite_b (p : Prop) [Decidable p] (x y : Bool) : (if p then PyData.bool x else .bool y) = .bool (if p then x else y) := by by_cases h : p <;> simp [h]
theorem r_ite_i (p : Prop) [Decidable p] (x y : Int) : (if p then PyData.int x else .int y) = .int (if p then x else y) := by by_cases h : p <;> simp [h]
theorem r_ite_s (p : Prop) [Decidable p] (x y : α) : (if p then some x else some y) = some (if p then x else y) := by by_cases h : p <;> simp [h]
end
section
variable (i j : Int) (xs ys : List PyData) (x y : PyData) (b c : Bool) (z z' : Str) (n : Nat)
theorem q_isd : isDR (.d x) = true := rfl
theorem q_isr : isDR (.ref n) = true := rfl
theorem q_add : vAdd (.d (.int i)) (.d (.int j)) = some (.int (i + j)) := rfl
theorem q_addt : vAdd (.d (.tuple xs)) (.d (.tuple ys)) = if xs.length + ys.length ≤ 1000000 then some (.tuple (xs ++ ys)) else none := rfl
theorem q_sub : vSub (.d (.int i)) (.d (.int j)) = some (.int (i - j)) := rfl
theorem q_neg : vNeg (.d (.int i)) = some (.int (-i)) := rfl
theorem q_lt : vLt (.d (.int i)) (.d (.int j)) = some (decide (i < j)) := rfl
theorem q_le : vLe (.d (.int i)) (.d (.int j)) = some (decide (i ≤ j)) := rfl
theorem q_gt : vGt (.d (.int i)) (.d (.int j)) = some (decide (j < i)) := rfl
theorem q_ge : vGe (.d (.int i)) (.d (.int j)) = some (decide (j ≤ i)) := rfl
theorem q_not : vNot (.d (.bool b)) = some (.bool (!b)) := rfl
theorem q_ixt : vIx (.d (.tuple xs)) (.d (.int i)) = atI xs i := rfl
theorem q_ixl : vIx (.d (.list xs)) (.d (.int i)) = atI xs i := rfl
theorem q_ixo : vIx (.own xs) (.d (.int i)) = atI xs i := rfl
theorem q_lent : bLen [.d (.tuple xs)] = some (.int xs.length) := rfl
theorem q_lenl : bLen [.d (.list xs)] = some (.int xs.length) := rfl
theorem q_leno : bLen [.own xs] = some (.int xs.length) := rfl
theorem q_int : bInt [.d (.int i)] = some (.int i) := rfl
theorem q_min : bMin [.d (.int i), .d (.int j)] = some (.int (if j < i then j else i)) := rfl
theorem q_max : bMax [.d (.int i), .d (.int j)] = some (.int (if j > i then j else i)) := rfl
theorem q_abs : bAbs [.d (.int i)] = some (.int (if i < 0 then -i else i)) := rfl
theorem q_tupl : bTuple [.d (.list xs)] = some (.tuple xs) := rfl
theorem q_tupt : bTuple [.d (.tuple xs)] = some (.tuple xs) := rfl
theorem q_tupo : bTuple [.own xs] = some (.tuple xs) := rfl
theorem q_listt : bList [.d (.tuple xs)] = some (.list xs) := rfl
theorem q_listl : bList [.d (.list xs)] = some (.list xs) := rfl
theorem q_listo : bList [.own xs] = some (.list xs) := rfl
theorem q_sum (ns : List Int) : bSum [.d (.list (ns.map PyData.int))] = some (.int ns.sum) := bSum_l ns
theorem q_all (bs : List Bool) : bAll [.d (.list (bs.map PyData.bool))] = some (.bool (bs.all id)) := by
  show ((allBools (bs.map PyData.bool)).map fun bs => PyData.bool (bs.all id)) = _
  rw [allBools_map]; rfl
theorem q_any (bs : List Bool) : bAny [.d (.list (bs.map PyData.bool))] = some (.bool (bs.any id)) := by
  show ((allBools (bs.map PyData.bool)).map fun bs => PyData.bool (bs.any id)) = _
  rw [allBools_map]; rfl
theorem q_sllt (lo hi : Option Int) : vSl (.d (.tuple xs)) lo hi = some (.tuple (cutD xs lo hi)) := rfl
theorem q_slll (lo hi : Option Int) : vSl (.d (.list xs)) lo hi = some (.list (cutD xs lo hi)) := rfl
theorem q_sllo (lo hi : Option Int) : vSl (.own xs) lo hi = some (.list (cutD xs lo hi)) := rfl
theorem q_isi (t : Ty) : isTy t (.d x) = some (.bool (isTyB t x)) := by cases t <;> cases x <;> rfl
section
variable (kvs : List (PyData × PyData))
theorem ty_int_none : isTyB .int .none = false := rfl
theorem ty_int_bool : isTyB .int (.bool b) = true := rfl
theorem ty_int_int : isTyB .int (.int i) = true := rfl
theorem ty_int_str : isTyB .int (.str z) = false := rfl
theorem ty_int_list : isTyB .int (.list xs) = false := rfl
theorem ty_int_tuple : isTyB .int (.tuple xs) = false := rfl
theorem ty_int_dict : isTyB .int (.dict kvs) = false := rfl
theorem ty_bool_none : isTyB .bool .none = false := rfl
theorem ty_bool_bool : isTyB .bool (.bool b) = true := rfl
theorem ty_bool_int : isTyB .bool (.int i) = false := rfl
theorem ty_bool_str : isTyB .bool (.str z) = false := rfl
theorem ty_bool_list : isTyB .bool (.list xs) = false := rfl
theorem ty_bool_tuple : isTyB .bool (.tuple xs) = false := rfl
theorem ty_bool_dict : isTyB .bool (.dict kvs) = false := rfl
theorem ty_tuple_none : isTyB .tuple .none = false := rfl
theorem ty_tuple_bool : isTyB .tuple (.bool b) = false := rfl
theorem ty_tuple_int : isTyB .tuple (.int i) = false := rfl
theorem ty_tuple_str : isTyB .tuple (.str z) = false := rfl
theorem ty_tuple_list : isTyB .tuple (.list xs) = false := rfl
theorem ty_tuple_tuple : isTyB .tuple (.tuple xs) = true := rfl
theorem ty_tuple_dict : isTyB .tuple (.dict kvs) = false := rfl
theorem ty_str_none : isTyB .str .none = false := rfl
theorem ty_str_bool : isTyB .str (.bool b) = false := rfl
theorem ty_str_int : isTyB .str (.int i) = false := rfl
theorem ty_str_str : isTyB .str (.str z) = true := rfl
theorem ty_str_list : isTyB .str (.list xs) = false := rfl
theorem ty_str_tuple : isTyB .str (.tuple xs) = false := rfl
theorem ty_str_dict : isTyB .str (.dict kvs) = false := rfl
end
theorem q_nn : vIsN (.d .none) = some true := rfl
theorem q_ni : vIsN (.d (.int i)) = some false := rfl
theorem q_nb : vIsN (.d (.bool b)) = some false := rfl
theorem q_ns : vIsN (.d (.str z)) = some false := rfl
theorem q_nt : vIsN (.d (.tuple xs)) = some false := rfl
theorem q_nl : vIsN (.d (.list xs)) = some false := rfl
theorem q_nN (v : Val) : vIsNot v = (vIsN v).map (!·) := rfl
theorem q_d0 : datas [] = some [] := rfl
theorem q_d1 (vs : List Val) : datas (.d x :: vs) = (datas vs).map (x :: ·) := rfl
theorem q_seql : seqOf (.d (.list xs)) = some xs := rfl
theorem q_seqt : seqOf (.d (.tuple xs)) = some xs := rfl
theorem q_seqo : seqOf (.own xs) = some xs := rfl
theorem q_lstl : lstOf (.d (.list xs)) = some xs := rfl
theorem q_lsto : lstOf (.own xs) = some xs := rfl
theorem q_dsl : dSeq (.d (.list xs)) = some xs := rfl
theorem q_dst : dSeq (.d (.tuple xs)) = some xs := rfl
theorem q_eqi : vEq (.d (.int i)) (.d (.int j)) = some (decide (i = j)) := by
  unfold vEq vEqD
  by_cases h : i = j <;> simp [datOf, okD, SeqAt.shaped, PyData.eqv, PyData.canLay0, PyData.depth, h]
theorem q_eqs : vEq (.d (.str z)) (.d (.str z')) = some (decide (z = z')) := rfl
theorem q_ne (u v : Val) : vNe u v = (vEq u v).map (!·) := rfl
theorem q_mul (h : i.natAbs.log2 + j.natAbs.log2 < 1000000) : vMul (.d (.int i)) (.d (.int j)) = some (.int (i * j)) := cif_pos h
theorem q_pow (h : 0 ≤ j ∧ j ≤ 1000000 ∧ i.natAbs < 2 ^ 64) : vPow (.d (.int i)) (.d (.int j)) = some (.int (i ^ j.toNat)) := cif_pos h
end
end Dl
set_option maxRecDepth 100000
set_option maxHeartbeats 4000000
namespace Dl
open PySem L2
section
variable {S : Type}
/-- a op b op' c op'' d -/
def eChain3 (f g h : Val → Val → Option Bool) (a b c d : Rho → S → Res S Val) : Rho → S → Res S Bool := fun ρ st => (a ρ st).bind fun x st1 => (b ρ st1).bind fun y st2 => match f x y with
  | some true => (c ρ st2).bind fun z st3 => match g y z with
    | some true => (d ρ st3).bind fun u st4 => liftB (h z u) st4
    | some false => .ok false st3
    | none => .stuck
  | some false => .ok false st2
  | none => .stuck
theorem x_chain3 {f g h : Val → Val → Option Bool} {a b c d : Rho → S → Res S Val} {ρ : Rho} {st : S} : eChain3 f g h a b c d ρ st = @bnd _ _ _ (a ρ st) fun x st1 => @bnd _ _ _ (b ρ st1) fun y st2 => condB (f x y) (@bnd _ _ _ (c ρ st2) fun z st3 => condB (g y z) (@bnd _ _ _ (d ρ st3) fun u st4 => liftB (h z u) st4) st3) st2 := rfl
end
section
variable {U : Uni} {X : Cx} {W : WX} {pos : Pos}
end
end Dl
set_option maxRecDepth 100000
set_option maxHeartbeats 4000000
namespace Dl
open PySem L2 PySem.Spec PyProof.Rows
def dLook (kvs : List (Str × Int)) (z : Str) : Option Int := (kvs.find? fun p => decide (p.1 = z)).map (·.2)
section
variable {S : Type}
def eDGet (kvs : List (Str × Int)) (d : Int) (F : Rho → S → Res S Val) : Rho → S → Res S Val := fun ρ st => (F ρ st).bind fun x st1 => match x with
  | .d (.str z) => .ok (.d (.int ((dLook kvs z).getD d))) st1
  | _ => .stuck
def eDIx (kvs : List (Str × Int)) (F : Rho → S → Res S Val) : Rho → S → Res S Val := fun ρ st => (F ρ st).bind fun x st1 => match x with
  | .d (.str z) => (match dLook kvs z with
    | some i => .ok (.d (.int i)) st1
    | none => .stuck)
  | _ => .stuck
theorem x_dget {kvs : List (Str × Int)} {d : Int} {F : Rho → S → Res S Val} {ρ : Rho} {st : S} : eDGet kvs d F ρ st = @bnd _ _ _ (F ρ st) fun x st1 => match x with
  | .d (.str z) => .ok (.d (.int ((dLook kvs z).getD d))) st1
  | _ => .stuck := rfl
theorem x_dix {kvs : List (Str × Int)} {F : Rho → S → Res S Val} {ρ : Rho} {st : S} : eDIx kvs F ρ st = @bnd _ _ _ (F ρ st) fun x st1 => match x with
  | .d (.str z) => (match dLook kvs z with
    | some i => .ok (.d (.int i)) st1
    | none => .stuck)
  | _ => .stuck := rfl
end
def cps (kvs : List (Str × Int)) : List (TE × TE) := kvs.map fun p => (tC (.str p.1), tC (.int p.2))
section
variable {U : Uni} {X : Cx} {W : WX} {e f : Expr} {F : Rho → U.S → Res U.S Val} {keys : List (Option Expr)} {values : List Expr} {pos apos cpos : Pos} {kvs : List (Str × Int)} {d : Int}
end
section
variable {X : Cx} {a b c d : Expr} {ta tb tc td : TE} {pos : Pos}
end
section
variable {U : Uni} {X : Cx} {W : WX} {a b c d : Expr} {Fa Fb Fc Fd : Rho → U.S → Res U.S Val} {pos : Pos}
end
end Dl
set_option maxRecDepth 100000
set_option maxHeartbeats 4000000
namespace Dl
open PySem L2 PySem.Spec PyProof.Rows
section
variable {S : Type}
def nCat (a b : Rho → S → Res S Val) : Rho → S → Res S (List PyData) := fun ρ st => (a ρ st).bind fun x st1 => (b ρ st1).bind fun y st2 => match lstOf x, lstOf y with
  | some ds, some es => if ds.length + es.length ≤ 1000000 then .ok (ds ++ es) st2 else .stuck
  | _, _ => .stuck
theorem x_nCat {a b : Rho → S → Res S Val} {ρ : Rho} {st : S} : nCat a b ρ st = @bnd _ _ _ (a ρ st) fun x st1 => @bnd _ _ _ (b ρ st1) fun y st2 => match lstOf x, lstOf y with
  | some ds, some es => if ds.length + es.length ≤ 1000000 then .ok (ds ++ es) st2 else .stuck
  | _, _ => .stuck := rfl
end
section
variable {U : Uni} {X : Cx} {W : WX} {a b : Expr} {Fa Fb : Rho → U.S → Res U.S Val} {pos : Pos}
end
section
variable {S : Type}
def sParNV (i j : Nat) (N : Rho → S → Res S (List PyData)) (F : Rho → S → Res S Val) : Rho → S → SRes S := fun ρ st => sBind (N ρ st) ρ fun ds st1 => sBind (F ρ st1) ρ fun v st2 => if isDR v = true then .next ((ρ.set i (some (.own ds))).set j (some v)) st2 else .stuck
def sParVN (i j : Nat) (F : Rho → S → Res S Val) (N : Rho → S → Res S (List PyData)) : Rho → S → SRes S := fun ρ st => sBind (F ρ st) ρ fun v st1 => sBind (N ρ st1) ρ fun ds st2 => if isDR v = true then .next ((ρ.set i (some v)).set j (some (.own ds))) st2 else .stuck
def sParNN (i j : Nat) (N N2 : Rho → S → Res S (List PyData)) : Rho → S → SRes S := fun ρ st => sBind (N ρ st) ρ fun ds st1 => sBind (N2 ρ st1) ρ fun es st2 => .next ((ρ.set i (some (.own ds))).set j (some (.own es))) st2
variable {E : En S} {ρ : Rho} {st : S} {i j : Nat} {N N2 : Rho → S → Res S (List PyData)} {F : Rho → S → Res S Val}
theorem w_parNV : @Ws _ (sParNV i j N F ρ st) E = @Wp _ _ (N ρ st) (fun c fs s => E.x c fs ρ s) fun ds st1 => @Wp _ _ (F ρ st1) (fun c fs s => E.x c fs ρ s) fun v st2 => isDR v = true ∧ E.n ((ρ.set i (some (.own ds))).set j (some v)) st2 := by
  unfold sParNV
  rw [show (@Ws _ (sBind (N ρ st) ρ _) E) = _ from propext ws_bind]
  congr 1
  funext ds st1
  rw [show (@Ws _ (sBind (F ρ st1) ρ _) E) = _ from propext ws_bind]
  congr 1
  funext v st2
  by_cases h : isDR v = true
  · rw [if_pos h, h]; simp [Ws]
  · rw [if_neg h]; simp [Ws, h]
theorem w_parVN : @Ws _ (sParVN i j F N ρ st) E = @Wp _ _ (F ρ st) (fun c fs s => E.x c fs ρ s) fun v st1 => @Wp _ _ (N ρ st1) (fun c fs s => E.x c fs ρ s) fun ds st2 => isDR v = true ∧ E.n ((ρ.set i (some v)).set j (some (.own ds))) st2 := by
  unfold sParVN
  rw [show (@Ws _ (sBind (F ρ st) ρ _) E) = _ from propext ws_bind]
  congr 1
  funext v st1
  rw [show (@Ws _ (sBind (N ρ st1) ρ _) E) = _ from propext ws_bind]
  congr 1
  funext ds st2
  by_cases h : isDR v = true
  · rw [if_pos h, h]; simp [Ws]
  · rw [if_neg h]; simp [Ws, h]
theorem w_parNN : @Ws _ (sParNN i j N N2 ρ st) E = @Wp _ _ (N ρ st) (fun c fs s => E.x c fs ρ s) fun ds st1 => @Wp _ _ (N2 ρ st1) (fun c fs s => E.x c fs ρ s) fun es st2 => E.n ((ρ.set i (some (.own ds))).set j (some (.own es))) st2 := by
  unfold sParNN
  rw [show (@Ws _ (sBind (N ρ st) ρ _) E) = _ from propext ws_bind]
  congr 1
  funext ds st1
  exact propext ws_bind
end
section
variable {U : Uni} {X : Cx} {W : WX} {i j : Nat} {x y : Str} {a b : Expr} {px py pt pos : Pos} {kt : Nat} {k2 : Nat} {pt2 : Pos} {N N2 : Rho → U.S → Res U.S (List PyData)} {F : Rho → U.S → Res U.S Val}
end
section
variable {S : Type}
def sFrzS (i : Nat) (F : Rho → S → SRes S) : Rho → S → SRes S := fun ρ st => match ρ[i]? with
  | some (some (.own ds)) => F (ρ.set i (some (.d (.list ds)))) st
  | _ => .stuck
theorem w_frzS {i : Nat} {F : Rho → S → SRes S} {ρ : Rho} {st : S} {E : En S} : @Ws _ (sFrzS i F ρ st) E = @Ws _ (match ρ[i]? with
  | some (some (.own ds)) => F (ρ.set i (some (.d (.list ds)))) st
  | _ => .stuck) E := rfl
end
section
variable {U : Uni} {X : Cx} {W : WX} {s : Stmt} {F : Rho → U.S → SRes U.S}
theorem Fit.freeze {K : PySem.W.Frag} {Z : Base} {σ : L2.St} {ρ : Rho} {st : U.S} {I : Hp} {M : Mw} {H : Hp} (f : Fit U K Z σ ρ st I M H) {i : Nat} {ds : List PyData} (e : ρ[i]? = some (some (.own ds))) : ∃ I', Same I I' ∧ Fit U K Z σ (ρ.set i (some (.d (.list ds)))) st I' M H := by
  obtain ⟨q, vs, e', hp, hi, hm, r⟩ := f.own e
  obtain ⟨g', k', hs⟩ := freeze_ok f.g f.ok (f.new i ds q e e') hp hi hm
  refine ⟨_, hs, ⟨g', k', f.rs, by rw [List.length_set]; exact f.len, fun j v ej => ?_, fun j es p e1 e2 => ?_, fun j l es fs p e1 e2 e3 e4 => ?_, fun j t ks es p e1 e2 => ?_, fun j l t ks es t' ks' fs p e1 e2 e3 e4 => ?_⟩⟩
  · by_cases hj : j = i
    · subst hj
      have hlt : j < ρ.length := (List.getElem?_eq_some_iff.mp e).1
      rw [List.getElem?_set_self hlt] at ej
      cases ej
      exact ⟨_, e', Rp.lst upd_same (r.mono hs)⟩
    · rw [List.getElem?_set_ne (Ne.symm hj)] at ej
      obtain ⟨x, h1, h2⟩ := f.env j v ej
      refine ⟨x, h1, ?_⟩
      match v, h2, ej with
      | .d d, h2, _ => exact Rp.mono hs h2
      | .ref n, h2, _ => exact h2
      | .exc c fs, h2, _ => exact h2
      | .own es, h2, ej =>
        obtain ⟨p, us, hx, a1, a2, a3, a4⟩ := h2
        refine ⟨p, us, hx, a1, ?_, a3, a4.mono hs⟩
        rw [upd_ne (fun z => hj (f.sep j i es ds p ej e (by rw [h1, hx]) (by rw [z]; exact e')))]
        exact a2
      | .ownd t ks es, h2, ej =>
        obtain ⟨p, us, hx, a1, a2, a3, a4, a5⟩ := h2
        refine ⟨p, us, hx, a1, ?_, a3, a4, a5.mono hs⟩
        rw [upd_ne (fun z => by subst z; rw [hp] at a1; exact dHO_lst a1.symm)]
        exact a2
  · by_cases hj : j = i
    · subst hj
      have hlt : j < ρ.length := (List.getElem?_eq_some_iff.mp e).1
      rw [List.getElem?_set_self hlt] at e1
      cases e1
    · rw [List.getElem?_set_ne (Ne.symm hj)] at e1
      exact f.new j es p e1 e2
  · have hn : ∀ (j : Nat) es, (ρ.set i (some (.d (.list ds))))[j]? = some (some (.own es)) → ρ[j]? = some (some (.own es)) := fun j es e1 => by
      by_cases hj : j = i
      · subst hj
        have hlt : j < ρ.length := (List.getElem?_eq_some_iff.mp e).1
        rw [List.getElem?_set_self hlt] at e1
        cases e1
      · rw [List.getElem?_set_ne (Ne.symm hj)] at e1
        exact e1
    exact f.sep j l es fs p (hn j es e1) (hn l fs e2) e3 e4
  · by_cases hj : j = i
    · subst hj
      have hlt : j < ρ.length := (List.getElem?_eq_some_iff.mp e).1
      rw [List.getElem?_set_self hlt] at e1
      cases e1
    · rw [List.getElem?_set_ne (Ne.symm hj)] at e1
      exact f.newd j t ks es p e1 e2
  · have hn : ∀ (j : Nat) t ks es, (ρ.set i (some (.d (.list ds))))[j]? = some (some (.ownd t ks es)) → ρ[j]? = some (some (.ownd t ks es)) := fun j t ks es e1 => by
      by_cases hj : j = i
      · subst hj
        have hlt : j < ρ.length := (List.getElem?_eq_some_iff.mp e).1
        rw [List.getElem?_set_self hlt] at e1
        cases e1
      · rw [List.getElem?_set_ne (Ne.symm hj)] at e1
        exact e1
    exact f.sepd j l t ks es t' ks' fs p (hn j t ks es e1) (hn l t' ks' fs e2) e3 e4
theorem psd_frzS {i : Nat} (h : PSd U X W s F) : PSd U X W s (sFrzS i F) := by
  refine ps_imp h fun D σ H ⟨Z, ρ, st, I, M, ft, ps⟩ => ?_
  unfold sFrzS at ps
  split at ps
  · rename_i ds e
    obtain ⟨I', hs, ft'⟩ := ft.freeze e
    exact ⟨Z, _, st, I', M, ft', SPost.shift hs ps⟩
  · exact False.elim ps
end
theorem room65 {k : Nat} {A : Around} (h : Room k A) : A.units + 65 < cLine := by
  have := room70 h
  omega
section
variable {K : PySem.W.Frag}
end
end Dl
set_option maxRecDepth 100000
set_option maxHeartbeats 4000000
namespace Dl
open PySem L2 PySem.Spec PyProof.Rows
def downTo (n : Int) : List PyData := (List.range n.toNat).map fun k => .int (n - 1 - (k : Nat))
section
variable {S : Type}
noncomputable def iRevN (a : Rho → S → Res S Val) : Rho → S → Res S (List PyData) := fun ρ st => (a ρ st).bind fun x st1 => match x with
  | .d (.int n) => cif (smallI n ∧ 0 ≤ n) (.ok (downTo n) st1) .stuck
  | _ => .stuck
theorem x_iRevN {a : Rho → S → Res S Val} {ρ : Rho} {st : S} : iRevN a ρ st = @bnd _ _ _ (a ρ st) fun x st1 => match x with
  | .d (.int n) => cif (smallI n ∧ 0 ≤ n) (.ok (downTo n) st1) .stuck
  | _ => .stuck := rfl
end
section
variable {U : Uni} {X : Cx} {W : WX} {tg a : Expr} {Fa : Rho → U.S → Res U.S Val} {p p2 pos pos2 : Pos}
end
end Dl
set_option maxRecDepth 100000
set_option maxHeartbeats 4000000
namespace Dl
open PySem L2 PySem.Spec PyProof.Rows
section
variable {prog : Program} {w : World} {A : Around} {R : Result → Shared → Prop} {s : Shared} {y a p b q : Expr} {u v : List Expr} {sc : Scope} {ps : Pos} {it acc : Value} {e : Env}
end
section
variable {X : Cx}
variable {pins : List (Addr × Obj)} {s : Shared} {σ : L2.St} {H : Hp} {Q : VK} {y a p b q : Expr} {u v : List Expr} {sc : Scope} {own : List (Str × Nat)} {us : List Nat} {ps ps' : Pos} {wi wj : TI} {g g' : TG} {tt tt' : TT} {te : TE} {use : Option (Value → Sem Unit)} {F : Value → Shared → Prop}
end
end Dl
set_option maxRecDepth 100000
set_option maxHeartbeats 4000000
namespace Dl
open PySem L2 PySem.Spec PyProof.Rows
/-- into an ascending list, once -/
def insS (c : Int) : List Int → List Int
  | [] => [c]
  | x :: r => if c < x then c :: x :: r else if c = x then x :: r else x :: insS c r
section
variable {S α β γ : Type}
/-- what must end well -/
def must (r : Res S α) (f : α → S → Res S β) : Res S β := match r with
  | .ok a st => f a st
  | _ => .stuck
def inL (tg : Tg) (T : Rho → S → Res S Bool) (E : Rho → S → Res S Val) (ρ : Rho) : List PyData → List Int → S → Res S (List Int)
  | [], acc, st => .ok acc st
  | d :: r, acc, st => match setT tg d ρ with
    | none => .stuck
    | some ρ1 => must (T ρ1 st) fun b st1 => if b = true then must (E ρ1 st1) fun v st2 => match v with
        | .d (.int c) => if acc.length < 64 then inL tg T E ρ r (insS c acc) st2 else .stuck
        | _ => .stuck
      else inL tg T E ρ r acc st1
def outL (tg : Tg) (T : Rho → S → Res S Bool) (G : Rho → S → Res S (List PyData)) (us : List Nat) (tg' : Tg) (T' : Rho → S → Res S Bool) (E : Rho → S → Res S Val) (ρ : Rho) : List PyData → List Int → S → Res S (List Int)
  | [], acc, st => .ok acc st
  | d :: r, acc, st => match setT tg d ρ with
    | none => .stuck
    | some ρ1 => must (T ρ1 st) fun b st1 => if b = true then must (G ρ1 st1) fun es st2 => must (inL tg' T' E (wipeR ρ1 us) es acc st2) fun acc' st3 => outL tg T G us tg' T' E ρ r acc' st3
      else outL tg T G us tg' T' E ρ r acc st1
def endL (acc : List Int) (st : S) : Res S (List PyData) := if acc.length < 64 then .ok (acc.map .int) st else .stuck
def nSortS (F : Rho → S → Res S (List PyData)) (vs : List Nat) (tg : Tg) (T : Rho → S → Res S Bool) (G : Rho → S → Res S (List PyData)) (us : List Nat) (tg' : Tg) (T' : Rho → S → Res S Bool) (E : Rho → S → Res S Val) : Rho → S → Res S (List PyData) :=
  fun ρ st => (F ρ st).bind fun ds st1 => must (outL tg T G us tg' T' E (wipeR ρ vs) ds [] st1) endL
theorem x_nSortS {F : Rho → S → Res S (List PyData)} {vs : List Nat} {tg : Tg} {T : Rho → S → Res S Bool} {G : Rho → S → Res S (List PyData)} {us : List Nat} {tg' : Tg} {T' : Rho → S → Res S Bool} {E : Rho → S → Res S Val} {ρ : Rho} {st : S} :
    nSortS F vs tg T G us tg' T' E ρ st = @bnd _ _ _ (F ρ st) fun ds st1 => must (outL tg T G us tg' T' E (wipeR ρ vs) ds [] st1) endL := rfl
end
section
variable {U : Uni} {K : PySem.W.Frag} {W : WX}
variable {w : World} {tg tg' : Tg} {vs us : List Nat} {F G : Rho → U.S → Res U.S (List PyData)} {T T' : Rho → U.S → Res U.S Bool} {E : Rho → U.S → Res U.S Val} {σ : L2.St} {H : Hp} {Q : VK}
end
section
variable {U : Uni} {X : Cx} {W : WX} {y a p b q : Expr} {u v : List Expr} {sc : Scope} {own : List (Str × Nat)} {us : List Nat} {ps nps pos : Pos} {tg tg' : Tg} {F G : Rho → U.S → Res U.S (List PyData)} {T T' : Rho → U.S → Res U.S Bool} {E : Rho → U.S → Res U.S Val}
end
end Dl
set_option maxRecDepth 100000
set_option maxHeartbeats 4000000
namespace Dl
open PySem L2 PySem.Spec PyProof.Rows
section
variable {S : Type}
def sPar3 (i j l : Nat) (A : Rho → S → Res S (List Val)) : Rho → S → SRes S := fun ρ st => sBind (A ρ st) ρ fun vs st1 => match vs with
  | [u, v, w] => if isDR u = true ∧ isDR v = true ∧ isDR w = true then .next (((ρ.set i (some u)).set j (some v)).set l (some w)) st1 else .stuck
  | _ => .stuck
variable {E : En S} {ρ : Rho} {st : S}
theorem w_par3 {i j l : Nat} {A : Rho → S → Res S (List Val)} : @Ws _ (sPar3 i j l A ρ st) E = @Wp _ _ (A ρ st) (fun c fs s => E.x c fs ρ s) fun vs s => @Ws _ (match vs with
  | [u, v, w] => if isDR u = true ∧ isDR v = true ∧ isDR w = true then .next (((ρ.set i (some u)).set j (some v)).set l (some w)) s else .stuck
  | _ => .stuck) E := propext ws_bind
end
theorem VRs.three {K : PySem.W.Frag} {I : Hp} {M : Mw} {H : Hp} {xs : List V} {u v w : Val} (h : VRs K I M H xs [u, v, w]) : ∃ x y z, xs = [x, y, z] ∧ VR K I M H x u ∧ VR K I M H y v ∧ VR K I M H z w := by
  cases h with
  | cons a r =>
    obtain ⟨y, z, rfl, b, c⟩ := VRs.two r
    exact ⟨_, y, z, rfl, a, b, c⟩
section
variable {U : Uni} {X : Cx} {W : WX} {A : Rho → U.S → Res U.S (List Val)} {pos : Pos}
theorem psd_par3 {i j l : Nat} {x y z : Str} {a b c : Expr} {px py pz pt : Pos} {kt k2 pt2} (hc : X.calm = true) (hN : X.N.Nodup) (hi : X.N[i]? = some x) (hj : X.N[j]? = some y) (hl : X.N[l]? = some z) (hij : i ≠ j) (hil : i ≠ l) (hjl : j ≠ l)
    (hx : X.env.scope.names.lookup x = some .local) (hy : X.env.scope.names.lookup y = some .local) (hz : X.env.scope.names.lookup z = some .local) (ha : PAd U X W [a, b, c] A)
    (hw : swappedStores [.Tuple [.Name x px, .Name y py, .Name z pz] kt pt] (.Tuple [a, b, c] k2 pt2) X.env = pure (some [x, y, z]) := by rfl)
    (hs : swapsWithSole [.Tuple [.Name x px, .Name y py, .Name z pz] kt pt] (.Tuple [a, b, c] k2 pt2) pos.line X.env = pure false := by rfl) :
    PSd U X W (.Assign [.Tuple [.Name x px, .Name y py, .Name z pz] kt pt] (.Tuple [a, b, c] k2 pt2) pos) (sPar3 i j l A) := by
  refine ps_imp (ps_par3 hc hN hi hj hl hij hil hjl hx hy hz ha hw hs) fun D σ H h => ?_
  refine tS.bind (rel := VRs X.K) h fun Z ρ st1 xs vs I1 M1 H1 ft hx ps => ?_
  match vs, hx, ps with
  | [u, v, w], hx, ps =>
    obtain ⟨x, y, z, rfl, h1, h2, h3⟩ := VRs.three hx
    simp only at ps
    by_cases hd : isDR u = true ∧ isDR v = true ∧ isDR w = true
    · rw [if_pos hd] at ps
      exact ⟨x, y, z, rfl, ps _ I1 M1 H1 (Same.refl _) (((ft.set i h1 hd.1).set j h2 hd.2.1).set l h3 hd.2.2)⟩
    · rw [if_neg hd] at ps
      exact False.elim ps
end
end Dl
set_option maxRecDepth 100000
set_option maxHeartbeats 4000000
namespace Dl
open PySem L2 PySem.Spec PyProof.Rows
def conIn (K : PySem.W.Frag) : Nat → Value → PyData → Bool
  | 0, _, _ => false
  | n + 1, v, d => match v, d with
    | .none, .none => true
    | .bool b, .bool c => b == c
    | .int i _, .int j => decide (i = j)
    | .str x _, .str y => decide (x = y)
    | .ref a, .tuple ds => match K.lookup a with
      | some o => decide (o.cls = .type "tuple") && (match o.data with
        | .seq its _ => decide (its.toList.length ≤ 1000) && decide (its.toList.length = ds.length) && (its.toList.zip ds).all fun p => conIn K n p.1 p.2
        | _ => false)
      | none => false
    | _, _ => false
theorem conIn_ok {K : PySem.W.Frag} : ∀ {n : Nat} {v : Value} {d : PyData}, conIn K n v d = true → ∃ x, RelV x v ∧ ∀ I, Rp K I x d
  | 0, _, _, h => by cases h
  | n + 1, v, d, h => by
    unfold conIn at h
    split at h
    · exact ⟨.non, rfl, fun _ => .non⟩
    · rw [beq_iff_eq] at h; subst h; exact ⟨.bl _, rfl, fun _ => .bl _⟩
    · have h := of_decide_eq_true h; subst h; exact ⟨.int _, ⟨_, rfl⟩, fun _ => .int _⟩
    · have h := of_decide_eq_true h; subst h; exact ⟨.str _, ⟨_, rfl⟩, fun _ => .str _⟩
    · rename_i a ds
      split at h
      · rename_i o ho
        rw [Bool.and_eq_true] at h
        obtain ⟨h1, h2⟩ := h
        split at h2
        · rename_i its m hd
          simp only [Bool.and_eq_true] at h2
          obtain ⟨⟨h2, h3⟩, h4⟩ := h2
          have h2 := of_decide_eq_true h2
          have h3 := of_decide_eq_true h3
          have key : ∀ (us : List Value) (es : List PyData), us.length = es.length → ((us.zip es).all fun p => conIn K n p.1 p.2) = true → ∃ xs, Vals xs us ∧ ∀ I, RpAll K I xs es := by
            intro us
            induction us with
            | nil =>
              intro es hl _
              cases es with
              | nil => exact ⟨[], .nil, fun _ => .nil⟩
              | cons e es => cases hl
            | cons u us ih =>
              intro es hl hz
              cases es with
              | nil => cases hl
              | cons e es =>
                simp only [List.zip_cons_cons, List.all_cons, Bool.and_eq_true] at hz
                obtain ⟨x, r1, r2⟩ := conIn_ok hz.1
                obtain ⟨xs, r3, r4⟩ := ih es (by simpa using hl) hz.2
                exact ⟨x :: xs, .cons r1 r3, fun I => .cons (r2 I) (r4 I)⟩
          obtain ⟨xs, r1, r2⟩ := key _ _ h3 h4
          exact ⟨.ref a, rfl, fun I => .tup (.inr ⟨o, its, m, ho, of_decide_eq_true h1, hd, by rw [← Array.length_toList]; exact Nat.le_trans h2 (by decide), r1⟩) (r2 I)⟩
        · cases h2
      · cases h
    · cases h
theorem conIn_ref {K : PySem.W.Frag} {n : Nat} {a : Addr} {d : PyData} (h : conIn K n (.ref a) d = true) : ∀ I, Rp K I (.ref a) d := by
  obtain ⟨x, r, q⟩ := conIn_ok h
  cases x <;> first | (cases r; exact q) | (obtain ⟨_, r⟩ := r; cases r) | cases r
def TabE : List DictEntry → List (Str × Addr) → Prop
  | [], [] => True
  | e :: es, p :: tb => ((∃ t, e.key = .str p.1 t) ∧ e.val = .ref p.2) ∧ TabE es tb
  | _, _ => False
theorem tab_find : ∀ {es : List DictEntry} {tb : List (Str × Addr)}, TabE es tb → ∀ x : Str, (es.find? fun e => Value.isStrOf x e.key).map (·.val) = (tb.lookup x).map Value.ref
  | [], [], _, x => rfl
  | e :: es, (y, f) :: tb, ⟨⟨⟨t, h1⟩, h2⟩, r⟩, x => by
    have ih := tab_find r x
    have e1 : Value.isStrOf x e.key = (x == y) := by
      rw [h1]
      show decide (y = x) = (x == y)
      by_cases h : x = y
      · subst h; simp
      · rw [decide_eq_false (Ne.symm h)]
        exact (beq_eq_false_iff_ne.mpr h).symm
    by_cases h : x = y
    · subst h
      rw [List.find?_cons_of_pos (by rw [e1]; simp), List.lookup_cons]
      simp [h2]
    · have h' : (x == y) = false := by simpa using h
      rw [List.find?_cons_of_neg (by rw [e1, h']; exact Bool.false_ne_true), List.lookup_cons, h']
      exact ih
structure TabF (w : World) (K : PySem.W.Frag) (mg : Str → Option Value) (x : Str) (a : Addr) (tb : List (Str × Addr)) : Prop where
  m : mg x = some (.ref a)
  no : (a == sysModules) = false
  ex : ∃ es n, K.lookup a = some ⟨.type "dict", none, .dict es n, #[]⟩ ∧ PySem.W.KeysLit w.params es.toList ∧ TabE es.toList tb
theorem TabF.map {P : Program} {w : World} {K : PySem.W.Frag} {mg : Str → Option Value} {x : Str} {a : Addr} {tb : List (Str × Addr)} {h : Heap} (T : TabF w K mg x a tb) (X : K.In h) : ∃ f, h.MapOf (strKind P w) a f ∧ ∀ z, f z = (tb.lookup z).map Value.ref := by
  obtain ⟨es, n, hl, hk, he⟩ := T.ex
  refine ⟨_, PySem.W.mapOf_K (prog := P) X hl hk, fun z => ?_⟩
  have := tab_find he z
  unfold findBy
  rw [← Array.find?_toList]
  exact this
section
variable {S : Type}
def tInT (ks : List Str) (a : Rho → S → Res S Val) : Rho → S → Res S Bool := fun ρ st => (a ρ st).bind fun v st1 => match v with
  | .d (.str x) => .ok (ks.contains x) st1
  | _ => .stuck
def eAppT (fs : List (Str × (List Val → S → Res S Val))) (n : Nat) (k : Rho → S → Res S Val) (A : Rho → S → Res S (List Val)) : Rho → S → Res S Val := fun ρ st => (k ρ st).bind fun v st1 => match v with
  | .d (.str x) => match fs.lookup x with
    | some F => eApp F n A ρ st1
    | none => .stuck
  | _ => .stuck
end
section
variable {U : Uni} {X : Cx} {W : WX} {a : Expr} {Fa : Rho → U.S → Res U.S Val} {A : Rho → U.S → Res U.S (List Val)} {pos p q : Pos} {x : Str} {ad : Addr} {tb : List (Str × Addr)}
inductive TabG (U : Uni) (P : Program) (w : World) (K : PySem.W.Frag) (mg : Str → Option Value) (base : Heap) (k n : Nat) : List (Str × Addr) → List (Str × (List Val → U.S → Res U.S Val)) → Prop
  | nil : TabG U P w K mg base k n [] []
  | cons {x : Str} {f : Addr} {F : List Val → U.S → Res U.S Val} {fd : FuncData} {ps : List Str} {tb : List (Str × Addr)} {fs : List (Str × (List Val → U.S → Res U.S Val))} (G : FnG U P w K mg base k f fd ps F) (hn : ps.length = n) (hk : PySem.W.keepIn K (.ref f) = true) (hb : Binds K fd ps []) (r : TabG U P w K mg base k n tb fs) : TabG U P w K mg base k n ((x, f) :: tb) ((x, F) :: fs)
theorem TabG.get {P : Program} {w : World} {K : PySem.W.Frag} {mg : Str → Option Value} {base : Heap} {k n : Nat} {tb : List (Str × Addr)} {fs : List (Str × (List Val → U.S → Res U.S Val))} (g : TabG U P w K mg base k n tb fs) {z : Str} {F : List Val → U.S → Res U.S Val} (e : fs.lookup z = some F) :
    ∃ f fd ps, tb.lookup z = some f ∧ FnG U P w K mg base k f fd ps F ∧ ps.length = n ∧ PySem.W.keepIn K (.ref f) = true ∧ Binds K fd ps [] := by
  induction g with
  | nil => cases e
  | @cons x f F' fd ps tb fs G hn hk hb r ih =>
    rw [List.lookup_cons] at e ⊢
    cases h : z == x with
    | true => rw [h] at e; cases e; exact ⟨f, fd, ps, rfl, G, hn, hk, hb⟩
    | false => rw [h] at e; exact ih e
theorem ped_callT {k n : Nat} {fs : List (Str × (List Val → U.S → Res U.S Val))} {ix e : Expr} {es : List Expr} {Fk : Rho → U.S → Res U.S Val} (T : TabF X.w X.K X.mg x ad tb) (g : TabG U X.prog X.w X.K X.mg X.base k n tb fs) (hr : Room k X.A) (hgd : X.A.guards = some []) (hg : Gl X x) (tk : Takes X W)
    (hi : PEd U X W ix Fk) (hs : NoSl ix) (ha : PAd U X W (e :: es) A) (hdb : (x == ("__debug__" : Str)) = false := by decide)
    (ht : eval (.Call (.Subscript (.Name x p) ix q) (e :: es) [] pos) X.env = (do callWith pos (← eval (.Subscript (.Name x p) ix q) X.env) [] (backTo pos (starEach (e :: es) X.env)) (backToKw pos (keywordEach [] X.env))) := by rfl)
    (he : starEach (e :: es) X.env = (false, eval e X.env) :: starEach es X.env := by rfl) (hpl : (backTo pos (starEach es X.env)).any (·.1) = false := by rfl) :
    PEd U X W (.Call (.Subscript (.Name x p) ix q) (e :: es) [] pos) (eAppT fs n Fk A) := by
  refine ⟨fun pins s σ H Q J h => Call_ (subD_of PySem.F.slot_dict_getitem.lookup hs (ld_glob J hg T.m ?_ hdb)) ht⟩
  have h1 : tE U X.K W Fk σ H (fun y H1 => ∃ z F, y = .str z ∧ fs.lookup z = some F ∧ tE U X.K W (eApp F n A) σ H1 Q) := by
    refine tG.bind h fun Z ρ st1 y u I1 M1 H1 ft hx ps => ?_
    match u, hx, ps with
    | .d (.str z), hx, ps =>
      simp only at ps
      cases e : fs.lookup z with
      | none => rw [e] at ps; exact False.elim ps
      | some F =>
        rw [e] at ps
        exact ⟨z, F, Rp.str_inv hx, e, Z, ρ, st1, I1, M1, ft, ps⟩
  have hi' : PE X ix (tE U X.K W Fk) := hi
  refine thn (hi'.run pins s σ H _ J h1) fun iv s1 ⟨y, H1, J1, ry, z, F, ey, eF, q1⟩ => ?_
  subst ey
  obtain ⟨t, rfl⟩ := ry
  obtain ⟨f, fd, ps, ef, G, hn, hk, hb⟩ := g.get eF
  obtain ⟨m, hm, hf⟩ := T.map (P := X.prog) J1.kIn
  refine ⟨hm.typeIs, wpAny_getItem_of (strKind_is _ _ z t) hm (by rw [hf, ef]; rfl) ?_⟩
  have J2 := J1.tok (s1.toks + 1)
  have h2 : tAs U X.K W A σ H1 (fun xs H1 => ∃ vs st1 I1 M1, Ok I1 M1 H1 ∧ U.R st1 M1 ∧ VRs X.K I1 M1 H1 xs vs ∧ vs.all isDR = true ∧ vs.length = ps.length ∧ Post U X.K (VR X.K) (F vs st1) I1 M1 H1 Q (fun cls d H' => W cls d σ H')) := by
    refine tG.bind q1 fun Z ρ st1 xs vs I1 M1 H1 ft hx ps1 => ?_
    by_cases hc : vs.all isDR = true ∧ vs.length = n
    · rw [if_pos hc] at ps1
      exact ⟨vs, st1, I1, M1, ft.ok, ft.rs, hx, hc.1, hc.2.trans hn.symm, ps1⟩
    · rw [if_neg hc] at ps1
      exact False.elim ps1
  have ha' : PA X (e :: es) (tAs U X.K W A) := ha
  refine PySem.W.callWith_K (h₀ := X.base) J2.ok.mod.kin hk (thn (ha'.run pos pins _ σ H1 _ J2 h2) fun us s2 ⟨xs, H2, J3, r, q3⟩ => ⟨J3.kIn, ?_⟩) he hpl
  obtain ⟨vs, st1, I1, M1, ok, rs, hv, hd, hl, ps1⟩ := q3
  exact run_g G hr hgd hb tk J3 r (hv.len.trans hl) ok rs hv hd ps1
end
end Dl
set_option maxRecDepth 100000
set_option maxHeartbeats 4000000
namespace Dl
open PySem L2 PySem.Spec PyProof.Rows
/-- a for that goes through: what holds ahead of the j-th -/
theorem forIn_all {M : Model} {A : Around} {E : Value → Shared → Prop} {α β : Type} {f : α → β → Sem (ForInStep β)} {Q : β → Shared → Prop} (J : Nat → β → Shared → Prop) : ∀ (l : List α) (i : Nat) (b : β) (s : Shared), J i b s →
    (∀ j a b s, l[j]? = some a → J (i + j) b s → wpAny M A (f a b) (fun r s' => ∃ b', r = .yield b' ∧ J (i + j + 1) b' s') E s) → (∀ b s, J (i + l.length) b s → Q b s) → wpAny M A (forIn l b f) Q E s
  | [], i, b, s, h, _, e => by
    rw [List.forIn_nil]
    exact wpAny_pure (e b s h)
  | a :: l, i, b, s, h, t, e => by
    rw [List.forIn_cons]
    refine wpAny_bind (wpAny_mono (t 0 a b s rfl h) (fun r s' hr => ?_) fun _ _ x => x)
    obtain ⟨b', rfl, hj⟩ := hr
    refine forIn_all J l (i + 1) b' s' hj (fun j a b s ha hj => ?_) fun b s hj => e b s ?_
    · have := t (j + 1) a b s (by simpa using ha) (by rw [show i + (j + 1) = i + 1 + j by omega]; exact hj)
      rwa [show i + (j + 1) + 1 = i + 1 + j + 1 by omega] at this
    · rw [List.length_cons, show i + (l.length + 1) = i + 1 + l.length by omega]
      exact hj
abbrev ZO (h : Heap) (z TI TO : Addr) (f0 : Value) (b : Bool) : Prop := h.get? z = some { cls := .type "zip", dict := none, data := .fields #[f0, .bool b, .bool false, .ref TI, .ref TO], slots := #[] }
abbrev TupO (h : Heap) (T : Addr) (xs : List Value) : Prop := h.get? T = some { cls := .type "tuple", data := .seq xs.toArray }
/-- an iterator, its row, the row's items -/
abbrev Col := Addr × Addr × Array Value
def ColAt (h : Heap) (c : Col) (i : Nat) : Prop := IsIt false h c.1 c.2.1 i ∧ IsSrc false h c.2.1 c.2.2
structure ZSep (z TI TO : Addr) (cs : List Col) : Prop where
  nd : (z :: TI :: TO :: cs.map (·.1)).Nodup
  src : ∀ c ∈ cs, c.2.1 ∉ (z :: TI :: TO :: cs.map (·.1))
def rowAt (cs : List Col) (i : Nat) : List Value := cs.map fun c => c.2.2.getD i .none
section
variable {prog : Program} {w : World} {A : Around} {E : Value → Shared → Prop} {s : Shared} {z TI TO : Addr} {cs : List Col} {n i : Nat}
theorem ZSep.it_ne (S : ZSep z TI TO cs) {c : Col} (hc : c ∈ cs) : c.1 ≠ z ∧ c.1 ≠ TI ∧ c.1 ≠ TO := by
  have h := S.nd
  simp only [List.nodup_cons, List.mem_cons, not_or] at h
  have hm : c.1 ∈ cs.map (·.1) := List.mem_map.mpr ⟨c, hc, rfl⟩
  exact ⟨fun e => h.1.2.2 (e ▸ hm), fun e => h.2.1.2 (e ▸ hm), fun e => h.2.2.1 (e ▸ hm)⟩
theorem ZSep.z_ne (S : ZSep z TI TO cs) : z ≠ TI ∧ z ≠ TO ∧ TI ≠ TO := by
  have h := S.nd
  simp only [List.nodup_cons, List.mem_cons, not_or] at h
  exact ⟨h.1.1, h.1.2.1, h.2.1.1⟩
theorem ZSep.its_ne (S : ZSep z TI TO cs) {j k : Nat} {c d : Col} (hj : cs[j]? = some c) (hk : cs[k]? = some d) (h : j ≠ k) : c.1 ≠ d.1 := by
  have hn : (cs.map (·.1)).Nodup := by
    have h := S.nd
    simp only [List.nodup_cons] at h
    exact h.2.2.2
  intro e
  have e1 : (cs.map (·.1))[j]? = some c.1 := by rw [List.getElem?_map, hj]; rfl
  have e2 : (cs.map (·.1))[k]? = some d.1 := by rw [List.getElem?_map, hk]; rfl
  rw [← e] at e2
  obtain ⟨l1, g1⟩ := List.getElem?_eq_some_iff.mp e1
  obtain ⟨l2, g2⟩ := List.getElem?_eq_some_iff.mp e2
  exact h ((List.getElem_inj hn).mp (g1.trans g2.symm))
theorem ZSep.src_ne (S : ZSep z TI TO cs) {c d : Col} (hc : c ∈ cs) (hd : d ∈ cs) : c.2.1 ≠ d.1 ∧ c.2.1 ≠ z ∧ c.2.1 ≠ TO := by
  have h := S.src c hc
  simp only [List.mem_cons, not_or] at h
  exact ⟨fun e => h.2.2.2 (e ▸ List.mem_map.mpr ⟨d, hd, rfl⟩), h.1, h.2.2.1⟩
/-- the first k columns stand one further -/
def MidC (cs : List Col) (i k : Nat) (h : Heap) : Prop := ∀ j c, cs[j]? = some c → ColAt h c (if j < k then i + 1 else i)
theorem ColAt.frame {h h' : Heap} {c : Col} {i : Nat} (st : ColAt h c i) (hk : ∀ b, b = c.1 ∨ b = c.2.1 → ∀ o, h.get? b = some o → h'.get? b = some o) : ColAt h' c i := by
  refine ⟨st.1.at fun o e => hk _ (.inl rfl) o e, ?_⟩
  have := st.2
  exact Heap.IsTuple.at this fun o e => hk _ (.inr rfl) o e
/-- one column drawn -/
theorem col_draw {A : Around} (hh : A.handled = none) (S : ZSep z TI TO cs) {k : Nat} {c : Col} (hc : cs[k]? = some c) (hl : i < c.2.2.size) (st : MidC cs i k s.heap) {Q : Value → Shared → Prop}
    (h : ∀ g tk, MidC cs i (k + 1) g → Heap.SameBut c.1 s.heap g → Q (c.2.2.getD i .none) { s with heap := g, toks := tk }) : wpAny (model prog w) A (Builtin.SmallTypes.nextOf (.ref c.1)) Q E s := by
  have hm : c ∈ cs := List.mem_of_getElem? hc
  have h0 := st k c hc
  rw [if_neg (Nat.lt_irrefl _)] at h0
  refine (draws_src (prog := prog) (w := w) (A := A) false hh c.1 c.2.1 (S.src_ne hm hm).1 c.2.2).item i s Q E hl h0 fun x g tk hx st1 sb => ?_
  have ex : c.2.2.getD i .none = x := by
    have hx : c.2.2[i]? = some x := hx
    simp [Array.getD_eq_getD_getElem?, hx]
  rw [← ex]
  refine h g tk (fun j d hd => ?_) sb
  by_cases hj : j = k
  · subst hj
    rw [hc] at hd
    cases hd
    rw [if_pos (Nat.lt_succ_self _)]
    exact st1
  · have hdm : d ∈ cs := List.mem_of_getElem? hd
    have := st j d hd
    have e : (if j < k + 1 then i + 1 else i) = (if j < k then i + 1 else i) := by
      by_cases h1 : j < k
      · rw [if_pos h1, if_pos (by omega)]
      · rw [if_neg h1, if_neg (by omega)]
    rw [e]
    refine this.frame fun b hb o eo => sb.extBut _ _ ?_ eo
    rcases hb with rfl | rfl
    · exact S.its_ne hd hc hj
    · exact (S.src_ne hdm hm).1
theorem MidC.frame {k : Nat} {h h' : Heap} (st : MidC cs i k h) (x : Addr) (sb : Heap.SameBut x h h') (hx : ∀ c ∈ cs, c.1 ≠ x ∧ c.2.1 ≠ x) : MidC cs i k h' := fun j c hc =>
  (st j c hc).frame fun b hb o e => by
    have hm := hx c (List.mem_of_getElem? hc)
    refine sb.extBut _ _ ?_ e
    rcases hb with rfl | rfl
    · exact hm.1
    · exact hm.2
theorem updSeq_tup {T : Addr} {xs : List Value} {x : Value} {k : Nat} {Q : Unit → Shared → Prop} (hT : TupO s.heap T xs) (hl : xs.length ≤ 100) (h : ∀ h', TupO h' T (xs.set k x) → Heap.SameBut T s.heap h' → Q () { s with heap := h' }) :
    wpAny (model prog w) A (updateSeq T (·.setIfInBounds k x)) Q E s := by
  have z1 : xs.toArray.size ≤ sizeLine := by rw [List.size_toArray]; exact Nat.le_trans hl (by decide)
  have z2 : (xs.toArray.setIfInBounds k x).size ≤ sizeLine + 1 := by rw [Array.size_setIfInBounds]; exact Nat.le_succ_of_le z1
  refine wpAny_updateSeq (hz := z1) (_hz' := z2) hT rfl (h _ ?_ (Heap.SameBut.update ..))
  show Heap.get? _ _ = _
  rw [Heap.get?_update_self _ hT rfl]
  simp [Obj.mapSeq]
/-- as far as the draws of a turn: k columns drawn -/
structure ZMid (s : Shared) (z TI TO : Addr) (cs : List Col) (i k : Nat) (f0 : Value) (b : Bool) (arr : List Value) (g : Heap) : Prop where
  zo : ZO g z TI TO f0 b
  to : TupO g TO arr
  ti : TupO g TI (cs.map fun c => .ref c.1)
  len : arr.length = cs.length
  mid : MidC cs i k g
  sz : g.objs.size = s.heap.objs.size
  kp : ∀ c o, c ≠ z → c ≠ TO → c ∉ cs.map (·.1) → s.heap.get? c = some o → g.get? c = some o
theorem ZMid.col {k : Nat} {f0 : Value} {b : Bool} {arr : List Value} {g g' : Heap} {c : Col} (m : ZMid s z TI TO cs i k f0 b arr g) (S : ZSep z TI TO cs) (hc : c ∈ cs) (mid : MidC cs i (k + 1) g') (sb : Heap.SameBut c.1 g g') : ZMid s z TI TO cs i (k + 1) f0 b arr g' := by
  have hn := S.it_ne hc
  exact ⟨sb.extBut _ _ hn.1.symm m.zo, sb.extBut _ _ hn.2.2.symm m.to, sb.extBut _ _ hn.2.1.symm m.ti, m.len, mid, sb.1.trans m.sz, fun d o h1 h2 h3 e => sb.extBut _ _ (fun q => h3 (q ▸ List.mem_map.mpr ⟨c, hc, rfl⟩)) (m.kp d o h1 h2 h3 e)⟩
theorem ZMid.put {k : Nat} {f0 : Value} {b : Bool} {arr arr' : List Value} {g g' : Heap} (m : ZMid s z TI TO cs i k f0 b arr g) (S : ZSep z TI TO cs) (hT : TupO g' TO arr') (hl : arr'.length = cs.length) (sb : Heap.SameBut TO g g') : ZMid s z TI TO cs i k f0 b arr' g' := by
  have hn := S.z_ne
  exact ⟨sb.extBut _ _ hn.2.1 m.zo, hT, sb.extBut _ _ hn.2.2 m.ti, hl, m.mid.frame TO sb fun c hc => ⟨(S.it_ne hc).2.2, (S.src_ne hc hc).2.2⟩, sb.1.trans m.sz, fun d o h1 h2 h3 e => sb.extBut _ _ h2 (m.kp d o h1 h2 h3 e)⟩
theorem ZMid.own {k : Nat} {f0 f1 : Value} {b b1 : Bool} {arr : List Value} {g g' : Heap} (m : ZMid s z TI TO cs i k f0 b arr g) (S : ZSep z TI TO cs) (hz : ZO g' z TI TO f1 b1) (sb : Heap.SameBut z g g') : ZMid s z TI TO cs i k f1 b1 arr g' := by
  have hn := S.z_ne
  exact ⟨hz, sb.extBut _ _ hn.2.1.symm m.to, sb.extBut _ _ hn.1.symm m.ti, m.len, m.mid.frame z sb fun c hc => ⟨(S.it_ne hc).1, (S.src_ne hc hc).2.1⟩, sb.1.trans m.sz, fun d o h1 h2 h3 e => sb.extBut _ _ h1 (m.kp d o h1 h2 h3 e)⟩
theorem wpAny_alive {M : Model} {A : Around} {E : Value → Shared → Prop} {s : Shared} {a : Addr} {Q : Option Obj → Shared → Prop} (h : Q (s.heap.get? a) s) : wpAny M A (loadIfAlive a) Q E s := fun Γ p _ => by
  show Sem.wp M Γ (Sem.loadIfAlive a Sem.pure) _ _ p s
  rw [Sem.wp_loadIfAlive, Sem.wp_pure]
  exact h
theorem zfree {Q : Bool → Shared → Prop} {f0 : Value} {b : Bool} (hz : ZO s.heap z TI TO f0 b) (hf : f0 = .none ∨ ∃ T : Nat, f0 = rawInt T) (h1 : Q true s) (h2 : ∀ h', ZO h' z TI TO f0 true → Heap.SameBut z s.heap h' → Q false { s with heap := h' }) :
    wpAny (model prog w) A (Builtin.SmallTypes.ownedTupleIsFree (.ref z)) Q E s := by
  unfold Builtin.SmallTypes.ownedTupleIsFree
  refine wpAny_bind (wpAny_field hz rfl (x := f0) rfl ?_)
  rcases hf with rfl | ⟨T, rfl⟩
  · exact wpAny_pure h1
  · show wpAny _ _ (loadIfAlive _ >>= _) _ _ _
    refine wpAny_bind (wpAny_alive ?_)
    cases s.heap.get? (Int.toNat (T : Int)) with
    | none => exact wpAny_pure h1
    | some o =>
      show wpAny _ _ (field (.ref z) 1 >>= _) _ _ _
      refine wpAny_bind (wpAny_field hz rfl (x := .bool b) rfl ?_)
      cases b with
      | true => exact wpAny_pure (h2 s.heap hz (Heap.SameBut.refl _ _))
      | false =>
        show wpAny _ _ (setField (.ref z) 1 (.bool true) >>= _) _ _ _
        exact wpAny_bind (wpAny_setField_rec hz (by simp) fun h' hz' hs' => wpAny_pure (h2 h' hz' hs'))
theorem row_len (cs : List Col) (i : Nat) : (rowAt cs i).length = cs.length := by simp [rowAt]
theorem row_get {cs : List Col} {i j : Nat} {c : Col} (h : cs[j]? = some c) : (rowAt cs i)[j]? = some (c.2.2.getD i .none) := by simp [rowAt, h]
theorem take_set {arr row : List Value} {j : Nat} {v : Value} (ht : arr.take j = row.take j) (hr : row[j]? = some v) (hl : j < arr.length) : (arr.set j v).take (j + 1) = row.take (j + 1) := by
  rw [List.take_add_one, List.take_add_one, hr, List.getElem?_set_self hl, List.take_set_of_le (Nat.le_refl _), ht]
theorem zipN_next_item {Q : Value → Shared → Prop} {f0 : Value} {b : Bool} {arr : List Value} (hh : A.handled = none) (S : ZSep z TI TO cs) (hcs : cs ≠ []) (h100 : cs.length ≤ 100) (hn : ∀ c ∈ cs, i < c.2.2.size) (hf : f0 = .none ∨ ∃ T : Nat, f0 = rawInt T)
    (m0 : ZMid s z TI TO cs i 0 f0 b arr s.heap)
    (hQ : ∀ h' tk f1 b1 arr1, (f1 = .none ∨ ∃ T : Nat, f1 = rawInt T) → ZO h' z TI TO f1 b1 → TupO h' TO arr1 → TupO h' TI (cs.map fun c => .ref c.1) → arr1.length = cs.length → MidC cs i cs.length h' →
      (∀ c o, c ≠ z → c ≠ TO → c ∉ cs.map (·.1) → s.heap.get? c = some o → h'.get? c = some o) → TupO h' s.heap.objs.size (rowAt cs i) → Q (.ref s.heap.objs.size) { s with heap := h', toks := tk }) :
    wpAny (model prog w) A (Builtin.«zip.__next__» ⟨[.ref z], []⟩) (fun fin s' => ∃ v, fin = .done (.ret v) ∧ Q v s') E s := by
  obtain ⟨hp, g, d, tk0, os⟩ := s
  show wpAny _ _ (field (.ref z) 2 >>= _) _ _ _
  refine wpAny_bind (wpAny_field m0.zo rfl (x := .bool false) rfl ?_)
  show wpAny _ _ (field (.ref z) 3 >>= _) _ _ _
  refine wpAny_bind (wpAny_field m0.zo rfl (x := .ref TI) rfl ?_)
  refine wpAny_bind (wpAny_seqItems m0.ti rfl ?_)
  have ne : (cs.map fun c => Value.ref c.1).toArray.isEmpty = false := by
    cases cs with
    | nil => exact absurd rfl hcs
    | cons c cs => rfl
  simp only [ne, Bool.false_eq_true, if_false]
  have h16 : (rowAt cs i).length ≤ sizeLine := by rw [row_len]; exact Nat.le_trans h100 (by decide)
  refine wpAny_bind (zfree m0.zo hf ?_ fun g0 hz0 hs0 => ?_)
  · simp only [if_true]
    refine wpAny_bind (wpAny_rule ?_)
    refine wpAny_bind (wpAny_field m0.zo rfl (x := .ref TO) rfl ?_)
    refine wpAny_bind (wpAny_setField_rec m0.zo (by simp) fun g0 hz0 hs0 => ?_)
    have m1 : ZMid ⟨hp, g, d, tk0, os⟩ z TI TO cs i 0 .ellipsis b arr g0 := m0.own S hz0 hs0
    refine wpAny_bind (forIn_all (fun k bb s' => bb = (none, ()) ∧ ∃ g1 tk arr1, s' = ⟨g1, g, d, tk, os⟩ ∧ ZMid ⟨hp, g, d, tk0, os⟩ z TI TO cs i k .ellipsis b arr1 g1 ∧ arr1.take k = (rowAt cs i).take k) _ 0 _ _ ⟨rfl, g0, tk0, arr, rfl, m1, rfl⟩ ?_ ?_)
    · rintro j x bb s' hx ⟨rfl, g1, tk, arr1, rfl, m, ht⟩
      rw [Nat.zero_add] at m ht ⊢
      simp only [List.toList_toArray, List.getElem?_zipIdx, List.getElem?_map, Option.map_map] at hx
      cases hc : cs[j]? with
      | none => rw [hc] at hx; cases hx
      | some c =>
        rw [hc] at hx
        have hx : (Value.ref c.1, 0 + j) = x := Option.some.inj hx
        subst hx
        have hm := List.mem_of_getElem? hc
        refine wpAny_bind (wpAny_onRaise ?_)
        show wpAny _ _ (Builtin.SmallTypes.nextOf (.ref c.1) >>= _) _ _ ⟨g1, g, d, tk, os⟩
        refine wpAny_bind (col_draw hh S hc (hn c hm) m.mid fun g2 tk2 mid2 sb2 => wpAny_pure ?_)
        have m2 := m.col S hm mid2 sb2
        refine wpAny_bind (wpAny_seqItems (s := ⟨g2, g, d, tk2, os⟩) m2.to rfl ?_)
        refine wpAny_bind (updSeq_tup (s := ⟨g2, g, d, tk2, os⟩) m2.to (by rw [m2.len]; exact h100) fun g3 hT3 sb3 => ?_)
        have m3 := m2.put S hT3 (by rw [List.length_set]; exact m2.len) sb3
        refine wpAny_bind (wpAny_letGo (wpAny_pure ⟨_, rfl, rfl, g3, tk2, _, rfl, m3, ?_⟩))
        rw [Nat.zero_add]
        exact take_set ht (row_get hc) (by rw [m2.len]; exact (List.getElem?_eq_some_iff.mp hc).1)
    · rintro bb s' ⟨rfl, g1, tk, arr1, rfl, m, ht⟩
      simp only [List.toList_toArray, List.length_zipIdx, List.length_map, Nat.zero_add] at m ht
      have e1 : arr1 = rowAt cs i := by
        rw [List.take_of_length_le (Nat.le_of_eq m.len), List.take_of_length_le (Nat.le_of_eq (row_len cs i))] at ht
        exact ht
      subst e1
      refine wpAny_bind (wpAny_seqItems (s := ⟨g1, g, d, tk, os⟩) m.to rfl ?_)
      refine wpAny_bind (wpAny_newTuple (hsz := by simpa using h16) ?_)
      have hzlt : z < g1.objs.size := Heap.lt_size m.zo
      refine wpAny_bind ?_
      show wpAny _ _ (Builtin.SmallTypes.ownedTupleHandOut (.ref z) (.ref g1.objs.size)) _ _ ⟨g1.push { cls := .type "tuple", data := .seq (rowAt cs i).toArray.toList.toArray }, g, d, tk, os⟩
      unfold Builtin.SmallTypes.ownedTupleHandOut
      have up : ∀ {c o}, g1.get? c = some o → (g1.push { cls := .type "tuple", data := .seq (rowAt cs i).toArray.toList.toArray }).get? c = some o := fun e => Heap.get?_push_of_some _ e
      have hz6 : ZO (g1.push { cls := .type "tuple", data := .seq (rowAt cs i).toArray.toList.toArray }) z TI TO .ellipsis b := up m.zo
      refine wpAny_bind (wpAny_setField_rec hz6 (by simp) fun h7 hz7 hs7 => ?_)
      replace hz7 : ZO h7 z TI TO (rawInt g1.objs.size) b := hz7
      refine wpAny_setField_rec hz7 (by simp) fun h8 hz8 hs8 => ?_
      replace hz8 : ZO h8 z TI TO (rawInt g1.objs.size) false := hz8
      have un := S.z_ne
      have kz : ∀ c o, c ≠ z → g1.get? c = some o → h8.get? c = some o := fun c o hc e => hs8.extBut _ _ hc (hs7.extBut _ _ hc (up e))
      have hT8 : TupO h8 g1.objs.size (rowAt cs i) := hs8.extBut _ _ (Nat.ne_of_gt hzlt) (hs7.extBut _ _ (Nat.ne_of_gt hzlt) (by
        have := Heap.get?_push_size g1 (o := { cls := .type "tuple", data := .seq (rowAt cs i).toArray.toList.toArray }) rfl
        simpa using this))
      have hsz : g1.objs.size = hp.objs.size := m.sz
      refine wpAny_pure ⟨_, rfl, ?_⟩
      show Q (.ref g1.objs.size) ⟨h8, g, d, tk, os⟩
      rw [hsz] at hT8 hz8 ⊢
      exact hQ h8 tk _ _ _ (.inr ⟨_, rfl⟩) hz8 (kz _ _ un.2.1.symm m.to) (kz _ _ un.1.symm m.ti) m.len (fun j c hc => (m.mid j c hc).frame fun b hb o e => kz b o (by
        have hm := List.mem_of_getElem? hc
        rcases hb with rfl | rfl
        · exact (S.it_ne hm).1
        · exact (S.src_ne hm hm).2.1) e) (fun c o h1 h2 h3 e => kz c o h1 (m.kp c o h1 h2 h3 e)) hT8
  · simp only [Bool.false_eq_true, if_false]
    have m1 : ZMid ⟨hp, g, d, tk0, os⟩ z TI TO cs i 0 f0 true arr g0 := m0.own S hz0 hs0
    rw [List.forIn_toArray]
    refine wpAny_bind (forIn_all (fun k bb s' => bb.1 = none ∧ bb.2.toList = (rowAt cs i).take k ∧ ∃ g1 tk, s' = ⟨g1, g, d, tk, os⟩ ∧ ZMid ⟨hp, g, d, tk0, os⟩ z TI TO cs i k f0 true arr g1) _ 0 _ _ ⟨rfl, rfl, g0, tk0, rfl, m1⟩ ?_ ?_)
    · rintro j x ⟨o1, items⟩ s' hx ⟨h1, h2, g1, tk, rfl, m⟩
      rw [Nat.zero_add] at m h2 ⊢
      have h1 : o1 = none := h1
      subst h1
      simp only [List.getElem?_map] at hx
      cases hc : cs[j]? with
      | none => rw [hc] at hx; cases hx
      | some c =>
        rw [hc] at hx
        cases hx
        have hm := List.mem_of_getElem? hc
        refine wpAny_bind (wpAny_holding ?_)
        show wpAny _ _ (Builtin.SmallTypes.nextOf (.ref c.1) >>= _) _ _ ⟨g1, g, d, tk, os⟩
        refine wpAny_bind (col_draw hh S hc (hn c hm) m.mid fun g2 tk2 mid2 sb2 => wpAny_pure ?_)
        refine wpAny_pure ⟨_, rfl, rfl, ?_, g2, tk2, rfl, m.col S hm mid2 sb2⟩
        show (items.push _).toList = _
        rw [Array.toList_push, h2, List.take_add_one, row_get hc]
        rfl
    · rintro ⟨o1, items⟩ s' ⟨h1, h2, g1, tk, rfl, m⟩
      simp only [List.length_map, Nat.zero_add] at m h2
      have h1 : o1 = none := h1
      subst h1
      have h2 : items.toList = rowAt cs i := by rw [h2, List.take_of_length_le (Nat.le_of_eq (row_len cs i))]
      refine wpAny_bind (wpAny_newTuple (hsz := by show items.toList.length ≤ _; rw [h2]; exact h16) ?_)
      refine wpAny_pure ⟨_, rfl, ?_⟩
      show Q (.ref g1.objs.size) ⟨g1.push { cls := .type "tuple", data := .seq items.toList.toArray }, g, d, tk, os⟩
      rw [h2]
      have up : ∀ {c o}, g1.get? c = some o → (g1.push { cls := .type "tuple", data := .seq (rowAt cs i).toArray }).get? c = some o := fun e => Heap.get?_push_of_some _ e
      have hT := Heap.get?_push_size g1 (o := { cls := .type "tuple", data := .seq (rowAt cs i).toArray }) rfl
      have hsz : g1.objs.size = hp.objs.size := m.sz
      rw [hsz] at hT ⊢
      exact hQ _ tk _ _ _ hf (up m.zo) (up m.to) (up m.ti) m.len (fun j c hc => (m.mid j c hc).frame fun b hb o e => up e) (fun c o h1 h2 h3 e => up (m.kp c o h1 h2 h3 e)) hT
end
end Dl
set_option maxRecDepth 100000
set_option maxHeartbeats 4000000
namespace Dl
open PySem L2 PySem.Spec PyProof.Rows
section
variable {prog : Program} {w : World} {A : Around} {E : Value → Shared → Prop} {s : Shared} {z TI TO : Addr} {cs : List Col} {n i : Nat}
theorem zipN_next_end {Q : Fin → Shared → Prop} {f0 : Value} {b : Bool} {arr : List Value} (hh : A.handled = none) (S : ZSep z TI TO cs) {c : Col} (hc0 : cs[0]? = some c) (hn : c.2.2.size = i) (hf : f0 = .none ∨ ∃ T : Nat, f0 = rawInt T)
    (m0 : ZMid s z TI TO cs i 0 f0 b arr s.heap)
    (hE : ∀ h' tk e, (∀ c o, c ≠ z → c ≠ TO → c ∉ cs.map (·.1) → s.heap.get? c = some o → h'.get? c = some o) → (∃ o, h'.get? e = some o ∧ o.cls = .type "StopIteration") → E (.ref e) { s with heap := h', toks := tk }) :
    wpAny (model prog w) A (Builtin.«zip.__next__» ⟨[.ref z], []⟩) Q E s := by
  obtain ⟨hp, g, d, tk0, os⟩ := s
  have hm := List.mem_of_getElem? hc0
  show wpAny _ _ (field (.ref z) 2 >>= _) _ _ _
  refine wpAny_bind (wpAny_field m0.zo rfl (x := .bool false) rfl ?_)
  show wpAny _ _ (field (.ref z) 3 >>= _) _ _ _
  refine wpAny_bind (wpAny_field m0.zo rfl (x := .ref TI) rfl ?_)
  refine wpAny_bind (wpAny_seqItems m0.ti rfl ?_)
  obtain ⟨rest, ec⟩ : ∃ rest, cs = c :: rest := by
    cases cs with
    | nil => cases hc0
    | cons c' r => cases hc0; exact ⟨r, rfl⟩
  have ne : (cs.map fun c => Value.ref c.1).toArray.isEmpty = false := by rw [ec]; rfl
  simp only [ne, Bool.false_eq_true, if_false]
  refine wpAny_bind (zfree m0.zo hf ?_ fun g0 hz0 hs0 => ?_)
  · simp only [if_true]
    refine wpAny_bind (wpAny_rule ?_)
    refine wpAny_bind (wpAny_field m0.zo rfl (x := .ref TO) rfl ?_)
    refine wpAny_bind (wpAny_setField_rec m0.zo (by simp) fun g0 hz0 hs0 => ?_)
    have m1 : ZMid ⟨hp, g, d, tk0, os⟩ z TI TO cs i 0 .ellipsis b arr g0 := m0.own S hz0 hs0
    have st := m1.mid 0 c hc0
    rw [if_neg (Nat.lt_irrefl _)] at st
    refine wpAny_bind ?_
    have el : (cs.map fun c => Value.ref c.1).toArray.toList.zipIdx = (Value.ref c.1, 0) :: (rest.map fun c => Value.ref c.1).zipIdx 1 := by rw [ec]; rfl
    rw [el, List.forIn_cons]
    refine wpAny_bind (wpAny_bind (wpAny_onRaise ?_))
    show wpAny _ _ (Builtin.SmallTypes.nextOf (.ref c.1) >>= _) _ _ ⟨g0, g, d, tk0, os⟩
    refine wpAny_bind ((draws_src (prog := prog) (w := w) (A := A) false hh c.1 c.2.1 (S.src_ne hm hm).1 c.2.2).done ⟨g0, g, d, tk0, os⟩ _ _ (by rw [hn]; exact st) fun q e hq he => ?_)
    obtain ⟨oe, hoe, hce⟩ := he
    replace hoe : q.get? e = some oe := hoe
    have hzq : ZO q z TI TO .ellipsis b := hq _ _ (S.it_ne hm).1.symm m1.zo
    have hez : e ≠ z := fun x => by subst x; rw [hzq] at hoe; cases hoe; simp at hce
    refine wpAny_setField_rec (s := ⟨q, g, d, tk0, os⟩) hzq (by simp) fun q' _ hq' => ?_
    replace hq' : Heap.SameBut z q q' := hq'
    exact hE q' tk0 e (fun c' o h1 h2 h3 x => hq'.extBut _ _ h1 (hq _ _ (fun q => h3 (q ▸ List.mem_map.mpr ⟨c, hm, rfl⟩)) (m1.kp c' o h1 h2 h3 x))) ⟨oe, hq'.extBut _ _ hez hoe, hce⟩
  · simp only [Bool.false_eq_true, if_false]
    have m1 : ZMid ⟨hp, g, d, tk0, os⟩ z TI TO cs i 0 f0 true arr g0 := m0.own S hz0 hs0
    have st := m1.mid 0 c hc0
    rw [if_neg (Nat.lt_irrefl _)] at st
    rw [List.forIn_toArray]
    refine wpAny_bind ?_
    have el : (cs.map fun c => Value.ref c.1) = Value.ref c.1 :: (rest.map fun c => Value.ref c.1) := by rw [ec]; rfl
    rw [el, List.forIn_cons]
    refine wpAny_bind (wpAny_bind (wpAny_holding ?_))
    show wpAny _ _ (Builtin.SmallTypes.nextOf (.ref c.1) >>= _) _ _ ⟨g0, g, d, tk0, os⟩
    refine wpAny_bind ((draws_src (prog := prog) (w := w) (A := A) false hh c.1 c.2.1 (S.src_ne hm hm).1 c.2.2).done ⟨g0, g, d, tk0, os⟩ _ _ (by rw [hn]; exact st) fun q e hq he => ?_)
    exact hE q tk0 e (fun c' o h1 h2 h3 x => hq _ _ (fun q => h3 (q ▸ List.mem_map.mpr ⟨c, hm, rfl⟩)) (m1.kp c' o h1 h2 h3 x)) he
theorem pyNext_zipN_item {Q : Option Value → Shared → Prop} {f0 : Value} {b : Bool} {arr : List Value} (hh : A.handled = none) (S : ZSep z TI TO cs) (hcs : cs ≠ []) (h100 : cs.length ≤ 100) (hn : ∀ c ∈ cs, i < c.2.2.size) (hf : f0 = .none ∨ ∃ T : Nat, f0 = rawInt T)
    (m0 : ZMid s z TI TO cs i 0 f0 b arr s.heap)
    (hQ : ∀ h' tk f1 b1 arr1, (f1 = .none ∨ ∃ T : Nat, f1 = rawInt T) → ZO h' z TI TO f1 b1 → TupO h' TO arr1 → TupO h' TI (cs.map fun c => .ref c.1) → arr1.length = cs.length → MidC cs i cs.length h' →
      (∀ c o, c ≠ z → c ≠ TO → c ∉ cs.map (·.1) → s.heap.get? c = some o → h'.get? c = some o) → TupO h' s.heap.objs.size (rowAt cs i) → Q (some (.ref s.heap.objs.size)) { s with heap := h', toks := tk }) :
    wpAny (model prog w) A (pyNext (.ref z)) Q E s := by
  have hT : s.TypeIs (.ref z) "zip" := ⟨_, m0.zo, rfl⟩
  unfold pyNext
  exact wpAny_bind (wpAny_attempt (wpAny_callSpecial?_slot (name := Str.ofString "__next__") hT F.slot_zip_next
    (wpAny_call_entry F.slot_zip_next hT F.entry_zip_next
      (zipN_next_item (A := A.in1) hh S hcs h100 hn hf m0 fun h' tk f1 b1 arr1 a1 a2 a3 a4 a5 a6 a7 a8 => wpAny_pure (hQ h' tk f1 b1 arr1 a1 a2 a3 a4 a5 a6 a7 a8)) (F.args_zip_next_1 _))))
theorem pyNext_zipN_end {Q : Option Value → Shared → Prop} {f0 : Value} {b : Bool} {arr : List Value} (hh : A.handled = none) (S : ZSep z TI TO cs) {c : Col} (hc0 : cs[0]? = some c) (hn : c.2.2.size = i) (hf : f0 = .none ∨ ∃ T : Nat, f0 = rawInt T)
    (m0 : ZMid s z TI TO cs i 0 f0 b arr s.heap)
    (hQ : ∀ h' tk, (∀ c o, c ≠ z → c ≠ TO → c ∉ cs.map (·.1) → s.heap.get? c = some o → h'.get? c = some o) → Q none { s with heap := h', toks := tk }) : wpAny (model prog w) A (pyNext (.ref z)) Q E s := by
  have hT : s.TypeIs (.ref z) "zip" := ⟨_, m0.zo, rfl⟩
  unfold pyNext
  refine wpAny_bind (wpAny_attempt (wpAny_callSpecial?_slot (name := Str.ofString "__next__") hT F.slot_zip_next
    (wpAny_call_entry F.slot_zip_next hT F.entry_zip_next (zipN_next_end (A := A.in1) hh S hc0 hn hf m0 fun h' tk e hk he => ?_) (F.args_zip_next_1 _))))
  obtain ⟨o, ho, hc⟩ := he
  refine wpAny_bind (wpAny_isInstance (T := "StopIteration") (b := true) ⟨o, ho, hc⟩ isSubtype_stop ?_)
  exact wpAny_pure (hQ _ _ hk)
end
def itemsOf (h : Heap) (a : Addr) : Array Value := match h.get? a with
  | some o => match o.data with
    | .seq its _ => its
    | _ => #[]
  | none => #[]
theorem itemsOf_src {h : Heap} {a : Addr} {its : Array Value} (x : IsSrc false h a its) : itemsOf h a = its := by
  obtain ⟨o, ho, _, n, hd⟩ := x
  unfold itemsOf
  rw [ho]
  simp only [hd]
abbrev RowsAt (K : PySem.W.Frag) (H : Hp) (as : List Addr) (xss : List (List V)) : Prop := Paired (fun a xs => SqT K H a xs) as xss
def ItN (K : PySem.W.Frag) (as : List Addr) : It :=
  ⟨fun i H => ∃ xss n, RowsAt K H as xss ∧ (∀ xs ∈ xss, xs.length = n) ∧ i < n,
   fun i H v H' => ∃ T row, v = .ref T ∧ H T = none ∧ H' = upd H T (.tup row) ∧ ∀ xss, RowsAt K H as xss → Paired (fun xs x => xs[i]? = some x) xss row,
   fun i H => ∃ xss, RowsAt K H as xss ∧ ∀ xs ∈ xss, xs.length = i⟩
theorem tupO_data {h : Heap} {T : Addr} {xs : List Value} (e : TupO h T xs) : ∃ o, h.get? T = some o ∧ ∀ v, o.data ≠ .cell v := ⟨_, e, fun v q => nomatch q⟩
theorem rows_vals {X : Cx} {pins : List (Addr × Obj)} {σ : L2.St} {H : Hp} {s : Shared} (J : Inv X pins σ H s) : ∀ {as : List Addr} {xss : List (List V)}, RowsAt X.K H as xss → ∀ (i n : Nat), (∀ xs ∈ xss, xs.length = n) → i < n →
    ∃ row, Paired (fun xs x => xs[i]? = some x) xss row ∧ Vals row (as.map fun a => (itemsOf s.heap a).getD i .none)
  | [], [], _, i, n, _, _ => ⟨[], .nil, .nil⟩
  | a :: as, xs :: xss, .cons h r, i, n, hl, hi => by
    obtain ⟨row, h1, h2⟩ := rows_vals J r i n (fun ys hy => hl ys (List.mem_cons_of_mem _ hy)) hi
    obtain ⟨its, rv, hs, _, _⟩ := inv_src (l := false) J h
    have hlt : i < xs.length := by rw [hl xs List.mem_cons_self]; exact hi
    obtain ⟨u, hu, ru⟩ := rv.get (List.getElem?_eq_getElem hlt)
    refine ⟨xs[i] :: row, .cons (List.getElem?_eq_getElem hlt) h1, .cons ?_ h2⟩
    show L2.RelV xs[i] ((itemsOf s.heap a).getD i Value.none)
    rw [itemsOf_src hs]
    have : its.toArray.getD i .none = u := by
      rw [Array.getD_eq_getD_getElem?]
      simp [hu]
    rw [this]
    exact ru
theorem rows_src {X : Cx} {pins : List (Addr × Obj)} {σ : L2.St} {H : Hp} {s : Shared} (J : Inv X pins σ H s) : ∀ {as : List Addr} {xss : List (List V)}, RowsAt X.K H as xss → ∀ (n : Nat), (∀ xs ∈ xss, xs.length = n) → ∀ a ∈ as, IsSrc false s.heap a (itemsOf s.heap a) ∧ (itemsOf s.heap a).size = n
  | a :: as, xs :: xss, .cons h r, n, hl, b, hb => by
    rcases List.mem_cons.mp hb with rfl | hb
    · obtain ⟨its, rv, hs, _, _⟩ := inv_src (l := false) J h
      rw [itemsOf_src hs]
      exact ⟨hs, by rw [List.size_toArray, ← rv.length]; exact hl xs List.mem_cons_self⟩
    · exact rows_src J r n (fun ys hy => hl ys (List.mem_cons_of_mem _ hy)) b hb
theorem rows_inj {X : Cx} {pins : List (Addr × Obj)} {σ : L2.St} {H : Hp} {s : Shared} (J : Inv X pins σ H s) : ∀ {as : List Addr} {xss yss : List (List V)}, RowsAt X.K H as xss → RowsAt X.K H as yss → xss = yss
  | [], [], [], .nil, .nil => rfl
  | a :: as, xs :: xss, ys :: yss, .cons h r, .cons h' r' => by rw [J.tuple_inj h h', rows_inj J r r']
theorem turn_zipN {P : Program} {w : World} {K : PySem.W.Frag} {x : Str} {tpos : Pos} (ps : List (Addr × Addr)) (hps : ps ≠ []) (h100 : ps.length ≤ 100) {z TI TO : Addr} (nd : (z :: TI :: TO :: ps.map (·.1)).Nodup) (sp : ∀ p ∈ ps, p.2 ∉ (z :: TI :: TO :: ps.map (·.1))) :
    Turn P w K (.Name x tpos) (ItN K (ps.map (·.2))) (z :: TI :: TO :: ps.map (·.1)) z (fun i h => (∃ f0 b, (f0 = .none ∨ ∃ T : Nat, f0 = rawInt T) ∧ ZO h z TI TO f0 b) ∧ (∃ arr, TupO h TO arr ∧ arr.length = ps.length) ∧ TupO h TI (ps.map fun p => .ref p.1) ∧ ∀ p ∈ ps, IsIt false h p.1 p.2 i) where
  mem := List.mem_cons_self
  obj := fun i h st c hc => by
    obtain ⟨⟨f0, b, _, hz⟩, ⟨arr, hTO, _⟩, hTI, hit⟩ := st
    simp only [List.mem_cons, List.mem_map] at hc
    rcases hc with rfl | rfl | rfl | ⟨p, hp, rfl⟩
    · exact ⟨_, hz, fun v q => nomatch q⟩
    · exact tupO_data hTI
    · exact tupO_data hTO
    · exact (hit p hp).obj
  keep := fun i h h' st k => by
    obtain ⟨⟨f0, b, hf, hz⟩, ⟨arr, hTO, hl⟩, hTI, hit⟩ := st
    exact ⟨⟨f0, b, hf, k z (by simp) _ hz⟩, ⟨arr, k TO (by simp) _ hTO, hl⟩, k TI (by simp) _ hTI, fun p hp => (hit p hp).at fun o q => k p.1 (by simp only [List.mem_cons, List.mem_map]; exact .inr (.inr (.inr ⟨p, hp, rfl⟩))) o q⟩
  item := by
    intro X hP hw hK hc i pins s σ H E J hf st hg
    subst hP hw hK
    obtain ⟨⟨f0, b, hf0, hz⟩, ⟨arr, hTO, hal⟩, hTI, hit⟩ := st
    obtain ⟨xss, n, hrows, hlen, hin⟩ := hg
    have hsrc := rows_src J hrows n hlen
    have e1 : (ps.map fun p => ((p.1, p.2, itemsOf s.heap p.2) : Col)).map (·.1) = ps.map (·.1) := by simp
    have S : ZSep z TI TO (ps.map fun p => ((p.1, p.2, itemsOf s.heap p.2) : Col)) := ⟨by rw [e1]; exact nd, fun c hc => by
      obtain ⟨p, hp, rfl⟩ := List.mem_map.mp hc
      rw [e1]
      exact sp p hp⟩
    have m0 : ZMid s z TI TO (ps.map fun p => ((p.1, p.2, itemsOf s.heap p.2) : Col)) i 0 f0 b arr s.heap := ⟨hz, hTO, by rw [List.map_map]; exact hTI, by rw [List.length_map]; exact hal, fun j c hc => by
      rw [if_neg (Nat.not_lt_zero _)]
      obtain ⟨p, hp, rfl⟩ := List.mem_map.mp (List.mem_of_getElem? hc)
      exact ⟨hit p hp, (hsrc p.2 (List.mem_map.mpr ⟨p, hp, rfl⟩)).1⟩, rfl, fun _ _ _ _ _ e => e⟩
    refine pyNext_zipN_item (A := X.A) (J.ok.hd hc) S (by simpa using hps) (by simpa using h100) (fun c hc => by
      obtain ⟨p, hp, rfl⟩ := List.mem_map.mp hc
      show i < (itemsOf s.heap p.2).size
      rw [(hsrc p.2 (List.mem_map.mpr ⟨p, hp, rfl⟩)).2]
      exact hin) hf0 m0 fun h' tk f1 b1 arr1 a1 a2 a3 a4 a5 a6 a7 a8 => ?_
    refine ⟨_, rfl, ?_⟩
    show wpAny _ _ (pure ()) _ _ _
    refine wpAny_pure ?_
    obtain ⟨row, r1, r2⟩ := rows_vals J hrows i n hlen hin
    have er : rowAt (ps.map fun p => ((p.1, p.2, itemsOf s.heap p.2) : Col)) i = (ps.map (·.2)).map fun a => (itemsOf s.heap a).getD i .none := by simp [rowAt, List.map_map]
    rw [er] at a8
    have hrl : row.length ≤ sizeLine := by
      have := r2.length
      simp only [List.length_map] at this
      rw [this]
      exact Nat.le_trans h100 (by decide)
    have new : ObjOk X.prog X.w (upd H s.heap.objs.size (.tup row)) h' s.heap.objs.size (.tup row) := ⟨hrl, _, r2, ⟨_, a8, rfl, _, rfl⟩⟩
    have J1 : Inv X pins σ (upd H s.heap.objs.size (.tup row)) { s with heap := h', toks := tk } :=
      J.turnedNew (ch := z :: TI :: TO :: ps.map (·.1)) (fun c o hb q => a7 c o (fun q' => hb (by simp [q'])) (fun q' => hb (by simp [q'])) (fun q' => hb (by rw [e1] at q'; exact List.mem_cons_of_mem _ (List.mem_cons_of_mem _ (List.mem_cons_of_mem _ q')))) q) hf (Nat.le_refl _) new
    refine ⟨.ref s.heap.objs.size, _, J1, rfl, ⟨_, row, rfl, J.hok.fresh (Nat.le_refl _), rfl, fun yss hy => by rw [rows_inj J hy hrows]; exact r1⟩, ⟨⟨f1, b1, a1, a2⟩, ⟨arr1, a3, by simpa using a5⟩, by rw [List.map_map] at a4; exact a4, fun p hp => ?_⟩, fun c hcm => ?_⟩
    · obtain ⟨j, hj, ej⟩ := List.mem_iff_getElem.mp hp
      have := a6 j (p.1, p.2, itemsOf s.heap p.2) (by rw [List.getElem?_map, List.getElem?_eq_getElem hj, ej]; rfl)
      rw [List.length_map, if_pos hj] at this
      exact this.1
    · have hlt : c < s.heap.objs.size := by
        simp only [List.mem_cons, List.mem_map] at hcm
        rcases hcm with rfl | rfl | rfl | ⟨p, hp, rfl⟩
        · exact Heap.lt_size hz
        · exact Heap.lt_size hTI
        · exact Heap.lt_size hTO
        · exact (hit p hp).lt
      rw [upd_ne (Nat.ne_of_lt hlt)]
      exact (hf c hcm).1
  done := by
    intro X hP hw hK hc i pins s σ H E J hf st hg
    subst hP hw hK
    obtain ⟨⟨f0, b, hf0, hz⟩, ⟨arr, hTO, hal⟩, hTI, hit⟩ := st
    obtain ⟨xss, hrows, hlen⟩ := hg
    have hsrc := rows_src J hrows i hlen
    have e1 : (ps.map fun p => ((p.1, p.2, itemsOf s.heap p.2) : Col)).map (·.1) = ps.map (·.1) := by simp
    have S : ZSep z TI TO (ps.map fun p => ((p.1, p.2, itemsOf s.heap p.2) : Col)) := ⟨by rw [e1]; exact nd, fun c hc => by
      obtain ⟨p, hp, rfl⟩ := List.mem_map.mp hc
      rw [e1]
      exact sp p hp⟩
    have m0 : ZMid s z TI TO (ps.map fun p => ((p.1, p.2, itemsOf s.heap p.2) : Col)) i 0 f0 b arr s.heap := ⟨hz, hTO, by rw [List.map_map]; exact hTI, by rw [List.length_map]; exact hal, fun j c hc => by
      rw [if_neg (Nat.not_lt_zero _)]
      obtain ⟨p, hp, rfl⟩ := List.mem_map.mp (List.mem_of_getElem? hc)
      exact ⟨hit p hp, (hsrc p.2 (List.mem_map.mpr ⟨p, hp, rfl⟩)).1⟩, rfl, fun _ _ _ _ _ e => e⟩
    obtain ⟨p0, rest, ep⟩ : ∃ p0 rest, ps = p0 :: rest := by
      cases ps with
      | nil => exact absurd rfl hps
      | cons p r => exact ⟨p, r, rfl⟩
    refine pyNext_zipN_end (A := X.A) (J.ok.hd hc) S (c := (p0.1, p0.2, itemsOf s.heap p0.2)) (by rw [ep]; rfl) (hsrc p0.2 (by rw [ep]; exact List.mem_cons_self)).2 hf0 m0 fun h' tk a7 => ⟨rfl, ?_⟩
    exact J.turnedL (t' := tk) (ch := z :: TI :: TO :: ps.map (·.1)) (fun c o hb q => a7 c o (fun q' => hb (by simp [q'])) (fun q' => hb (by simp [q'])) (fun q' => hb (by rw [e1] at q'; exact List.mem_cons_of_mem _ (List.mem_cons_of_mem _ (List.mem_cons_of_mem _ q')))) q) hf
  self := fun A i s Q E st h => by
    obtain ⟨⟨f0, b, _, hz⟩, _⟩ := st
    have hT : s.TypeIs (.ref z) "zip" := ⟨_, hz, rfl⟩
    refine wpAny_pyIter_slot hT F.slot_zip_iter (wpAny_call_entry F.slot_zip_iter hT F.entry_zip_iter ?_ (F.args_zip_iter_1 _))
    show wpAny _ _ (ret (.ref z)) _ _ s
    exact wpAny_pure ⟨_, rfl, "zip", _, hT, F.slot_zip_next.lookup, h⟩
def pushIts (h : Heap) (as : List Addr) : Heap := as.foldl (fun h a => h.push (itObj false a)) h
theorem push_size : ∀ (as : List Addr) (h : Heap), (pushIts h as).objs.size = h.objs.size + as.length
  | [], h => rfl
  | a :: as, h => by
    show (pushIts (h.push _) as).objs.size = _
    rw [push_size as, Heap.size_push, List.length_cons]; omega
theorem push_kp : ∀ (as : List Addr) (h : Heap) {b : Addr} {o : Obj}, h.get? b = some o → (pushIts h as).get? b = some o
  | [], h, _, _, e => e
  | a :: as, h, _, _, e => push_kp as (h.push _) (Heap.get?_push_of_some _ e)
theorem push_get : ∀ (as : List Addr) (h : Heap) {j : Nat} {a : Addr}, as[j]? = some a → (pushIts h as).get? (h.objs.size + j) = some (itObj false a)
  | a :: as, h, 0, b, e => by
    cases e
    exact push_kp as _ (Heap.get?_push_size _ rfl)
  | a :: as, h, j + 1, b, e => by
    have := push_get as (h.push (itObj false a)) (j := j) (a := b) (by simpa using e)
    rw [Heap.size_push, show h.objs.size + 1 + j = h.objs.size + (j + 1) by omega] at this
    exact this
theorem push_snoc (as : List Addr) (a : Addr) (h : Heap) : pushIts h (as ++ [a]) = (pushIts h as).push (itObj false a) := by simp [pushIts]
def itRefs (N n : Nat) : List Value := (List.range n).map fun j => Value.ref (N + j)
section
variable {prog : Program} {w : World} {A : Around} {E : Value → Shared → Prop} {hp : Heap} {g : Array GenState} {d : Drawn} {tk : Nat} {os : OsState}
theorem iterAll_tups (as : List Addr) (hs : ∀ a ∈ as, ∃ its, IsSrc false hp a its) {Q : List Value → Shared → Prop} (h : Q (itRefs hp.objs.size as.length) ⟨pushIts hp as, g, d, tk, os⟩) :
    wpAny (model prog w) A (Builtin.SmallTypes.iterAll (as.map Value.ref)) Q E ⟨hp, g, d, tk, os⟩ := by
  unfold Builtin.SmallTypes.iterAll
  refine wpAny_bind (forIn_all (fun k acc s' => acc.toList = itRefs hp.objs.size k ∧ s' = ⟨pushIts hp (as.take k), g, d, tk, os⟩) _ 0 _ _ ⟨rfl, rfl⟩ ?_ ?_)
  · rintro j x acc s' hx ⟨h1, rfl⟩
    rw [Nat.zero_add] at h1 ⊢
    rw [List.getElem?_map] at hx
    cases hj : as[j]? with
    | none => rw [hj] at hx; cases hx
    | some a =>
      rw [hj] at hx
      cases hx
      obtain ⟨its, hi⟩ := hs a (List.mem_of_getElem? hj)
      refine wpAny_bind (wpAny_holding ((begins_src false a its).iter prog w _ _ _ _ ((begins_src false a its).keeps _ _ hi fun b o e => push_kp _ _ e) ?_))
      refine wpAny_pure ⟨_, rfl, ?_, ?_⟩
      · rw [Array.toList_push, h1]
        have hl := (List.getElem?_eq_some_iff.mp hj).1
        show _ ++ [Value.ref (pushIts hp (as.take j)).objs.size] = _
        rw [push_size, List.length_take, Nat.min_eq_left (Nat.le_of_lt hl)]
        simp [itRefs, List.range_succ]
      · rw [List.take_add_one, hj, Option.toList_some, push_snoc]
  · rintro acc s' ⟨h1, rfl⟩
    simp only [List.length_map, Nat.zero_add, List.take_length] at h1 ⊢
    refine wpAny_pure ?_
    rw [h1]
    exact h
abbrev znT (h : Heap) (as : List Addr) : Heap := (pushIts h as).push { cls := .type "tuple", data := .seq (itRefs h.objs.size as.length).toArray }
abbrev znO (h : Heap) (as : List Addr) : Heap := (znT h as).push { cls := .type "tuple", data := .seq ((itRefs h.objs.size as.length).map fun _ => Value.none).toArray }
abbrev znZ (h : Heap) (as : List Addr) : Heap := (znO h as).push { cls := .type "zip", data := .fields #[.none, .bool false, .bool false, .ref (pushIts h as).objs.size, .ref (znT h as).objs.size] }
theorem meets_zip_newN (as : List Addr) (h100 : as.length ≤ 100) : Meets (Builtin.«zip.__new__» ⟨.type "zip" :: as.map Value.ref, []⟩) (fun _ R s => (∀ a ∈ as, ∃ its, IsSrc false s.heap a its) ∧
      R (.ok (.ret (.ref (znO s.heap as).objs.size))) { s with heap := znZ s.heap as }) :=
  .of_wp fun prog w A R s h => by
    obtain ⟨hp, g, d, tk, os⟩ := s; obtain ⟨h1, h⟩ := h
    have hsub := sub_zip
    have q1 : ∀ {A' : Around} {E : Value → Shared → Prop} {Q : List Value → Shared → Prop}, Q (itRefs hp.objs.size as.length) ⟨pushIts hp as, g, d, tk, os⟩ → wpAny (model prog w) A' (Builtin.SmallTypes.iterAll (as.map Value.ref)) Q E ⟨hp, g, d, tk, os⟩ := fun q => iterAll_tups as h1 q
    have z1 : (itRefs hp.objs.size as.length).length ≤ sizeLine := by simp [itRefs]; exact Nat.le_trans h100 (by decide)
    have z2 : ((itRefs hp.objs.size as.length).map fun _ => Value.none).length ≤ sizeLine := by rw [List.length_map]; exact z1
    wp_walk using q1
    exact ⟨_, rfl, h⟩
theorem tc_zip (vs : List Value) : checkTypeCall "zip" ⟨vs, []⟩ = pure () := by kernel_rfl
theorem nc_zip1 (a : Value) : checkBuiltinCall "zip.__new__" ⟨.type "zip" :: [a], []⟩ = pure () := by kernel_rfl
theorem nc_zip2 (a b : Value) : checkBuiltinCall "zip.__new__" ⟨.type "zip" :: [a, b], []⟩ = pure () := by kernel_rfl
theorem nc_zip3 (a b c : Value) : checkBuiltinCall "zip.__new__" ⟨.type "zip" :: [a, b, c], []⟩ = pure () := by kernel_rfl
theorem nc_zip4 (a b c d : Value) : checkBuiltinCall "zip.__new__" ⟨.type "zip" :: [a, b, c, d], []⟩ = pure () := by kernel_rfl
theorem nc_zip : ∀ (vs : List Value), 1 ≤ vs.length → vs.length ≤ 4 → checkBuiltinCall "zip.__new__" ⟨.type "zip" :: vs, []⟩ = pure ()
  | [a], _, _ => nc_zip1 a
  | [a, b], _, _ => nc_zip2 a b
  | [a, b, c], _, _ => nc_zip3 a b c
  | [a, b, c, d], _, _ => nc_zip4 a b c d
  | [], h, _ => absurd h (by decide)
  | _ :: _ :: _ :: _ :: _ :: l, _, h => absurd h (by simp)
theorem ao_1 (o a : Value) : argsOk "object.__init__" ⟨[o, a], []⟩ := by unfold argsOk; kernel_rfl
theorem ao_2 (o a b : Value) : argsOk "object.__init__" ⟨[o, a, b], []⟩ := by unfold argsOk; kernel_rfl
theorem ao_3 (o a b c : Value) : argsOk "object.__init__" ⟨[o, a, b, c], []⟩ := by unfold argsOk; kernel_rfl
theorem ao_4 (o a b c d : Value) : argsOk "object.__init__" ⟨[o, a, b, c, d], []⟩ := by unfold argsOk; kernel_rfl
theorem ao_zip (obj : Value) : ∀ (vs : List Value), 1 ≤ vs.length → vs.length ≤ 4 → argsOk "object.__init__" ⟨obj :: vs, []⟩
  | [a], _, _ => ao_1 _ _
  | [a, b], _, _ => ao_2 _ _ _
  | [a, b, c], _, _ => ao_3 _ _ _ _
  | [a, b, c, d], _, _ => ao_4 _ _ _ _ _
  | [], h, _ => absurd h (by decide)
  | _ :: _ :: _ :: _ :: _ :: l, _, h => absurd h (by simp)
theorem zipN_begins {s : Shared} (as : List Addr) (h1 : 1 ≤ as.length) (h4 : as.length ≤ 4) (hs : ∀ a ∈ as, ∃ its, IsSrc false s.heap a its) {Q : Value → Shared → Prop}
    (h : ∀ h', ZO h' (s.heap.objs.size + as.length + 2) (s.heap.objs.size + as.length) (s.heap.objs.size + as.length + 1) .none false → TupO h' (s.heap.objs.size + as.length) (itRefs s.heap.objs.size as.length) → TupO h' (s.heap.objs.size + as.length + 1) ((itRefs s.heap.objs.size as.length).map fun _ => Value.none) →
      (∀ j a, as[j]? = some a → h'.get? (s.heap.objs.size + j) = some (itObj false a)) → (∀ b o, s.heap.get? b = some o → h'.get? b = some o) → Q (.ref (s.heap.objs.size + as.length + 2)) { s with heap := h' }) :
    wpAny (model prog w) A (call (.type "zip") (as.map Value.ref)) Q E s := by
  refine callType_new F.called_zip (by decide) (tc_zip _) (nc_zip _ (by simpa using h1) (by simpa using h4)) (fun obj => ao_zip obj _ (by simpa using h1) (by simpa using h4)) F.entry_zip_new (meets_zip_newN as (by omega)) ⟨hs, ?_⟩
  have z1 : (pushIts s.heap as).objs.size = s.heap.objs.size + as.length := push_size _ _
  have z2 : (znT s.heap as).objs.size = s.heap.objs.size + as.length + 1 := by rw [Heap.size_push, z1]
  have z3 : (znO s.heap as).objs.size = s.heap.objs.size + as.length + 2 := by rw [Heap.size_push, z2]
  have gZ : (znZ s.heap as).get? (znO s.heap as).objs.size = some { cls := .type "zip", data := .fields #[.none, .bool false, .bool false, .ref (pushIts s.heap as).objs.size, .ref (znT s.heap as).objs.size] } := Heap.get?_push_size _ rfl
  have gO : (znZ s.heap as).get? (znT s.heap as).objs.size = some { cls := .type "tuple", data := .seq ((itRefs s.heap.objs.size as.length).map fun _ => Value.none).toArray } := Heap.get?_push_of_some _ (Heap.get?_push_size _ rfl)
  have gT : (znZ s.heap as).get? (pushIts s.heap as).objs.size = some { cls := .type "tuple", data := .seq (itRefs s.heap.objs.size as.length).toArray } := Heap.get?_push_of_some _ (Heap.get?_push_of_some _ (Heap.get?_push_size _ rfl))
  have up : ∀ {b o}, (pushIts s.heap as).get? b = some o → (znZ s.heap as).get? b = some o := fun e => Heap.get?_push_of_some _ (Heap.get?_push_of_some _ (Heap.get?_push_of_some _ e))
  rw [z1, z2] at gZ
  rw [z3] at gZ
  rw [z2] at gO
  rw [z1] at gT
  show _ ∧ _
  rw [z3]
  exact ⟨⟨_, gZ, rfl⟩, h _ gZ gT gO (fun j a e => up (push_get _ _ e)) fun b o e => up (push_kp _ _ e)⟩
end
theorem callWith_Sty {M : Model} {A : Around} {E : Value → Shared → Prop} {s : Shared} {env : Env} {pos p : Pos} {T : String} {e : Expr} {Q : Value → Shared → Prop}
    (h : wpAny M A (eval e env) (fun v s₁ => PySem.W.StarOf M A E v (fun vs s₂ => wpAny M A (call (.type T) vs) Q E s₂) s₁) E s) (he : starEach [.Starred e p] env = [(true, eval e env)] := by rfl) :
    wpAny M A (callWith pos (.type T) [] (backTo pos (starEach [.Starred e p] env)) []) Q E s := by
  rw [he]
  refine PySem.W.ks_call (P := fun _ => True) rfl (fun h _ => ⟨.machine, .inr (.inl rfl), fun A Q E s _ q => wpAny_pure q⟩) (PySem.W.ks_lone (wpAny_mono h (fun v s1 h1 => ?_) fun _ _ x => x))
  unfold PySem.W.StarOf at h1 ⊢
  exact wpAny_mono h1 (fun b s2 h2 => ⟨h2.1, wpAny_mono h2.2 (fun vs s3 h3 => ⟨trivial, h3⟩) fun _ _ x => x⟩) fun _ _ x => x
def iZipN (K : PySem.W.Frag) (te : TE) : TI := fun σ H R => te σ H fun x H1 => ∃ p as xss, x = .ref p ∧ SqT K H1 p (as.map V.ref) ∧ RowsAt K H1 as xss ∧ 1 ≤ as.length ∧ as.length ≤ 4 ∧ R (ItN K as) H1
theorem vals_refs : ∀ {as : List Addr} {us : List Value}, Vals (as.map V.ref) us → us = as.map Value.ref
  | [], [], .nil => rfl
  | a :: as, u :: us, .cons h r => by
    have h : u = Value.ref a := h
    rw [List.map_cons, vals_refs r, h]
theorem pi_zipN {X : Cx} {e : Expr} {te : TE} {p pos sp tpos : Pos} {x : Str} (hg : Gl X "zip") (hm : X.mg "zip" = none) (he : PE X e te) (hs : starEach [.Starred e sp] X.env = [(true, eval e X.env)] := by rfl) :
    PI X (.Name x tpos) (.Call (.Name "zip" p) [.Starred e sp] [] pos) (iZipN X.K te) := by
  refine ⟨fun pins s σ H R J h => Call_ (ld_blt J hg hm PyProof.Rows.boot_zip (callWith_Sty (thn (he.run pins s σ H _ J h) fun v s1 ⟨y, H1, J1, ry, q1⟩ => ?_) hs))⟩
  obtain ⟨a, as, xss, ey, hT, hR, h1, h4, q⟩ := q1
  subst ey
  obtain rfl : v = Value.ref a := ry
  refine StX.star_any J1 (.inl hT) fun us s2 J2 rv => ?_
  rw [vals_refs rv]
  have hsrc : ∀ b ∈ as, ∃ its, IsSrc false s2.heap b its ∧ b < s2.heap.objs.size := by
    clear rv hT h1 h4 q
    intro b hb
    induction hR with
    | nil => cases hb
    | @cons a xs as xss h r ih =>
      rcases List.mem_cons.mp hb with rfl | hb
      · obtain ⟨its, _, hs, _, hl⟩ := inv_src (l := false) J2 h
        exact ⟨_, hs, hl⟩
      · exact ih hb
  refine zipN_begins as h1 h4 (fun b hb => let ⟨its, h, _⟩ := hsrc b hb; ⟨its, h⟩) fun h' hz hTI hTO hit hk => ?_
  have em : (List.range as.length).map (fun j => s2.heap.objs.size + j) = ((List.range as.length).map fun j => (s2.heap.objs.size + j, as.getD j 0)).map (·.1) := by simp
  have ea : ((List.range as.length).map fun j => (s2.heap.objs.size + j, as.getD j 0)).map (·.2) = as := by
    apply List.ext_getElem
    · simp
    · intro j h1 h2
      simp only [List.map_map, List.getElem_map, List.getElem_range, Function.comp]
      rw [List.getD_eq_getElem?_getD, List.getElem?_eq_getElem h2]; rfl
  have fpm : ∀ c, c ∈ (s2.heap.objs.size + as.length + 2) :: (s2.heap.objs.size + as.length) :: (s2.heap.objs.size + as.length + 1) :: ((List.range as.length).map fun j => (s2.heap.objs.size + j, as.getD j 0)).map (·.1) → s2.heap.objs.size ≤ c := fun c hc => by
    rw [← em] at hc
    simp only [List.mem_cons, List.mem_map, List.mem_range] at hc
    rcases hc with rfl | rfl | rfl | ⟨j, hj, rfl⟩ <;> omega
  have nd : ((s2.heap.objs.size + as.length + 2) :: (s2.heap.objs.size + as.length) :: (s2.heap.objs.size + as.length + 1) :: ((List.range as.length).map fun j => (s2.heap.objs.size + j, as.getD j 0)).map (·.1)).Nodup := by
    rw [← em]
    simp only [List.nodup_cons, List.mem_cons, List.mem_map, List.mem_range, not_or, not_exists, not_and]
    refine ⟨⟨by omega, by omega, fun j hj e => ?_⟩, ⟨by omega, fun j hj e => ?_⟩, fun j hj e => ?_, ?_⟩
    · have : s2.heap.objs.size + j = s2.heap.objs.size + as.length + 2 := e
      omega
    · have : s2.heap.objs.size + j = s2.heap.objs.size + as.length := e
      omega
    · have : s2.heap.objs.size + j = s2.heap.objs.size + as.length + 1 := e
      omega
    · exact List.Pairwise.map _ (fun a b h e => h (Nat.add_left_cancel e)) List.nodup_range
  have T := turn_zipN (P := X.prog) (w := X.w) (K := X.K) (x := x) (tpos := tpos) ((List.range as.length).map fun j => (s2.heap.objs.size + j, as.getD j 0)) (by
    intro z
    have := congrArg List.length z
    rw [List.length_map, List.length_range, List.length_nil] at this
    omega) (by simp; omega) (z := s2.heap.objs.size + as.length + 2) (TI := s2.heap.objs.size + as.length) (TO := s2.heap.objs.size + as.length + 1) nd (fun p hp hc => by
    have h1 := fpm _ hc
    have h2 : p.2 ∈ as := by rw [← ea]; exact List.mem_map.mpr ⟨p, hp, rfl⟩
    obtain ⟨_, _, h3⟩ := hsrc p.2 h2
    exact absurd h3 (Nat.not_lt.mpr h1))
  rw [ea] at T
  have st : (∃ f0 b, (f0 = Value.none ∨ ∃ T : Nat, f0 = rawInt T) ∧ ZO h' (s2.heap.objs.size + as.length + 2) (s2.heap.objs.size + as.length) (s2.heap.objs.size + as.length + 1) f0 b) ∧ (∃ arr, TupO h' (s2.heap.objs.size + as.length + 1) arr ∧ arr.length = ((List.range as.length).map fun j => (s2.heap.objs.size + j, as.getD j 0)).length) ∧
      TupO h' (s2.heap.objs.size + as.length) (((List.range as.length).map fun j => (s2.heap.objs.size + j, as.getD j 0)).map fun p => .ref p.1) ∧ ∀ p ∈ ((List.range as.length).map fun j => (s2.heap.objs.size + j, as.getD j 0)), IsIt false h' p.1 p.2 0 := by
    refine ⟨⟨_, _, .inl rfl, hz⟩, ⟨_, hTO, by simp [itRefs]⟩, by rw [List.map_map]; exact hTI, fun p hp => ?_⟩
    obtain ⟨j, hj, rfl⟩ := List.mem_map.mp hp
    have hj := List.mem_range.mp hj
    refine IsIt.new (hit j _ ?_)
    rw [List.getD_eq_getElem?_getD, List.getElem?_eq_getElem hj]; rfl
  refine T.self X.A 0 _ _ _ st ?_
  refine ⟨_, _, _, _, H1, rfl, J2.kept (t' := s2.toks) hk, T, st, fun b hb => ?_, q⟩
  exact J2.fpOk (fpm b hb) (J2.hok.fresh (fpm b hb))
def tupsOf : List PyData → Option (List (List PyData))
  | [] => some []
  | .tuple xs :: r => (tupsOf r).map (xs :: ·)
  | _ :: _ => none
def zipRows (xss : List (List PyData)) : List PyData := match xss with
  | [] => []
  | x :: _ => (List.range x.length).map fun i => .tuple (xss.map fun ys => ys.getD i .none)
section
variable {S : Type}
def iZpN (a : Rho → S → Res S Val) : Rho → S → Res S (List PyData) := fun ρ st => (a ρ st).bind fun x st1 => match x with
  | .d (.tuple ds) => match tupsOf ds with
    | some xss => if 1 ≤ xss.length ∧ xss.length ≤ 4 ∧ ∀ ys ∈ xss, ys.length = (xss.headD []).length then .ok (zipRows xss) st1 else .stuck
    | none => .stuck
  | _ => .stuck
end
theorem tups_read {K : PySem.W.Frag} {I : Hp} : ∀ {vs : List V} {ds : List PyData} {xss : List (List PyData)}, RpAll K I vs ds → tupsOf ds = some xss → ∃ as uss, vs = as.map V.ref ∧ RowsAt K I as uss ∧ Paired (fun us xs => RpAll K I us xs) uss xss
  | _, [], xss, .nil, e => by cases e; exact ⟨[], [], rfl, .nil, .nil⟩
  | _, .tuple xs :: ds, xss, .cons (x := v) h r, e => by
    have e : (tupsOf ds).map (xs :: ·) = some xss := e
    obtain ⟨yss, e1, rfl⟩ := map_some e
    obtain ⟨as, uss, h1, h2, h3⟩ := tups_read r e1
    cases h with
    | tup a r' => exact ⟨_ :: as, _ :: uss, by rw [h1]; rfl, .cons a h2, .cons r' h3⟩
theorem rows_mono {K : PySem.W.Frag} {I J : Hp} (e : Same I J) {as : List Addr} {uss : List (List V)} (h : RowsAt K I as uss) : RowsAt K J as uss := by
  induction h with
  | nil => exact .nil
  | cons a _ ih => exact .cons (sqT_mono e a) ih
theorem row_rp {K : PySem.W.Frag} {I : Hp} {i : Nat} : ∀ {uss : List (List V)} {xss : List (List PyData)} {row : List V}, Paired (fun us xs => RpAll K I us xs) uss xss → Paired (fun xs x => xs[i]? = some x) uss row → (∀ ys ∈ xss, i < ys.length) → RpAll K I row (xss.map fun ys => ys.getD i .none)
  | [], [], [], .nil, .nil, _ => .nil
  | us :: uss, xs :: xss, x :: row, .cons h r, .cons h' r', hl => by
    refine .cons ?_ (row_rp r r' fun ys hy => hl ys (List.mem_cons_of_mem _ hy))
    have hi := hl xs List.mem_cons_self
    obtain ⟨y, h1, h2⟩ := h.get (List.getElem?_eq_getElem hi)
    rw [h'] at h1
    cases h1
    show Rp K I x (xs.getD i .none)
    rw [List.getD_eq_getElem?_getD, List.getElem?_eq_getElem hi]
    exact h2
theorem paired_len {K : PySem.W.Frag} {I : Hp} {uss : List (List V)} {xss : List (List PyData)} (h : Paired (fun us xs => RpAll K I us xs) uss xss) {n : Nat} (hl : ∀ ys ∈ xss, ys.length = n) : ∀ us ∈ uss, us.length = n := by
  induction h with
  | nil => intro us hu; cases hu
  | @cons us xs uss xss h r ih =>
    intro vs hv
    rcases List.mem_cons.mp hv with rfl | hv
    · rw [h.len]; exact hl _ List.mem_cons_self
    · exact ih (fun ys hy => hl ys (List.mem_cons_of_mem _ hy)) vs hv
theorem itd_zipN {K : PySem.W.Frag} {I : Hp} {as : List Addr} {uss : List (List V)} {xss : List (List PyData)} (h : RowsAt K I as uss) (r : Paired (fun us xs => RpAll K I us xs) uss xss) (h1 : 1 ≤ xss.length) (hl : ∀ ys ∈ xss, ys.length = (xss.headD []).length) : ItD K (ItN K as) I (zipRows xss) := by
  obtain ⟨x0, rest, rfl⟩ : ∃ x0 rest, xss = x0 :: rest := by
    cases xss with
    | nil => simp at h1
    | cons x r2 => exact ⟨x, r2, rfl⟩
  have hl : ∀ ys ∈ x0 :: rest, ys.length = x0.length := hl
  have hlen : (zipRows (x0 :: rest)).length = x0.length := by simp [zipRows]
  refine ⟨fun i I2 M2 H2 e k hi => ?_, fun I2 M2 H2 e k => ?_, fun i I2 M2 H2 x H3 e k hi y => ?_⟩
  · rw [hlen] at hi
    exact ⟨uss, x0.length, rows_mono (e.trans k.ih) h, paired_len r hl, hi⟩
  · rw [hlen]
    exact ⟨uss, rows_mono (e.trans k.ih) h, paired_len r hl⟩
  · rw [hlen] at hi
    obtain ⟨T, row, rfl, hT, rfl, hr⟩ := y
    have hrow := hr uss (rows_mono (e.trans k.ih) h)
    have rr := row_rp r hrow (fun ys hy => by rw [hl ys hy]; exact hi)
    obtain ⟨g, k'⟩ := Grow.alloc (o := .tup row) k hT
    refine ⟨.tuple ((x0 :: rest).map fun ys => ys.getD i .none), _, ?_, g, k', .tup (SqT.of upd_same) (rr.mono (e.trans g.i))⟩
    show ((List.range x0.length).map _)[i]? = _
    rw [List.getElem?_map, List.getElem?_range hi]
    rfl
theorem pid_zipN {U : Uni} {X : Cx} {W : WX} {e : Expr} {Fe : Rho → U.S → Res U.S Val} {p pos sp tpos : Pos} {x : Str} (hg : Gl X "zip") (hm : X.mg "zip" = none) (he : PEd U X W e Fe) (hs : starEach [.Starred e sp] X.env = [(true, eval e X.env)] := by rfl) :
    PId U X W (.Name x tpos) (.Call (.Name "zip" p) [.Starred e sp] [] pos) (iZpN Fe) := by
  refine pi_imp (pi_zipN hg hm he hs) fun σ H R h => ?_
  refine tG.bind h fun Z ρ st1 y u I1 M1 H1 ft hx ps => ?_
  match u, hx, ps with
  | .d (.tuple ds), hx, ps =>
    simp only at ps
    cases e1 : tupsOf ds with
    | none => rw [e1] at ps; exact False.elim ps
    | some xss =>
      rw [e1] at ps
      simp only at ps
      by_cases hc : 1 ≤ xss.length ∧ xss.length ≤ 4 ∧ ∀ ys ∈ xss, ys.length = (xss.headD []).length
      · rw [if_pos hc] at ps
        have hx : Rp X.K I1 y (.tuple ds) := hx
        cases hx with
        | tup a r =>
          obtain ⟨as, uss, rfl, h2, h3⟩ := tups_read r e1
          have l1 := Paired.length h2
          have l2 := Paired.length h3
          exact ⟨_, as, uss, rfl, sqT_mono ft.ok.ih a, rows_mono ft.ok.ih h2, by omega, by omega, ps _ I1 M1 H1 (Grow.refl _ _ _) ft.ok ft.rs (itd_zipN h2 h3 hc.1 hc.2.2)⟩
      · rw [if_neg hc] at ps
        exact False.elim ps
section
variable {U : Uni} {X : Cx} {W : WX} {a : Expr} {Fa : Rho → U.S → Res U.S Val} {pos p : Pos} {x : Str} {ad : Addr} {tb : List (Str × Addr)} {ks : List Str}
end
end Dl
set_option maxRecDepth 100000
namespace Dl
open PySem L2 PySem.Spec PyProof.Rows
def rSumT (K : PySem.W.Frag) : List V → Hp → VK → Prop := fun vs H Q => ∃ (a : Addr) (ns : List Int), vs = [V.ref a] ∧ SqT K H a (ns.map V.int) ∧ Q (.int ns.sum) H
theorem cr_sumT {X : Cx} (hc : X.calm = true) : CallR X (.builtin "sum") (rSumT X.K) := by
  intro pins s σ H vs us Q I r h
  obtain ⟨a, ns, rfl, hs, q⟩ := h
  obtain ⟨its, rv, hl, _⟩ := I.tuple hs
  rw [Vals.ref1 r]
  have hi := ints_of_vals rv
  obtain ⟨xs, hx⟩ := hi.allInts.items
  have hn : numsOf (intItems xs).toList = ns := by rw [← hx]; exact hi.numsOf
  rw [hx] at hl
  rw [nums_intItems] at hn
  refine PySem.W.ktm_sumG (I.ok.hd hc) hl fun h' tk t' hk => ?_
  refine ⟨.int _, H, I.kept hk, ⟨_, rfl⟩, ?_⟩
  rw [preSum_eq, List.take_of_length_le (by simp), hn]
  exact q
def bSumT : List Val → Option PyData
  | [.d (.tuple ds)] => (allInts ds).map fun ns => .int ns.sum
  | _ => none
theorem d_sumT {K : PySem.W.Frag} : CallD K (rSumT K) bSumT := by
  intro xs vs w I M H Q k hs e q
  unfold bSumT at e
  split at e
  · obtain ⟨x, rfl, hx⟩ := VRs.one hs
    obtain ⟨ns, e3, rfl⟩ := map_some e
    rename_i ds
    cases hx with
    | tup a r =>
      rw [allInts_eq e3] at r
      refine ⟨_, ns, rfl, ?_, q _ I H (Grow.refl _ _ _) k (.int _)⟩
      rw [← r.ints]
      exact sqT_mono k.ih a
  · cases e
end Dl
set_option maxRecDepth 100000
set_option maxHeartbeats 4000000
namespace Dl
open PySem L2 PySem.Spec PyProof.Rows
section
variable {S : Type}
end
theorem Vals.snoc {xs : List V} {us : List Value} {v : V} {u : Value} (r : Vals xs us) (h : RelV v u) : Vals (xs ++ [v]) (us ++ [u]) := r.append (.cons h .nil)
theorem VRs.append {K : PySem.W.Frag} {I : Hp} {M : Mw} {H : Hp} {xs ys : List V} {vs ws : List Val} (a : VRs K I M H xs vs) (b : VRs K I M H ys ws) : VRs K I M H (xs ++ ys) (vs ++ ws) := by
  induction a with
  | nil => exact b
  | cons h _ ih => exact .cons h ih
section
variable {U : Uni} {X : Cx} {W : WX} {k n : Nat} {f : Addr} {fd : FuncData} {ps : List Str} {F : List Val → U.S → Res U.S Val} {x kw : Str} {dd : PyData} {st0 : Stmt} {p pos : Pos} {e : Expr} {es : List Expr} {A B : Rho → U.S → Res U.S (List Val)}
end
end Dl
set_option maxRecDepth 100000
set_option maxHeartbeats 4000000
namespace Dl
open PySem L2 PySem.Spec PyProof.Rows
end Dl
set_option maxRecDepth 100000
set_option maxHeartbeats 4000000
namespace Dl
open PySem L2 PySem.Spec PyProof.Rows HT
section
variable {prog : Program} {w : World} {A : Around} {E : Value → Shared → Prop} {s : Shared}
end

section
variable {X : Cx}
def SlS (X : Cx) (r : V → Option Int → Int → Hp → VK → Prop) : Prop :=
  ∀ (pins : List (Addr × Obj)) (s : Shared) (σ : L2.St) (H : Hp) (x : V) (v vl vk : Value) (lo : Option Int) (k : Int) (sl : Addr) (Q : VK), Inv X pins σ H s → RelV x v → s.heap.IsSliceOf sl vl .none vk → IsPart vl lo → IsPart vk (some k) → r x lo k H Q →
    ∃ T id, typeLookup (.type T) "__getitem__" = pure (some (.builtin id)) ∧ s.TypeIs v T ∧ wpAny (model X.prog X.w) X.A (getItem v (.ref sl)) (EP X pins σ Q) X.xe s
theorem SlS.or {r r' : V → Option Int → Int → Hp → VK → Prop} (h : SlS X r) (h' : SlS X r') : SlS X (fun x lo k H Q => r x lo k H Q ∨ r' x lo k H Q) := by
  intro pins s σ H x v vl vk lo k sl Q I rx hs pl pk q
  rcases q with q | q
  · exact h pins s σ H x v vl vk lo k sl Q I rx hs pl pk q
  · exact h' pins s σ H x v vl vk lo k sl Q I rx hs pl pk q
end
theorem RpAll.back {K : PySem.W.Frag} {I : Hp} : ∀ {xs : List V} {ds : List PyData}, RpAll K I xs ds → RpAll K I xs.reverse ds.reverse
  | _, _, .nil => .nil
  | _, _, .cons h r => by
    rw [List.reverse_cons, List.reverse_cons]
    exact r.back.append (.cons h .nil)
section
variable {U : Uni} {X : Cx} {W : WX} {a b : Expr} {Fa Fb : Rho → U.S → Res U.S Val} {G1 G2 : Rho → U.S → Res U.S (Option Int)} {lo : Option Expr} {st : Expr} {pos p2 : Pos}
end
end Dl
set_option maxRecDepth 100000
set_option maxHeartbeats 4000000
namespace Dl
open PySem L2 PySem.Spec PyProof.Rows
end Dl
namespace Dl
open PySem L2 PySem.Spec PyProof.Rows
section
variable {S : Type}
def nSl (a : Rho → S → Res S Val) (lo hi : Rho → S → Res S (Option Int)) : Rho → S → Res S (List PyData) := fun ρ st => (a ρ st).bind fun x st1 => (lo ρ st1).bind fun l st2 => (hi ρ st2).bind fun h st3 => match lstOf x with
  | some ds => .ok (cutD ds l h) st3
  | none => .stuck
theorem x_nSl {a : Rho → S → Res S Val} {lo hi : Rho → S → Res S (Option Int)} {ρ : Rho} {st : S} : nSl a lo hi ρ st = @bnd _ _ _ (a ρ st) fun x st1 => @bnd _ _ _ (lo ρ st1) fun l st2 => @bnd _ _ _ (hi ρ st2) fun h st3 => match lstOf x with
  | some ds => .ok (cutD ds l h) st3
  | none => .stuck := rfl
end
section
variable {U : Uni} {X : Cx} {W : WX} {a : Expr} {Fa : Rho → U.S → Res U.S Val} {G1 G2 : Rho → U.S → Res U.S (Option Int)} {lo hi : Option Expr} {pos p2 : Pos}
end
end Dl
set_option maxRecDepth 100000
set_option maxHeartbeats 4000000
namespace Dl
open PySem L2 PySem.Spec PyProof.Rows
def eqK (t : Bool) (a b : List Int) : Bool := if t then decide (a = b) else decide (a.headD 0 = b.headD 0)
def putKs (t : Bool) (ks : List (List Int)) (k : List Int) : List (List Int) := if ks.any (fun a => eqK t a k) then ks else ks ++ [k]
def putDs {α : Type} (t : Bool) (ks : List (List Int)) (xs : List α) (k : List Int) (x : α) : List α := if ks.any (fun a => eqK t a k) then List.zipWith (fun a y => if eqK t a k then x else y) ks xs else xs ++ [x]
def getDs {α : Type} (t : Bool) (ks : List (List Int)) (xs : List α) (k : List Int) : Option α := ((ks.zip xs).find? fun p => eqK t p.1 k).map (·.2)
section
variable {U : Uni} {K : PySem.W.Frag}
theorem RpAll.zipW {I : Hp} {t : Bool} {k : List Int} {v : V} {d : PyData} (hv : Rp K I v d) : ∀ (ks : List (List Int)) {vs : List V} {ds : List PyData}, RpAll K I vs ds → RpAll K I (List.zipWith (fun a y => if eqK t a k then v else y) ks vs) (List.zipWith (fun a y => if eqK t a k then d else y) ks ds)
  | [], _, _, _ => .nil
  | _ :: _, _, _, .nil => .nil
  | a :: ks, _, _, .cons h r => by
    rw [List.zipWith_cons_cons, List.zipWith_cons_cons]
    refine .cons ?_ (RpAll.zipW hv ks r)
    cases eqK t a k
    · exact h
    · exact hv
theorem RpAll.put {I : Hp} {t : Bool} {ks : List (List Int)} {k : List Int} {v : V} {d : PyData} {vs : List V} {ds : List PyData} (r : RpAll K I vs ds) (hv : Rp K I v d) : RpAll K I (putDs t ks vs k v) (putDs t ks ds k d) := by
  unfold putDs
  by_cases q : (ks.any fun a => eqK t a k) = true
  · rw [if_pos q, if_pos q]; exact RpAll.zipW hv ks r
  · rw [if_neg q, if_neg q]; exact r.append (.cons hv .nil)
theorem RpAll.getD {I : Hp} {t : Bool} {k : List Int} {d : PyData} : ∀ {ks : List (List Int)} {vs : List V} {ds : List PyData}, RpAll K I vs ds → getDs t ks ds k = some d → ∃ v, getDs t ks vs k = some v ∧ Rp K I v d
  | [], _, _, _, e => by cases e
  | _ :: _, _, _, .nil, e => by cases e
  | a :: ks, _, _, .cons h r, e => by
    unfold getDs at e ⊢
    simp only [List.zip_cons_cons, List.find?_cons] at e ⊢
    cases z : eqK t a k with
    | true => rw [z] at e; cases e; exact ⟨_, rfl, h⟩
    | false => rw [z] at e; exact RpAll.getD r e
theorem Fit.ownd {Z : Base} {σ : L2.St} {ρ : Rho} {st : U.S} {I : Hp} {M : Mw} {H : Hp} (f : Fit U K Z σ ρ st I M H) {i : Nat} {t : Bool} {ks : List (List Int)} {ds : List PyData} (e : ρ[i]? = some (some (.ownd t ks ds))) : ∃ p vs, σ[i]? = some (some (.ref p)) ∧ H p = some (dHO t ks vs) ∧ I p = none ∧ M.h p = none ∧ ks.length = vs.length ∧ RpAll K I vs ds := by
  obtain ⟨x, h, p, vs, rfl, a, b, c, l, r⟩ := f.env i _ e
  exact ⟨p, vs, h, a, b, c, l, r⟩
end
end Dl
set_option maxRecDepth 100000
set_option maxHeartbeats 4000000
namespace Dl
open PySem L2 PySem.Spec PyProof.Rows
section
variable {S : Type}
def sNewD (i : Nat) (t : Bool) : Rho → S → SRes S := fun ρ st => .next (ρ.set i (some (.ownd t [] []))) st
def sPutI (i : Nat) (Fv Fk : Rho → S → Res S Val) : Rho → S → SRes S := fun ρ st => match ρ[i]? with
  | some (some (.ownd false ks ds)) => sBind (Fv ρ st) ρ fun v st1 => sBind (Fk ρ st1) ρ fun k st2 => (match v, k with
    | .d d, .d (.int z) => if ds.length < 1000000 then .next (ρ.set i (some (.ownd false (putKs false ks [z]) (putDs false ks ds [z] d)))) st2 else .stuck
    | _, _ => .stuck)
  | _ => .stuck
def intsOf : List PyData → Option (List Int)
  | [] => some []
  | .int z :: r => (intsOf r).map (z :: ·)
  | _ :: _ => none
def sPutT (i : Nat) (Fv : Rho → S → Res S Val) (A : Rho → S → Res S (List Val)) : Rho → S → SRes S := fun ρ st => match ρ[i]? with
  | some (some (.ownd true ks ds)) => sBind (Fv ρ st) ρ fun v st1 => sBind (A ρ st1) ρ fun k st2 => (match v, (datas k).bind intsOf with
    | .d d, some zs => if ds.length < 1000000 ∧ zs.length ≤ 1000 then .next (ρ.set i (some (.ownd true (putKs true ks zs) (putDs true ks ds zs d)))) st2 else .stuck
    | _, _ => .stuck)
  | _ => .stuck
def eGetO (i : Nat) (Fk : Rho → S → Res S Val) : Rho → S → Res S Val := fun ρ st => match ρ[i]? with
  | some (some (.ownd false ks ds)) => (Fk ρ st).bind fun k st1 => (match k with
    | .d (.int z) => lift (getDs false ks ds [z]) st1
    | _ => .stuck)
  | _ => .stuck
def eLenO (i : Nat) : Rho → S → Res S Val := fun ρ st => match ρ[i]? with
  | some (some (.ownd true ks _)) => .ok (.d (.int (ks.length : Nat))) st
  | _ => .stuck
end
section
variable {U : Uni} {X : Cx} {W : WX} {e f : Expr} {F G : Rho → U.S → Res U.S Val} {A : Rho → U.S → Res U.S (List Val)} {pos pos' pp : Pos}
end
end Dl
namespace Dl
open PySem L2 PySem.Spec PyProof.Rows
section
variable {U : Uni} {X : Cx} {W : WX} {pos p q : Pos}
end
end Dl
namespace Dl
open PySem L2
section
variable {S : Type} {E : En S} {ρ : Rho} {st : S} {i : Nat} {Fv Fk : Rho → S → Res S Val} {A : Rho → S → Res S (List Val)}
theorem w_newD {t : Bool} : @Ws _ (sNewD i t ρ st) E = E.n (ρ.set i (some (.ownd t [] []))) st := rfl
theorem w_putT : @Ws _ (sPutT i Fv A ρ st) E = match ρ[i]? with
  | some (some (.ownd true ks ds)) => @Wp _ _ (Fv ρ st) (fun c fs s => E.x c fs ρ s) fun v st1 => @Wp _ _ (A ρ st1) (fun c fs s => E.x c fs ρ s) fun k st2 => (match v, (datas k).bind intsOf with
    | .d d, some zs => (ds.length < 1000000 ∧ zs.length ≤ 1000) ∧ E.n (ρ.set i (some (.ownd true (putKs true ks zs) (putDs true ks ds zs d)))) st2
    | _, _ => False)
  | _ => False := by
  unfold sPutT
  split
  · rename_i ks ds e
    rw [show (@Ws _ (sBind (Fv ρ st) ρ _) E) = _ from propext ws_bind]
    congr 1
    funext v st1
    rw [show (@Ws _ (sBind (A ρ st1) ρ _) E) = _ from propext ws_bind]
    congr 1
    funext k st2
    split
    · rename_i d zs e2
      by_cases h : ds.length < 1000000 ∧ zs.length ≤ 1000
      · rw [if_pos h]; simp [Ws, h]
      · rw [if_neg h]; simp only [Ws]
        exact propext ⟨False.elim, fun z => h z.1⟩
    · rfl
  · rfl
theorem x_lenO : eLenO i ρ st = match ρ[i]? with
  | some (some (.ownd true ks _)) => .ok (.d (.int (ks.length : Nat))) st
  | _ => .stuck := rfl
theorem x_getO : eGetO i Fk ρ st = match ρ[i]? with
  | some (some (.ownd false ks ds)) => @bnd _ _ _ (Fk ρ st) fun k st1 => (match k with
    | .d (.int z) => lift (getDs false ks ds [z]) st1
    | _ => .stuck)
  | _ => .stuck := rfl
theorem w_putI : @Ws _ (sPutI i Fv Fk ρ st) E = match ρ[i]? with
  | some (some (.ownd false ks ds)) => @Wp _ _ (Fv ρ st) (fun c fs s => E.x c fs ρ s) fun v st1 => @Wp _ _ (Fk ρ st1) (fun c fs s => E.x c fs ρ s) fun k st2 => (match v, k with
    | .d d, .d (.int z) => ds.length < 1000000 ∧ E.n (ρ.set i (some (.ownd false (putKs false ks [z]) (putDs false ks ds [z] d)))) st2
    | _, _ => False)
  | _ => False := by
  unfold sPutI
  split
  · rename_i ks ds e
    rw [show (@Ws _ (sBind (Fv ρ st) ρ _) E) = _ from propext ws_bind]
    congr 1
    funext v st1
    rw [show (@Ws _ (sBind (Fk ρ st1) ρ _) E) = _ from propext ws_bind]
    congr 1
    funext k st2
    split
    · rename_i d z
      by_cases h : ds.length < 1000000
      · rw [if_pos h]; simp [Ws, h]
      · rw [if_neg h]; simp only [Ws]
        exact propext ⟨False.elim, fun z => h z.1⟩
    · rfl
  · rfl
end
end Dl
set_option maxRecDepth 100000
set_option maxHeartbeats 4000000
namespace Dl
open PySem L2 PySem.Spec PyProof.Rows
mutual
def noDict : PyData → Bool
  | .dict _ => false
  | .list xs => noDicts xs
  | .tuple xs => noDicts xs
  | _ => true
def noDicts : List PyData → Bool
  | [] => true
  | x :: xs => noDict x && noDicts xs
end
section
variable {K : PySem.W.Frag} {I : Hp} {p : Addr} {kvs : List (Key × V)}
theorem Ok.back {M : Mw} {H : Hp} {p : Addr} (k : Ok I M H) : Ok (del I p) ⟨M.h, M.ad, fun _ => none⟩ H :=
  ⟨fun a u e => by
    by_cases ha : a = p
    · subst ha; rw [show del I a a = none from if_pos rfl] at e; cases e
    · rw [del_ne ha] at e; exact k.ih a u e, k.mh, fun a e => by
    by_cases ha : a = p
    · subst ha; exact absurd (if_pos rfl) e
    · rw [del_ne ha] at e; exact k.dj a e, fun _ _ e => nomatch e⟩
end
end Dl
set_option maxRecDepth 100000
set_option maxHeartbeats 4000000
namespace Dl
open PySem L2 PySem.Spec PyProof.Rows
def lendV : Val → Val
  | .ownd false ks ds => .d (.dict ((ks.map fun k => PyData.int (k.headD 0)).zip ds))
  | v => v
def okD1 : List Val → Bool
  | [.d _, .ownd false _ _] => true
  | _ => false
/-- what a call gives back: data without dicts -/
def plainR {S : Type} : Res S Val → Res S Val
  | .ok (.d d) st => if noDict d then .ok (.d d) st else .stuck
  | _ => .stuck
section
variable {S : Type}
def eAppO (F : List Val → S → Res S Val) (a : Rho → S → Res S (List Val)) : Rho → S → Res S Val := fun ρ st => (a ρ st).bind fun xs st1 => if okD1 xs = true then plainR (F (xs.map lendV) st1) else .stuck
end
section
variable {U : Uni} {X : Cx} {W : WX} {k : Nat} {f : Addr} {fd : FuncData} {ps : List Str} {F : List Val → U.S → Res U.S Val} {x : Str} {p pos : Pos} {e : Expr} {es : List Expr} {A : Rho → U.S → Res U.S (List Val)}
end
end Dl
set_option maxRecDepth 100000
set_option maxHeartbeats 4000000
namespace Dl
open PySem L2 PySem.Spec PyProof.Rows
section
variable {S : Type}
def sParDV (i j : Nat) (F : Rho → S → Res S Val) : Rho → S → SRes S := fun ρ st => sBind (F ρ st) ρ fun v st2 => if isDR v = true then .next ((ρ.set i (some (.ownd false [] []))).set j (some v)) st2 else .stuck
variable {E : En S} {ρ : Rho} {st : S} {i j : Nat} {F : Rho → S → Res S Val}
theorem w_parDV : @Ws _ (sParDV i j F ρ st) E = @Wp _ _ (F ρ st) (fun c fs s => E.x c fs ρ s) fun v st2 => isDR v = true ∧ E.n ((ρ.set i (some (.ownd false [] []))).set j (some v)) st2 := by
  unfold sParDV
  rw [show (@Ws _ (sBind (F ρ st) ρ _) E) = _ from propext ws_bind]
  congr 1
  funext v st2
  by_cases h : isDR v = true
  · rw [if_pos h, h]; simp [Ws]
  · rw [if_neg h]; simp [Ws, h]
theorem x_appO {G : List Val → S → Res S Val} {A : Rho → S → Res S (List Val)} : eAppO G A ρ st = @bnd _ _ _ (A ρ st) fun xs st1 => if okD1 xs = true then plainR (G (xs.map lendV) st1) else .stuck := rfl
end
section
variable {U : Uni} {X : Cx} {W : WX} {i j : Nat} {x y : Str} {b : Expr} {px py pt pos pd : Pos} {kt : Nat} {k2 : Nat} {pt2 : Pos} {F : Rho → U.S → Res U.S Val}
end
end Dl
set_option maxRecDepth 100000
set_option maxHeartbeats 4000000
namespace Dl
open PySem L2 PySem.Spec PyProof.Rows
def keyIs (z : Int) : PyData → Bool
  | .int a => decide (a = z)
  | _ => false
def getDD : List (PyData × PyData) → Int → Option PyData
  | [], _ => none
  | (k, d) :: r, z => if keyIs z k then some d else getDD r z
def vGetD : Val → Val → Option PyData
  | .d (.dict kvs), .d (.int z) => getDD kvs z
  | _, _ => none
section
variable {K : PySem.W.Frag}
end
section
variable {U : Uni} {X : Cx} {W : WX} {a b : Expr} {pos : Pos} {Fa Fb : Rho → U.S → Res U.S Val}
end
section
variable {kvs : List (PyData × PyData)} {z : Int}
theorem q_getD : vGetD (.d (.dict kvs)) (.d (.int z)) = getDD kvs z := rfl
end
end Dl
set_option maxRecDepth 100000
set_option maxHeartbeats 4000000
namespace Dl
open PySem L2 PySem.Spec PyProof.Rows
section
variable {U : Uni} {X : Cx} {W : WX} {i j : Nat} {x y : Str} {a b : Expr} {px py pt pos : Pos} {kt : Nat} {k2 : Nat} {pt2 : Pos} {F : Rho → U.S → Res U.S Val} {N : Rho → U.S → Res U.S (List PyData)}
end
end Dl
set_option maxRecDepth 100000
set_option maxHeartbeats 4000000
namespace Dl
open PySem L2 PySem.Spec PyProof.Rows
section
variable {S : Type}
noncomputable def eTupR1 (a : Rho → S → Res S Val) : Rho → S → Res S Val := fun ρ st => (a ρ st).bind fun x st1 => match x with
  | .d (.int n) => cif (-1000000 ≤ n ∧ n ≤ 1000000) (.ok (.d (.tuple (fromTo 0 n))) st1) .stuck
  | _ => .stuck
noncomputable def eTupR2 (a b : Rho → S → Res S Val) : Rho → S → Res S Val := fun ρ st => (a ρ st).bind fun x st1 => (b ρ st1).bind fun y st2 => match x, y with
  | .d (.int i), .d (.int j) => cif (-1000000 ≤ i ∧ i ≤ 1000000 ∧ -1000000 ≤ j ∧ j ≤ 1000000) (.ok (.d (.tuple (fromTo i j))) st2) .stuck
  | _, _ => .stuck
variable {ρ : Rho} {st : S} {Fa Fb : Rho → S → Res S Val}
theorem x_tupR1 : eTupR1 Fa ρ st = @bnd _ _ _ (Fa ρ st) fun x st1 => match x with
  | .d (.int n) => cif (-1000000 ≤ n ∧ n ≤ 1000000) (.ok (.d (.tuple (fromTo 0 n))) st1) .stuck
  | _ => .stuck := rfl
theorem x_tupR2 : eTupR2 Fa Fb ρ st = @bnd _ _ _ (Fa ρ st) fun x st1 => @bnd _ _ _ (Fb ρ st1) fun y st2 => match x, y with
  | .d (.int i), .d (.int j) => cif (-1000000 ≤ i ∧ i ≤ 1000000 ∧ -1000000 ≤ j ∧ j ≤ 1000000) (.ok (.d (.tuple (fromTo i j))) st2) .stuck
  | _, _ => .stuck := rfl
end
section
variable {U : Uni} {X : Cx} {W : WX} {a b : Expr} {Fa Fb : Rho → U.S → Res U.S Val} {p p2 pos pos2 : Pos}
end
end Dl
set_option maxRecDepth 100000
set_option maxHeartbeats 4000000
namespace Dl
open PySem L2 PySem.Spec PyProof.Rows
structure Clau where
  c : Value
  nm : Option Nat
  ts : Addr → Value → Option Addr → TS
def offE (i : Nat) (D : Ends) : Ends := ⟨fun σ H => D.nx (σ.set i none) H, D.rt, fun σ H => D.bk (σ.set i none) H, fun σ H => D.ct (σ.set i none) H⟩
def Clau.goes (k : Clau) (D : Ends) (a : Addr) (cls : Value) (d : Option Addr) (σ : L2.St) (H : Hp) : Prop := match k.nm with
  | none => k.ts a cls d D σ H
  | some i => k.ts a cls d (offE i D) (σ.set i (some (.ref a))) H
section
variable {X : Cx} {body : List Stmt} {h0 : ExceptHandler} {hs : List ExceptHandler} {l : List Clau} {pos : Pos} {tb : WX → TS} {Wo : WX}
end
end Dl
set_option maxRecDepth 100000
set_option maxHeartbeats 4000000
namespace Dl
open PySem L2 PySem.Spec PyProof.Rows
section
variable {U : Uni} {X : Cx} {W : WX} {x1 x2 n y1 y2 : Str} {C1 C2 : Addr} {c1 c2 i j1 j2 : Nat} {body : List Stmt} {B : Rho → U.S → SRes U.S} {np1 np2 pos p1 p2 sp1 sp2 py1 py2 : Pos} {e1 e2 : Expr} {f : List PyData → Option PyData} {w : PyData}
end
end Dl
set_option maxRecDepth 100000
set_option maxHeartbeats 4000000
namespace Dl
open PySem L2 PySem.Spec PyProof.Rows
section
variable {Mo : Model} {A : Around} {E : Value → Shared → Prop} {s : Shared}
theorem each_ok {f : Value → PUnit → Sem (ForInStep PUnit)} {Q : PUnit → Shared → Prop} : ∀ {l : List Value}, (∀ c ∈ l, ∀ R : ForInStep PUnit → Shared → Prop, R (.yield ⟨⟩) s → wpAny Mo A (f c ⟨⟩) R E s) →
    Q ⟨⟩ s → wpAny Mo A (forIn l PUnit.unit f) Q E s
  | [], _, q => wpAny_pure q
  | c :: l, hf, q => by
    simp only [List.forIn_cons]
    exact wpAny_bind (hf c List.mem_cons_self _ (each_ok (fun c' h => hf c' (List.mem_cons_of_mem _ h)) q))
theorem find_ok {g : Value → Bool} {f : Value → Option Bool × Unit → Sem (ForInStep (Option Bool × Unit))} {Q : Option Bool × Unit → Shared → Prop} : ∀ {l : List Value},
    (∀ c ∈ l, ∀ R : ForInStep (Option Bool × Unit) → Shared → Prop, R (if g c = true then .done (some true, ()) else .yield (none, ())) s → wpAny Mo A (f c (none, ())) R E s) →
    Q (if l.any g = true then some true else none, ()) s → wpAny Mo A (forIn l ((none, ()) : Option Bool × Unit) f) Q E s
  | [], _, q => wpAny_pure q
  | c :: l, hf, q => by
    simp only [List.forIn_cons]
    refine wpAny_bind (hf c List.mem_cons_self _ ?_)
    cases h : g c with
    | true =>
      rw [if_pos rfl]
      rw [List.any_cons, h, Bool.true_or, if_pos rfl] at q
      exact wpAny_pure q
    | false =>
      rw [if_neg Bool.false_ne_true]
      rw [List.any_cons, h, Bool.false_or] at q
      exact find_ok (fun c' hc' => hf c' (List.mem_cons_of_mem _ hc')) q
end
theorem exm_list {Mo : Model} {K : PySem.W.Frag} {cs : List Value} {g : Value → Bool} {cls : Value} {tp e : Addr} {h : Heap} {ot : Obj} {n : Nat} (X : K.In h) (LT : PySem.W.Looks Mo h (typeOf (.ref e)) cls) (hp : h.get? tp = some ot) (hpc : ot.cls = .type "tuple") (hpd : ot.data = .seq cs.toArray n)
    (hx : ∀ c ∈ cs, PySem.W.exmOne K cls c = some (g c)) : PySem.W.Looks Mo h (excMatches (.ref e) (.ref tp)) (cs.any g) := by
  intro A Q E s k₀ q
  obtain ⟨hh, gg, d, tk, os⟩ := s
  have k : ∀ b o, h.get? b = some o → hh.get? b = some o := k₀
  have LT0 : PySem.W.Looks Mo h (isInstance (.ref tp) (.type "tuple")) true := by
    refine PySem.W.Looks.andThen (a := .type "tuple") (fun A Q E s k q => wpAny_typeOf_ref (k _ _ hp) (by rw [hpc]; exact q)) (PySem.W.Looks.of_pure isSubtype_tuple_tuple)
  have LT0 := LT0.keeps k
  have LT := LT.keeps k
  have hp' := k _ _ hp
  unfold excMatches
  refine wpAny_bind (LT0.at ?_)
  dsimp only
  rw [if_pos rfl]
  first
    | refine wpAny_bind (wpAny_seqItems hp' hpd ?_)
    | refine wpAny_bind (wpAny_bind (wpAny_seqItems hp' hpd (wpAny_pure ?_)))
  dsimp only [Option.getD_some, Option.getD]
  refine wpAny_bind (wpAny_pure ?_)
  refine wpAny_bind (each_ok (fun c hc R r => ?_) ?_)
  · obtain ⟨e1, S1⟩ := PySem.W.exm_cls (M := Mo) X (hx c (by simpa using hc))
    have e1 := e1.keeps k
    refine wpAny_bind (e1.at ?_)
    simp only [Bool.not_true, Bool.false_eq_true, if_false]
    first
      | exact wpAny_pure r
      | exact wpAny_bind (wpAny_pure (wpAny_pure r))
  · refine wpAny_bind (LT.at ?_)
    refine wpAny_bind (find_ok (g := g) (fun c hc R r => ?_) ?_)
    · obtain ⟨e1, S1⟩ := PySem.W.exm_cls (M := Mo) X (hx c (by simpa using hc))
      have S1 := S1.keeps k
      refine wpAny_bind (S1.at ?_)
      cases hg : g c with
      | true => rw [hg, if_pos rfl] at r; rw [if_pos rfl]; exact wpAny_pure r
      | false => rw [hg, if_neg Bool.false_ne_true] at r; rw [if_neg Bool.false_ne_true]; first | exact wpAny_pure r | exact wpAny_bind (wpAny_pure (wpAny_pure r))
    · cases ha : cs.any g with
      | true => simp only [ha, if_true]; rw [ha] at q; exact wpAny_pure q
      | false => simp only [ha, Bool.false_eq_true, if_false]; rw [ha] at q; exact wpAny_pure q

theorem inv_track {X : Cx} {pins : List (Addr × Obj)} {σ : L2.St} {H : Hp} {s : Shared} {a : Addr} {oe : Obj} {o : HO} (I : Inv X pins σ H s) (ha : s.heap.get? a = some oe) (hd : ∀ v, oe.data ≠ .cell v) (na : H a = none) (nL : a ≠ X.env.locals)
    (nS : X.s_0.heap.get? a = none) (nP : ∀ p ∈ X.pn ++ pins, p.1 ≠ a) (new : ObjOk X.prog X.w (upd H a o) s.heap a o) : Inv X pins σ (upd H a o) s := by
  have k : ∀ b u, H b = some u → upd H a o b = some u := fun b u e => by rw [upd_ne (ne_of_none e na)]; exact e
  have nC : ∀ x c, X.env.cells.lookup x = some c → c ≠ a := fun x c e z => by
    obtain ⟨v, oc, ho, hc⟩ := I.cell x c e
    rw [z, ha] at ho
    cases ho
    exact hd v hc
  refine ⟨I.ok, I.os, I.bare, ⟨I.base.keep, I.base.slot, fun b ob e n hx => ?_, I.base.there, fun b xs e => k _ _ (I.base.tups b xs e), fun b ob u e => k _ _ (I.base.frzs b ob u e), fun b ps e => ?_⟩, I.loc, I.cell, ?_, fun x c e => ?_, fun p hp => ?_, fun b u e => ?_, I.len⟩
  · have hne : b ≠ a := fun z => by rw [z, nS] at e; cases e
    rw [upd_ne hne]
    exact I.base.free b ob e n hx
  · obtain ⟨more, e1⟩ := I.base.tbls b ps e
    exact ⟨more, k _ _ e1⟩
  · rw [upd_ne nL.symm]; exact I.free
  · rw [upd_ne (nC x c e)]; exact I.freeC x c e
  · obtain ⟨e1, e2, e3⟩ := I.pin p hp
    exact ⟨e1, by rw [upd_ne (nP p hp)]; exact e2, e3⟩
  · by_cases hb : b = a
    · subst hb
      rw [upd_same] at e
      cases e
      exact new
    · rw [upd_ne hb] at e
      exact (I.hok b u e).stay (fun _ _ _ q => q) (fun c q => k _ _ q) fun c xs q => k _ _ q
/-- a caught exception: its class, its dict -/
def ExcH (a : Addr) (cls : Value) (d : Option Addr) : HO := .ext fun h => ∃ oe vs, h.get? a = some oe ∧ Zc cls d oe ∧ oe.data = .fields vs
theorem excH_ok {P : Program} {w : World} {H : Hp} {h : Heap} {a : Addr} {cls : Value} {d : Option Addr} {oe : Obj} {vs : Array Value} (e1 : h.get? a = some oe) (e2 : Zc cls d oe) (e3 : oe.data = .fields vs) : ObjOk P w H h a (ExcH a cls d) :=
  ⟨⟨oe, vs, e1, e2, e3⟩, ⟨oe, e1⟩, fun h1 h2 ⟨oe, vs, a1, a2, a3⟩ st => ⟨oe, vs, st _ a1, a2, a3⟩⟩

/-- what is wished of an exception of the body: each is caught, and is y's from then on -/
def wKept (K : PySem.W.Frag) (cs : List Value) (i j len : Nat) (D : Ends) : WX := fun cls d σ H =>
  (∃ g : Value → Bool, (∀ c ∈ cs, PySem.W.exmOne K cls c = some (g c)) ∧ cs.any g = true) ∧
    ∀ a tp, σ.length = len → H a = none → H tp = none → a ≠ tp → D.nx (((σ.set i (some (.ref a))).set j (some (.ref a))).set i none) (upd (upd H tp (.tup (cs.map fun c => match c with | .ref C => V.ref C | _ => V.non))) a (ExcH a cls d))
/-- the classes' names as a written tuple -/
def TupE (X : Cx) (te : Expr) (cs : List Value) : Prop := ∀ (a : Addr) (pn : List (Addr × Obj)), PE (X.suite a pn) te (fun _ H Q => ∀ p, H p = none → Q (.ref p) (upd H p (.tup (cs.map fun c => match c with | .ref C => V.ref C | _ => V.non))))
section
variable {X : Cx} {te : Expr} {cs : List Value} {n y : Str} {i j : Nat} {body : List Stmt} {np pe pos pos' sp py : Pos} {tb : WX → TS}
theorem ps_try_kept (hs : X.stack = X.env :: X.outer) (hf : X.env.frame = some X.env.locals) (hex : X.ex = []) (hN : X.N.Nodup) (hi : X.N[i]? = some n) (hln : X.env.kindOf n = some .local) (hj : X.N[j]? = some y) (hy : Loc X.env.scope y) (hte : TupE X te cs) (hcs : ∀ c ∈ cs, ∃ C, c = .ref C)
    (hb : ∀ (W : WX) (pn : List (Addr × Obj)) (xe : Value → Shared → Prop), Takes (X.tr pn xe) W → PassesOwn (model X.prog X.w) X.A X.env xe → PSs (X.tr pn xe) body (tb W))
    (hsw : swapsWith (.Name n pe) (some (.Name y py)) sp.line X.env = pure false := by rfl) (hfn : X.fn y = true ∨ X.env.scope.names.lookup y = some .local := by first | exact .inl rfl | exact .inr rfl | assumption)
    (hd : (n == ("__debug__" : Str)) = false := by decide) (hcd : (n == ("__classdict__" : Str)) = false := by decide) :
    PS X (.Try body [.ExceptHandler (some te) (some n) [.Assign [.Name y py] (.Name n pe) sp] pos'] [] [] pos) (fun D σ H => tb (wKept X.K cs i j X.N.length D) D σ H) := by
  refine ⟨fun pins s σ H D I h => ?_⟩
  have ok := I.ok
  have hfr : X.A.frames = some (X.env :: X.outer) := by rw [ok.frames, hs]
  refine wpAny_Try_except ?_
  refine wpAny_mono (PSs.run (hb (wKept X.K cs i j X.N.length D) (X.pn ++ pins) (fun e s₁ => wpAny (model X.prog X.w) X.A (noteFrame e X.env) (fun _ s₂ => wpAny (model X.prog X.w) X.A (setFlight e none) (fun _ s₃ =>
    wpAny (model X.prog X.w) X.A (handleBy e X.env [.ExceptHandler (some te) (some n) [.Assign [.Name y py] (.Name n pe) sp] pos']) (SP X pins D) X.xe s₃) X.xe s₂) X.xe s₁) (fun u s' xx => ?_) PassesOwn.looking) [] s σ H D (I.toTry _) h) (fun f s1 hsp => ?_) (fun e s1 he => he)
  · obtain ⟨a, B, sI, pins', σ', H', cls, d, rfl, J', nb, up, sky, na, os, ag, ⟨g, hg1, hg2⟩, hnx⟩ := xx
    have J : Inv X pins σ' H' sI := J'.ofTry ok
    have sky' : Sky B (X.env :: X.outer) a (Zc cls d) X.env.locals s'.heap := by rw [← hs]; exact sky
    show wpAny (model X.prog X.w) X.A (noteFrame (.ref a) X.env) _ _ _
    refine Sky.land Zc.steady hfr hf sky' fun h3 fl3 up3 => ?_
    have J3 : Inv X pins σ' H' { s' with heap := h3 } := J.landed nb fl3.1 (up.trans up3) os ag
    obtain ⟨k1, nBa, ff, oe, vs, T, oT, ts, he, hz, hd0, h1, nBT, hTe, hT, hdT, h3T⟩ := id fl3
    -- neither the exception nor its trace is a frame, or stood there before
    have noFr : ∀ {b : Addr} {o : Obj} {us : Array Value}, h3.get? b = some o → o.data = .fields us → b ≠ X.env.locals ∧ b ∉ X.fs := fun {b o us} e dd => by
      have q : b ∉ frs (X.env :: X.outer) := fun hm => by
        obtain ⟨_, o', e', hnf⟩ := ff.mem hm
        rw [e] at e'
        cases e'
        exact hnf _ dd
      refine ⟨fun z => q (List.mem_filterMap.mpr ⟨X.env, List.mem_cons_self, by rw [hf, z]⟩), fun hm => ?_⟩
      obtain ⟨e, he, qq⟩ := List.mem_filterMap.mp hm
      exact q (List.mem_filterMap.mpr ⟨e, List.mem_cons_of_mem _ he, qq⟩)
    obtain ⟨aL, aF⟩ := noFr he hd0
    obtain ⟨tL, tF⟩ := noFr hT hdT
    have out : ∀ {b : Addr}, B.get? b = none → b ≠ X.env.locals → b ∉ X.fs → sI.heap.get? b = none := fun {b} e1 e2 e3 => by
      cases q : sI.heap.get? b with
      | none => rfl
      | some o =>
        have z := nb b o q fun hm => by
          rcases List.mem_cons.mp (J.stkSub b hm) with w | w
          · exact e2 w
          · exact e3 w
        rw [e1] at z
        cases z
    have nT : H' T = none := by
      cases q : H' T with
      | none => rfl
      | some u =>
        obtain ⟨o', e⟩ : ∃ o', sI.heap.get? T = some o' := by
          have := (J.hok T u q).lt
          cases w : sI.heap.get? T with
          | some o' => exact ⟨o', rfl⟩
          | none =>
            have z := (J.inGround nb T u q).lt
            obtain ⟨_, hx⟩ : ∃ x, B.get? T = some x := by
              have hq := J.inGround nb T u q
              have hok3 := J3.hok T u q
              cases u with
              | lst xs => obtain ⟨_, _, _, _, e⟩ := hq; exact ⟨_, e⟩
              | tup xs => obtain ⟨_, _, _, o, e, _⟩ := hq; exact ⟨_, e⟩
              | dK kvs => obtain ⟨_, _, _, _, o, _, _, e, _⟩ := hq; exact ⟨_, e⟩
              | dT kvs => obtain ⟨_, _, _, _, o, _, _, e, _⟩ := hq; exact ⟨_, e⟩
              | set S n => obtain ⟨o, _, _, _, e, _⟩ := hq; exact ⟨_, e⟩
              | ins C dx fs => obtain ⟨_, _, _, e, _⟩ := hq; exact ⟨_, e⟩
              | own y => exact hq
              | xd fs => obtain ⟨_, ⟨_, _, _, e, _⟩, _⟩ := hq; exact ⟨_, e⟩
              | rng lo hi => obtain ⟨_, _, _, e⟩ := hq; exact ⟨_, e⟩
              | frz ob u => obtain ⟨e, _⟩ := hq; exact ⟨_, e⟩
              | tbl ps => exact ⟨_, hq⟩
              | met f y => exact ⟨_, hq⟩
              | ext φ => obtain ⟨_, e, _⟩ := hq; exact e
            rw [nBT] at hx
            cases hx
        rw [out nBT tL tF] at e
        cases e
    have S3 : Inv (X.suite a ((a, oe) :: (T, oT) :: (X.pn ++ pins))) [] σ' H' { s' with heap := h3 } :=
      ⟨J3.ok.suite _ _, J3.os, J3.bare, J3.base, J3.loc, J3.cell, J3.free, J3.freeC, fun p hp => by
        have hp' : p ∈ (a, oe) :: (T, oT) :: (X.pn ++ pins) := by rw [List.append_nil] at hp; exact hp
        rcases List.mem_cons.mp hp' with e | hp'
        · rw [e]; exact ⟨he, na, aL, aF, fun v z => by rw [hd0] at z; cases z⟩
        · rcases List.mem_cons.mp hp' with e | hp'
          · rw [e]; exact ⟨hT, nT, tL, tF, fun v z => by rw [hdT] at z; cases z⟩
          · exact J3.pin p hp', J3.hok, J3.len⟩
    refine wpAny_handleBy_cons (codeAny_handlers_test ?_) (by intro q; cases q)
    refine wpAny_mono ((hte a _).run [] _ σ' H' (fun v H4 => ∃ p, v = .ref p ∧ H' p = none ∧ H4 = upd H' p (.tup (cs.map fun c => match c with | .ref C => V.ref C | _ => V.non))) S3 fun p hp => ⟨p, rfl, hp, rfl⟩) (fun u s4 ⟨v, H4, S4, rv, p, ev, hp, eH⟩ => ?_) (fun _ _ z => False.elim z)
    subst ev
    obtain rfl : u = Value.ref p := rv
    subst eH
    obtain ⟨he4, na4, _⟩ := S4.pin (a, oe) (List.mem_append_left _ List.mem_cons_self)
    obtain ⟨hT4, nT4, _⟩ := S4.pin (T, oT) (List.mem_append_left _ (List.mem_cons_of_mem _ List.mem_cons_self))
    have hap : a ≠ p := fun z => by rw [z, upd_same] at na4; cases na4
    obtain ⟨_, its, rits, ot, hpt, hpc, nn, hpd⟩ := S4.hok p _ upd_same
    have hits : its = cs := by
      have key : ∀ (cs its : List Value), (∀ c ∈ cs, ∃ C, c = Value.ref C) → Vals (cs.map fun c => match c with | .ref C => V.ref C | _ => V.non) its → its = cs := by
        intro cs
        induction cs with
        | nil => intro its _ r; cases r; rfl
        | cons c cs ih =>
          intro its hc r
          obtain ⟨C, rfl⟩ := hc c List.mem_cons_self
          cases r with
          | cons r1 r2 =>
            obtain rfl := (show _ = Value.ref C from r1)
            rw [ih _ (fun c' h' => hc c' (List.mem_cons_of_mem _ h')) r2]
      exact key cs its hcs rits
    subst hits
    have LT : PySem.W.Looks (model X.prog X.w) s4.heap (typeOf (.ref a)) cls := fun A Q E s k q => wpAny_typeOf_ref (k _ _ he4) (by rw [hz.1]; exact q)
    have LM := exm_list (Mo := model X.prog X.w) S4.kIn LT hpt hpc hpd hg1
    rw [hg2] at LM
    refine LM.here ?_
    refine codeAny_handlers_suite_as ?_
    unfold setFlight
    have hsz3 : 3 < ts.size := (Array.getElem?_eq_some_iff.mp h3T).1
    refine wpAny_bind (wpAny_field he4 hd0 h1 ?_)
    rw [if_pos (show (Value.ref T != Value.none) = true from by simp)]
    refine wpAny_setField hT4 hdT hsz3 ?_
    have S5 := S4.kept (t' := s4.toks) (h' := s4.heap.update T (Obj.mapFields (·.setIfInBounds 3 ((none : Option Addr).elim Value.none fun f => rawInt f)))) fun b o e => by
      by_cases hb : b = T
      · subst hb
        rw [hT4] at e
        cases e
        refine (Heap.get?_update_self _ hT4 (Obj.isFreed_of_fields (Obj.data_mapFields hdT _))).trans ?_
        have ets : ts.setIfInBounds 3 Value.none = ts := by
          apply Array.ext_getElem?
          intro m
          by_cases hm : m = 3
          · subst hm
            simp [hsz3]
            exact (Array.getElem?_eq_some_iff.mp h3T).2.symm
          · simp [Array.getElem?_setIfInBounds, Ne.symm hm]
        have eo : oT.mapFields (·.setIfInBounds 3 ((none : Option Addr).elim Value.none fun f => rawInt f)) = oT := by
          obtain ⟨c0, d0, dt0, sl0⟩ := oT
          have : dt0 = .fields ts := hdT
          subst this
          show Obj.mk c0 d0 (.fields (ts.setIfInBounds 3 Value.none)) sl0 = _
          rw [ets]
        rw [eo]
      · exact (Heap.get?_update_other _ _ (Ne.symm hb)).trans e
    have hsuit := pss_one (ps_set (X := X.suite a ((a, oe) :: (T, oT) :: (X.pn ++ pins))) (i := j) (pos := sp) hN hj hy (pe_var (pos := pe) (i := i) hi (Or.inl hln) hd hcd) hsw hfn)
    refine store_ok (X := X.suite a ((a, oe) :: (T, oT) :: (X.pn ++ pins))) (v := .ref a) S5 hN hi (.inl hln) rfl (fun s5 S5 => ?_) (.inr hln)
    refine wpAny_mono (hsuit.run [] s5 _ _ { nx := fun σ6 H6 => σ6 = (σ'.set i (some (.ref a))).set j (some (.ref a)) ∧ H6 = upd H' p (.tup (its.map fun c => match c with | .ref C => V.ref C | _ => V.non)), rt := fun _ _ => False } S5 ?_) (fun f s6 hsp => ?_) (fun _ _ z => False.elim z)
    · refine ⟨.ref a, ?_, rfl, rfl⟩
      have hil : i < σ'.length := by rw [J.len]; exact (List.getElem?_eq_some_iff.mp hi).1
      exact List.getElem?_set_self hil
    cases f with
    | next =>
      obtain ⟨σ6, H6, S6, e6, eH6⟩ := hsp
      subst e6 eH6
      refine gone_ok (X := X.suite a ((a, oe) :: (T, oT) :: (X.pn ++ pins))) S6 hN hi hln fun s7 S7 => ?_
      have S8 : Inv X pins _ _ s7 := ⟨ok, S7.os, S7.bare, S7.base, S7.loc, S7.cell, S7.free, S7.freeC, fun p hp => S7.pin p (List.mem_append_left _ (List.mem_cons_of_mem _ (List.mem_cons_of_mem _ hp))), S7.hok, S7.len⟩
      obtain ⟨he7, na7, _⟩ := S7.pin (a, oe) (List.mem_append_left _ List.mem_cons_self)
      have nIa := out nBa aL aF
      refine ⟨_, _, inv_track (o := ExcH a cls d) S8 he7 (fun v z => by rw [hd0] at z; cases z) na7 aL ?_ (fun q hq z => ?_) (excH_ok he7 hz hd0), hnx a p J.len na hp hap⟩
      · cases w : X.s_0.heap.get? a with
        | none => rfl
        | some o =>
          obtain ⟨o', e1⟩ := J.base.there a o w (by rw [hex]; exact fun h => nomatch h)
          rw [nIa] at e1
          cases e1
      · obtain ⟨e1, _⟩ := J.pin q hq
        rw [z, nIa] at e1
        cases e1
    | brk =>
      obtain ⟨σ6, H6, S6, q6⟩ := hsp
      exact False.elim q6
    | cont =>
      obtain ⟨σ6, H6, S6, q6⟩ := hsp
      exact False.elim q6
    | ret u =>
      obtain ⟨v6, σ6, H6, S6, r6, q6⟩ := hsp
      exact False.elim q6
  · cases f with
    | next =>
      obtain ⟨σ', H', J', q⟩ := hsp
      exact wpAny_execs_nil ⟨σ', H', J'.ofTry ok, q⟩
    | brk =>
      obtain ⟨σ', H', J', q⟩ := hsp
      exact ⟨σ', H', J'.ofTry ok, q⟩
    | cont =>
      obtain ⟨σ', H', J', q⟩ := hsp
      exact ⟨σ', H', J'.ofTry ok, q⟩
    | ret u =>
      obtain ⟨v, σ', H', J', r, q⟩ := hsp
      exact ⟨v, σ', H', J'.ofTry ok, r, q⟩
end
end Dl
set_option maxRecDepth 100000
set_option maxHeartbeats 4000000
namespace Dl
open PySem L2 PySem.Spec PyProof.Rows LamX
inductive LamStep (H : Hp) (P : Addr) (q : Str) : Hp → Prop
  | hit : LamStep H P q H
  | new {ps : Array Value} {c : Addr} {p : Pos} (hP : H P = some (.tbl ps)) (ht : TriplesOk ps.toList) (hc : H c = none) : LamStep H P q (upd (upd H P (.tbl (ps ++ #[rawInt p.line, rawInt p.col, .ref c]))) c (CodeO c q))
section
variable {X : Cx} {pins : List (Addr × Obj)} {σ : L2.St} {H : Hp} {s : Shared}
theorem lam_made {c P : Addr} {params : Arguments} {body : Expr} {scope : Scope} {pos : Pos} {E Q : Value → Shared → Prop} (I : Inv X pins σ H s) (TB : TabB X.base X.mg c P) (hcode : X.env.code = .ref c)
    (hT : TabS H P (X.env.qual ++ "<lambda>")) (hdef : defaultsOf params X.env = ([], [])) (hfree : ∀ y ∈ scope.names, y.2 = .free → ∃ c, X.env.cells.lookup y.1 = some c)
    (h : ∀ (f c' : Addr) (pm ctv : Value) (H1 : Hp) (s' : Shared), Inv X pins σ H1 s' → LamStep H P (X.env.qual ++ "<lambda>") H1 → H1 f = none → f ∉ frs X.stack → H1 c' = some (CodeO c' (X.env.qual ++ "<lambda>")) →
      s'.heap.get? f = some (PySem.W.kla_obj "<lambda>" (X.env.qual ++ "<lambda>") params body scope (cloFrom X.env.cells scope.names []) pm c' ctv) → Q (.ref f) s') :
    wpAny (model X.prog X.w) X.A (eval (.Lambda params body scope pos) X.env) Q E s := by
  obtain ⟨ps, hP, ht, known⟩ := hT
  have atP : s.heap.get? P = some { cls := .none, data := .fields ps } := I.hok P _ hP
  have bP : s.heap.BuiltinsAt X.mg P := TB.bm.keeps I.bk
  have fresh : ∀ f, s.heap.objs.size ≤ f → f ∉ frs X.stack := fun f hf z => by
    have z' := I.stkSub _ z
    rw [List.mem_cons] at z'
    cases z' with
    | inl e => exact absurd (Nat.lt_of_lt_of_le I.lt (e ▸ hf)) (Nat.lt_irrefl _)
    | inr e => exact I.nofs hf e
  refine PySem.W.kla_eval hdef ?_
  match hc : codeAmong pos ps.toList with
  | some cv =>
    obtain ⟨c', rfl, hco⟩ := known pos cv hc
    refine PySem.W.kla_makeFunctionHit (mg := X.mg) (c := c) (P := P) (ps := ps) (closure_ok hfree) I.ok.glob (I.mod.glob.keeps I.bk) hcode (TB.code.keeps I.bk) atP ht hc bP fun ctv h' tk hx hsz => ?_
    exact h h'.objs.size c' _ ctv H _ (I.kept (t' := tk) fun b o e => Heap.get?_push_of_some _ (hx b o e)) .hit (I.hok.fresh hsz) (fresh _ hsz) hco (Heap.get?_push_size _ rfl)
  | none =>
    refine PySem.W.kla_makeFunction (mg := X.mg) (c := c) (P := P) (ps := ps) (closure_ok hfree) I.ok.glob (I.mod.glob.keeps I.bk) hcode (TB.code.keeps I.bk) atP ht hc TB.gP bP fun c' ctv h' tk hx hge hlt hrec htb => ?_
    obtain ⟨c2, oc, us, t, e2, hoc, hd, hv⟩ := hrec
    cases e2
    have nC : H c' = none := I.hok.fresh hge
    have hsz : s.heap.objs.size ≤ h'.objs.size := Nat.le_trans hge (Nat.le_of_lt hlt)
    have I1 := inv_table (t' := tk) (more := #[rawInt pos.line, rawInt pos.col, .ref c']) (q := X.env.qual ++ "<lambda>") (h' := h'.push (PySem.W.kla_obj "<lambda>" (X.env.qual ++ "<lambda>") params body scope (cloFrom X.env.cells scope.names []) ((X.mg "__name__").getD .none) c' ctv)) I hP
      (fun b o hb e => Heap.get?_push_of_some _ (hx b o hb e)) (Heap.get?_push_of_some _ htb) hge ⟨oc, us, t, Heap.get?_push_of_some _ hoc, hd, hv⟩
    refine h h'.objs.size c' _ ctv _ _ I1 (.new hP ht nC) ?_ (fresh _ hsz) upd_same (Heap.get?_push_size _ rfl)
    rw [upd_ne (Nat.ne_of_gt hlt), upd_ne (Nat.ne_of_gt (Nat.lt_of_lt_of_le (Heap.lt_size atP) hsz))]
    exact I.hok.fresh hsz
/-- the lambda at f is called, in a def that was entered at s -/
theorem lam_called {CXg : CXT} {Eg : XK} {Ng : List Str} {qg : Str} {sg : Scope} {g f c' : Addr} {cdg pm ctv : Value} {params : Arguments} {body : Expr} {scope : Scope} {k i : Nat} {a : Str} {pn : List (Addr × Obj)} {xe : Value → Shared → Prop} {W : WX} {E : XK} {tb : TE} {p1 p2 : Pos}
    (I : Inv X pins σ H s) (L : LamS X.env.scope scope) (hf : s.heap.get? f = some (PySem.W.kla_obj "<lambda>" (X.env.qual ++ "<lambda>") params body scope (cloFrom X.env.cells scope.names []) pm c' ctv)) (hfn : H f = none) (hfr : f ∉ frs X.stack)
    (hbind : bindArgs (PySem.W.kla_fn "<lambda>" (X.env.qual ++ "<lambda>") params body scope (cloFrom X.env.cells scope.names []) pm (.ref c') ctv) ⟨[], []⟩ = pure [])
    (tk : Takes ((cxOf CXg X.prog X.w X.K X.mg X.base Ng qg sg g cdg X.A X.stack s H Eg).tr pn xe) W) (hW : ∀ cls d σ' H', E cls d H' → W cls d σ' H') (hr : Room (k + 1) (X.A.deeper (envOfC qg sg s.heap.objs.size g cdg))) (hgd : X.A.guards = some [])
    (hbody : ∀ (A : Around) (outer : List Env) (s : Shared) (H : Hp), Room k (A.deeper (lamEnv X scope s.heap.objs.size f c')) → A.guards = some [] → PE (lamCx X A outer s H E scope f c') body tb)
    (hN : Ng[i]? = some a) (hv : Vis sg a) (hd : (a == ("__debug__" : Str)) = false := by decide) (hcd : (a == ("__classdict__" : Str)) = false := by decide) :
    PE ((cxOf CXg X.prog X.w X.K X.mg X.base Ng qg sg g cdg X.A X.stack s H Eg).tr pn xe) (.Call (.Name a p1) [] [] p2) (fun σZ HZ Q => σZ[i]? = some (some (.ref f)) ∧ HZ c' = some (CodeO c' (X.env.qual ++ "<lambda>")) ∧ tb σ HZ Q) := by
  refine ⟨fun pinsZ sZ σZ HZ Q IZ ⟨hs, hc, ht⟩ => wpAny_Call_Name_kw (thn (PE.run (pe_var (pos := p1) (i := i) hN hv hd hcd) pinsZ sZ σZ HZ (fun v H1 => v = .ref f ∧ H1 = HZ) IZ ⟨.ref f, hs, rfl, rfl⟩) ?_)⟩
  rintro u s1 ⟨v, H1, I1, r1, ev, eH⟩
  subst ev eH
  cases (show u = Value.ref f from r1)
  have un : Un (frs X.stack) [] H H1 s.heap s1.heap := I1.base
  have of1 := un.keep f _ hf hfn hfr (fun z => nomatch z)
  obtain ⟨⟨oc, vs, t, hoc, hdc, hvc⟩, _, _⟩ := I1.hok c' _ hc
  refine PySem.W.callWith_F0 ⟨_, _, _, _, of1⟩ (wpAny_call (codeAny_mono (R := CR (L2.CX X.prog X.w) (envOfC qg sg s.heap.objs.size g cdg :: X.stack) X.prog X.w H1 s1 Q E) ?_ fun r s' hq => ?_))
  · refine PySem.W.kla_callFunE hr.depth of1 rfl L.co L.gen rfl ⟨c', oc, vs, t, rfl, hoc, hdc, hvc⟩ ?_
    refine wpAny_of_eq hbind ?_
    refine (wpAny_newFunctionEnv (fun y hy => (L.own y hy).2) (fun y hy => absurd hy (by simp)) (fun h₁ hns hsb => ⟨I1.nolimit.fresh _ hsb, ?_⟩) L.kind)
    have kp : ∀ b o, s1.heap.get? b = some o → h₁.get? b = some o := fun b o e => hsb.extBut b o (Nat.ne_of_lt (Heap.lt_size e)) (Heap.get?_push_of_some _ e)
    have J := lam_start2 (A := X.A.deeper (envOfC qg sg s.heap.objs.size g cdg)) (outer := envOfC qg sg s.heap.objs.size g cdg :: X.stack) (E := E) (tk := s1.toks + ([] : List (Str × Value)).length) (f := f) (c' := c') I L I1.env0 hr.hd un hns kp
    refine PySem.W.kla_codeExpr (wpAny_mono (PE.run (hbody _ _ s1 H1 (hr.deeper _) hgd) [] _ _ H1 Q J ht) ?_ fun e s' hq => hq)
    rintro v s' ⟨w', H', J', rv, q⟩
    exact ⟨w', H', J'.os, J'.bare, J'.base, J'.hok, rv, q⟩
  · match r, hq with
    | .ok (.ret u), hq => exact I1.after hq
    | .error e, hq => exact passes_call tk hW pinsZ σZ H1 s1 e s' I1 hq
end
/-- what a def makes of the lambda that it got -/
def tLamG (P : Addr) (q : Str) (TT : (XK → Hp → VK → Prop) → Hp → VK → Prop) (t : XK → TE) : TE := fun σ H Q => TabS H P q ∧ ∀ H1, LamStep H P q H1 → TT (fun E H' Q' => t E σ H' Q') H1 Q
/-- x(lambda: body) -/
theorem pe_lamG {X : Cx} {TT : (XK → Hp → VK → Prop) → Hp → VK → Prop} {x a : Str} {g c P : Addr} {k : Nat} {pg : Arguments} {bg : List Stmt} {sg : Scope} {dV kV doc pm cdv ct oc : Value} {an od : Option Addr} {osl : Array (Option Value)} {Ng : List Str}
    {params : Arguments} {body : Expr} {scope : Scope} {t : XK → TE} {p lpos pos : Pos} (hg : Gl X x) (hm : X.mg x = some (.ref g)) (hk : PySem.W.keepIn X.K (.ref g) = true)
    (lk : X.K.lookup g = some ⟨oc, od, .func (PySem.W.fnOf x x pg bg sg dV kV doc pm an cdv ct), osl⟩) (hcg : PySem.W.codeIn X.K cdv x = true) (hb : L2.Binds X.K (PySem.W.fnOf x x pg bg sg dV kV doc pm an cdv ct) [a] []) (Sg : FnScope Ng [a] sg) (hNg : Ng[0]? = some a) (hva : Vis sg a)
    (hG : X.A.guards = some [] → GivesTo X Ng x sg g cdv bg a (X.env.qual ++ "<lambda>") TT) (TB : TabB X.base X.mg c P) (hcode : X.env.code = .ref c) (hr : Room (k + 2) X.A) (hgd : X.A.guards = some []) (L : LamS X.env.scope scope) (hdef : defaultsOf params X.env = ([], []))
    (hbind : ∀ (q : Str) (cl : List (Str × Addr)) (pm cv ctv : Value), bindArgs (PySem.W.kla_fn "<lambda>" q params body scope cl pm cv ctv) ⟨[], []⟩ = pure [])
    (hbody : ∀ (A : Around) (outer : List Env) (s : Shared) (H : Hp) (E : XK) (f c' : Addr), Room k (A.deeper (lamEnv X scope s.heap.objs.size f c')) → A.guards = some [] → PE (lamCx X A outer s H E scope f c') body (t E))
    (hdb : (x == ("__debug__" : Str)) = false := by decide) (hd : (a == ("__debug__" : Str)) = false := by decide) (hcd : (a == ("__classdict__" : Str)) = false := by decide) :
    PE X (.Call (.Name x p) [.Lambda params body scope lpos] [] pos) (tLamG P (X.env.qual ++ "<lambda>") TT t) := by
  refine ⟨fun pins s σ H Q I ⟨hT, h⟩ => wpAny_Call_Name_kw (ld_glob I hg hm ?_ hdb)⟩
  refine PySem.W.callWith_K (h₀ := X.base) I.ok.mod.kin hk ?_ (by rfl) (by rfl)
  refine Calls.spliced_cons (lam_made I TB hcode hT hdef (L.has I.ok) fun f c' pm' ctv H1 s' I1 hstep hfn hfr hco hf => Calls.spliced_nil ⟨I1.kIn, ?_⟩)
  refine wpAny_call (codeAny_mono (R := CR C8.CX0 X.stack X.prog X.w H1 s' Q C8.E0) ?_ fun r s2 hq => ?_)
  · refine run_ofS (N := Ng) (ps := [a]) (us := [.ref f]) (vs := [.ref f]) lk hcg Sg hr I1.env0 (hb s' [.ref f] I1.kIn rfl) (.cons rfl .nil) rfl fun hr' => ?_
    obtain ⟨t', ht', hq'⟩ := hG hgd f c' s' H1 Q (fun E H' Q' => t E σ H' Q') (fun W pn xe E p1 p2 tk hW => lam_called (i := 0) I1 L hf hfn hfr (hbind _ _ _ _ _) tk hW hr' hgd (fun A outer s H hr2 hgd2 => hbody A outer s H E f c' hr2 hgd2) hNg hva hd hcd) hco (h H1 hstep)
    exact ⟨t', ht'.nox, hq'⟩
  · match r, hq with
    | .ok (.ret u), hq => exact I1.after hq
    | .error e, hq => exact (show False from hq).elim
/-- the world goes on -/
theorem LamStep.grow {K : PySem.W.Frag} {tb : List (Addr × Str)} {I : Hp} {M : Mw} {H H1 : Hp} {st : DS} {P : Addr} {q : Str} (S : LamStep H P q H1) (ok : Ok I M H) (rd : RD K tb st M) (hm : (P, q) ∈ tb) (hu : ∀ p ∈ tb, p.1 = P → p.2 = q) :
    ∃ M1, Grow I M H I M1 H1 ∧ Ok I M1 H1 ∧ RD K tb st M1 := by
  cases S with
  | hit => exact ⟨M, Grow.refl _ _ _, ok, rd⟩
  | @new ps c p hP ht hc =>
    obtain ⟨ps', hP', ht', kn⟩ := rd.tab _ hm
    have e := ok.mh _ _ hP'
    rw [hP] at e
    cases e
    have mC : M.h c = none := ok.mh.free hc
    have nPc : P ≠ c := ne_of_none hP hc
    have iP : I P = none := by
      cases z : I P with
      | none => rfl
      | some u => exact absurd hP' (by rw [ok.dj P (ne_none_of z)]; exact fun z => nomatch z)
    have at_ : ∀ (G : Hp) b, b ≠ P → b ≠ c → upd (upd G P (.tbl (ps ++ #[rawInt p.line, rawInt p.col, .ref c]))) c (CodeO c q) b = G b := fun G b h1 h2 => by rw [upd_ne h2, upd_ne h1]
    have stay : ∀ b o, M.h b = some o → (∀ ps, o ≠ .tbl ps) → upd (upd M.h P (.tbl (ps ++ #[rawInt p.line, rawInt p.col, .ref c]))) c (CodeO c q) b = some o := fun b o e n => by
      rw [at_ M.h b (fun z => by rw [z, hP'] at e; cases e; exact n _ rfl) (ne_of_none e mC)]; exact e
    refine ⟨⟨upd (upd M.h P (.tbl (ps ++ #[rawInt p.line, rawInt p.col, .ref c]))) c (CodeO c q), M.ad, M.i⟩, ⟨Same.refl I, fun _ _ z => z, fun b e z => ?_, fun b o e m => ?_, fun b e => ?_, fun _ _ z => z⟩, ⟨fun b o e => ?_, fun b o e => ?_, fun b e => ?_, ok.mi⟩, ?_⟩
    · have hbc : b ≠ c := fun w => e (by rw [w]; exact hc)
      by_cases hb : b = P
      · rw [hb, hP']; exact fun z => nomatch z
      · have z : upd (upd M.h P (.tbl (ps ++ #[rawInt p.line, rawInt p.col, .ref c]))) c (CodeO c q) b ≠ none := z
        rw [at_ M.h b hb hbc] at z; exact z
    · rw [at_ H b (fun w => by rw [w, hP'] at m; cases m) (ne_of_none e hc)]; exact e
    · by_cases hb : b = c
      · rw [hb, upd_same]; exact fun z => nomatch z
      · rw [upd_ne hb]
        by_cases hb2 : b = P
        · rw [hb2, upd_same]; exact fun z => nomatch z
        · rw [upd_ne hb2]; exact e
    · rw [at_ H b (fun w => by rw [w, iP] at e; cases e) (ne_of_none (ok.ih b o e) hc)]; exact ok.ih b o e
    · have e : upd (upd M.h P (.tbl (ps ++ #[rawInt p.line, rawInt p.col, .ref c]))) c (CodeO c q) b = some o := e
      by_cases hb : b = c
      · rw [hb] at e ⊢; rw [upd_same] at e ⊢; exact e
      · rw [upd_ne hb] at e ⊢
        by_cases hb2 : b = P
        · rw [hb2] at e ⊢; rw [upd_same] at e ⊢; exact e
        · rw [upd_ne hb2] at e ⊢; exact ok.mh b o e
    · have n1 : b ≠ c := fun w => e (by rw [w]; exact ok.ih.free hc)
      have n2 : b ≠ P := fun w => e (by rw [w]; exact iP)
      show upd (upd M.h P (.tbl (ps ++ #[rawInt p.line, rawInt p.col, .ref c]))) c (CodeO c q) b = none
      rw [at_ M.h b n2 n1]
      exact ok.dj b e
    · obtain ⟨a, ha, hS⟩ := rd.scr
      refine ⟨⟨a, ha, hS.mono fun o u e => stay _ _ e (fun _ z => nomatch z)⟩, rd.len, rd.off, fun hon => ?_, fun r hr => ?_⟩
      · obtain ⟨m, c', l, e1, d⟩ := rd.dr hon
        exact ⟨m, c', l, e1, ⟨stay _ _ d.hm (fun _ z => nomatch z), stay _ _ d.hc (fun _ z => nomatch z), stay _ _ d.hl (fun _ z => nomatch z), d.ncl, d.lc, d.ll⟩⟩
      · by_cases hb : r.1 = P
        · rw [hu r hr hb, hb]
          refine ⟨_, by show upd (upd M.h P _) c _ P = _; rw [upd_ne nPc, upd_same], ?_, fun p' cv hcv => ?_⟩
          · rw [show (ps ++ #[rawInt p.line, rawInt p.col, Value.ref c]).toList = ps.toList ++ [rawInt p.line, rawInt p.col, .ref c] from by simp]
            exact PySem.TriplesOk_snoc _ _ _ _ ht
          · rw [show (ps ++ #[rawInt p.line, rawInt p.col, Value.ref c]).toList = ps.toList ++ [rawInt p.line, rawInt p.col, .ref c] from by simp] at hcv
            rcases among_app _ ht hcv with z | z
            · obtain ⟨c0, e1, e2⟩ := kn p' cv z
              exact ⟨c0, e1, stay _ _ e2 codeO_ne⟩
            · exact ⟨c, z, upd_same⟩
        · obtain ⟨ps2, a1, a2, a3⟩ := rd.tab r hr
          refine ⟨ps2, ?_, a2, fun p' cv hcv => ?_⟩
          · show upd (upd M.h P _) c _ r.1 = _
            rw [at_ M.h _ hb (ne_of_none a1 mC)]; exact a1
          · obtain ⟨c0, e1, e2⟩ := a3 p' cv hcv
            exact ⟨c0, e1, stay _ _ e2 codeO_ne⟩
end Dl
set_option maxRecDepth 100000
set_option maxHeartbeats 4000000
namespace Dl
open PySem L2 PySem.Spec PyProof.Rows LamX
theorem kit_of_exm {K : PySem.W.Frag} {D C : Addr} {b : Bool} (h : PySem.W.exmOne K (.ref D) (.ref C) = some b) (hne : b = false → D ≠ C) : PySem.W.kitOne K (.ref D) (.ref C) = some b := by
  unfold PySem.W.exmOne at h
  split at h
  · unfold PySem.W.kitOne
    by_cases e : D = C
    · cases b with
      | true => rw [e]; exact if_pos (beq_self_eq_true _)
      | false => exact absurd e (hne rfl)
    · rw [if_neg (fun z => e (Value.ref.inj (beq_iff_eq.mp z)))]
      exact h
  · cases h
section
variable {X : Cx} {pins : List (Addr × Obj)} {σ : L2.St} {H : Hp} {s : Shared}
theorem kept_at {a dd C : Addr} {fs : List (Str × V)} (I : Inv X pins σ H s) (h1 : H a = some (ExcH a (.ref C) (some dd))) (h2 : H dd = some (.xd fs)) :
    ∃ (oe od : Obj) (mA : Str → Option Value), PySem.W.InstAt s.heap a oe C (some od) ∧ (∀ n, RelO (fs.lookup n) (mA n)) ∧ ∀ n, PySem.W.lookIn n od = some (mA n) := by
  obtain ⟨⟨oe, vs, e1, e2, e3⟩, _, _⟩ := I.hok a _ h1
  have hx : ObjOk X.prog X.w H s.heap dd (.xd fs) := I.hok dd _ h2
  obtain ⟨mA, hns, hr⟩ := hx
  obtain ⟨od, ho, hl⟩ := lookIn_ns hns
  exact ⟨oe, od, mA, ⟨e1, e2.1, by unfold PySem.W.notCls; rw [e3] <;> rfl, by rw [e2.2]; exact ho⟩, hr, hl⟩
end
/-- isinstance(e, C), e a kept exception -/
def rIsK (K : PySem.W.Frag) : List V → Hp → VK → Prop := fun xs H Q => ∃ (a D dd C : Addr) (fs : List (Str × V)) (b : Bool), xs = [.ref a, .ref C] ∧ H a = some (ExcH a (.ref D) (some dd)) ∧ H dd = some (.xd fs) ∧ ExcC K D ∧ PySem.W.kitOne K (.ref D) (.ref C) = some b ∧ Q (.bl b) H
theorem call_isK {X : Cx} : CallR X (.builtin "isinstance") (rIsK X.K) := by
  intro pins s σ H xs us Q I r h
  obtain ⟨a, D, dd, C, fs, b, rfl, h1, h2, EC, e, q⟩ := h
  match us, r with
  | [u1, u2], .cons r1 (.cons r2 .nil) =>
    obtain rfl : u1 = Value.ref a := r1
    obtain rfl : u2 = Value.ref C := r2
    obtain ⟨oe, od, mA, J, _, _⟩ := kept_at I h1 h2
    obtain ⟨cd, hc, _⟩ := PySem.W.any_some EC.hd
    exact PySem.W.kia_one (PySem.W.kitx_exc (by rw [hc]; rfl) EC.hg EC.hk EC.hs EC.ha EC.hn EC.ht EC.hm) I.kIn J e (fun z => nomatch z) fun tk => ⟨.bl b, H, I.tok tk, rfl, q⟩
/-- e.f, e a kept exception -/
def tXk (K : PySem.W.Frag) (f : Str) (te : TE) : TE := fun σ H Q => te σ H fun x H1 => ∃ (a C dd : Addr) (fs : List (Str × V)) (v : V), x = .ref a ∧ H1 a = some (ExcH a (.ref C) (some dd)) ∧ H1 dd = some (.xd fs) ∧ XfC K C ∧ PySem.W.findIn K (.ref C) f = some none ∧ fs.lookup f = some v ∧ Q v H1
theorem pe_xk {X : Cx} {e : Expr} {te : TE} {n : Str} {pos : Pos} (he : PE X e te) (hb : attributeBase e n X.env (eval e X.env) = eval e X.env := by rfl) : PE X (.Attribute e n pos) (tXk X.K n te) := by
  refine ⟨fun pins s σ H Q I h => attr_of hb (thn (he.run pins s σ H _ I h) fun u s1 hh => ?_)⟩
  obtain ⟨x, H1, I1, rx, a, C, dd, fs, v, ex, h1, h2, T, hno, l, q⟩ := hh
  subst ex
  obtain rfl : u = Value.ref a := rx
  obtain ⟨oe, od, mA, J, hr, hl⟩ := kept_at I1 h1 h2
  obtain ⟨u, hu, ru⟩ := RelO.some_of (v := v) (o := mA n) (by rw [← l]; exact hr n)
  exact HandSPX.exc_get I1.kIn J T.ga T.gg T.exC (PySem.W.findObj_own T.hdC hno rfl (by rw [hl, hu])) (handed_of ru) ⟨v, H1, I1.tok _, ru, q⟩

def fltNm : Nat → Str
  | 0 => "BadLoops" | 1 => "BadLengths" | 2 => "BadPedal" | 3 => "BadRow" | 4 => "BadPaper" | 5 => "BadText" | 6 => "OutOfPlace" | 7 => "TooGreat" | _ => "Nothing"
def fltFs : Nat → List Str
  | 4 => ["part"] | 5 => ["word", "line"] | 6 => ["text"] | 7 => ["most"] | 8 => ["text"] | _ => ["place"]
/-- what a refusal is told as -/
def tell : Nat → List PyData → Option PyData
  | 0, [p] => some (.tuple [.str "loops", p])
  | 1, [p] => some (.tuple [.str "lengths", p])
  | 2, [p] => some (.tuple [.str "pedal", p])
  | 3, [p] => some (.tuple [.str "row", p])
  | 4, [p] => some (.tuple [.str "paper", p])
  | 5, [w, l] => some (.tuple [.str "text", l, w])
  | 6, [_] => some (.tuple [.str "place", .none])
  | 7, [m] => some (.tuple [.str "great", m])
  | 8, [_] => some (.tuple [.str "nothing", .none])
  | _, _ => none
structure FltT (K : PySem.W.Frag) (mg : Str → Option Value) (cl : Nat → Option (Addr × List Str)) where
  C : Nat → Addr
  m : ∀ i, i < 9 → mg (fltNm i) = some (.ref (C i))
  hcl : ∀ i D nms, cl i = some (D, nms) → i < 9 ∧ D = C i ∧ nms = fltFs i
  ec : ∀ i D nms, cl i = some (D, nms) → ExcC K D ∧ XfC K D ∧ ∀ n ∈ nms, PySem.W.findIn K (.ref D) n = some none
  exm : ∀ i D nms, cl i = some (D, nms) → ∀ j, j < 9 → PySem.W.exmOne K (.ref D) (.ref (C j)) = some (decide (i = j))
theorem FltT.kit {K : PySem.W.Frag} {mg : Str → Option Value} {cl : Nat → Option (Addr × List Str)} (T : FltT K mg cl) {i j : Nat} {D : Addr} {nms : List Str} (h : cl i = some (D, nms)) (hj : j < 9) : PySem.W.kitOne K (.ref D) (.ref (T.C j)) = some (decide (i = j)) := by
  refine kit_of_exm (T.exm i D nms h j hj) fun hd z => ?_
  have e := T.exm i D nms h j hj
  have e2 := T.exm i D nms h i (T.hcl i D nms h).1
  rw [← (T.hcl i D nms h).2.1] at e2
  rw [← z, e2, hd] at e
  simp at e
/-- one row of _law_fault -/
def tFlt (K : PySem.W.Frag) (C : Addr) (tt : TA) : TS := fun D σ H => ∃ (a E dd : Addr) (fs : List (Str × V)) (b : Bool), σ[0]? = some (some (.ref a)) ∧ H a = some (ExcH a (.ref E) (some dd)) ∧ H dd = some (.xd fs) ∧ ExcC K E ∧ PySem.W.kitOne K (.ref E) (.ref C) = some b ∧
  (b = false → D.nx σ H) ∧ (b = true → ∃ p, σ[1]? = some (some (.ref p)) ∧ H p = some (.lst []) ∧ tt σ H fun xs H1 => xs.length ≤ sizeLine ∧ ∀ q, H1 q = none → rAppend (.ref p) [.ref q] (upd H1 q (.tup xs)) fun _ H3 => D.nx σ H3)
section
variable {X : Cx} {nm : Str} {C : Addr} {es : List Expr} {tt : TA} {k : Nat}  {p1 p2 p3 p4 p5 p6 p7 p8 p9 p10 : Pos}
theorem ps_flt (h0 : X.N[0]? = some ("e" : Str)) (v0 : Vis X.env.scope "e") (h1 : X.N[1]? = some ("told" : Str)) (v1 : Vis X.env.scope "told") (hgi : Gl X "isinstance") (hmi : X.mg "isinstance" = none) (hg : Gl X nm) (hm : X.mg nm = some (.ref C)) (ht : PA X es tt) (hd : (nm == ("__debug__" : Str)) = false := by decide)
    (hs : starEach [.Name "e" p2, .Name nm p3] X.env = (false, eval (.Name "e" p2) X.env) :: starEach [.Name nm p3] X.env := by rfl)
    (he : ∀ whole, isTrue (.Call (.Name "isinstance" p1) [.Name "e" p2, .Name nm p3] [] p4) X.env whole = (do let v ← whole; standAt (Expr.Call (.Name "isinstance" p1) [.Name "e" p2, .Name nm p3] [] p4).pos; holding [v] (truthy v)) := by intro _; rfl)
    (hbase : attributeBase (.Name "told" p5) "append" X.env (eval (.Name "told" p5) X.env) = eval (.Name "told" p5) X.env := by rfl)
    (hfew : ((backTo p8 (starEach [.Tuple es k p7] X.env)).all (fun x => !x.1) && (backToKw p8 (keywordEach [] X.env)).all (fun x => x.1.isSome)
      && decide (([.Tuple es k p7] : List Expr).length + ([] : List Keyword).length + (if ([] : List Keyword).isEmpty then 0 else 1) < 30)) = true := by rfl)
    (hline : (p6.endLine == p8.line) = true := by rfl) (hs2 : starEach [.Tuple es k p7] X.env = (false, eval (.Tuple es k p7) X.env) :: starEach [] X.env := by rfl) (hplain : (backTo p8 (starEach [] X.env)).any (·.1) = false := by rfl)
    (hsw : swapsWith (.Call (.Attribute (.Name "told" p5) "append" p6) [.Tuple es k p7] [] p8) none p9.line X.env = pure false := by rfl) :
    PS X (.If (.Call (.Name "isinstance" p1) [.Name "e" p2, .Name nm p3] [] p4) [.Expr (.Call (.Attribute (.Name "told" p5) "append" p6) [.Tuple es k p7] [] p8) p9] [] p10) (tFlt X.K C tt) := by
  refine ps_imp (ps_if (pt_val (pe_callB call_isK hgi hmi (by decide +kernel) (pa_cons (pe_var h0 v0 (by decide) (by decide)) (pa_cons (pe_glob (v := .ref C) hg hm rfl hd) pa_nil)) (by decide) (by decide) hs) he)
    (pss_one (ps_expr (pe_bm PySem.F.plainAttrs_list PySem.F.slot_list_append PySem.F.type_list_append mt_append (pe_var h1 v1 (by decide) (by decide)) (pa_cons (pe_tup ht) pa_nil hs2) hbase hfew hline hs2 hplain) hsw)) pss_nil) fun D σ H h => ?_
  obtain ⟨a, E, dd, fs, b, e0, ea, ed, EC, ek, hno, hyes⟩ := h
  refine ⟨_, e0, a, E, dd, C, fs, b, rfl, ea, ed, EC, ek, b, rfl, ?_⟩
  cases b with
  | false => exact hno rfl
  | true =>
    obtain ⟨p, e1, ep, ht⟩ := hyes rfl
    exact ⟨_, e1, .inl ⟨rfl, _, SqL.of ep⟩, ht⟩
end

/-- what the rows put in -/
def tRow (K : PySem.W.Frag) : Nat → TA
  | 0 => tCons (tC (.str "loops")) (tCons (tXk K "place" (tVar 0)) tNil)
  | 1 => tCons (tC (.str "lengths")) (tCons (tXk K "place" (tVar 0)) tNil)
  | 2 => tCons (tC (.str "pedal")) (tCons (tXk K "place" (tVar 0)) tNil)
  | 3 => tCons (tC (.str "row")) (tCons (tXk K "place" (tVar 0)) tNil)
  | 4 => tCons (tC (.str "paper")) (tCons (tXk K "part" (tVar 0)) tNil)
  | 5 => tCons (tC (.str "text")) (tCons (tXk K "line" (tVar 0)) (tCons (tXk K "word" (tVar 0)) tNil))
  | 6 => tCons (tC (.str "place")) (tCons (tC .non) tNil)
  | 7 => tCons (tC (.str "great")) (tCons (tXk K "most" (tVar 0)) tNil)
  | _ => tCons (tC (.str "nothing")) (tCons (tC .non) tNil)
def tRows (K : PySem.W.Frag) (C : Nat → Addr) : List Nat → TS → TS
  | [], t => t
  | j :: r, t => tSeq (tFlt K (C j) (tRow K j)) (tRows K C r t)
/-- a kept exception of the c-th class -/
structure Kept (K : PySem.W.Frag) (cl : Nat → Option (Addr × List Str)) (I H : Hp) (a : Addr) (c : Nat) (fs : List PyData) (E dd : Addr) (nms : List Str) (vs : List V) : Prop where
  hcl : cl c = some (E, nms)
  ha : H a = some (ExcH a (.ref E) (some dd))
  hd : H dd = some (.xd (nms.zip vs))
  hl : nms.length = vs.length
  hr : RpAll K I vs fs
theorem excH_ne {a : Addr} {cls : Value} {d : Option Addr} {xs : List V} : ExcH a cls d ≠ .lst xs := fun z => by unfold ExcH at z; cases z
section
variable {K : PySem.W.Frag} {mg : Str → Option Value} {cl : Nat → Option (Addr × List Str)} {I H : Hp} {a E dd p : Addr} {c : Nat} {fs : List PyData} {nms : List Str} {vs : List V} {σ : L2.St} {D : Ends}
theorem Kept.mono {H' : Hp} (k : Kept K cl I H a c fs E dd nms vs) (h1 : ∀ o, H a = some o → H' a = some o) (h2 : ∀ o, H dd = some o → H' dd = some o) : Kept K cl I H' a c fs E dd nms vs := ⟨k.hcl, h1 _ k.ha, h2 _ k.hd, k.hl, k.hr⟩
theorem row_ok (T : FltT K mg cl) (k : Kept K cl I H a c fs E dd nms vs) (hσ : σ[0]? = some (some (.ref a))) {ds : List PyData} (ht : tell c fs = some (.tuple ds)) {Q : List V → Hp → Prop} (q : ∀ xs, RpAll K I xs ds → xs.length ≤ 5 → Q xs H) : tRow K c σ H Q := by
  obtain ⟨h9, eD, eN⟩ := T.hcl c E nms k.hcl
  obtain ⟨EC, XC, hno⟩ := T.ec c E nms k.hcl
  have hr := k.hr
  have hl := k.hl
  have hd := k.hd
  have h1 := k.ha
  subst eN
  match c, h9, fs, ht with
  | 0, _, [x], ht | 1, _, [x], ht | 2, _, [x], ht | 3, _, [x], ht =>
    all_goals
      cases ht
      match vs, hr with
      | [v], .cons r .nil => exact ⟨_, hσ, a, E, dd, _, v, rfl, h1, hd, XC, hno _ List.mem_cons_self, rfl, q _ (.cons (.str _) (.cons r .nil)) (Nat.le_of_ble_eq_true rfl)⟩
  | 4, _, [x], ht =>
    cases ht
    match vs, hr with
    | [v], .cons r .nil => exact ⟨_, hσ, a, E, dd, _, v, rfl, h1, hd, XC, hno _ List.mem_cons_self, rfl, q _ (.cons (.str _) (.cons r .nil)) (Nat.le_of_ble_eq_true rfl)⟩
  | 5, _, [x, y], ht =>
    cases ht
    match vs, hr with
    | [v, u], .cons r (.cons r2 .nil) =>
      exact ⟨_, hσ, a, E, dd, _, u, rfl, h1, hd, XC, hno _ (List.mem_cons_of_mem _ List.mem_cons_self), rfl, _, hσ, a, E, dd, _, v, rfl, h1, hd, XC, hno _ List.mem_cons_self, rfl, q _ (.cons (.str _) (.cons r2 (.cons r .nil))) (Nat.le_of_ble_eq_true rfl)⟩
  | 6, _, [x], ht =>
    cases ht
    exact q _ (.cons (.str _) (.cons .non .nil)) (by decide)
  | 7, _, [x], ht =>
    cases ht
    match vs, hr with
    | [v], .cons r .nil => exact ⟨_, hσ, a, E, dd, _, v, rfl, h1, hd, XC, hno _ List.mem_cons_self, rfl, q _ (.cons (.str _) (.cons r .nil)) (Nat.le_of_ble_eq_true rfl)⟩
  | 8, _, [x], ht =>
    cases ht
    exact q _ (.cons (.str _) (.cons .non .nil)) (by decide)
theorem rows_no (T : FltT K mg cl) (k : Kept K cl I H a c fs E dd nms vs) (hσ : σ[0]? = some (some (.ref a))) {t : TS} (q : t D σ H) : ∀ l : List Nat, (∀ j ∈ l, j < 9 ∧ j ≠ c) → tRows K T.C l t D σ H
  | [], _ => q
  | j :: r, hl => by
    obtain ⟨EC, XC, hno⟩ := T.ec c E nms k.hcl
    obtain ⟨h9, hne⟩ := hl j List.mem_cons_self
    have e := T.kit k.hcl h9
    rw [decide_eq_false (Ne.symm hne)] at e
    exact ⟨a, E, dd, _, false, hσ, k.ha, k.hd, EC, e, fun _ => rows_no T k hσ q r fun i hi => hl i (List.mem_cons_of_mem _ hi), fun z => by cases z⟩
theorem rows_yes (T : FltT K mg cl) (k : Kept K cl I H a c fs E dd nms vs) (h0 : σ[0]? = some (some (.ref a))) (h1 : σ[1]? = some (some (.ref p))) (hp : H p = some (.lst [])) {ds : List PyData} (ht : tell c fs = some (.tuple ds)) {t : TS}
    (q : ∀ xs b, RpAll K I xs ds → H b = none → t D σ (upd (upd H b (.tup xs)) p (.lst [.ref b]))) : ∀ l : List Nat, (∀ j ∈ l, j < 9) → l.Nodup → c ∈ l → tRows K T.C l t D σ H
  | [], _, _, hc => by cases hc
  | j :: r, hl, nd, hc => by
    obtain ⟨EC, XC, hno⟩ := T.ec c E nms k.hcl
    have e := T.kit k.hcl (hl j List.mem_cons_self)
    have hl' : ∀ i ∈ r, i < 9 := fun i hi => hl i (List.mem_cons_of_mem _ hi)
    have nd' := List.nodup_cons.mp nd
    by_cases hj : c = j
    · subst hj
      rw [decide_eq_true rfl] at e
      refine ⟨a, E, dd, _, true, h0, k.ha, k.hd, EC, e, (fun z => by cases z), fun _ => ⟨p, h1, hp, row_ok T k h0 ht fun xs hx hx5 => ⟨Nat.le_trans hx5 (by decide), fun b hb => ?_⟩⟩⟩
      have pb : p ≠ b := ne_of_none hp hb
      have ap : a ≠ p := ne_of k.ha hp excH_ne
      have dp : dd ≠ p := ne_of k.hd hp (fun z => by cases z)
      refine ⟨p, [], .ref b, rfl, rfl, by rw [upd_ne pb]; exact hp, by decide, ?_⟩
      exact rows_no T (k.mono (fun o e => by rw [upd_ne ap, upd_ne (ne_of_none e hb)]; exact e) (fun o e => by rw [upd_ne dp, upd_ne (ne_of_none e hb)]; exact e)) h0 (q xs b hx hb) r fun i hi => ⟨hl' i hi, fun z => nd'.1 (z ▸ hi)⟩
    · rw [decide_eq_false hj] at e
      refine ⟨a, E, dd, _, false, h0, k.ha, k.hd, EC, e, fun _ => rows_yes T k h0 h1 hp ht q r hl' nd'.2 ?_, fun z => by cases z⟩
      rcases List.mem_cons.mp hc with z | z
      · exact absurd z hj
      · exact z
end
/-- what _law_fault makes of a kept exception -/
def spFlt (K : PySem.W.Frag) (cl : Nat → Option (Addr × List Str)) : Sp := fun vs H Q _ => ∃ (a : Addr) (I : Hp) (M : Mw) (c : Nat) (fs : List PyData) (E dd : Addr) (nms : List Str) (us : List V) (t : PyData), vs = [.ref a] ∧ Ok I M H ∧ Kept K cl I H a c fs E dd nms us ∧ tell c fs = some t ∧
  ∀ z I' H', Grow I M H I' M H' → Ok I' M H' → Rp K I' z t → Q z H'
theorem tell_tup {c : Nat} {fs : List PyData} {t : PyData} (h : tell c fs = some t) : ∃ ds, t = .tuple ds := by
  unfold tell at h
  split at h <;> first | (cases h; exact ⟨_, rfl⟩) | cases h
theorem flt_read {K : PySem.W.Frag} {mg : Str → Option Value} {cl : Nat → Option (Addr × List Str)} (T : FltT K mg cl) {vs : List V} {H : Hp} {Q : VK} {E : XK} {t : TS} (h : spFlt K cl vs H Q E)
    (ht : ∀ p b H' D, H' p = some (.lst [.ref b]) → D.rt (.ref b) H' → t D [vs[0]?, some (.ref p)] H') :
    tSeq (tAsg (tLst tNil) (gName 1)) (tRows K T.C [0, 1, 2, 3, 4, 5, 6, 7, 8] t) { nx := fun _ H' => Q .non H', rt := Q } (L2.start ["e", "told"] vs) H := by
  obtain ⟨a, I, M, c, fs, E', dd, nms, us, tt, rfl, ok, k, htt, q⟩ := h
  obtain ⟨ds, rfl⟩ := tell_tup htt
  refine ⟨by decide, fun p hp => ?_⟩
  have c9 := (T.hcl c E' nms k.hcl).1
  refine rows_yes (I := I) (p := p) T (k.mono (fun o e => by rw [upd_ne (ne_of_none e hp)]; exact e) (fun o e => by rw [upd_ne (ne_of_none e hp)]; exact e)) rfl rfl upd_same htt (fun xs b hx hb => ?_) [0, 1, 2, 3, 4, 5, 6, 7, 8] (by decide) (by decide) ?_
  · have bp : b ≠ p := fun z => by rw [z, upd_same] at hb; cases hb
    rw [upd_ne bp] at hb
    refine ht p b _ _ upd_same ?_
    have e : upd (upd (upd H p (.lst [])) b (.tup xs)) p (.lst [.ref b]) = upd (upd H b (.tup xs)) p (.lst [.ref b]) := by
      funext x
      by_cases h1 : x = p
      · rw [h1, upd_same, upd_same]
      · rw [upd_ne h1, upd_ne h1]
        by_cases h2 : x = b
        · rw [h2, upd_same, upd_same]
        · rw [upd_ne h2, upd_ne h2, upd_ne h1]
    obtain ⟨g1, k1⟩ := Grow.alloc (o := .tup xs) ok hb
    obtain ⟨g2, k2⟩ := Grow.allocO (o := .lst [.ref b]) k1 (p := p) (by rw [upd_ne bp.symm]; exact hp)
    rw [e]
    exact q _ _ _ (g1.trans g2) k2 (.tup (.inl (.inl upd_same)) (hx.mono g1.i))
  · have := c9
    simp only [List.mem_cons, List.not_mem_nil, or_false]
    omega
end Dl
set_option maxRecDepth 100000
set_option maxHeartbeats 4000000
namespace Dl
open PySem L2 PySem.Spec PyProof.Rows LamX
/-- what is wished of a refusal -/
def OutX (U : Uni) (K : PySem.W.Frag) (Q : VK) : XK := fun cls d H' => ∃ (I : Hp) (M : Mw) (c : Nat) (fs : List PyData) (t : PyData), Ok I M H' ∧ XR U K I c fs cls d ∧ tell c fs = some t ∧ ∀ z I' H'', Grow I M H' I' M H'' → Ok I' M H'' → Rp K I' z t → Q z H''
def TTout (U : Uni) (K : PySem.W.Frag) : (XK → Hp → VK → Prop) → Hp → VK → Prop := fun tl H Q => ∀ (b : Addr) (R : VK), H b = none → (∀ v H', (∀ p, H' p = none → Q (.ref p) (upd H' p (.lst [v]))) → R v H') → tl (OutX U K Q) (upd H b (.tup [.non, .non])) R
theorem out_kept {U : Uni} {K : PySem.W.Frag} {mg : Str → Option Value} (T : FltT K mg U.cl) {Q : VK} {cls : Value} {d : Option Addr} {H : Hp} {σ : L2.St} {D : Ends} (h : OutX U K Q cls d H)
    (q : ∀ a H' σ', σ'[1]? = some (some (.ref a)) → spFlt K U.cl [.ref a] H' Q (fun _ _ _ => False) → D.nx σ' H') : wKept K ((List.range 9).map fun j => Value.ref (T.C j)) 3 1 4 D cls d σ H := by
  obtain ⟨I, M, c, fs, t, ok, ⟨C, nms, dd, vs, hcl, rfl, rfl, hI, hl, hr⟩, ht, hq⟩ := h
  obtain ⟨c9, eD, eN⟩ := T.hcl c C nms hcl
  have hx := T.exm c C nms hcl
  refine ⟨⟨fun v => (PySem.W.exmOne K (.ref C) v).getD false, fun v hv => ?_, ?_⟩, fun a tp hlen ha htp hat => ?_⟩
  · obtain ⟨j, hj, rfl⟩ := List.mem_map.mp hv
    have e := hx j (List.mem_range.mp hj)
    show _ = some ((PySem.W.exmOne K (.ref C) (.ref (T.C j))).getD false)
    rw [e]
    rfl
  · refine List.any_eq_true.mpr ⟨_, List.mem_map.mpr ⟨c, List.mem_range.mpr c9, rfl⟩, ?_⟩
    have e := hx c c9
    show (PySem.W.exmOne K (.ref C) (.ref (T.C c))).getD false = true
    rw [e]
    exact decide_eq_true rfl
  · have hd := ok.ih _ _ hI
    have hda : dd ≠ a := ne_of_none hd ha
    have hdt : dd ≠ tp := ne_of_none hd htp
    obtain ⟨g1, k1⟩ := Grow.alloc (o := .tup (((List.range 9).map fun j => Value.ref (T.C j)).map fun c => match c with | .ref C => V.ref C | _ => V.non)) ok htp
    obtain ⟨g2, k2⟩ := Grow.alloc (o := ExcH a (.ref C) (some dd)) k1 (p := a) (by rw [upd_ne hat]; exact ha)
    refine q a _ _ ?_ ⟨a, _, M, c, fs, C, dd, nms, vs, t, rfl, k2, ⟨hcl, upd_same, by rw [upd_ne hda, upd_ne hdt]; exact hd, hl, (hr.mono g1.i).mono g2.i⟩, ht, fun z I' H' g k r => hq z I' H' ((g1.trans g2).trans g) k r⟩
    match σ, hlen with
    | [_, _, _, _], _ => rfl
section
variable {S : Type}
def eOut (Fb : Rho → S → Res S Val) : Rho → S → Res S Val := fun ρ st => match Fb ρ st with
  | .ok (.d x) st1 => .ok (.d (.list [x])) st1
  | .exc c fs st1 => (match tell c fs with
    | some t => .ok (.d t) st1
    | none => .stuck)
  | _ => .stuck
end
/-- the def that makes it: it gives so to every lambda -/
structure OutF (P : Program) (w : World) (K : PySem.W.Frag) (mg : Str → Option Value) (base : Heap) (U : Uni) (x : Str) : Prop where
  ex : ∃ (g : Addr) (pg : Arguments) (bg : List Stmt) (sg : Scope) (dV kV doc pm cdv ct oc : Value) (an od : Option Addr) (osl : Array (Option Value)) (Ng : List Str) (a : Str), mg x = some (.ref g) ∧ PySem.W.keepIn K (.ref g) = true ∧ K.lookup g = some ⟨oc, od, .func (PySem.W.fnOf x x pg bg sg dV kV doc pm an cdv ct), osl⟩ ∧
    PySem.W.codeIn K cdv x = true ∧ L2.Binds K (PySem.W.fnOf x x pg bg sg dV kV doc pm an cdv ct) [a] [] ∧ FnScope Ng [a] sg ∧ Ng[0]? = some a ∧ Vis sg a ∧ (a == ("__debug__" : Str)) = false ∧ (a == ("__classdict__" : Str)) = false ∧
    ∀ (X : Cx) (q : Str), X.prog = P → X.w = w → X.K = K → X.mg = mg → X.base = base → Room 4 X.A → X.A.guards = some [] → GivesTo X Ng x sg g cdv bg a q (TTout U K)
structure FunC (K : PySem.W.Frag) (x qual : Str) (st : Stmt) (f : Addr) (fd : FuncData) (cdv : Value) : Prop where
  ex : ∃ (oc : Value) (od : Option Addr) (kV doc pm : Value) (an : Option Addr) (ct : Value) (osl : Array (Option Value)),
    fd = PySem.W.fnOf x qual (defArgs st) (defBody st) (defScope st) .none kV doc pm an cdv ct ∧ K.lookup f = some ⟨oc, od, .func fd, osl⟩ ∧ PySem.W.codeIn K cdv qual = true
theorem fn_gc {U : Uni} {P : Program} {w : World} {K : PySem.W.Frag} {mg : Str → Option Value} {base : Heap} {x qual : Str} {st : Stmt} {f : Addr} {fd : FuncData} {cdv : Value} {N ps : List Str} {k : Nat} {B : Rho → U.S → SRes U.S} (Fn : FunC K x qual st f fd cdv) (S : FnScope N ps (defScope st))
    (hb : ∀ (A : Around) (outer : List Env) (s : Shared) (H : Hp) (E : XK), Room k (A.deeper (envOfC qual (defScope st) s.heap.objs.size f cdv)) → A.guards = some [] →
      PBd U (cxOf (L2.CX P w) P w K mg base N qual (defScope st) f cdv A outer s H E) (fun cls d _ H => E cls d H) (defBody st) B) : FnG U P w K mg base (k + 1) f fd ps (fnF N.length B) := by
  obtain ⟨oc, od, kV, doc, pm, an, ct, osl, rfl, lk, hcd⟩ := Fn.ex
  refine ⟨fun A outer s H args us xs Q E vs t I M hr hgd e0 hbd rv hl ok rs hv hd h => ?_⟩
  have KX : K.In s.heap := e0.mod.kin.keeps fun b o e => (e0.bs b o e).1
  have lim : s.heap.NoLimit := e0.mod.nolimit.keeps fun b o e => (e0.bs b o e).1
  have kinds : ∀ y ∈ ps.zip us, (defScope st).names.lookup y.1 = some .local ∨ ((defScope st).names.lookup y.1 = some .cell ∧ ((cellsFrom (s.heap.objs.size + 1) (defScope st).names []).lookup y.1).isSome = true) := fun ⟨n, v⟩ hy => by
    rcases S.par n (List.of_mem_zip hy).1 with q | q
    · exact Or.inl q
    · exact Or.inr ⟨q, PySem.W.cellsFrom_some _ _ _ (.inl q)⟩
  refine codeAny_call_function hr.depth (KX _ _ lk) rfl S.co S.gen rfl (PySem.W.codeRec_of KX hcd) (hbd _ _ _ _ (wpAny_newFunctionEnv_cells S.kind kinds fun env he s1 ic => ?_))
  subst he
  refine ⟨lim.keeps ic.toInCall.keep, codeAny_func ?_⟩
  have J : Inv (cxOf (L2.CX P w) P w K mg base N qual (defScope st) f cdv A outer s H E) [] (L2.start N xs) H s1 := inv_start S hr.hd e0 hl rv ic
  have hsp : tS U K (fun cls d _ H => E cls d H) B { nx := fun _ H' => Q .non H', rt := Q } (L2.start N xs) H := by
    refine ⟨⟨I, M, H⟩, begin' N.length vs, t, I, M, fit_begin ok rs hv hd, ?_⟩
    unfold fnF at h
    cases z : B (begin' N.length vs) t with
    | ret v st' => rw [z] at h; exact fun x I' M' H' g k r q => h x I' M' H' g k r q
    | next ρ' st' => rw [z] at h; exact fun σ' I' M' H' e' ft => h .non I' M' H' ft.g ft.ok ft.rs .non
    | exc c fs ρ' st' => rw [z] at h; exact fun σ' cls d I' M' H' e' ft q => h cls d I' M' H' ft.g ft.ok ft.rs q
    | brk ρ' st' => rw [z] at h; exact False.elim h
    | cnt ρ' st' => rw [z] at h; exact False.elim h
    | stuck => rw [z] at h; exact h
  refine wpAny_mono (PSs.run (hb A outer s H E (hr.deeper _) hgd) [] s1 (L2.start N xs) H _ J hsp) (fun fl s' hs => ?_) fun e s' hs => hs
  match fl, hs with
  | .ret u, ⟨v, σ', H', J', rv', q⟩ => exact ⟨v, H', J'.os, J'.bare, J'.base, J'.hok, rv', q⟩
  | .next, ⟨σ', H', J', q⟩ => exact ⟨.non, H', J'.os, J'.bare, J'.base, J'.hok, rfl, q⟩
  | .brk, ⟨_, _, _, q⟩ => exact False.elim q
  | .cont, ⟨_, _, _, q⟩ => exact False.elim q
end Dl
set_option maxRecDepth 100000
set_option maxHeartbeats 4000000
namespace Dl
open PySem L2
section
variable {U : Uni} {X : Cx} {W : WX} {s : Stmt} {e : Expr}
end
end Dl
namespace Dl
open PySem L2
end Dl
set_option maxRecDepth 100000
set_option maxHeartbeats 4000000
namespace PySem
namespace OsaB
open PySem.W PySem.Calls PyProof.Rows PySem.HandSPX
section
open Builtin Builtin.ObjectAttr
variable {prog : Program} {w : World} {A : Around} {R : Result → Shared → Prop} {hp : Heap} {g : Array GenState} {d : Drawn} {t : Nat} {os : OsState}
end
end OsaB
end PySem
namespace Dl
open PySem L2 PySem.Spec PyProof.Rows
section
variable {X : Cx} {pins : List (Addr × Obj)} {σ : L2.St} {H : Hp} {s : Shared} {a C dx : Addr} {f : Str} {y : V} {u : Value} {Q : Unit → Shared → Prop} {E : Value → Shared → Prop} {A : Around}
end
section
variable {X : Cx} {o e : Expr} {es : List Expr} {to te : TE} {ta : TA} {f : Str} {p p' p1 p2 pos : Pos}
end
section
variable {U : Uni} {X : Cx} {W : WX} {e : Expr} {es : List Expr} {A : Rho → U.S → Res U.S (List Val)} {pos p : Pos}
end
end Dl
set_option maxRecDepth 100000
set_option maxHeartbeats 4000000
namespace Dl
open PySem L2 PySem.Spec PyProof.Rows
def vSplit : Val → Val → Option PyData
  | .d (.str a), .d (.str b) => if (b.length == 0) = false ∧ a.length ≤ 1000000 then some (.list ((Txt.split a b).map .str)) else none
  | _, _ => none
section
variable {S : Type}
/-- a text's method with one argument -/
def eM1 (f : Val → Val → Option PyData) (a b : Rho → S → Res S Val) : Rho → S → Res S Val := fun ρ st => (a ρ st).bind fun x st1 => match x with
  | .d (.str _) => (b ρ st1).bind fun y st2 => lift (f x y) st2
  | _ => .stuck
end
theorem rp_strs {K : PySem.W.Frag} {I : Hp} : ∀ ys : List Str, RpAll K I (ys.map V.str) (ys.map PyData.str)
  | [] => .nil
  | y :: ys => .cons (.str y) (rp_strs ys)
section
variable {X : Cx}
end
section
variable {K : PySem.W.Frag}
def Mt1D (K : PySem.W.Frag) (r : V → List V → Hp → VK → Prop) (f : Val → Val → Option PyData) : Prop := ∀ (x y : V) (u v : Val) (w : PyData) (I : Hp) (M : Mw) (H : Hp) (Q : VK), Ok I M H → VR K I M H x u → VR K I M H y v → f u v = some w →
  (∀ z I' H', Grow I M H I' M H' → Ok I' M H' → Rp K I' z w → Q z H') → r x [y] H Q
theorem d_split : Mt1D K (fun x xs H Q => ∃ a b, x = .str a ∧ xs = [.str b] ∧ (b.length == 0) = false ∧ a.length + 2 ≤ sizeLine ∧ rNewStrs (Txt.split a b) H Q) vSplit := by
  intro x y u v w I M H Q k hx hy e q
  unfold vSplit at e
  split at e
  · rename_i a b
    by_cases hc : (b.length == 0) = false ∧ a.length ≤ 1000000
    · rw [if_pos hc] at e
      cases e
      cases Rp.str_inv hx
      cases Rp.str_inv hy
      exact ⟨a, b, rfl, rfl, hc.1, by rw [sizeLine_eq]; omega, fun p hp => new_lst k (rp_strs _) hp q⟩
    · rw [if_neg hc] at e
      cases e
  · cases e
end
section
variable {U : Uni} {X : Cx} {W : WX} {a b : Expr} {pos apos : Pos} {Fa Fb : Rho → U.S → Res U.S Val}
theorem m1_read {r : V → List V → Hp → VK → Prop} {f : Val → Val → Option PyData} (hd : Mt1D X.K r f) (σ : L2.St) (H : Hp) (Q : VK) (h : tE U X.K W (eM1 f Fa Fb) σ H Q) : tM1 r (tE U X.K W Fa) (tE U X.K W Fb) σ H Q := by
  refine tG.bind h fun Z ρ st1 x u I1 M1 H1 ft hx ps => ?_
  match u, hx, ps with
  | .d (.str s), hx, ps =>
    refine ⟨⟨s, Rp.str_inv hx⟩, ?_⟩
    refine Post.next ft ps fun st2 y v I2 M2 H2 g ft2 hy ps2 => ?_
    obtain ⟨w, e, q⟩ := Post.liftE ps2 ft2.rs
    exact hd x y _ v w I2 M2 H2 Q ft2.ok (VR.grow g hx) hy e q
theorem ped_split (ha : PEd U X W a Fa) (hb : PEd U X W b Fb) (hs : starEach [b] X.env = [(false, eval b X.env)] := by rfl) (hbase : attributeBase a "split" X.env (eval a X.env) = eval a X.env := by rfl) (hline : (apos.endLine == pos.line) = true := by rfl) :
    PEd U X W (.Call (.Attribute a "split" apos) [b] [] pos) (eM1 vSplit Fa Fb) := pe_imp (pe_split ha hb hs hbase hline) (m1_read d_split)
end
def TabN : List DictEntry → List (Str × Int) → Prop
  | [], [] => True
  | e :: es, p :: tb => ((∃ t, e.key = .str p.1 t) ∧ ∃ t, e.val = .int p.2 t) ∧ TabN es tb
  | _, _ => False
theorem tabN_find : ∀ {es : List DictEntry} {tb : List (Str × Int)}, TabN es tb → ∀ x : Str, match tb.lookup x with
    | some i => ∃ t, (es.find? fun e => Value.isStrOf x e.key).map (·.val) = some (.int i t)
    | none => (es.find? fun e => Value.isStrOf x e.key).map (·.val) = none
  | [], [], _, x => rfl
  | e :: es, (y, f) :: tb, ⟨⟨⟨t, h1⟩, ⟨t2, h2⟩⟩, r⟩, x => by
    have ih := tabN_find r x
    have e1 : Value.isStrOf x e.key = (x == y) := by
      rw [h1]
      show decide (y = x) = (x == y)
      by_cases h : x = y
      · subst h; simp
      · rw [decide_eq_false (Ne.symm h)]
        exact (beq_eq_false_iff_ne.mpr h).symm
    by_cases h : x = y
    · subst h
      rw [List.find?_cons_of_pos (by rw [e1]; simp), List.lookup_cons]
      simp [h2]
    · have h' : (x == y) = false := by simpa using h
      rw [List.find?_cons_of_neg (by rw [e1, h']; exact Bool.false_ne_true), List.lookup_cons, h']
      exact ih
structure TabI (w : World) (K : PySem.W.Frag) (mg : Str → Option Value) (x : Str) (a : Addr) (tb : List (Str × Int)) : Prop where
  m : mg x = some (.ref a)
  no : (a == sysModules) = false
  ex : ∃ es n, K.lookup a = some ⟨.type "dict", none, .dict es n, #[]⟩ ∧ PySem.W.KeysLit w.params es.toList ∧ TabN es.toList tb
theorem TabI.map {P : Program} {w : World} {K : PySem.W.Frag} {mg : Str → Option Value} {x : Str} {a : Addr} {tb : List (Str × Int)} {h : Heap} (T : TabI w K mg x a tb) (X : K.In h) : ∃ f, h.MapOf (strKind P w) a f ∧ ∀ z, match tb.lookup z with
    | some i => ∃ t, f z = some (.int i t)
    | none => f z = none := by
  obtain ⟨es, n, hl, hk, he⟩ := T.ex
  refine ⟨_, PySem.W.mapOf_K (prog := P) X hl hk, fun z => ?_⟩
  have := tabN_find he z
  unfold findBy
  rw [← Array.find?_toList]
  exact this
section
variable {U : Uni} {X : Cx} {W : WX} {a : Expr} {Fa : Rho → U.S → Res U.S Val} {pos p q : Pos} {x : Str} {ad : Addr} {tb : List (Str × Int)} {ks : List Str}
end
end Dl
set_option maxRecDepth 100000
set_option maxHeartbeats 4000000
namespace Dl
open PySem L2 PySem.Spec PyProof.Rows
end Dl
set_option maxRecDepth 100000
set_option maxHeartbeats 4000000
namespace Dl
open PySem L2 PySem.Spec PyProof.Rows
section
variable {X : Cx}
end
section
variable {K : PySem.W.Frag}
end
section
variable {U : Uni} {X : Cx} {W : WX} {a : Expr} {Fa : Rho → U.S → Res U.S Val} {G1 G2 : Rho → U.S → Res U.S (Option Int)} {lo hi : Option Expr} {pos p2 : Pos}
end
end Dl
set_option maxRecDepth 100000
set_option maxHeartbeats 4000000
namespace Dl
namespace ZL
open PySem L2 PySem.Spec PyProof.Rows
/-- a for that goes through: what holds ahead of the j-th -/
theorem forIn_all {M : Model} {A : Around} {E : Value → Shared → Prop} {α β : Type} {f : α → β → Sem (ForInStep β)} {Q : β → Shared → Prop} (J : Nat → β → Shared → Prop) : ∀ (l : List α) (i : Nat) (b : β) (s : Shared), J i b s →
    (∀ j a b s, l[j]? = some a → J (i + j) b s → wpAny M A (f a b) (fun r s' => ∃ b', r = .yield b' ∧ J (i + j + 1) b' s') E s) → (∀ b s, J (i + l.length) b s → Q b s) → wpAny M A (forIn l b f) Q E s
  | [], i, b, s, h, _, e => by
    rw [List.forIn_nil]
    exact wpAny_pure (e b s h)
  | a :: l, i, b, s, h, t, e => by
    rw [List.forIn_cons]
    refine wpAny_bind (wpAny_mono (t 0 a b s rfl h) (fun r s' hr => ?_) fun _ _ x => x)
    obtain ⟨b', rfl, hj⟩ := hr
    refine forIn_all J l (i + 1) b' s' hj (fun j a b s ha hj => ?_) fun b s hj => e b s ?_
    · have := t (j + 1) a b s (by simpa using ha) (by rw [show i + (j + 1) = i + 1 + j by omega]; exact hj)
      rwa [show i + (j + 1) + 1 = i + 1 + j + 1 by omega] at this
    · rw [List.length_cons, show i + (l.length + 1) = i + 1 + l.length by omega]
      exact hj
abbrev ZO (h : Heap) (z TI TO : Addr) (f0 : Value) (b : Bool) : Prop := h.get? z = some { cls := .type "zip", dict := none, data := .fields #[f0, .bool b, .bool false, .ref TI, .ref TO], slots := #[] }
abbrev TupO (h : Heap) (T : Addr) (xs : List Value) : Prop := h.get? T = some { cls := .type "tuple", data := .seq xs.toArray }
/-- an iterator, its row, the row's items -/
abbrev Col := Addr × Addr × Array Value
def ColAt (h : Heap) (c : Col) (i : Nat) : Prop := IsIt true h c.1 c.2.1 i ∧ IsSrc true h c.2.1 c.2.2
structure ZSep (z TI TO : Addr) (cs : List Col) : Prop where
  nd : (z :: TI :: TO :: cs.map (·.1)).Nodup
  src : ∀ c ∈ cs, c.2.1 ∉ (z :: TI :: TO :: cs.map (·.1))
def rowAt (cs : List Col) (i : Nat) : List Value := cs.map fun c => c.2.2.getD i .none
section
variable {prog : Program} {w : World} {A : Around} {E : Value → Shared → Prop} {s : Shared} {z TI TO : Addr} {cs : List Col} {n i : Nat}
theorem ZSep.it_ne (S : ZSep z TI TO cs) {c : Col} (hc : c ∈ cs) : c.1 ≠ z ∧ c.1 ≠ TI ∧ c.1 ≠ TO := by
  have h := S.nd
  simp only [List.nodup_cons, List.mem_cons, not_or] at h
  have hm : c.1 ∈ cs.map (·.1) := List.mem_map.mpr ⟨c, hc, rfl⟩
  exact ⟨fun e => h.1.2.2 (e ▸ hm), fun e => h.2.1.2 (e ▸ hm), fun e => h.2.2.1 (e ▸ hm)⟩
theorem ZSep.z_ne (S : ZSep z TI TO cs) : z ≠ TI ∧ z ≠ TO ∧ TI ≠ TO := by
  have h := S.nd
  simp only [List.nodup_cons, List.mem_cons, not_or] at h
  exact ⟨h.1.1, h.1.2.1, h.2.1.1⟩
theorem ZSep.its_ne (S : ZSep z TI TO cs) {j k : Nat} {c d : Col} (hj : cs[j]? = some c) (hk : cs[k]? = some d) (h : j ≠ k) : c.1 ≠ d.1 := by
  have hn : (cs.map (·.1)).Nodup := by
    have h := S.nd
    simp only [List.nodup_cons] at h
    exact h.2.2.2
  intro e
  have e1 : (cs.map (·.1))[j]? = some c.1 := by rw [List.getElem?_map, hj]; rfl
  have e2 : (cs.map (·.1))[k]? = some d.1 := by rw [List.getElem?_map, hk]; rfl
  rw [← e] at e2
  obtain ⟨l1, g1⟩ := List.getElem?_eq_some_iff.mp e1
  obtain ⟨l2, g2⟩ := List.getElem?_eq_some_iff.mp e2
  exact h ((List.getElem_inj hn).mp (g1.trans g2.symm))
theorem ZSep.src_ne (S : ZSep z TI TO cs) {c d : Col} (hc : c ∈ cs) (hd : d ∈ cs) : c.2.1 ≠ d.1 ∧ c.2.1 ≠ z ∧ c.2.1 ≠ TO := by
  have h := S.src c hc
  simp only [List.mem_cons, not_or] at h
  exact ⟨fun e => h.2.2.2 (e ▸ List.mem_map.mpr ⟨d, hd, rfl⟩), h.1, h.2.2.1⟩
/-- the first k columns stand one further -/
def MidC (cs : List Col) (i k : Nat) (h : Heap) : Prop := ∀ j c, cs[j]? = some c → ColAt h c (if j < k then i + 1 else i)
theorem ColAt.frame {h h' : Heap} {c : Col} {i : Nat} (st : ColAt h c i) (hk : ∀ b, b = c.1 ∨ b = c.2.1 → ∀ o, h.get? b = some o → h'.get? b = some o) : ColAt h' c i := by
  refine ⟨st.1.at fun o e => hk _ (.inl rfl) o e, ?_⟩
  have := st.2
  exact Heap.IsList.at this fun o e => hk _ (.inr rfl) o e
/-- one column drawn -/
theorem col_draw {A : Around} (hh : A.handled = none) (S : ZSep z TI TO cs) {k : Nat} {c : Col} (hc : cs[k]? = some c) (hl : i < c.2.2.size) (st : MidC cs i k s.heap) {Q : Value → Shared → Prop}
    (h : ∀ g tk, MidC cs i (k + 1) g → Heap.SameBut c.1 s.heap g → Q (c.2.2.getD i .none) { s with heap := g, toks := tk }) : wpAny (model prog w) A (Builtin.SmallTypes.nextOf (.ref c.1)) Q E s := by
  have hm : c ∈ cs := List.mem_of_getElem? hc
  have h0 := st k c hc
  rw [if_neg (Nat.lt_irrefl _)] at h0
  refine (draws_src (prog := prog) (w := w) (A := A) true hh c.1 c.2.1 (S.src_ne hm hm).1 c.2.2).item i s Q E hl h0 fun x g tk hx st1 sb => ?_
  have ex : c.2.2.getD i .none = x := by
    have hx : c.2.2[i]? = some x := hx
    simp [Array.getD_eq_getD_getElem?, hx]
  rw [← ex]
  refine h g tk (fun j d hd => ?_) sb
  by_cases hj : j = k
  · subst hj
    rw [hc] at hd
    cases hd
    rw [if_pos (Nat.lt_succ_self _)]
    exact st1
  · have hdm : d ∈ cs := List.mem_of_getElem? hd
    have := st j d hd
    have e : (if j < k + 1 then i + 1 else i) = (if j < k then i + 1 else i) := by
      by_cases h1 : j < k
      · rw [if_pos h1, if_pos (by omega)]
      · rw [if_neg h1, if_neg (by omega)]
    rw [e]
    refine this.frame fun b hb o eo => sb.extBut _ _ ?_ eo
    rcases hb with rfl | rfl
    · exact S.its_ne hd hc hj
    · exact (S.src_ne hdm hm).1
theorem MidC.frame {k : Nat} {h h' : Heap} (st : MidC cs i k h) (x : Addr) (sb : Heap.SameBut x h h') (hx : ∀ c ∈ cs, c.1 ≠ x ∧ c.2.1 ≠ x) : MidC cs i k h' := fun j c hc =>
  (st j c hc).frame fun b hb o e => by
    have hm := hx c (List.mem_of_getElem? hc)
    refine sb.extBut _ _ ?_ e
    rcases hb with rfl | rfl
    · exact hm.1
    · exact hm.2
theorem updSeq_tup {T : Addr} {xs : List Value} {x : Value} {k : Nat} {Q : Unit → Shared → Prop} (hT : TupO s.heap T xs) (hl : xs.length ≤ 100) (h : ∀ h', TupO h' T (xs.set k x) → Heap.SameBut T s.heap h' → Q () { s with heap := h' }) :
    wpAny (model prog w) A (updateSeq T (·.setIfInBounds k x)) Q E s := by
  have z1 : xs.toArray.size ≤ sizeLine := by rw [List.size_toArray]; exact Nat.le_trans hl (by decide)
  have z2 : (xs.toArray.setIfInBounds k x).size ≤ sizeLine + 1 := by rw [Array.size_setIfInBounds]; exact Nat.le_succ_of_le z1
  refine wpAny_updateSeq (hz := z1) (_hz' := z2) hT rfl (h _ ?_ (Heap.SameBut.update ..))
  show Heap.get? _ _ = _
  rw [Heap.get?_update_self _ hT rfl]
  simp [Obj.mapSeq]
/-- as far as the draws of a turn: k columns drawn -/
structure ZMid (s : Shared) (z TI TO : Addr) (cs : List Col) (i k : Nat) (f0 : Value) (b : Bool) (arr : List Value) (g : Heap) : Prop where
  zo : ZO g z TI TO f0 b
  to : TupO g TO arr
  ti : TupO g TI (cs.map fun c => .ref c.1)
  len : arr.length = cs.length
  mid : MidC cs i k g
  sz : g.objs.size = s.heap.objs.size
  kp : ∀ c o, c ≠ z → c ≠ TO → c ∉ cs.map (·.1) → s.heap.get? c = some o → g.get? c = some o
theorem ZMid.col {k : Nat} {f0 : Value} {b : Bool} {arr : List Value} {g g' : Heap} {c : Col} (m : ZMid s z TI TO cs i k f0 b arr g) (S : ZSep z TI TO cs) (hc : c ∈ cs) (mid : MidC cs i (k + 1) g') (sb : Heap.SameBut c.1 g g') : ZMid s z TI TO cs i (k + 1) f0 b arr g' := by
  have hn := S.it_ne hc
  exact ⟨sb.extBut _ _ hn.1.symm m.zo, sb.extBut _ _ hn.2.2.symm m.to, sb.extBut _ _ hn.2.1.symm m.ti, m.len, mid, sb.1.trans m.sz, fun d o h1 h2 h3 e => sb.extBut _ _ (fun q => h3 (q ▸ List.mem_map.mpr ⟨c, hc, rfl⟩)) (m.kp d o h1 h2 h3 e)⟩
theorem ZMid.put {k : Nat} {f0 : Value} {b : Bool} {arr arr' : List Value} {g g' : Heap} (m : ZMid s z TI TO cs i k f0 b arr g) (S : ZSep z TI TO cs) (hT : TupO g' TO arr') (hl : arr'.length = cs.length) (sb : Heap.SameBut TO g g') : ZMid s z TI TO cs i k f0 b arr' g' := by
  have hn := S.z_ne
  exact ⟨sb.extBut _ _ hn.2.1 m.zo, hT, sb.extBut _ _ hn.2.2 m.ti, hl, m.mid.frame TO sb fun c hc => ⟨(S.it_ne hc).2.2, (S.src_ne hc hc).2.2⟩, sb.1.trans m.sz, fun d o h1 h2 h3 e => sb.extBut _ _ h2 (m.kp d o h1 h2 h3 e)⟩
theorem ZMid.own {k : Nat} {f0 f1 : Value} {b b1 : Bool} {arr : List Value} {g g' : Heap} (m : ZMid s z TI TO cs i k f0 b arr g) (S : ZSep z TI TO cs) (hz : ZO g' z TI TO f1 b1) (sb : Heap.SameBut z g g') : ZMid s z TI TO cs i k f1 b1 arr g' := by
  have hn := S.z_ne
  exact ⟨hz, sb.extBut _ _ hn.2.1.symm m.to, sb.extBut _ _ hn.1.symm m.ti, m.len, m.mid.frame z sb fun c hc => ⟨(S.it_ne hc).1, (S.src_ne hc hc).2.1⟩, sb.1.trans m.sz, fun d o h1 h2 h3 e => sb.extBut _ _ h1 (m.kp d o h1 h2 h3 e)⟩
theorem wpAny_alive {M : Model} {A : Around} {E : Value → Shared → Prop} {s : Shared} {a : Addr} {Q : Option Obj → Shared → Prop} (h : Q (s.heap.get? a) s) : wpAny M A (loadIfAlive a) Q E s := fun Γ p _ => by
  show Sem.wp M Γ (Sem.loadIfAlive a Sem.pure) _ _ p s
  rw [Sem.wp_loadIfAlive, Sem.wp_pure]
  exact h
theorem zfree {Q : Bool → Shared → Prop} {f0 : Value} {b : Bool} (hz : ZO s.heap z TI TO f0 b) (hf : f0 = .none ∨ ∃ T : Nat, f0 = rawInt T) (h1 : Q true s) (h2 : ∀ h', ZO h' z TI TO f0 true → Heap.SameBut z s.heap h' → Q false { s with heap := h' }) :
    wpAny (model prog w) A (Builtin.SmallTypes.ownedTupleIsFree (.ref z)) Q E s := by
  unfold Builtin.SmallTypes.ownedTupleIsFree
  refine wpAny_bind (wpAny_field hz rfl (x := f0) rfl ?_)
  rcases hf with rfl | ⟨T, rfl⟩
  · exact wpAny_pure h1
  · show wpAny _ _ (loadIfAlive _ >>= _) _ _ _
    refine wpAny_bind (wpAny_alive ?_)
    cases s.heap.get? (Int.toNat (T : Int)) with
    | none => exact wpAny_pure h1
    | some o =>
      show wpAny _ _ (field (.ref z) 1 >>= _) _ _ _
      refine wpAny_bind (wpAny_field hz rfl (x := .bool b) rfl ?_)
      cases b with
      | true => exact wpAny_pure (h2 s.heap hz (Heap.SameBut.refl _ _))
      | false =>
        show wpAny _ _ (setField (.ref z) 1 (.bool true) >>= _) _ _ _
        exact wpAny_bind (wpAny_setField_rec hz (by simp) fun h' hz' hs' => wpAny_pure (h2 h' hz' hs'))
theorem row_len (cs : List Col) (i : Nat) : (rowAt cs i).length = cs.length := by simp [rowAt]
theorem row_get {cs : List Col} {i j : Nat} {c : Col} (h : cs[j]? = some c) : (rowAt cs i)[j]? = some (c.2.2.getD i .none) := by simp [rowAt, h]
theorem take_set {arr row : List Value} {j : Nat} {v : Value} (ht : arr.take j = row.take j) (hr : row[j]? = some v) (hl : j < arr.length) : (arr.set j v).take (j + 1) = row.take (j + 1) := by
  rw [List.take_add_one, List.take_add_one, hr, List.getElem?_set_self hl, List.take_set_of_le (Nat.le_refl _), ht]
theorem zipN_next_item {Q : Value → Shared → Prop} {f0 : Value} {b : Bool} {arr : List Value} (hh : A.handled = none) (S : ZSep z TI TO cs) (hcs : cs ≠ []) (h100 : cs.length ≤ 100) (hn : ∀ c ∈ cs, i < c.2.2.size) (hf : f0 = .none ∨ ∃ T : Nat, f0 = rawInt T)
    (m0 : ZMid s z TI TO cs i 0 f0 b arr s.heap)
    (hQ : ∀ h' tk f1 b1 arr1, (f1 = .none ∨ ∃ T : Nat, f1 = rawInt T) → ZO h' z TI TO f1 b1 → TupO h' TO arr1 → TupO h' TI (cs.map fun c => .ref c.1) → arr1.length = cs.length → MidC cs i cs.length h' →
      (∀ c o, c ≠ z → c ≠ TO → c ∉ cs.map (·.1) → s.heap.get? c = some o → h'.get? c = some o) → TupO h' s.heap.objs.size (rowAt cs i) → Q (.ref s.heap.objs.size) { s with heap := h', toks := tk }) :
    wpAny (model prog w) A (Builtin.«zip.__next__» ⟨[.ref z], []⟩) (fun fin s' => ∃ v, fin = .done (.ret v) ∧ Q v s') E s := by
  obtain ⟨hp, g, d, tk0, os⟩ := s
  show wpAny _ _ (field (.ref z) 2 >>= _) _ _ _
  refine wpAny_bind (wpAny_field m0.zo rfl (x := .bool false) rfl ?_)
  show wpAny _ _ (field (.ref z) 3 >>= _) _ _ _
  refine wpAny_bind (wpAny_field m0.zo rfl (x := .ref TI) rfl ?_)
  refine wpAny_bind (wpAny_seqItems m0.ti rfl ?_)
  have ne : (cs.map fun c => Value.ref c.1).toArray.isEmpty = false := by
    cases cs with
    | nil => exact absurd rfl hcs
    | cons c cs => rfl
  simp only [ne, Bool.false_eq_true, if_false]
  have h16 : (rowAt cs i).length ≤ sizeLine := by rw [row_len]; exact Nat.le_trans h100 (by decide)
  refine wpAny_bind (zfree m0.zo hf ?_ fun g0 hz0 hs0 => ?_)
  · simp only [if_true]
    refine wpAny_bind (wpAny_rule ?_)
    refine wpAny_bind (wpAny_field m0.zo rfl (x := .ref TO) rfl ?_)
    refine wpAny_bind (wpAny_setField_rec m0.zo (by simp) fun g0 hz0 hs0 => ?_)
    have m1 : ZMid ⟨hp, g, d, tk0, os⟩ z TI TO cs i 0 .ellipsis b arr g0 := m0.own S hz0 hs0
    refine wpAny_bind (forIn_all (fun k bb s' => bb = (none, ()) ∧ ∃ g1 tk arr1, s' = ⟨g1, g, d, tk, os⟩ ∧ ZMid ⟨hp, g, d, tk0, os⟩ z TI TO cs i k .ellipsis b arr1 g1 ∧ arr1.take k = (rowAt cs i).take k) _ 0 _ _ ⟨rfl, g0, tk0, arr, rfl, m1, rfl⟩ ?_ ?_)
    · rintro j x bb s' hx ⟨rfl, g1, tk, arr1, rfl, m, ht⟩
      rw [Nat.zero_add] at m ht ⊢
      simp only [List.toList_toArray, List.getElem?_zipIdx, List.getElem?_map, Option.map_map] at hx
      cases hc : cs[j]? with
      | none => rw [hc] at hx; cases hx
      | some c =>
        rw [hc] at hx
        have hx : (Value.ref c.1, 0 + j) = x := Option.some.inj hx
        subst hx
        have hm := List.mem_of_getElem? hc
        refine wpAny_bind (wpAny_onRaise ?_)
        show wpAny _ _ (Builtin.SmallTypes.nextOf (.ref c.1) >>= _) _ _ ⟨g1, g, d, tk, os⟩
        refine wpAny_bind (col_draw hh S hc (hn c hm) m.mid fun g2 tk2 mid2 sb2 => wpAny_pure ?_)
        have m2 := m.col S hm mid2 sb2
        refine wpAny_bind (wpAny_seqItems (s := ⟨g2, g, d, tk2, os⟩) m2.to rfl ?_)
        refine wpAny_bind (updSeq_tup (s := ⟨g2, g, d, tk2, os⟩) m2.to (by rw [m2.len]; exact h100) fun g3 hT3 sb3 => ?_)
        have m3 := m2.put S hT3 (by rw [List.length_set]; exact m2.len) sb3
        refine wpAny_bind (wpAny_letGo (wpAny_pure ⟨_, rfl, rfl, g3, tk2, _, rfl, m3, ?_⟩))
        rw [Nat.zero_add]
        exact take_set ht (row_get hc) (by rw [m2.len]; exact (List.getElem?_eq_some_iff.mp hc).1)
    · rintro bb s' ⟨rfl, g1, tk, arr1, rfl, m, ht⟩
      simp only [List.toList_toArray, List.length_zipIdx, List.length_map, Nat.zero_add] at m ht
      have e1 : arr1 = rowAt cs i := by
        rw [List.take_of_length_le (Nat.le_of_eq m.len), List.take_of_length_le (Nat.le_of_eq (row_len cs i))] at ht
        exact ht
      subst e1
      refine wpAny_bind (wpAny_seqItems (s := ⟨g1, g, d, tk, os⟩) m.to rfl ?_)
      refine wpAny_bind (wpAny_newTuple (hsz := by simpa using h16) ?_)
      have hzlt : z < g1.objs.size := Heap.lt_size m.zo
      refine wpAny_bind ?_
      show wpAny _ _ (Builtin.SmallTypes.ownedTupleHandOut (.ref z) (.ref g1.objs.size)) _ _ ⟨g1.push { cls := .type "tuple", data := .seq (rowAt cs i).toArray.toList.toArray }, g, d, tk, os⟩
      unfold Builtin.SmallTypes.ownedTupleHandOut
      have up : ∀ {c o}, g1.get? c = some o → (g1.push { cls := .type "tuple", data := .seq (rowAt cs i).toArray.toList.toArray }).get? c = some o := fun e => Heap.get?_push_of_some _ e
      have hz6 : ZO (g1.push { cls := .type "tuple", data := .seq (rowAt cs i).toArray.toList.toArray }) z TI TO .ellipsis b := up m.zo
      refine wpAny_bind (wpAny_setField_rec hz6 (by simp) fun h7 hz7 hs7 => ?_)
      replace hz7 : ZO h7 z TI TO (rawInt g1.objs.size) b := hz7
      refine wpAny_setField_rec hz7 (by simp) fun h8 hz8 hs8 => ?_
      replace hz8 : ZO h8 z TI TO (rawInt g1.objs.size) false := hz8
      have un := S.z_ne
      have kz : ∀ c o, c ≠ z → g1.get? c = some o → h8.get? c = some o := fun c o hc e => hs8.extBut _ _ hc (hs7.extBut _ _ hc (up e))
      have hT8 : TupO h8 g1.objs.size (rowAt cs i) := hs8.extBut _ _ (Nat.ne_of_gt hzlt) (hs7.extBut _ _ (Nat.ne_of_gt hzlt) (by
        have := Heap.get?_push_size g1 (o := { cls := .type "tuple", data := .seq (rowAt cs i).toArray.toList.toArray }) rfl
        simpa using this))
      have hsz : g1.objs.size = hp.objs.size := m.sz
      refine wpAny_pure ⟨_, rfl, ?_⟩
      show Q (.ref g1.objs.size) ⟨h8, g, d, tk, os⟩
      rw [hsz] at hT8 hz8 ⊢
      exact hQ h8 tk _ _ _ (.inr ⟨_, rfl⟩) hz8 (kz _ _ un.2.1.symm m.to) (kz _ _ un.1.symm m.ti) m.len (fun j c hc => (m.mid j c hc).frame fun b hb o e => kz b o (by
        have hm := List.mem_of_getElem? hc
        rcases hb with rfl | rfl
        · exact (S.it_ne hm).1
        · exact (S.src_ne hm hm).2.1) e) (fun c o h1 h2 h3 e => kz c o h1 (m.kp c o h1 h2 h3 e)) hT8
  · simp only [Bool.false_eq_true, if_false]
    have m1 : ZMid ⟨hp, g, d, tk0, os⟩ z TI TO cs i 0 f0 true arr g0 := m0.own S hz0 hs0
    rw [List.forIn_toArray]
    refine wpAny_bind (forIn_all (fun k bb s' => bb.1 = none ∧ bb.2.toList = (rowAt cs i).take k ∧ ∃ g1 tk, s' = ⟨g1, g, d, tk, os⟩ ∧ ZMid ⟨hp, g, d, tk0, os⟩ z TI TO cs i k f0 true arr g1) _ 0 _ _ ⟨rfl, rfl, g0, tk0, rfl, m1⟩ ?_ ?_)
    · rintro j x ⟨o1, items⟩ s' hx ⟨h1, h2, g1, tk, rfl, m⟩
      rw [Nat.zero_add] at m h2 ⊢
      have h1 : o1 = none := h1
      subst h1
      simp only [List.getElem?_map] at hx
      cases hc : cs[j]? with
      | none => rw [hc] at hx; cases hx
      | some c =>
        rw [hc] at hx
        cases hx
        have hm := List.mem_of_getElem? hc
        refine wpAny_bind (wpAny_holding ?_)
        show wpAny _ _ (Builtin.SmallTypes.nextOf (.ref c.1) >>= _) _ _ ⟨g1, g, d, tk, os⟩
        refine wpAny_bind (col_draw hh S hc (hn c hm) m.mid fun g2 tk2 mid2 sb2 => wpAny_pure ?_)
        refine wpAny_pure ⟨_, rfl, rfl, ?_, g2, tk2, rfl, m.col S hm mid2 sb2⟩
        show (items.push _).toList = _
        rw [Array.toList_push, h2, List.take_add_one, row_get hc]
        rfl
    · rintro ⟨o1, items⟩ s' ⟨h1, h2, g1, tk, rfl, m⟩
      simp only [List.length_map, Nat.zero_add] at m h2
      have h1 : o1 = none := h1
      subst h1
      have h2 : items.toList = rowAt cs i := by rw [h2, List.take_of_length_le (Nat.le_of_eq (row_len cs i))]
      refine wpAny_bind (wpAny_newTuple (hsz := by show items.toList.length ≤ _; rw [h2]; exact h16) ?_)
      refine wpAny_pure ⟨_, rfl, ?_⟩
      show Q (.ref g1.objs.size) ⟨g1.push { cls := .type "tuple", data := .seq items.toList.toArray }, g, d, tk, os⟩
      rw [h2]
      have up : ∀ {c o}, g1.get? c = some o → (g1.push { cls := .type "tuple", data := .seq (rowAt cs i).toArray }).get? c = some o := fun e => Heap.get?_push_of_some _ e
      have hT := Heap.get?_push_size g1 (o := { cls := .type "tuple", data := .seq (rowAt cs i).toArray }) rfl
      have hsz : g1.objs.size = hp.objs.size := m.sz
      rw [hsz] at hT ⊢
      exact hQ _ tk _ _ _ hf (up m.zo) (up m.to) (up m.ti) m.len (fun j c hc => (m.mid j c hc).frame fun b hb o e => up e) (fun c o h1 h2 h3 e => up (m.kp c o h1 h2 h3 e)) hT
end
section
variable {prog : Program} {w : World} {A : Around} {E : Value → Shared → Prop} {s : Shared} {z TI TO : Addr} {cs : List Col} {n i : Nat}
theorem zipN_next_end {Q : Fin → Shared → Prop} {f0 : Value} {b : Bool} {arr : List Value} (hh : A.handled = none) (S : ZSep z TI TO cs) {c : Col} (hc0 : cs[0]? = some c) (hn : c.2.2.size = i) (hf : f0 = .none ∨ ∃ T : Nat, f0 = rawInt T)
    (m0 : ZMid s z TI TO cs i 0 f0 b arr s.heap)
    (hE : ∀ h' tk e, (∀ c o, c ≠ z → c ≠ TO → c ∉ cs.map (·.1) → s.heap.get? c = some o → h'.get? c = some o) → (∃ o, h'.get? e = some o ∧ o.cls = .type "StopIteration") → E (.ref e) { s with heap := h', toks := tk }) :
    wpAny (model prog w) A (Builtin.«zip.__next__» ⟨[.ref z], []⟩) Q E s := by
  obtain ⟨hp, g, d, tk0, os⟩ := s
  have hm := List.mem_of_getElem? hc0
  show wpAny _ _ (field (.ref z) 2 >>= _) _ _ _
  refine wpAny_bind (wpAny_field m0.zo rfl (x := .bool false) rfl ?_)
  show wpAny _ _ (field (.ref z) 3 >>= _) _ _ _
  refine wpAny_bind (wpAny_field m0.zo rfl (x := .ref TI) rfl ?_)
  refine wpAny_bind (wpAny_seqItems m0.ti rfl ?_)
  obtain ⟨rest, ec⟩ : ∃ rest, cs = c :: rest := by
    cases cs with
    | nil => cases hc0
    | cons c' r => cases hc0; exact ⟨r, rfl⟩
  have ne : (cs.map fun c => Value.ref c.1).toArray.isEmpty = false := by rw [ec]; rfl
  simp only [ne, Bool.false_eq_true, if_false]
  refine wpAny_bind (zfree m0.zo hf ?_ fun g0 hz0 hs0 => ?_)
  · simp only [if_true]
    refine wpAny_bind (wpAny_rule ?_)
    refine wpAny_bind (wpAny_field m0.zo rfl (x := .ref TO) rfl ?_)
    refine wpAny_bind (wpAny_setField_rec m0.zo (by simp) fun g0 hz0 hs0 => ?_)
    have m1 : ZMid ⟨hp, g, d, tk0, os⟩ z TI TO cs i 0 .ellipsis b arr g0 := m0.own S hz0 hs0
    have st := m1.mid 0 c hc0
    rw [if_neg (Nat.lt_irrefl _)] at st
    refine wpAny_bind ?_
    have el : (cs.map fun c => Value.ref c.1).toArray.toList.zipIdx = (Value.ref c.1, 0) :: (rest.map fun c => Value.ref c.1).zipIdx 1 := by rw [ec]; rfl
    rw [el, List.forIn_cons]
    refine wpAny_bind (wpAny_bind (wpAny_onRaise ?_))
    show wpAny _ _ (Builtin.SmallTypes.nextOf (.ref c.1) >>= _) _ _ ⟨g0, g, d, tk0, os⟩
    refine wpAny_bind ((draws_src (prog := prog) (w := w) (A := A) true hh c.1 c.2.1 (S.src_ne hm hm).1 c.2.2).done ⟨g0, g, d, tk0, os⟩ _ _ (by rw [hn]; exact st) fun q e hq he => ?_)
    obtain ⟨oe, hoe, hce⟩ := he
    replace hoe : q.get? e = some oe := hoe
    have hzq : ZO q z TI TO .ellipsis b := hq _ _ (S.it_ne hm).1.symm m1.zo
    have hez : e ≠ z := fun x => by subst x; rw [hzq] at hoe; cases hoe; simp at hce
    refine wpAny_setField_rec (s := ⟨q, g, d, tk0, os⟩) hzq (by simp) fun q' _ hq' => ?_
    replace hq' : Heap.SameBut z q q' := hq'
    exact hE q' tk0 e (fun c' o h1 h2 h3 x => hq'.extBut _ _ h1 (hq _ _ (fun q => h3 (q ▸ List.mem_map.mpr ⟨c, hm, rfl⟩)) (m1.kp c' o h1 h2 h3 x))) ⟨oe, hq'.extBut _ _ hez hoe, hce⟩
  · simp only [Bool.false_eq_true, if_false]
    have m1 : ZMid ⟨hp, g, d, tk0, os⟩ z TI TO cs i 0 f0 true arr g0 := m0.own S hz0 hs0
    have st := m1.mid 0 c hc0
    rw [if_neg (Nat.lt_irrefl _)] at st
    rw [List.forIn_toArray]
    refine wpAny_bind ?_
    have el : (cs.map fun c => Value.ref c.1) = Value.ref c.1 :: (rest.map fun c => Value.ref c.1) := by rw [ec]; rfl
    rw [el, List.forIn_cons]
    refine wpAny_bind (wpAny_bind (wpAny_holding ?_))
    show wpAny _ _ (Builtin.SmallTypes.nextOf (.ref c.1) >>= _) _ _ ⟨g0, g, d, tk0, os⟩
    refine wpAny_bind ((draws_src (prog := prog) (w := w) (A := A) true hh c.1 c.2.1 (S.src_ne hm hm).1 c.2.2).done ⟨g0, g, d, tk0, os⟩ _ _ (by rw [hn]; exact st) fun q e hq he => ?_)
    exact hE q tk0 e (fun c' o h1 h2 h3 x => hq _ _ (fun q => h3 (q ▸ List.mem_map.mpr ⟨c, hm, rfl⟩)) (m1.kp c' o h1 h2 h3 x)) he
end
end ZL
end Dl
set_option maxRecDepth 100000
set_option maxHeartbeats 4000000
namespace Dl
namespace ZL
open PySem L2 PySem.Spec PyProof.Rows
open Sem (wp)
section
variable {prog : Program} {w : World} {A : Around} {E : Value → Shared → Prop} {s : Shared} {e z TI TO : Addr} {cs : List Col} {i : Nat}
end
end ZL
end Dl
set_option maxRecDepth 100000
set_option maxHeartbeats 4000000
namespace Dl
open PySem L2 PySem.Spec PyProof.Rows
section
variable {X : Cx} {pins : List (Addr × Obj)} {σ : L2.St} {H : Hp} {s : Shared} {h' : Heap}
end
end Dl
set_option maxRecDepth 100000
set_option maxHeartbeats 4000000
namespace Dl
open PySem L2 PySem.Spec PyProof.Rows
section
variable {prog : Program} {w : World} {A : Around} {E : Value → Shared → Prop} {s : Shared}
end
end Dl
set_option maxRecDepth 100000
set_option maxHeartbeats 4000000
namespace Dl
open PySem L2 PySem.Spec PyProof.Rows
section
variable {S : Type}
end
section
variable {U : Uni} {X : Cx} {W : WX} {a b : Expr} {Fa Fb : Rho → U.S → Res U.S Val} {pos p pos2 p2 : Pos}
end
end Dl
set_option maxRecDepth 100000
set_option maxHeartbeats 4000000
namespace Dl
open PySem L2 PySem.Spec PyProof.Rows LamX
structure LamP (sc scope : Scope) (a : Str) : Prop where
  kind : scope.kind = .function
  co : scope.isCoroutine = false
  gen : scope.isGenerator = false
  par : scope.names.lookup a = some .local
  own : ∀ y ∈ scope.names, y.2 ≠ .cell ∧ (y.2 = .local → y.1 = a)
  free : ∀ y ∈ scope.names, y.2 = .free → sc.names.lookup y.1 = some .cell ∨ sc.names.lookup y.1 = some .free
theorem LamP.has {X : Cx} {scope : Scope} {a : Str} (L : LamP X.env.scope scope a) (ok : X.Ok) : ∀ y ∈ scope.names, y.2 = .free → ∃ c, X.env.cells.lookup y.1 = some c := fun y hy e => by
  rcases L.free y hy e with k | k
  · exact ok.has _ (.inl k)
  · exact ok.has _ (.inr k)
section
variable {X : Cx} {pins : List (Addr × Obj)} {σ : L2.St} {H : Hp} {s : Shared}
end
end Dl
set_option maxRecDepth 100000
set_option maxHeartbeats 4000000
namespace Dl
open PySem L2 PySem.Spec PyProof.Rows LamX PySem.W
def Ext (H H' : Hp) : Prop := ∀ b, H b ≠ none → H' b = H b
theorem Ext.refl (H : Hp) : Ext H H := fun _ _ => rfl
theorem Ext.trans {H H1 H2 : Hp} (a : Ext H H1) (b : Ext H1 H2) : Ext H H2 := fun c n => (b c (by rw [a c n]; exact n)).trans (a c n)
theorem Ext.put {H H' : Hp} {p : Addr} {o : HO} (e : Ext H H') (h : H p = none) : Ext H (upd H' p o) := fun b n => by
  rw [upd_ne (fun z => n (by rw [z]; exact h))]; exact e b n
theorem Ext.grow {I : Hp} {M : Mw} {H H' : Hp} (e : Ext H H') (k : Ok I M H) : Grow I M H I M H' ∧ Ok I M H' :=
  ⟨⟨Same.refl I, fun _ _ z => z, fun _ _ z => z, fun a o h _ => (e a (ne_none_of h)).trans h, fun a n => by rw [e a n]; exact n, fun _ _ z => z⟩,
   ⟨fun a o h => (e a (ne_none_of (k.ih a o h))).trans (k.ih a o h), fun a o h => (e a (ne_none_of (k.mh a o h))).trans (k.mh a o h), k.dj, k.mi⟩⟩
section
variable {prog : Program} {w : World} {A : Around} {E : Value → Shared → Prop} {s : Shared} {a kS : Addr} {vs : List Value} {keys : Array Value} {e e1 : Nat} {P : PySem.Fin → Shared → Prop}
end
end Dl
set_option maxRecDepth 100000
set_option maxHeartbeats 4000000
namespace Dl
open PySem L2 PySem.Spec PyProof.Rows LamX PySem.W
section
variable {X : Cx} {pins : List (Addr × Obj)} {σ : L2.St} {H : Hp} {s : Shared}
end
end Dl
set_option maxRecDepth 100000
set_option maxHeartbeats 4000000
namespace Dl
open PySem L2 PySem.Spec PyProof.Rows LamX PySem.W
section
variable {X : Cx} {pins : List (Addr × Obj)} {σ : L2.St} {H : Hp} {s : Shared}
end
end Dl
set_option maxRecDepth 100000
set_option maxHeartbeats 4000000
namespace Dl
open PySem L2 PySem.Spec PyProof.Rows LamX PySem.W
end Dl
set_option maxRecDepth 100000
set_option maxHeartbeats 4000000
namespace Dl
open PySem L2 PySem.Spec PyProof.Rows LamX PySem.W
section
variable {X : Cx} {tb : List (Addr × Str)} {cl : Nat → Option (Addr × List Str)} {W : WX}
end
end Dl
set_option maxRecDepth 100000
set_option maxHeartbeats 4000000
namespace Dl
open PySem L2 PySem.Spec PyProof.Rows
section
variable {S : Type}
end
/-- no slot has the list at D -/
def NoD (D : Addr) (ρ : Rho) (σ : L2.St) : Prop := ∀ (j : Nat) es q, ρ[j]? = some (some (.own es)) → σ[j]? = some (some (.ref q)) → q ≠ D
theorem setAll_own : ∀ (is : List Nat) (ds : List PyData) (ρ : Rho) (j : Nat) (es : List PyData), ds.length = is.length → (setAll ρ is ds)[j]? = some (some (.own es)) → j ∉ is ∧ ρ[j]? = some (some (.own es))
  | [], [], ρ, j, es, _, h => ⟨by simp, h⟩
  | i :: is, d :: ds, ρ, j, es, hl, h => by
    obtain ⟨h1, h2⟩ := setAll_own is ds (ρ.set i (some (.d d))) j es (by simpa using hl) h
    by_cases c : j = i
    · subst c
      exfalso
      by_cases hj : j < ρ.length
      · rw [List.getElem?_set_self hj] at h2; cases h2
      · rw [List.getElem?_eq_none (by simp; omega)] at h2; cases h2
    · rw [List.getElem?_set_ne (Ne.symm c)] at h2
      exact ⟨by simp [c, h1], h2⟩
theorem setT_own {tg : Tg} {d : PyData} {ρ ρ1 : Rho} {j : Nat} {es : List PyData} (e : setT tg d ρ = some ρ1) (h : ρ1[j]? = some (some (.own es))) : j ∉ tg.slots ∧ ρ[j]? = some (some (.own es)) := by
  cases tg with
  | name i =>
    cases e
    exact setAll_own [i] [d] ρ j es rfl h
  | tup is =>
    match d, e with
    | .tuple ds, e =>
      obtain ⟨hl, rfl⟩ := opt_if e
      exact setAll_own is ds ρ j es hl h
theorem NoD.tg {D : Addr} {tg : Tg} {d : PyData} {ρ ρ1 : Rho} {σ σ1 : L2.St} (n : NoD D ρ σ) (e : setT tg d ρ = some ρ1) (w : ∀ vs : List Nat, (∀ i ∈ tg.slots, i ∈ vs) → wipe σ1 vs = wipe σ vs) : NoD D ρ1 σ1 := fun j es q h1 h2 => by
  obtain ⟨a, b⟩ := setT_own e h1
  refine n j es q b ?_
  have z := congrArg (fun l : L2.St => l[j]?) (w tg.slots fun _ h => h)
  simp only [wipe_out a] at z
  rw [← z]; exact h2
theorem NoD.wipe {D : Addr} {ρ : Rho} {σ : L2.St} (n : NoD D ρ σ) (vs : List Nat) : NoD D (wipeR ρ vs) (L2.wipe σ vs) := fun j es q h1 h2 => by
  exact n j es q (wipeR_some h1).1 (wipe_some h2).1
section
variable {U : Uni} {K : PySem.W.Frag} {W : WX}
variable {tg tg' : Tg} {vs us : List Nat} {F G : Rho → U.S → Res U.S (List PyData)} {T T' : Rho → U.S → Res U.S Bool} {E : Rho → U.S → Res U.S Val} {σ : L2.St} {H : Hp} {Q : VK}
end
section
variable {U : Uni} {X : Cx} {W : WX} {elt tg iter tg1 iter1 : Expr} {ifs ifs1 : List Expr} {scope : Scope} {own : List (Str × Nat)} {us : List Nat} {pos spos py : Pos} {g g' : Tg} {F G : Rho → U.S → Res U.S (List PyData)} {T T' : Rho → U.S → Res U.S Bool} {E : Rho → U.S → Res U.S Val}
end
end Dl
set_option maxRecDepth 100000
set_option maxHeartbeats 4000000
namespace Dl
open PySem L2 PySem.Spec PyProof.Rows
section
variable {U : Uni} {X : Cx} {W : WX} {tg iter : Expr} {body : List Stmt} {G : Rho → U.S → Res U.S (List PyData)} {B : Rho → U.S → SRes U.S} {pos : Pos}
end
end Dl
set_option maxRecDepth 100000
set_option maxHeartbeats 4000000
namespace Dl
open PySem L2
section
variable {S : Type}
end
section
variable {U : Uni} {X : Cx} {W : WX} {s : Stmt} {F : Rho → U.S → SRes U.S}
end
end Dl
set_option maxRecDepth 100000
set_option maxHeartbeats 4000000
namespace Dl
open PySem L2 PySem.Spec PyProof.Rows
section
variable {U : Uni} {X : Cx} {W : WX} {x1 x2 n y1 y2 : Str} {C1 C2 : Addr} {c1 c2 i j1 j2 : Nat} {body : List Stmt} {B : Rho → U.S → SRes U.S} {np1 np2 pos p1 p2 sp1 sp2 py1 py2 : Pos} {e1 e2 : Expr} {f : List PyData → Option PyData} {w : PyData}
end
end Dl
set_option maxRecDepth 100000
set_option maxHeartbeats 4000000
namespace Dl
open PySem L2 PySem.Spec PyProof.Rows
def pickL {α : Type} (l : List α) : List Nat → List α
  | [] => []
  | i :: r => match l[i]? with
    | some x => x :: pickL l r
    | none => pickL l r
section
variable {S : Type}
end
section
variable {U : Uni} {X : Cx} {W : WX} {k n : Nat} {f : Addr} {fd : FuncData} {ps ks : List Str} {perm : List Nat} {F : List Val → U.S → Res U.S Val} {x : Str} {p pos kpos : Pos} {e : Expr} {nm : Option Str} {kws : List Keyword} {Fe : Rho → U.S → Res U.S Val} {B : Rho → U.S → Res U.S (List Val)}
end
end Dl
set_option maxRecDepth 100000
set_option maxHeartbeats 4000000
namespace Dl
open PySem L2
inductive Ob where
  | ins (c : Nat) (fs : List (Str × Val))
  | lst (ds : List PyData)
  | dct (kvs : List (Key × PyData))
  | tup (vs : List Val)
  | exc (c : Nat) (fs : List PyData)
  | lsv (vs : List Val)
  | dsk (fs : List (Str × Val))
  | frm (fs : List (Str × Val))
  | dcv (kvs : List (Key × Val))
  | dcl (kvs : List (Key × Val))
  | dcn (kvs : List (NestedKey × PyData))
structure LS where
  d : DS
  ob : List Ob
/-- one by one -/
inductive FRs {β : Type} (R : V → β → Prop) : List V → List β → Prop
  | nil : FRs R [] []
  | cons {x : V} {v : β} {r : List V} {r' : List β} : R x v → FRs R r r' → FRs R (x :: r) (v :: r')
theorem FRs.mono {β : Type} {R R' : V → β → Prop} (m : ∀ x v, R x v → R' x v) {a : List V} {b : List β} (h : FRs R a b) : FRs R' a b := by
  induction h with
  | nil => exact .nil
  | cons h _ ih => exact .cons (m _ _ h) ih
theorem FRs.len {β : Type} {R : V → β → Prop} {a : List V} {b : List β} (h : FRs R a b) : a.length = b.length := by
  induction h with
  | nil => rfl
  | cons _ _ ih => rw [List.length_cons, List.length_cons, ih]
theorem FRs.at_ {β : Type} {R : V → β → Prop} {a : List V} {b : List β} (h : FRs R a b) : ∀ {i : Nat} {v : β}, b[i]? = some v → ∃ x, a[i]? = some x ∧ R x v := by
  induction h with
  | nil => intro i v e; simp at e
  | @cons x w r r' h _ ih =>
    intro i v e
    cases i with
    | zero => cases e; exact ⟨x, rfl, h⟩
    | succ i => exact ih (by simpa using e)
/-- pairs with the same keys -/
inductive AR {κ β : Type} (R : V → β → Prop) : List (κ × V) → List (κ × β) → Prop
  | nil : AR R [] []
  | cons {k : κ} {x : V} {v : β} {r : List (κ × V)} {r' : List (κ × β)} : R x v → AR R r r' → AR R ((k, x) :: r) ((k, v) :: r')
theorem AR.mono {κ β : Type} {R R' : V → β → Prop} (m : ∀ x v, R x v → R' x v) {a : List (κ × V)} {b : List (κ × β)} (h : AR R a b) : AR R' a b := by
  induction h with
  | nil => exact .nil
  | cons h _ ih => exact .cons (m _ _ h) ih
theorem AR.len {κ β : Type} {R : V → β → Prop} {a : List (κ × V)} {b : List (κ × β)} (h : AR R a b) : a.length = b.length := by
  induction h with
  | nil => rfl
  | cons _ _ ih => rw [List.length_cons, List.length_cons, ih]
theorem AR.lookup {β : Type} {R : V → β → Prop} {a : List (Str × V)} {b : List (Str × β)} (h : AR R a b) (f : Str) : (∃ x v, a.lookup f = some x ∧ b.lookup f = some v ∧ R x v) ∨ (a.lookup f = none ∧ b.lookup f = none) := by
  induction h with
  | nil => exact .inr ⟨rfl, rfl⟩
  | @cons k x v r r' h _ ih =>
    rw [List.lookup_cons, List.lookup_cons]
    cases f == k with
    | true => exact .inl ⟨x, v, rfl, rfl, h⟩
    | false => exact ih
def putA {β : Type} (f : Str) (v : β) : List (Str × β) → List (Str × β)
  | [] => [(f, v)]
  | (g, x) :: r => if g = f then (g, v) :: r else (g, x) :: putA f v r
theorem AR.put {β : Type} {R : V → β → Prop} {a : List (Str × V)} {b : List (Str × β)} (h : AR R a b) (f : Str) {x : V} {v : β} (q : R x v) : AR R (putF f x a) (putA f v b) := by
  induction h with
  | nil => exact .cons q .nil
  | @cons k y w r r' h t ih =>
    unfold putF putA
    by_cases c : k = f
    · rw [if_pos c, if_pos c]; exact .cons q t
    · rw [if_neg c, if_neg c]; exact .cons h ih
def valA {β : Type} (kvs : List (Key × β)) (k : Key) : Option β := (kvs.find? fun kv => decide (kv.1 = k)).map (·.2)
def putB {β : Type} (kvs : List (Key × β)) (k : Key) (v : β) : List (Key × β) := if (kvs.any fun kv => decide (kv.1 = k)) = true then kvs.map (fun kv => if kv.1 = k then (kv.1, v) else kv) else kvs ++ [(k, v)]
theorem AR.val {β : Type} {R : V → β → Prop} {a : List (Key × V)} {b : List (Key × β)} (h : AR R a b) (k : Key) : (∃ x v, valV a k = some x ∧ valA b k = some v ∧ R x v) ∨ (valV a k = none ∧ valA b k = none) := by
  induction h with
  | nil => exact .inr ⟨rfl, rfl⟩
  | @cons k' x v r r' h _ ih =>
    by_cases c : k' = k
    · refine .inl ⟨x, v, ?_, ?_, h⟩ <;> simp [valV, valA, List.find?_cons, c]
    · have e1 : valV ((k', x) :: r) k = valV r k := by simp [valV, List.find?_cons, c]
      have e2 : valA ((k', v) :: r') k = valA r' k := by simp [valA, List.find?_cons, c]
      rw [e1, e2]; exact ih
theorem AR.any {κ β : Type} {R : V → β → Prop} {a : List (κ × V)} {b : List (κ × β)} (h : AR R a b) (p : κ → Bool) : (a.any fun kv => p kv.1) = b.any fun kv => p kv.1 := by
  induction h with
  | nil => rfl
  | cons _ _ ih => rw [List.any_cons, List.any_cons, ih]
theorem AR.append {κ β : Type} {R : V → β → Prop} {a a' : List (κ × V)} {b b' : List (κ × β)} (h : AR R a b) (h' : AR R a' b') : AR R (a ++ a') (b ++ b') := by
  induction h with
  | nil => exact h'
  | cons q _ ih => exact .cons q ih
theorem AR.mapK {β : Type} {R : V → β → Prop} {a : List (Key × V)} {b : List (Key × β)} (h : AR R a b) (k : Key) {x : V} {v : β} (q : R x v) : AR R (a.map (fun kv => if kv.1 = k then (kv.1, x) else kv)) (b.map (fun kv => if kv.1 = k then (kv.1, v) else kv)) := by
  induction h with
  | nil => exact .nil
  | @cons k' y w r r' h _ ih =>
    rw [List.map_cons, List.map_cons]
    by_cases c : k' = k
    · subst c
      simp only [if_true]
      exact .cons q ih
    · simp only [c, if_false]
      exact .cons h ih
theorem AR.putK {β : Type} {R : V → β → Prop} {a : List (Key × V)} {b : List (Key × β)} (h : AR R a b) (k : Key) {x : V} {v : β} (q : R x v) : AR R (L2.putK a k x) (putB b k v) := by
  unfold L2.putK putB
  rw [h.any fun z => decide (z = k)]
  split
  · exact h.mapK k q
  · exact h.append (.cons q .nil)
/-- what a field of an instance holds: data, or an object of the world -/
def FR (K : PySem.W.Frag) (M : Mw) (x : V) : Val → Prop
  | .d d => Rp K M.i x d
  | .ref n => ∃ b, M.ad n = some b ∧ x = .ref b
  | _ => False
/-- the classes of the instances; those of other objects stand behind 50 -/
def ciI (ci : Nat → Option Addr) (c : Nat) : Option Addr := if c < 50 then ci c else none
def txL : List Str := ["empty", "record", "play", "dub", "stop"]
def decI (n : Nat) : Int := if n % 2 = 0 then ((n / 2 : Nat) : Int) else -((n / 2 : Nat) : Int)
def encI (i : Int) : Nat := if 0 ≤ i then 2 * i.toNat else 2 * (-i).toNat + 1
theorem dec_enc (i : Int) : decI (encI i) = i := by
  unfold decI encI
  by_cases h : 0 ≤ i
  · rw [if_pos h, if_pos (by omega)]; omega
  · rw [if_neg h, if_neg (by omega)]; omega
/-- the hash of a known text: it stands among the numbers of the classes -/
def hsC (ci : Nat → Option Addr) (x : Str) : Int := decI ((ci (200 + txL.idxOf x)).getD 0)
mutual
def nkOf : PyData → Option NestedKey
  | .none => some .none
  | .bool b => some (.num (if b = true then 1 else 0))
  | .int i => some (.num i)
  | .str x => if x ∈ txL then some (.text x) else none
  | .tuple ds => (nkAll ds).map .tup
  | _ => none
def nkAll : List PyData → Option (List NestedKey)
  | [] => some []
  | d :: ds => (nkOf d).bind fun k => (nkAll ds).map (k :: ·)
end
def keyN : PyData → Option NestedKey
  | .tuple ds => (nkOf (.tuple ds)).bind fun k => if k.depth ≤ 8 then some k else none
  | _ => none
mutual
def nhash (hs : Str → Int) : NestedKey → Int
  | .none => reduceHash 0xFCA86420
  | .num i => hashInt i
  | .text x => hs x
  | .tup ks => reduceHash (Builtin.Tuple.tupleHashOf (nhashes hs ks))
def nhashes (hs : Str → Int) : List NestedKey → List Int
  | [] => []
  | k :: ks => nhash hs k :: nhashes hs ks
end
/-- what stands at a: a dict with these keys (each at its place) and values -/
def nPhi (hs : Str → Int) (a : Addr) (L : List (NestedKey × Addr × V)) : Heap → Prop := fun h => ∃ xs : List (NestedKey × Addr × Value), Paired (fun p q => p.1 = q.1 ∧ p.2.1 = q.2.1 ∧ RelV p.2.2 q.2.2) L xs ∧
  ∃ o es ep, h.get? a = some o ∧ o.ExactDict ∧ o.data = .dict es ep ∧ es.toList = xs.map fun x => (⟨nhash hs x.1, .ref x.2.1, x.2.2⟩ : DictEntry)
inductive ER (K : PySem.W.Frag) (I : Hp) : List (NestedKey × Addr × V) → List (NestedKey × PyData) → Prop
  | nil : ER K I [] []
  | cons {k : NestedKey} {a : Addr} {x : V} {d e : PyData} {r : List (NestedKey × Addr × V)} {r' : List (NestedKey × PyData)} : keyN e = some k → Rp K I (.ref a) e → Rp K I x d → ER K I r r' → ER K I ((k, a, x) :: r) ((k, d) :: r')
theorem ER.mono {K : PySem.W.Frag} {I J : Hp} (s : Same I J) {a : List (NestedKey × Addr × V)} {b : List (NestedKey × PyData)} (h : ER K I a b) : ER K J a b := by
  induction h with
  | nil => exact .nil
  | cons h1 h2 h3 _ ih => exact .cons h1 (Rp.mono s h2) (Rp.mono s h3) ih
def ObR (K : PySem.W.Frag) (ci : Nat → Option Addr) (M : Mw) (a : Addr) : Ob → Prop
  | .ins c fs => ∃ C dx fvs, ciI ci c = some C ∧ M.h a = some (.ins C dx fvs) ∧ AR (FR K M) fvs fs ∧ fs.length ≤ 50
  | .lst ds => ∃ xs, M.h a = some (.lst xs) ∧ RpAll K M.i xs ds
  | .dct kvs => ∃ kxs, M.h a = some (.dK kxs) ∧ AR (Rp K M.i) kxs kvs ∧ kvs.length ≤ 50
  | .tup vs => ∃ xs, M.h a = some (.tup xs) ∧ FRs (FR K M) xs vs
  | .exc c fs => ∃ C dx vs, ci (100 + c) = some C ∧ M.h a = some (exo a C (some dx)) ∧ M.i dx = some (exd dx ((fltFs c).zip vs)) ∧ RpAll K M.i vs fs ∧ (fltFs c).length = vs.length
  | .lsv vs => ∃ xs, M.h a = some (.lst xs) ∧ FRs (FR K M) xs vs
  | .dsk fs => ∃ C dx fvs, ci 60 = some C ∧ M.h a = some (.ins C dx fvs) ∧ AR (FR K M) fvs fs ∧ fs.length ≤ 50
  | .frm fs => ∃ C dx fvs, ci 61 = some C ∧ M.h a = some (.ins C dx fvs) ∧ AR (FR K M) fvs fs ∧ fs.length ≤ 50
  | .dcv kvs => ∃ kxs, M.h a = some (.dK kxs) ∧ AR (FR K M) kxs kvs ∧ kvs.length ≤ 1000
  | .dcl kvs => ∃ o kxs, M.i a = some (.frz o (.dK kxs)) ∧ AR (FR K M) kxs kvs ∧ kvs.length ≤ 1000
  | .dcn kvs => ∃ L, M.h a = some (.ext (nPhi (hsC ci) a L)) ∧ (a == sysModules) = false ∧ (L.map (·.1)).Nodup ∧ ER K M.i L kvs ∧ kvs.length ≤ 1000000
structure LR (K : PySem.W.Frag) (tb : List (Addr × Str)) (ci : Nat → Option Addr) (st : LS) (M : Mw) : Prop where
  dr : ∃ Md : Mw, RD K tb st.d Md ∧ Same Md.h M.h ∧ Md.ad 0 = M.ad 0 ∧ Md.ad 1 = M.ad 1 ∧ ∀ n a, 2 ≤ n → M.ad n = some a → Md.h a = none
  ob : ∀ n o, st.ob[n]? = some o → ∃ a, M.ad (n + 2) = some a ∧ ObR K ci M a o
  no : ∀ n, st.ob.length + 2 ≤ n → M.ad n = none
  inj : ∀ n m a, 2 ≤ n → 2 ≤ m → M.ad n = some a → M.ad m = some a → n = m
def UL (K : PySem.W.Frag) (tb : List (Addr × Str)) (cl : Nat → Option (Addr × List Str)) (ci : Nat → Option Addr) : Uni := ⟨LS, LR K tb ci, cl⟩
theorem FR.mono {K : PySem.W.Frag} {M M' : Mw} (hi : Same M.i M'.i) (ha : ∀ n a, M.ad n = some a → M'.ad n = some a) : ∀ {x : V} {v : Val}, FR K M x v → FR K M' x v
  | _, .d _, h => Rp.mono hi h
  | _, .ref _, ⟨b, h, e⟩ => ⟨b, ha _ _ h, e⟩
/-- an object that has not changed -/
theorem ObR.mono {K : PySem.W.Frag} {ci : Nat → Option Addr} {M M' : Mw} {a : Addr} (hi : Same M.i M'.i) (ha : ∀ n a, M.ad n = some a → M'.ad n = some a) (hh : M'.h a = M.h a) : ∀ {o : Ob}, ObR K ci M a o → ObR K ci M' a o
  | .ins _ _, ⟨C, dx, fvs, h1, h2, h3, h4⟩ => ⟨C, dx, fvs, h1, hh.trans h2, h3.mono fun _ _ => FR.mono hi ha, h4⟩
  | .lst _, ⟨xs, h1, h2⟩ => ⟨xs, hh.trans h1, h2.mono hi⟩
  | .dct _, ⟨ks, h1, h2, h3⟩ => ⟨ks, hh.trans h1, h2.mono fun _ _ => Rp.mono hi, h3⟩
  | .tup _, ⟨xs, h1, h2⟩ => ⟨xs, hh.trans h1, h2.mono fun _ _ => FR.mono hi ha⟩
  | .exc _ _, ⟨C, dx, vs, h1, h2, h3, h4, h5⟩ => ⟨C, dx, vs, h1, hh.trans h2, hi _ _ h3, h4.mono hi, h5⟩
  | .lsv _, ⟨xs, h1, h2⟩ => ⟨xs, hh.trans h1, h2.mono fun _ _ => FR.mono hi ha⟩
  | .dsk _, ⟨C, dx, fvs, h1, h2, h3, h4⟩ => ⟨C, dx, fvs, h1, hh.trans h2, h3.mono fun _ _ => FR.mono hi ha, h4⟩
  | .frm _, ⟨C, dx, fvs, h1, h2, h3, h4⟩ => ⟨C, dx, fvs, h1, hh.trans h2, h3.mono fun _ _ => FR.mono hi ha, h4⟩
  | .dcv _, ⟨ks, h1, h2, h3⟩ => ⟨ks, hh.trans h1, h2.mono fun _ _ => FR.mono hi ha, h3⟩
  | .dcl _, ⟨o, ks, h1, h2, h3⟩ => ⟨o, ks, hi _ _ h1, h2.mono fun _ _ => FR.mono hi ha, h3⟩
  | .dcn _, ⟨L, h1, h2, h3, h4, h5⟩ => ⟨L, hh.trans h1, h2, h3, h4.mono hi, h5⟩
theorem ObR.at_ {K : PySem.W.Frag} {ci : Nat → Option Addr} {M : Mw} {a : Addr} : ∀ {o : Ob}, ObR K ci M a o → M.h a ≠ none ∨ M.i a ≠ none
  | .ins _ _, ⟨_, _, _, _, h, _⟩ => .inl (ne_none_of h)
  | .lst _, ⟨_, h, _⟩ => .inl (ne_none_of h)
  | .dct _, ⟨_, h, _⟩ => .inl (ne_none_of h)
  | .tup _, ⟨_, h, _⟩ => .inl (ne_none_of h)
  | .exc _ _, ⟨_, _, _, _, h, _⟩ => .inl (ne_none_of h)
  | .lsv _, ⟨_, h, _⟩ => .inl (ne_none_of h)
  | .dsk _, ⟨_, _, _, _, h, _⟩ => .inl (ne_none_of h)
  | .frm _, ⟨_, _, _, _, h, _⟩ => .inl (ne_none_of h)
  | .dcv _, ⟨_, h, _⟩ => .inl (ne_none_of h)
  | .dcl _, ⟨_, _, h, _⟩ => .inr (ne_none_of h)
  | .dcn _, ⟨_, h, _⟩ => .inl (ne_none_of h)
theorem LR.has {K : PySem.W.Frag} {tb : List (Addr × Str)} {ci : Nat → Option Addr} {st : LS} {M : Mw} (r : LR K tb ci st M) {n : Nat} {a : Addr} (h2 : 2 ≤ n) (h : M.ad n = some a) : M.h a ≠ none ∨ M.i a ≠ none := by
  obtain ⟨m, rfl⟩ : ∃ m, n = m + 2 := ⟨n - 2, by omega⟩
  by_cases c : m < st.ob.length
  · obtain ⟨b, h3, h4⟩ := r.ob m _ (List.getElem?_eq_getElem c)
    rw [h] at h3
    cases h3
    exact h4.at_
  · rw [r.no _ (by omega)] at h
    cases h
/-- where an object of the world stands, something stands -/
theorem LR.inH {K : PySem.W.Frag} {tb : List (Addr × Str)} {ci : Nat → Option Addr} {st : LS} {I : Hp} {M : Mw} {H : Hp} (r : LR K tb ci st M) (k : Ok I M H) {n : Nat} {a : Addr} (h2 : 2 ≤ n) (h : M.ad n = some a) : H a ≠ none := by
  rcases r.has h2 h with h | h
  · obtain ⟨o, ho⟩ := some_of_ne h
    exact ne_none_of (k.mh a o ho)
  · obtain ⟨o, ho⟩ := some_of_ne h
    exact ne_none_of (k.ih a o (k.mi a o ho))
theorem LR.new {K : PySem.W.Frag} {tb : List (Addr × Str)} {ci : Nat → Option Addr} {st : LS} {I : Hp} {M : Mw} (r : LR K tb ci st M) (mi : Same M.i I) {p : Addr} (mp : M.h p = none) (ip : I p = none) {n : Nat} (h2 : 2 ≤ n) (h : M.ad n = some p) : False := by
  rcases r.has h2 h with h | h
  · exact h mp
  · obtain ⟨o, ho⟩ := some_of_ne h
    have := mi p o ho
    rw [ip] at this
    cases this
def okU : Val → Bool
  | .d _ => true
  | .ref n => decide (n < 2)
  | _ => false
def upR (s : LS) : Res DS Val → Res LS Val
  | .ok v d => if okU v = true then .ok v ⟨d, s.ob⟩ else .stuck
  | .exc c fs d => .exc c fs ⟨d, s.ob⟩
  | .stuck => .stuck
def upF (F : List Val → DS → Res DS Val) : List Val → LS → Res LS Val := fun vs s => if vs.all okU = true then upR s (F vs s.d) else .stuck
section
variable {K : PySem.W.Frag} {tb : List (Addr × Str)} {cl : Nat → Option (Addr × List Str)} {ci : Nat → Option Addr} {I I' : Hp} {M Md Md' : Mw} {H H' : Hp} {st : LS} {d : DS}
/-- the worlds together again -/
def join (M Md Md' : Mw) : Mw := ⟨fun a => match Md'.h a with
  | some o => some o
  | none => match Md.h a with
    | some _ => none
    | none => M.h a, fun n => if n < 2 then Md'.ad n else M.ad n, M.i⟩
theorem join_in {a : Addr} {o : HO} (h : Md'.h a = some o) : (join M Md Md').h a = some o := by
  show (match Md'.h a with | some o => some o | none => _) = _
  rw [h]
theorem join_out {a : Addr} (h' : Md'.h a = none) (h : Md.h a = none) : (join M Md Md').h a = M.h a := by
  show (match Md'.h a with | some o => some o | none => match Md.h a with | some _ => none | none => M.h a) = _
  rw [h', h]
theorem join_cases {a : Addr} {o : HO} (h : (join M Md Md').h a = some o) : Md'.h a = some o ∨ (Md'.h a = none ∧ Md.h a = none ∧ M.h a = some o) := by
  have h : (match Md'.h a with | some o => some o | none => match Md.h a with | some _ => none | none => M.h a) = some o := h
  cases e : Md'.h a with
  | some u => rw [e] at h; exact .inl h
  | none =>
    rw [e] at h
    cases e2 : Md.h a with
    | some u => rw [e2] at h; cases h
    | none => rw [e2] at h; exact .inr ⟨rfl, rfl, h⟩
theorem join_ok (r : LR K tb ci st M) (rd : RD K tb st.d Md) (sm : Same Md.h M.h) (e0 : Md.ad 0 = M.ad 0) (e1 : Md.ad 1 = M.ad 1) (hd : ∀ n a, 2 ≤ n → M.ad n = some a → Md.h a = none) (k : Ok I M H) (g : Grow I Md H I' Md' H') (k' : Ok I' Md' H') (rd' : RD K tb d Md') :
    Grow I M H I' (join M Md Md') H' ∧ Ok I' (join M Md Md') H' ∧ LR K tb ci ⟨d, st.ob⟩ (join M Md Md') := by
  have adm : ∀ n a, M.ad n = some a → (join M Md Md').ad n = some a := fun n a h => by
    show (if n < 2 then Md'.ad n else M.ad n) = some a
    by_cases c : n < 2
    · rw [if_pos c]
      refine g.ad n a ?_
      rcases (show n = 0 ∨ n = 1 by omega) with rfl | rfl
      · rw [e0]; exact h
      · rw [e1]; exact h
    · rw [if_neg c]; exact h
  have adb : ∀ n, 2 ≤ n → (join M Md Md').ad n = M.ad n := fun n h => if_neg (by omega)
  have out' : ∀ n a, 2 ≤ n → M.ad n = some a → Md'.h a = none := fun n a h2 h => by
    have h1 := hd n a h2 h
    cases z : Md'.h a with
    | none => rfl
    | some u => exact absurd h1 (g.nm a (r.inH k h2 h) (ne_none_of z))
  refine ⟨⟨g.i, g.ni, fun a h z => ?_, fun a o h m => ?_, g.th, adm⟩, ⟨k'.ih, fun a o h => ?_, fun a h => ?_, k.mi.trans g.i⟩, ⟨⟨⟨Md'.h, Md'.ad, M.i⟩, ud_free (cl := fun _ => none) d Md' M.i rd', fun a o h => join_in h, rfl, rfl, fun n a h2 h => out' n a h2 (by rw [← adb n h2]; exact h)⟩, fun n o h => ?_, fun n h => ?_, fun n m a h1 h2 h3 h4 => ?_⟩⟩
  · obtain ⟨o, ho⟩ := some_of_ne z
    rcases join_cases ho with h1 | ⟨_, _, h1⟩
    · obtain ⟨u, hu⟩ := some_of_ne (g.nm a h (ne_none_of h1))
      exact ne_none_of (sm a u hu)
    · exact ne_none_of h1
  · refine g.kp a o h ?_
    cases z : Md.h a with
    | none => rfl
    | some u => rw [sm a u z] at m; cases m
  · rcases join_cases h with h1 | ⟨_, h2, h1⟩
    · exact k'.mh a o h1
    · exact g.kp a o (k.mh a o h1) h2
  · cases z : (join M Md Md').h a with
    | none => rfl
    | some o =>
      exfalso
      rcases join_cases z with h1 | ⟨_, _, h1⟩
      · rw [k'.dj a h] at h1; cases h1
      · have hH := k.mh a o h1
        have := k.dj a (g.ni a (ne_none_of hH) h)
        rw [h1] at this; cases this
  · obtain ⟨a, h1, h2⟩ := r.ob n o h
    refine ⟨a, (adb _ (by omega)).trans h1, h2.mono (M := M) (M' := join M Md Md') (Same.refl _) adm (join_out (out' _ a (by omega) h1) (hd _ a (by omega) h1))⟩
  · exact (adb n (by omega)).trans (r.no n h)
  · rw [adb n h1] at h3
    rw [adb m h2] at h4
    exact r.inj n m a h1 h2 h3 h4
theorem vrs_down {xs : List V} {vs : List Val} (e0 : Md.ad 0 = M.ad 0) (e1 : Md.ad 1 = M.ad 1) (h : VRs K I M H xs vs) (ha : vs.all okU = true) : VRs K I Md H xs vs := by
  induction h with
  | nil => exact .nil
  | @cons x xs v vs hx _ ih =>
    rw [List.all_cons, Bool.and_eq_true] at ha
    refine .cons ?_ (ih ha.2)
    match v, hx, ha.1 with
    | .d _, hx, _ => exact hx
    | .ref n, ⟨a, h1, h2⟩, hn =>
      have hn : n < 2 := of_decide_eq_true hn
      refine ⟨a, ?_, h2⟩
      rcases (show n = 0 ∨ n = 1 by omega) with rfl | rfl
      · rw [e0]; exact h1
      · rw [e1]; exact h1
theorem up_fn {P : Program} {w : World} {mg : Str → Option Value} {base : Heap} {k : Nat} {f : Addr} {fd : FuncData} {ps : List Str} {F : List Val → DS → Res DS Val} (G : FnG (UD K tb cl) P w K mg base k f fd ps F) : FnG (UL K tb cl ci) P w K mg base k f fd ps (upF F) := by
  refine ⟨fun A outer s H args us xs Q E vs st I M hr hgd he hb hv hl ok rs hvs hd h => ?_⟩
  have rs : LR K tb ci st M := rs
  obtain ⟨Md, rd, sm, e0, e1, hdm⟩ := rs.dr
  by_cases c : vs.all okU = true
  · rw [show upF F vs st = upR st (F vs st.d) from if_pos c] at h
    let M0 : Mw := ⟨Md.h, Md.ad, fun _ => none⟩
    have rd0 : RD K tb st.d M0 := ud_free (cl := cl) st.d Md (fun _ => none) rd
    have dj0 : ∀ a, I a ≠ none → M0.h a = none := fun a h => by
      show Md.h a = none
      cases z : Md.h a with
      | none => rfl
      | some u => have := ok.dj a h; rw [sm a u z] at this; cases this
    have ok0 : Ok I M0 H := ⟨ok.ih, sm.trans ok.mh, dj0, fun _ _ e => nomatch e⟩
    refine G.run A outer s H args us xs Q E vs st.d I M0 hr hgd he hb hv hl ok0 rd0 (vrs_down (Md := M0) e0 e1 hvs c) hd ?_
    cases z : F vs st.d with
    | stuck => rw [z] at h; exact h
    | ok v d =>
      rw [z] at h
      by_cases cv : okU v = true
      · rw [show upR st (.ok v d) = .ok v ⟨d, st.ob⟩ from if_pos cv] at h
        intro x I' M' H' g k' r' q
        obtain ⟨g2, k2, r2⟩ := join_ok rs rd0 sm e0 e1 hdm ok g k' r'
        refine h x I' (join M M0 M') H' g2 k2 r2 ?_
        match v, q, cv with
        | .d _, q, _ => exact q
        | .ref n, ⟨a, h1, h2⟩, hn =>
          exact ⟨a, (if_pos (of_decide_eq_true hn)).trans h1, h2⟩
      · rw [show upR st (.ok v d) = .stuck from if_neg cv] at h; exact False.elim h
    | exc c fs d =>
      rw [z] at h
      intro cls dd I' M' H' g k' r' q
      obtain ⟨g2, k2, r2⟩ := join_ok rs rd0 sm e0 e1 hdm ok g k' r'
      exact h cls dd I' (join M M0 M') H' g2 k2 r2 q
  · rw [show upF F vs st = .stuck from if_neg c] at h
    exact False.elim h
end
end Dl
set_option maxRecDepth 100000
set_option maxHeartbeats 4000000
namespace Dl
open PySem L2
def obI (st : LS) (v : Val) : Option Ob := match v with
  | .ref n => if n < 2 then none else st.ob[n - 2]?
  | _ => none
def setO (st : LS) (v : Val) (o : Ob) : LS := match v with
  | .ref n => ⟨st.d, st.ob.set (n - 2) o⟩
  | _ => st
def newO (st : LS) (o : Ob) : LS := ⟨st.d, st.ob ++ [o]⟩
def newV (st : LS) : Val := .ref (st.ob.length + 2)
theorem obI_ref {st : LS} {n : Nat} : obI st (.ref (n + 2)) = st.ob[n]? := by
  show (if n + 2 < 2 then none else st.ob[n + 2 - 2]?) = _
  rw [if_neg (by omega)]
  rfl
section
variable {K : PySem.W.Frag} {tb : List (Addr × Str)} {cl : Nat → Option (Addr × List Str)} {ci : Nat → Option Addr} {I I' : Hp} {M : Mw} {H H' : Hp} {st : LS} {x : V} {v : Val} {ob ob' : Ob}
theorem LR.at_ (r : LR K tb ci st M) (hv : VR K I M H x v) (h : obI st v = some ob) : ∃ n a, v = .ref (n + 2) ∧ n < st.ob.length ∧ x = .ref a ∧ M.ad (n + 2) = some a ∧ ObR K ci M a ob := by
  match v, hv, h with
  | .ref n, ⟨a, h1, h2⟩, h =>
    have h : (if n < 2 then none else st.ob[n - 2]?) = some ob := h
    by_cases c : n < 2
    · rw [if_pos c] at h; cases h
    · rw [if_neg c] at h
      obtain ⟨m, rfl⟩ : ∃ m, n = m + 2 := ⟨n - 2, by omega⟩
      have h : st.ob[m]? = some ob := h
      obtain ⟨b, h3, h4⟩ := r.ob m ob h
      rw [h1] at h3
      cases h3
      exact ⟨m, a, rfl, (List.getElem?_eq_some_iff.mp h).1, h2, h1, h4⟩
/-- an object changes -/
theorem LR.chg {o : HO} {n : Nat} {a : Addr} (r : LR K tb ci st M) (k : Ok I M H) (hn : n < st.ob.length) (ha : M.ad (n + 2) = some a) (hm : M.h a ≠ none) (h : ObR K ci ⟨upd M.h a o, M.ad, I⟩ a ob') :
    Grow I M H I ⟨upd M.h a o, M.ad, I⟩ (upd H a o) ∧ Ok I ⟨upd M.h a o, M.ad, I⟩ (upd H a o) ∧ LR K tb ci (setO st (.ref (n + 2)) ob') ⟨upd M.h a o, M.ad, I⟩ := by
  obtain ⟨o0, ho⟩ := some_of_ne hm
  have iA : I a = none := by
    cases z : I a with
    | none => rfl
    | some u => have := k.dj a (ne_none_of z); rw [ho] at this; cases this
  obtain ⟨Md, rd, sm, e0, e1, hd⟩ := r.dr
  have mA := hd _ _ (by omega) ha
  refine ⟨⟨Same.refl I, fun _ _ z => z, fun b hb z => ?_, fun b u e m => ?_, fun b e => ?_, fun _ _ z => z⟩, ⟨fun b u e => ?_, fun b u e => ?_, fun b e => ?_, Same.refl I⟩, ⟨⟨Md, rd, fun b u e => ?_, e0, e1, hd⟩, fun m u e => ?_, fun m e => ?_, r.inj⟩⟩
  · by_cases c : b = a
    · rw [c, ho]; exact fun z => nomatch z
    · have z : upd M.h a o b ≠ none := z
      rw [upd_ne c] at z; exact z
  · rw [upd_ne (fun z => by rw [z, ho] at m; cases m)]; exact e
  · by_cases c : b = a
    · rw [c, upd_same]; exact fun z => nomatch z
    · rw [upd_ne c]; exact e
  · rw [upd_ne (fun z => by rw [z, iA] at e; cases e)]; exact k.ih b u e
  · have e : upd M.h a o b = some u := e
    by_cases c : b = a
    · rw [c] at e ⊢; rw [upd_same] at e ⊢; exact e
    · rw [upd_ne c] at e ⊢; exact k.mh b u e
  · show upd M.h a o b = none
    rw [upd_ne (fun z => e (by rw [z]; exact iA))]; exact k.dj b e
  · show upd M.h a o b = some u
    rw [upd_ne (fun z => by rw [z, mA] at e; cases e)]; exact sm b u e
  · have e : (st.ob.set n ob')[m]? = some u := e
    by_cases c : m = n
    · subst c
      rw [List.getElem?_set_self hn] at e
      cases e
      exact ⟨a, ha, h⟩
    · rw [List.getElem?_set_ne (Ne.symm c)] at e
      obtain ⟨b, h1, h2⟩ := r.ob m u e
      refine ⟨b, h1, h2.mono (M := M) (M' := ⟨upd M.h a o, M.ad, I⟩) k.mi (fun _ _ z => z) (upd_ne fun z => ?_)⟩
      subst z
      exact c (by have := r.inj _ _ _ (by omega) (by omega) h1 ha; omega)
  · have e : (st.ob.set n ob').length + 2 ≤ m := e
    rw [List.length_set] at e
    exact r.no m e
theorem VR.fr {ad : Nat → Option Addr} {h' : Hp} (ha : ∀ n a, M.ad n = some a → ad n = some a) (hd : isDR v = true) (h : VR K I M H x v) : FR K ⟨h', ad, I⟩ x v := by
  match v, h with
  | .d _, h => exact h
  | .ref _, ⟨b, h1, h2⟩ => exact ⟨b, ha _ _ h1, h2⟩
end
/-- what must be known of the classes for a field -/
def ClsF (K : PySem.W.Frag) (ci : Nat → Option Addr) (f : Str) : Prop := ∀ c C, ciI ci c = some C → Cls K C ∧ NoAttr K C f
section
variable {tb : List (Addr × Str)} {cl : Nat → Option (Addr × List Str)} {ci : Nat → Option Addr} {X : Cx} {W : WX} {a e o : Expr} {Fa Fe : Rho → LS → Res LS Val} {f : Str} {pos pos' : Pos}
end
end Dl
set_option maxRecDepth 100000
set_option maxHeartbeats 4000000
namespace Dl
open PySem L2 PySem.Spec PyProof.Rows
section
variable {tb : List (Addr × Str)} {cl : Nat → Option (Addr × List Str)} {ci : Nat → Option Addr} {X : Cx} {W : WX} {a b e : Expr} {es : List Expr} {Fa Fb Fe : Rho → LS → Res LS Val} {A : Rho → LS → Res LS (List Val)} {G1 G2 : Rho → LS → Res LS (Option Int)} {lo hi : Option Expr} {pos p2 : Pos}
end
end Dl
set_option maxRecDepth 100000
set_option maxHeartbeats 4000000
namespace Dl
open PySem L2 PySem.Spec PyProof.Rows
inductive LT where
  | nm (i : Nat)
  | fld (f : Str) (i : Nat)
  | key (k : Str) (i : Nat)
def slotV (ρ : Rho) (i : Nat) : Option Val := match ρ[i]? with
  | some (some v) => some v
  | _ => none
def setL (t : LT) (d : PyData) (ρ : Rho) (st : LS) : Option (Rho × LS) := match t with
  | .nm i => some (ρ.set i (some (.d d)), st)
  | .fld f i => (slotV ρ i).bind fun v => match obI st v with
    | some (.ins c fs) => if fs.length < 50 then some (ρ, setO st v (.ins c (putA f (.d d) fs))) else none
    | _ => none
  | .key k i => (slotV ρ i).bind fun v => match obI st v with
    | some (.dct kvs) => if kvs.length < 50 then some (ρ, setO st v (.dct (putB kvs (Sum.inr k) d))) else none
    | _ => none
section
variable {K : PySem.W.Frag} {tb : List (Addr × Str)} {cl : Nat → Option (Addr × List Str)} {ci : Nat → Option Addr} {Z : Base} {I : Hp}
variable {X : Cx} {W : WX} {e : Expr} {Fe : Rho → LS → Res LS Val} {pos : Pos}
end
end Dl
set_option maxRecDepth 100000
set_option maxHeartbeats 4000000
namespace Dl
open PySem L2 PySem.Spec PyProof.Rows
section
variable {tb : List (Addr × Str)} {cl : Nat → Option (Addr × List Str)} {ci : Nat → Option Addr} {X : Cx} {W : WX} {a b e : Expr} {Fa Fe : Rho → LS → Res LS Val} {pos p2 : Pos}
theorem LR.addAt {K : PySem.W.Frag} {I I0 : Hp} {M M0 : Mw} {H H0 : Hp} {st : LS} {ob' : Ob} {o : HO} {p : Addr} (r : LR K tb ci st M) (k : Ok I M H) (g : Grow I0 M0 H0 I M H) (h0 : H0 p = none) (ip : I p = none) (mp : M.h p = none)
    (h : ObR K ci ⟨upd M.h p o, fun n => if n = st.ob.length + 2 then some p else M.ad n, I⟩ p ob') :
    Grow I0 M0 H0 I ⟨upd M.h p o, fun n => if n = st.ob.length + 2 then some p else M.ad n, I⟩ (upd H p o) ∧ Ok I ⟨upd M.h p o, fun n => if n = st.ob.length + 2 then some p else M.ad n, I⟩ (upd H p o) ∧
    LR K tb ci (newO st ob') ⟨upd M.h p o, fun n => if n = st.ob.length + 2 then some p else M.ad n, I⟩ ∧ VR K I ⟨upd M.h p o, fun n => if n = st.ob.length + 2 then some p else M.ad n, I⟩ (upd H p o) (.ref p) (newV st) := by
  obtain ⟨Md, rd, sm, e0, e1, hd⟩ := r.dr
  have mdp : Md.h p = none := by
    cases z : Md.h p with
    | none => rfl
    | some u => rw [sm p u z] at mp; cases mp
  have adm : ∀ n a, M.ad n = some a → (if n = st.ob.length + 2 then some p else M.ad n) = some a := fun n a e => by
    by_cases c : n = st.ob.length + 2
    · rw [r.no n (by omega)] at e; cases e
    · rw [if_neg c]; exact e
  have adc : ∀ n a, (if n = st.ob.length + 2 then some p else M.ad n) = some a → (n = st.ob.length + 2 ∧ a = p) ∨ (n ≠ st.ob.length + 2 ∧ M.ad n = some a) := fun n a e => by
    by_cases c : n = st.ob.length + 2
    · rw [if_pos c] at e; exact .inl ⟨c, (Option.some.inj e).symm⟩
    · rw [if_neg c] at e; exact .inr ⟨c, e⟩
  refine ⟨⟨g.i, g.ni, fun b hb z => ?_, fun b u e m => ?_, fun b e => ?_, fun n a e => adm n a (g.ad n a e)⟩, ⟨fun b u e => ?_, fun b u e => ?_, fun b e => ?_, Same.refl I⟩, ⟨⟨Md, rd, fun b u e => ?_, ?_, ?_, fun n a h2 e => ?_⟩, fun m u e => ?_, fun m e => ?_, fun n m a h1 h2 h3 h4 => ?_⟩, ⟨p, if_pos rfl, rfl⟩⟩
  · have z : upd M.h p o b ≠ none := z
    rw [upd_ne (fun w => hb (by rw [w]; exact h0))] at z; exact g.nm b hb z
  · rw [upd_ne (ne_of_none e h0)]; exact g.kp b u e m
  · rw [upd_ne (fun w => e (by rw [w]; exact h0))]; exact g.th b e
  · rw [upd_ne (ne_of_none e ip)]; exact k.ih b u e
  · have e : upd M.h p o b = some u := e
    by_cases c : b = p
    · rw [c] at e ⊢; rw [upd_same] at e ⊢; exact e
    · rw [upd_ne c] at e ⊢; exact k.mh b u e
  · show upd M.h p o b = none
    rw [upd_ne (fun w => e (by rw [w]; exact ip))]; exact k.dj b e
  · show upd M.h p o b = some u
    rw [upd_ne (ne_of_none e mdp)]; exact sm b u e
  · show Md.ad 0 = if 0 = st.ob.length + 2 then some p else M.ad 0
    rw [if_neg (by omega)]; exact e0
  · show Md.ad 1 = if 1 = st.ob.length + 2 then some p else M.ad 1
    rw [if_neg (by omega)]; exact e1
  · rcases adc n a e with ⟨_, rfl⟩ | ⟨_, h3⟩
    · exact mdp
    · exact hd n a h2 h3
  · have e : (st.ob ++ [ob'])[m]? = some u := e
    by_cases c : m < st.ob.length
    · rw [List.getElem?_append_left c] at e
      obtain ⟨b, h1, h2⟩ := r.ob m u e
      refine ⟨b, adm _ _ h1, h2.mono (M := M) (M' := ⟨upd M.h p o, fun n => if n = st.ob.length + 2 then some p else M.ad n, I⟩) k.mi adm (upd_ne fun z => ?_)⟩
      rw [z] at h1
      exact r.new k.mi mp ip (by omega) h1
    · have hm : m = st.ob.length := by
        have := (List.getElem?_eq_some_iff.mp e).1
        simp at this
        omega
      subst hm
      rw [List.getElem?_append_right (Nat.le_refl _), Nat.sub_self] at e
      cases e
      exact ⟨p, if_pos rfl, h⟩
  · have e : (st.ob ++ [ob']).length + 2 ≤ m := e
    rw [List.length_append, List.length_singleton] at e
    show (if m = st.ob.length + 2 then some p else M.ad m) = none
    rw [if_neg (by omega)]
    exact r.no m (by omega)
  · rcases adc n a h3 with ⟨q1, q2⟩ | ⟨q1, q2⟩ <;> rcases adc m a h4 with ⟨q3, q4⟩ | ⟨q3, q4⟩
    · omega
    · rw [q2] at q4
      exact (r.new k.mi mp ip h2 q4).elim
    · rw [q4] at q2
      exact (r.new k.mi mp ip h1 q2).elim
    · exact r.inj n m a h1 h2 q2 q4
end
end Dl
set_option maxRecDepth 100000
set_option maxHeartbeats 4000000
namespace Dl
open PySem L2 PySem.Spec PyProof.Rows
/-- how a def's parameters are filled: n values, then defaults -/
structure MB (K : PySem.W.Frag) (fd : FuncData) (ps : List Str) (n : Nat) (ds : List PyData) : Prop where
  ex : ∃ (dvs : List V) (dus : List Value), Vals dvs dus ∧ Binds K fd ps dus ∧ ∀ I, RpAll K I dvs ds
  len : ps.length = n + ds.length
/-- the class of the objects -/
structure MC (K : PySem.W.Frag) (ci : Nat → Option Addr) (m : Str) (f : Addr) : Prop where
  cls : ∀ c C, ciI ci c = some C → Cls K C ∧ Meth K C m f
section
variable {tb : List (Addr × Str)} {cl : Nat → Option (Addr × List Str)} {ci : Nat → Option Addr} {X : Cx} {W : WX} {o e : Expr} {es : List Expr} {Fo Fe : Rho → LS → Res LS Val} {A B : Rho → LS → Res LS (List Val)} {pos apos : Pos} {m kw : Str} {k n : Nat} {f : Addr} {fd : FuncData} {ps : List Str} {F : List Val → LS → Res LS Val} {ds : List PyData}
end
end Dl
set_option maxRecDepth 100000
set_option maxHeartbeats 4000000
namespace Dl
open PySem L2 PySem.Spec PyProof.Rows
/-- there is one class -/
structure CI (K : PySem.W.Frag) (ci : Nat → Option Addr) (C : Addr) : Prop where
  one : ∀ c C', ciI ci c = some C' → C' = C
  at0 : ciI ci 0 = some C
  cls : Cls K C
section
variable {tb : List (Addr × Str)} {cl : Nat → Option (Addr × List Str)} {ci : Nat → Option Addr} {X : Cx} {W : WX} {o e a b : Expr} {es : List Expr} {Fo Fe Fa Fb : Rho → LS → Res LS Val} {A B : Rho → LS → Res LS (List Val)} {pos apos p : Pos} {x : Str} {k n : Nat} {f C : Addr} {fd : FuncData} {ps : List Str} {F : List Val → LS → Res LS Val} {ds : List PyData}
end
end Dl
set_option maxRecDepth 100000
set_option maxHeartbeats 4000000
namespace Dl
open PySem L2 PySem.Spec PyProof.Rows
section
variable {tb : List (Addr × Str)} {cl : Nat → Option (Addr × List Str)} {ci : Nat → Option Addr} {X : Cx} {W : WX} {o e a b : Expr} {es : List Expr} {Fo Fe Fa Fb : Rho → LS → Res LS Val} {A B : Rho → LS → Res LS (List Val)} {pos apos p : Pos} {x : Str} {k n : Nat} {f C : Addr} {fd : FuncData} {ps : List Str} {F : List Val → LS → Res LS Val} {ds : List PyData}
end
end Dl
set_option maxRecDepth 100000
set_option maxHeartbeats 4000000
namespace Dl
open PySem L2 PySem.Spec PyProof.Rows
section
variable {tb : List (Addr × Str)} {cl : Nat → Option (Addr × List Str)} {ci : Nat → Option Addr} {X : Cx} {W : WX} {a : Expr} {Fa : Rho → LS → Res LS Val} {pos p q : Pos} {x : Str} {C : Addr}
end
end Dl
set_option maxRecDepth 100000
set_option maxHeartbeats 4000000
namespace Dl
open PySem L2 PySem.Spec PyProof.Rows
/-- a method, no defaults -/
structure PMe (K : PySem.W.Frag) (C : Addr) (x q : Str) (st : Stmt) (ps : List Str) (f : Addr) (fd : FuncData) : Prop where
  fn : Fun K x q st f fd
  at_ : PySem.W.findIn K (.ref C) x = some (some (.ref f))
  isf : PySem.W.isFn K (.ref f) = true
  fi : PySem.W.fnIn K f = true
  b : Binds K fd ps []
theorem PMe.mb {K : PySem.W.Frag} {C : Addr} {x q : Str} {st : Stmt} {ps : List Str} {f : Addr} {fd : FuncData} (T : PMe K C x q st ps f fd) {n : Nat} (h : ps.length = n) : MB K fd ps n [] := ⟨⟨[], [], .nil, T.b, fun _ => .nil⟩, h⟩
theorem CI.mc {K : PySem.W.Frag} {ci : Nat → Option Addr} {C : Addr} {x : Str} {f : Addr} (c : CI K ci C) (m : Meth K C x f) : MC K ci x f := ⟨fun k C' h => by
  have := c.one k C' h
  subst this
  exact ⟨c.cls, m⟩⟩
theorem CI.fl {K : PySem.W.Frag} {ci : Nat → Option Addr} {C : Addr} {x : Str} (c : CI K ci C) (m : NoAttr K C x) : ClsF K ci x := fun k C' h => by
  have := c.one k C' h
  subst this
  exact ⟨c.cls, m⟩
/-- a property that returns a field -/
structure PPr (K : PySem.W.Frag) (C : Addr) (x q fld : Str) (st : Stmt) (p g : Addr) (gd : FuncData) : Prop where
  pr : PropOf K C x p g
  na : NoAttr K C fld
  b : Binds K gd ["self"] []
  fn : Fun K x q st g gd
theorem PPr.ok {P : Program} {w : World} {K : PySem.W.Frag} {mg : Str → Option Value} {base : Heap} {C : Addr} {x q fld : Str} {st : Stmt} {p g : Addr} {gd : FuncData} {p1 p2 p3 : Pos} (T : PPr K C x q fld st p g gd) (c : Cls K C) (S : FnScope ["self"] ["self"] (defScope st)) (hb : defBody st = [.Return (some (.Attribute (.Name "self" p1) fld p2)) p3]) :
    FnOk P w K mg base CX0 1 g gd ["self"] (getSp C fld) := by
  obtain ⟨oc, od, kV, doc, pm, an, cdv, ct, osl, rfl, lk, hcd⟩ := T.fn.ex
  exact fn_getter lk hcd S rfl hb c T.na
section
variable {X : Cx} {tb : List (Addr × Str)} {cl : Nat → Option (Addr × List Str)} {ci : Nat → Option Addr} {W : WX} {a : Expr} {Fa : Rho → LS → Res LS Val} {pos p : Pos}
end
def dnF (F : List Val → LS → Res LS Val) : List Val → DS → Res DS Val := fun vs d => if vs.all okU = true then (match F vs ⟨d, []⟩ with
  | .ok (.d v) s => .ok (.d v) s.d
  | _ => .stuck) else .stuck
theorem dn_fn {K : PySem.W.Frag} {tb : List (Addr × Str)} {cl : Nat → Option (Addr × List Str)} {ci : Nat → Option Addr} {P : Program} {w : World} {mg : Str → Option Value} {base : Heap} {k : Nat} {f : Addr} {fd : FuncData} {ps : List Str} {F : List Val → LS → Res LS Val}
    (G : FnG (UL K tb cl ci) P w K mg base k f fd ps F) : FnG (UD K tb cl) P w K mg base k f fd ps (dnF F) := by
  refine ⟨fun A outer s H args us xs Q E vs d I M hr hgd he hb hv hl ok rs hvs hd h => ?_⟩
  have rd : RD K tb d M := rs
  by_cases c : vs.all okU = true
  · rw [show dnF F vs d = (match F vs ⟨d, []⟩ with
      | .ok (.d v) s => .ok (.d v) s.d
      | _ => .stuck) from if_pos c] at h
    let M0 : Mw := ⟨M.h, fun n => if n < 2 then M.ad n else none, M.i⟩
    have a0 : M0.ad 0 = M.ad 0 := rfl
    have a1 : M0.ad 1 = M.ad 1 := rfl
    have hi : ∀ n, 2 ≤ n → M0.ad n = none := fun n h2 => by
      show (if n < 2 then M.ad n else none) = none
      rw [if_neg (by omega)]
    have lr : LR K tb ci ⟨d, []⟩ M0 := ⟨⟨M, rd, Same.refl _, a0.symm, a1.symm, fun n a h2 e => by rw [hi n h2] at e; cases e⟩, fun n o e => by simp at e, fun n h2 => hi n (by simp at h2; omega), fun n m a h2 _ e _ => by rw [hi n h2] at e; cases e⟩
    have ok0 : Ok I M0 H := ⟨ok.ih, ok.mh, ok.dj, ok.mi⟩
    refine G.run A outer s H args us xs Q E vs ⟨d, []⟩ I M0 hr hgd he hb hv hl ok0 lr (vrs_down (Md := M0) a0 a1 hvs c) hd ?_
    cases z : F vs ⟨d, []⟩ with
    | stuck => rw [z] at h; exact h
    | exc cc fs s2 => rw [z] at h; exact False.elim h
    | ok v s2 =>
      rw [z] at h
      match v, h with
      | .d v, h =>
        intro x I1 M1 H1 g k1 r1 q
        have r1 : LR K tb ci s2 M1 := r1
        obtain ⟨Md, rd1, sm, e0, e1, _⟩ := r1.dr
        let M2 : Mw := ⟨Md.h, fun n => if n < 2 then M1.ad n else M.ad n, fun _ => none⟩
        have b0 : M2.ad 0 = Md.ad 0 := e0.symm
        have b1 : M2.ad 1 = Md.ad 1 := e1.symm
        have rd2 : RD K tb s2.d M2 := by
          refine ⟨?_, rd1.len, fun e => b0.trans (rd1.off e), fun e => ?_, rd1.tab⟩
          · obtain ⟨a, h1, h2⟩ := rd1.scr
            exact ⟨a, b1.trans h1, h2⟩
          · obtain ⟨m, c, l, h1, d1⟩ := rd1.dr e
            exact ⟨m, c, l, b0.trans h1, ⟨d1.hm, d1.hc, d1.hl, d1.ncl, d1.lc, d1.ll⟩⟩
        refine h x I1 M2 H1 ⟨g.i, g.ni, fun a hh zz => ?_, g.kp, g.th, fun n a e => ?_⟩ ⟨k1.ih, sm.trans k1.mh, fun a hh => ?_, fun _ _ e => nomatch e⟩ rd2 q
        · obtain ⟨o, ho⟩ := some_of_ne (show Md.h a ≠ none from zz)
          exact g.nm a hh (ne_none_of (sm a o ho))
        · show (if n < 2 then M1.ad n else M.ad n) = some a
          by_cases cn : n < 2
          · rw [if_pos cn]; exact g.ad n a (by show (if n < 2 then M.ad n else none) = some a; rw [if_pos cn]; exact e)
          · rw [if_neg cn]; exact e
        · show Md.h a = none
          cases w : Md.h a with
          | none => rfl
          | some o => have := k1.dj a hh; rw [sm a o w] at this; cases this
      | .ref _, h => exact False.elim h
      | .own _, h => exact False.elim h
      | .exc _ _, h => exact False.elim h
      | .ownd _ _ _, h => exact False.elim h
  · rw [show dnF F vs d = .stuck from if_neg c] at h
    exact False.elim h
end Dl
set_option maxRecDepth 100000
set_option maxHeartbeats 4000000
namespace Dl
open PySem L2 PySem.Spec PyProof.Rows
end Dl
set_option maxRecDepth 100000
set_option maxHeartbeats 4000000
namespace Dl
open PySem L2 PySem.Spec PyProof.Rows
section
variable {prog : Program} {w : World} {A : Around} {E : Value → Shared → Prop} {s : Shared} {K : PySem.W.Frag} {x C L f : Addr} {h₀ : Heap} {m : Str → Option Value} {ox : Obj} {od : Option Obj} {b tb : Value}
end
end Dl
set_option maxRecDepth 100000
set_option maxHeartbeats 4000000
namespace Dl
open PySem L2 PySem.Spec PyProof.Rows
section
variable {tb : List (Addr × Str)} {cl : Nat → Option (Addr × List Str)} {ci : Nat → Option Addr} {X : Cx} {W : WX} {a b : Expr} {Fa Fb : Rho → LS → Res LS Val} {pos : Pos} {C f : Addr} {fd : FuncData} {k : Nat} {ps : List Str} {F : List Val → LS → Res LS Val}
end
end Dl
set_option maxRecDepth 100000
set_option maxHeartbeats 4000000
namespace Dl
open PySem L2 PySem.Spec PyProof.Rows
theorem FRs.atI {β : Type} {R : V → β → Prop} {a : List V} {b : List β} (h : FRs R a b) {k : Int} {v : β} (e : L2.atI b k = some v) : ∃ x, L2.atI a k = some x ∧ R x v := by
  unfold L2.atI at e ⊢
  rw [h.len]
  cases z : ixN b.length k with
  | none => rw [z] at e; cases e
  | some j =>
    rw [z] at e
    exact h.at_ (i := j) e
section
variable {K : PySem.W.Frag} {tb : List (Addr × Str)} {cl : Nat → Option (Addr × List Str)} {ci : Nat → Option Addr}
end
section
variable {tb : List (Addr × Str)} {cl : Nat → Option (Addr × List Str)} {ci : Nat → Option Addr} {X : Cx} {W : WX} {a b e : Expr} {es : List Expr} {Fa Fb Fe : Rho → LS → Res LS Val} {A : Rho → LS → Res LS (List Val)} {pos : Pos}
end
section
variable {tb : List (Addr × Str)} {cl : Nat → Option (Addr × List Str)} {ci : Nat → Option Addr} {X : Cx} {W : WX} {a b : Expr} {Fa Fb : Rho → LS → Res LS Val} {pos : Pos} {C f : Addr} {fd : FuncData} {k : Nat} {ps : List Str} {F : List Val → LS → Res LS Val}
end
end Dl
set_option maxRecDepth 100000
set_option maxHeartbeats 4000000
namespace Dl
open PySem L2 PySem.Spec PyProof.Rows
section
variable {tb : List (Addr × Str)} {cl : Nat → Option (Addr × List Str)} {ci : Nat → Option Addr} {X : Cx} {W : WX} {o e a b : Expr} {es : List Expr} {Fo Fe Fa Fb : Rho → LS → Res LS Val} {A B : Rho → LS → Res LS (List Val)} {pos apos p : Pos} {x : Str} {k n : Nat} {f C : Addr} {fd : FuncData} {ps : List Str} {F : List Val → LS → Res LS Val} {kw : Str}
end
end Dl
set_option maxRecDepth 100000
set_option maxHeartbeats 4000000
namespace Dl
open PySem L2 PySem.Spec PyProof.Rows LamX
section
variable {S : Type}
end
theorem VRs.frs {K : PySem.W.Frag} {I : Hp} {M : Mw} {H : Hp} : ∀ {xs : List V} {vs : List Val}, VRs K I M H xs vs → FRs (VR K I M H) xs vs
  | _, _, .nil => .nil
  | _, _, .cons h r => .cons h (VRs.frs r)
section
variable {U : Uni} {X : Cx} {W : WX} {b : Expr} {es : List Expr} {A : Rho → U.S → Res U.S (List Val)} {Fb : Rho → U.S → Res U.S Val} {pos pos2 : Pos}
end
theorem LamStep.growL {K : PySem.W.Frag} {tb : List (Addr × Str)} {ci : Nat → Option Addr} {I : Hp} {M : Mw} {H H1 : Hp} {st : LS} {P : Addr} {q : Str} (S : LamStep H P q H1) (ok : Ok I M H) (rs : LR K tb ci st M) (hm : (P, q) ∈ tb) (hu : ∀ p ∈ tb, p.1 = P → p.2 = q) :
    ∃ M1, Grow I M H I M1 H1 ∧ Ok I M1 H1 ∧ LR K tb ci st M1 := by
  obtain ⟨Md, rd, sm, e0, e1, hdm⟩ := rs.dr
  let M0 : Mw := ⟨Md.h, Md.ad, fun _ => none⟩
  have rd0 : RD K tb st.d M0 := ud_free (cl := fun _ => none) st.d Md (fun _ => none) rd
  have dj0 : ∀ a, I a ≠ none → M0.h a = none := fun a h => by
    show Md.h a = none
    cases z : Md.h a with
    | none => rfl
    | some u => have := ok.dj a h; rw [sm a u z] at this; cases this
  have ok0 : Ok I M0 H := ⟨ok.ih, sm.trans ok.mh, dj0, fun _ _ e => nomatch e⟩
  obtain ⟨M1, g, k, r⟩ := S.grow ok0 rd0 hm hu
  obtain ⟨g2, k2, r2⟩ := join_ok rs rd0 sm e0 e1 hdm ok g k r
  exact ⟨_, g2, k2, r2⟩
theorem ped_outL {X : Cx} {tb : List (Addr × Str)} {cl : Nat → Option (Addr × List Str)} {ci : Nat → Option Addr} {W : WX} {x : Str} {c P : Addr} {k : Nat} {params : Arguments} {body : Expr} {scope : Scope} {p lpos pos : Pos} {Fb : Rho → LS → Res LS Val} (O : OutF X.prog X.w X.K X.mg X.base (UL X.K tb cl ci) x) (hg : Gl X x) (TB : TabB X.base X.mg c P)
    (hcode : X.env.code = .ref c) (hm : (P, X.env.qual ++ "<lambda>") ∈ tb) (hu : ∀ p ∈ tb, p.1 = P → p.2 = X.env.qual ++ "<lambda>") (hr : Room (k + 4) X.A) (hgd : X.A.guards = some []) (L : LamS X.env.scope scope) (hdef : defaultsOf params X.env = ([], []))
    (hbind : ∀ (q : Str) (cl : List (Str × Addr)) (pm cv ctv : Value), bindArgs (PySem.W.kla_fn "<lambda>" q params body scope cl pm cv ctv) ⟨[], []⟩ = pure [])
    (hbody : ∀ (A : Around) (outer : List Env) (s : Shared) (H : Hp) (E : XK) (f c' : Addr), Room (k + 2) (A.deeper (lamEnv X scope s.heap.objs.size f c')) → A.guards = some [] → PEd (UL X.K tb cl ci) (lamCx X A outer s H E scope f c') (fun cls d _ H' => E cls d H') body Fb)
    (hdb : (x == ("__debug__" : Str)) = false := by decide) : PEd (UL X.K tb cl ci) X W (.Call (.Name x p) [.Lambda params body scope lpos] [] pos) (eOut Fb) := by
  obtain ⟨g, pg, bg, sg, dV, kV, doc, pm, cdv, ct, oc, an, od, osl, Ng, a, e1, e2, e3, e4, e5, e6, e7, e8, e9, e10, hG⟩ := O.ex
  refine pe_imp (pe_lamG (TT := TTout (UL X.K tb cl ci) X.K) (t := fun E => tE (UL X.K tb cl ci) X.K (fun cls d _ H' => E cls d H') Fb) hg e1 e2 e3 e4 e5 e6 e7 e8 (fun hgd => hG X _ rfl rfl rfl rfl rfl (hr.mono (by omega)) hgd) TB hcode (k := k + 2) hr hgd L hdef hbind hbody hdb e9 e10) fun σ H Q h => ?_
  obtain ⟨Z, ρ, st, I, M, ft, ps⟩ := h
  have rs : LR X.K tb ci st M := ft.rs
  obtain ⟨Md, rd, sm, _, _, _⟩ := rs.dr
  refine ⟨(rd.tab _ hm).ext fun b o e => ft.ok.mh b o (sm b o e), fun H1 S => ?_⟩
  obtain ⟨M1, g0, k0, r1⟩ := S.growL ft.ok rs hm hu
  intro b R hb hR
  obtain ⟨g0', k1⟩ := Grow.alloc (o := .tup [.non, .non]) k0 hb
  have g1 := g0.trans g0'
  refine ⟨Z, ρ, st, _, M1, ft.grow g1 k1 r1, ?_⟩
  unfold eOut at ps
  cases z : Fb ρ st with
  | ok v st1 =>
    rw [z] at ps
    match v, ps with
    | .d y, ps =>
      intro v I' M' H' g' k' r' q'
      refine hR v H' fun b hb => ?_
      obtain ⟨g2, k2⟩ := Grow.alloc (o := .lst [v]) k' hb
      exact ps (.ref b) _ M' _ ((g1.trans g').trans g2) k2 r' (show Rp X.K _ (.ref b) (.list [y]) from .lst upd_same (.cons (Rp.mono g2.i q') .nil))
  | exc c fs st1 =>
    rw [z] at ps
    intro cls d I' M' H' g' k' r' x'
    cases ht : tell c fs with
    | none => simp only [ht] at ps; exact False.elim ps
    | some t =>
      simp only [ht] at ps
      exact ⟨I', M', c, fs, t, k', x', ht, fun z I2 H2 g2 k2 r2 => ps z I2 M' H2 ((g1.trans g').trans g2) k2 r' r2⟩
  | stuck => rw [z] at ps; exact False.elim ps
theorem TOld.cons {a : Addr × Addr × Str} {cs : Tcs} {K : PySem.W.Frag} {h : Heap} (x : TOld [a] K h) (y : TOld cs K h) : TOld (a :: cs) K h :=
  ⟨fun p hp => (List.mem_cons.mp hp).elim (fun e => x.at_ p (by rw [e]; exact List.mem_cons_self)) (y.at_ p),
   fun p hp => (List.mem_cons.mp hp).elim (fun e => x.no p (by rw [e]; exact List.mem_cons_self)) (y.no p),
   fun p hp => (List.mem_cons.mp hp).elim (fun e => x.code p (by rw [e]; exact List.mem_cons_self)) (y.code p)⟩
end Dl
set_option maxRecDepth 100000
set_option maxHeartbeats 4000000
namespace PySem
namespace HandSPX
open Builtin Builtin.ObjectAttr PySem.Calls PyProof.Rows
section
variable {M : Model} {A : Around} {E : Value → Shared → Prop} {h : Heap} {g : Array GenState} {d : Drawn} {t : Nat} {os : OsState}
variable {nm q : Str} {C N : Addr} {bs bm bmB : List Value} {hdct : Bool} {sn : List Str} {sub : List Value} {ab : Bool} {col : Option Bool} {dd : Option Addr} {k0 k1 k2 k3 k5 : Option Value} {B newId initId : String}
end
section
variable {prog : Program} {w : World} {A : Around} {E : Value → Shared → Prop} {R : Result → Shared → Prop} {h : Heap} {g : Array GenState} {d : Drawn} {t : Nat} {os : OsState}
variable {nm q : Str} {C N : Addr} {bs bm bmB : List Value} {hdct : Bool} {sn : List Str} {sub : List Value} {ab : Bool} {col : Option Bool} {dd : Option Addr} {k0 k1 k2 k3 k5 : Option Value} {B newId initId : String}
end
end HandSPX
end PySem
set_option maxRecDepth 100000
set_option maxHeartbeats 4000000
namespace Dl
open PySem L2 PySem.Spec PyProof.Rows
section
variable {X : Cx} {e : Expr} {es : List Expr} {ta : TA} {p pos : Pos} {kws : List Keyword}
end
end Dl
set_option maxRecDepth 100000
set_option maxHeartbeats 4000000
namespace Dl
open PySem L2 PySem.Spec PyProof.Rows
section
variable {tb : List (Addr × Str)} {cl : Nat → Option (Addr × List Str)} {ci : Nat → Option Addr} {X : Cx} {W : WX} {a b e : Expr} {es : List Expr} {Fa Fb : Rho → LS → Res LS Val} {A : Rho → LS → Res LS (List Val)} {pos p q : Pos} {kws : List Keyword} {x : Str} {c n : Nat} {fill : List PyData → List PyData}
end
section
variable {X : Cx} {pins : List (Addr × Obj)} {σ : L2.St} {H : Hp} {s : Shared}
end
section
variable {tb : List (Addr × Str)} {cl : Nat → Option (Addr × List Str)} {ci : Nat → Option Addr} {X : Cx} {W : WX} {a b e : Expr} {es : List Expr} {Fa Fb : Rho → LS → Res LS Val} {A : Rho → LS → Res LS (List Val)} {pos p q : Pos} {x : Str}
theorem FRs.append {β : Type} {R : V → β → Prop} {a a' : List V} {b b' : List β} (h : FRs R a b) (h' : FRs R a' b') : FRs R (a ++ a') (b ++ b') := by
  induction h with
  | nil => exact h'
  | cons q _ ih => exact .cons q ih
end
end Dl
set_option maxRecDepth 100000
set_option maxHeartbeats 4000000
namespace Dl
open PySem L2 PySem.Spec PyProof.Rows
theorem Fit.base {U : Uni} {K : PySem.W.Frag} {Z Z' : Base} {σ : L2.St} {ρ : Rho} {st : U.S} {I : Hp} {M : Mw} {H : Hp} (gz : Grow Z.I Z.M Z.H Z'.I Z'.M Z'.H) (f : Fit U K Z' σ ρ st I M H) : Fit U K Z σ ρ st I M H := by
  have lo : ∀ p, Z'.H p = none → Z.H p = none := fun p h => by
    cases z : Z.H p with
    | none => rfl
    | some u => exact absurd h (gz.th p (ne_none_of z))
  exact ⟨gz.trans f.g, f.ok, f.rs, f.len, f.env, fun i ds p h1 h2 => lo p (f.new i ds p h1 h2), f.sep, fun i t ks ds p h1 h2 => lo p (f.newd i t ks ds p h1 h2), f.sepd⟩
theorem SPost.base {U : Uni} {K : PySem.W.Frag} {W : WX} {Z Z' : Base} {I : Hp} {D : Ends} {r : SRes U.S} (gz : Grow Z.I Z.M Z.H Z'.I Z'.M Z'.H) (h : SPost U K W Z I D r) : SPost U K W Z' I D r := by
  cases r with
  | next ρ st => exact fun σ I M H s f => h σ I M H s (f.base gz)
  | brk ρ st => exact fun σ I M H s f => h σ I M H s (f.base gz)
  | cnt ρ st => exact fun σ I M H s f => h σ I M H s (f.base gz)
  | ret v st => exact fun x I M H g k r q => h x I M H (gz.trans g) k r q
  | exc c fs ρ st => exact fun σ cls d I M H s f => h σ cls d I M H s (f.base gz)
  | stuck => exact h
section
variable {tb : List (Addr × Str)} {cl : Nat → Option (Addr × List Str)} {ci : Nat → Option Addr} {X : Cx} {W : WX} {a : Expr} {es : List Expr} {Fa : Rho → LS → Res LS Val} {B : Rho → LS → SRes LS} {body : List Stmt} {pos p tpos pos2 : Pos}
end
end Dl
set_option maxRecDepth 100000
set_option maxHeartbeats 4000000
namespace Dl
open PySem L2 PySem.Spec PyProof.Rows
theorem Grow.atI {I I1 : Hp} {M M1 : Mw} {H H1 : Hp} {p : Addr} {o0 o : HO} (g : Grow I M (upd H p o0) I1 M1 H1) (k0 : Ok I M H) (k1 : Ok I1 M1 H1) (hp : H p = none) (ip : I1 p = none) (mp : M1.h p = none) :
    Grow I M H (upd I1 p o) M1 (upd H1 p o) ∧ Ok (upd I1 p o) M1 (upd H1 p o) := by
  have ip0 : I p = none := k0.ih.free hp
  have hup : ∀ a u, H a = some u → upd H p o0 a = some u := fun a u e => by rw [upd_ne (ne_of_none e hp)]; exact e
  refine ⟨⟨fun a u e => ?_, fun a e z => ?_, fun a e z => ?_, fun a u e m => ?_, fun a e => ?_, g.ad⟩, ⟨fun a u e => ?_, fun a u e => ?_, fun a e => ?_, fun a u e => ?_⟩⟩
  · rw [upd_ne (ne_of_none e ip0)]; exact g.i a u e
  · obtain ⟨u, hu⟩ := some_of_ne e
    rw [upd_ne (ne_of_none hu hp)] at z
    exact g.ni a (ne_none_of (hup a u hu)) z
  · obtain ⟨u, hu⟩ := some_of_ne e
    exact g.nm a (ne_none_of (hup a u hu)) z
  · rw [upd_ne (ne_of_none e hp)]; exact g.kp a u (hup a u e) m
  · obtain ⟨u, hu⟩ := some_of_ne e
    rw [upd_ne (ne_of_none hu hp)]; exact g.th a (ne_none_of (hup a u hu))
  · by_cases c : a = p
    · rw [c] at e ⊢; rw [upd_same] at e ⊢; exact e
    · rw [upd_ne c] at e ⊢; exact k1.ih a u e
  · rw [upd_ne (ne_of_none e mp)]; exact k1.mh a u e
  · by_cases c : a = p
    · rw [c]; exact mp
    · rw [upd_ne c] at e; exact k1.dj a e
  · rw [upd_ne (ne_of_none (k1.mi a u e) ip)]; exact k1.mi a u e
section
variable {tb : List (Addr × Str)} {cl : Nat → Option (Addr × List Str)} {ci : Nat → Option Addr} {X : Cx} {W : WX} {pos : Pos}
end
end Dl
set_option maxRecDepth 100000
set_option maxHeartbeats 4000000
namespace Dl
open PySem L2 PySem.Spec PyProof.Rows PyProof.V
theorem key_reads {h : Heap} {P : Program} {w : World} : ∀ k key, (mixKind P w).is k key = true → Reads h key (kD k) [] := fun k key hk => by
  rcases keyIs_shape (k := k) (v := key) hk with ⟨i, t, rfl, rfl⟩ | ⟨x, t, rfl, rfl⟩
  · exact .int i t
  · exact .str x t
theorem pairs_of {h : Heap} : ∀ {ks : List Key} {xs : List V} {vs : List (Key × Value)} {ds : List PyData} {bs : List Addr}, ks.length = xs.length → KV (ks.zip xs) vs → ReadsAll h (vs.map (·.2)) ds bs → PairsRead h kD vs ((ks.map kD).zip ds) bs
  | [], [], [], _, _, _, _, .nil => .nil
  | [], [], _ :: _, _, _, _, k, _ => by cases k
  | [], _ :: _, _, _, _, l, _, _ => by cases l
  | _ :: _, [], _, _, _, l, _, _ => by cases l
  | _ :: _, _ :: _, [], _, _, _, k, _ => by cases k
  | k :: ks, x :: xs, (k', v) :: vs, _, _, l, .cons ⟨e, _⟩ r, .cons r1 r2 => by
    cases e
    exact .cons r1 (pairs_of (by simpa using l) r r2)
theorem vals_of : ∀ {ks : List Key} {xs : List V} {vs : List (Key × Value)}, ks.length = xs.length → KV (ks.zip xs) vs → Vals xs (vs.map (·.2))
  | [], [], [], _, _ => .nil
  | [], [], _ :: _, _, k => by cases k
  | [], _ :: _, _, l, _ => by cases l
  | _ :: _, [], _, l, _ => by cases l
  | _ :: _, _ :: _, [], _, k => by cases k
  | k :: ks, x :: xs, (k', v) :: vs, l, .cons ⟨_, e⟩ r => .cons e (vals_of (by simpa using l) r)
mutual
theorem Rp.readsX {X : Cx} {pins : List (Addr × Obj)} {σ : L2.St} {H J : Hp} {s : Shared} (I : Inv X pins σ H s) (e : Same J H) : ∀ {v : V} {d : PyData}, Rp X.K J v d → ∀ {u : Value}, RelV v u → ∃ as, Reads s.heap u d as
  | _, _, .non, u, r => by
    cases (show u = .none from r)
    exact ⟨_, .none⟩
  | _, _, .bl b, u, r => by
    cases (show u = .bool b from r)
    exact ⟨_, .bool b⟩
  | _, _, .int i, u, r => by
    obtain ⟨t, rfl⟩ := r
    exact ⟨_, .int i t⟩
  | _, _, .str x, u, r => by
    obtain ⟨t, rfl⟩ := r
    exact ⟨_, .str x t⟩
  | _, _, .lst (a := a) h ra, u, r => by
    cases (show u = .ref a from r)
    obtain ⟨its, rv, ⟨o, n, ho, hc, _, hd⟩, _⟩ := I.list (SqL.of (e _ _ h))
    obtain ⟨as, hr⟩ := RpAll.readsX I e ra rv
    exact ⟨_, Reads.list ho hc hd hr⟩
  | _, _, .tup (a := a) h ra, u, r => by
    cases (show u = .ref a from r)
    obtain ⟨its, rv, ⟨o, ho, hc, n, hd⟩, _⟩ := I.tuple (sqT_mono e h)
    obtain ⟨as, hr⟩ := RpAll.readsX I e ra rv
    exact ⟨_, Reads.tuple ho hc hd hr⟩
  | _, _, .dct (a := a) (ks := ks) (xs := xs) (ds := ds) h hl ra, u, r => by
    cases (show u = .ref a from r)
    obtain ⟨_, _, vs, kv, dd⟩ := dk_of I.hok (e _ _ h)
    obtain ⟨bs, hr⟩ := RpAll.readsX I e ra (vals_of hl kv)
    exact ⟨_, reads_dictOf key_reads dd (pairs_of hl kv hr)⟩
theorem RpAll.readsX {X : Cx} {pins : List (Addr × Obj)} {σ : L2.St} {H J : Hp} {s : Shared} (I : Inv X pins σ H s) (e : Same J H) : ∀ {vs : List V} {ds : List PyData}, RpAll X.K J vs ds → ∀ {us : List Value}, Vals vs us → ∃ as, ReadsAll s.heap us ds as
  | _, _, .nil, us, r => by
    cases r
    exact ⟨_, .nil⟩
  | _, _, .cons h ra, us, r => by
    cases r with
    | cons r1 r2 =>
      obtain ⟨as, h1⟩ := Rp.readsX I e h r1
      obtain ⟨bs, h3⟩ := RpAll.readsX I e ra r2
      exact ⟨_, .cons h1 h3⟩
end
end Dl
set_option maxRecDepth 100000
set_option maxHeartbeats 4000000
namespace Dl
open PySem L2 PySem.Spec PyProof.Rows
structure CD (K : PySem.W.Frag) (ci : Nat → Option Addr) (C : Addr) : Prop where
  at0 : ci 60 = some C
  cls : Cls K C
def DskF (K : PySem.W.Frag) (ci : Nat → Option Addr) (f : Str) : Prop := ∀ C, ci 60 = some C → Cls K C ∧ NoAttr K C f
theorem CD.eq {K : PySem.W.Frag} {ci : Nat → Option Addr} {C C' : Addr} (c : CD K ci C) (h : ci 60 = some C') : C' = C := by
  rw [c.at0] at h
  exact (Option.some.inj h).symm
theorem CD.fl {K : PySem.W.Frag} {ci : Nat → Option Addr} {C : Addr} {x : Str} (c : CD K ci C) (m : NoAttr K C x) : DskF K ci x := fun C' h => by
  cases c.eq h
  exact ⟨c.cls, m⟩
section
variable {tb : List (Addr × Str)} {cl : Nat → Option (Addr × List Str)} {ci : Nat → Option Addr} {X : Cx} {W : WX} {a e o : Expr} {Fa Fe : Rho → LS → Res LS Val} {f : Str} {pos pos' : Pos}
end
section
variable {tb : List (Addr × Str)} {cl : Nat → Option (Addr × List Str)} {ci : Nat → Option Addr} {X : Cx} {W : WX} {o e : Expr} {es : List Expr} {Fo Fe : Rho → LS → Res LS Val} {A B : Rho → LS → Res LS (List Val)} {pos apos : Pos} {m kw : Str} {k n : Nat} {f : Addr} {fd : FuncData} {ps : List Str} {F : List Val → LS → Res LS Val} {ds : List PyData}
end
section
variable {tb : List (Addr × Str)} {cl : Nat → Option (Addr × List Str)} {ci : Nat → Option Addr} {X : Cx} {W : WX} {o e a b : Expr} {es : List Expr} {Fo Fe Fa Fb : Rho → LS → Res LS Val} {A B : Rho → LS → Res LS (List Val)} {pos apos p : Pos} {x : Str} {k n : Nat} {f C : Addr} {fd : FuncData} {ps : List Str} {F : List Val → LS → Res LS Val} {ds : List PyData}
end
end Dl
set_option maxRecDepth 100000
set_option maxHeartbeats 4000000
namespace Dl
open PySem L2 PySem.Spec PyProof.Rows
section
variable {X : Cx} {te : Expr} {cs : List Value} {body : List Stmt} {s0 : Stmt} {su : List Stmt} {pos pos' : Pos} {tb : WX → TS} {ts : TS}
end
section
variable {S : Type}
end
end Dl
set_option maxRecDepth 100000
set_option maxHeartbeats 4000000
namespace Dl
open PySem L2 PySem.Spec PyProof.Rows
section
variable {X : Cx} {o e a b : Expr} {te ta tb to : TE} {st : Stmt} {rest : List Stmt} {t u : TS} {pos : Pos}
end
section
variable {U : Uni} {X : Cx} {W : WX} {s : Stmt} {rest : List Stmt} {F G : Rho → U.S → SRes U.S} {e a b : Expr} {Fe Fa Fb : Rho → U.S → Res U.S Val} {T : Rho → U.S → Res U.S Bool} {pos apos : Pos}
end
end Dl
set_option maxRecDepth 100000
set_option maxHeartbeats 4000000
namespace Dl
open PySem L2 PySem.Spec PyProof.Rows
section
variable {K : PySem.W.Frag} {mg : Str → Option Value} {cl : Nat → Option (Addr × List Str)}
end
end Dl
set_option maxRecDepth 100000
set_option maxHeartbeats 4000000
namespace Dl
open PySem L2 PySem.Spec PyProof.Rows
section
variable {tb : List (Addr × Str)} {cl : Nat → Option (Addr × List Str)} {ci : Nat → Option Addr} {X : Cx} {W : WX} {a o : Expr} {Fa : Rho → LS → Res LS Val} {f : Str}
end
section
variable {tb : List (Addr × Str)} {cl : Nat → Option (Addr × List Str)} {ci : Nat → Option Addr} {X : Cx} {W : WX} {o e : Expr} {es : List Expr} {q : Str} {fd : FuncData} {ps : List Str} {C f : Addr} {k n : Nat} {F : List Val → LS → Res LS Val} {Fo : Rho → LS → Res LS Val} {A : Rho → LS → Res LS (List Val)} {pos apos : Pos}
end
end Dl
set_option maxRecDepth 100000
set_option maxHeartbeats 4000000
namespace Dl
open PySem L2 PySem.Spec PyProof.Rows
end Dl
set_option maxRecDepth 100000
set_option maxHeartbeats 4000000
namespace Dl
open PySem L2 PySem.Spec PyProof.Rows
section
variable {U : Uni} {X : Cx} {W : WX} {tg a : Expr} {Fa : Rho → U.S → Res U.S Val}
end
section
variable {K : PySem.W.Frag}
end
end Dl
set_option maxRecDepth 100000
set_option maxHeartbeats 4000000
namespace Dl
open PySem L2 PySem.Spec PyProof.Rows
/-- without what stands at a -/
def offA (I : Hp) (a : Addr) : Hp := fun b => if b = a then none else I b
theorem offA_ne {I : Hp} {a b : Addr} (h : b ≠ a) : offA I a b = I b := if_neg h
section
variable {K : PySem.W.Frag} {I : Hp} {a : Addr} {o : Obj} {kxs : List (Key × V)}
theorem sqT_off (h : I a = some (.frz o (.dK kxs))) {b : Addr} {xs : List V} (q : SqT K I b xs) : SqT K (offA I a) b xs := by
  rcases q with (q | ⟨u, q⟩) | q
  · exact .inl (.inl (by rw [offA_ne (fun z => by rw [z, h] at q; cases q)]; exact q))
  · exact .inl (.inr ⟨u, by rw [offA_ne (fun z => by rw [z, h] at q; cases q)]; exact q⟩)
  · exact .inr q
mutual
theorem Rp.off (h : I a = some (.frz o (.dK kxs))) : ∀ {x : V} {d : PyData}, Rp K I x d → Rp K (offA I a) x d
  | _, _, .non => .non
  | _, _, .bl b => .bl b
  | _, _, .int i => .int i
  | _, _, .str x => .str x
  | _, _, .lst q r => .lst (by rw [offA_ne (fun z => by rw [z, h] at q; cases q)]; exact q) (RpAll.off h r)
  | _, _, .tup q r => .tup (sqT_off h q) (RpAll.off h r)
  | _, _, .dct q l r => .dct (by rw [offA_ne (fun z => by rw [z, h] at q; cases q)]; exact q) l (RpAll.off h r)
theorem RpAll.off (h : I a = some (.frz o (.dK kxs))) : ∀ {xs : List V} {ds : List PyData}, RpAll K I xs ds → RpAll K (offA I a) xs ds
  | _, _, .nil => .nil
  | _, _, .cons q r => .cons (Rp.off h q) (RpAll.off h r)
end
end
section
variable {K : PySem.W.Frag} {tb : List (Addr × Str)} {cl : Nat → Option (Addr × List Str)} {ci : Nat → Option Addr} {I I0 : Hp} {M : Mw} {H : Hp} {st : LS} {n : Nat} {a : Addr} {o : Obj} {kxs : List (Key × V)} {kvs : List (Key × Val)}
def ulM (M : Mw) (I : Hp) (a : Addr) (kxs : List (Key × V)) : Mw := ⟨upd M.h a (.dK kxs), M.ad, offA I a⟩
theorem FR.off (mi : Same M.i I) (hi : I a = some (.frz o (.dK kxs))) {x : V} : ∀ {v : Val}, FR K M x v → FR K (ulM M I a kxs) x v
  | .d _, h => Rp.off hi (Rp.mono mi h)
  | .ref _, h => h
theorem ER.off (hi : I a = some (.frz o (.dK kxs))) {l : List (NestedKey × Addr × V)} {r : List (NestedKey × PyData)} (h : ER K I l r) : ER K (offA I a) l r := by
  induction h with
  | nil => exact .nil
  | cons h1 h2 h3 _ ih => exact .cons h1 (Rp.off hi h2) (Rp.off hi h3) ih
theorem ObR.off (mi : Same M.i I) (hi : I a = some (.frz o (.dK kxs))) {b : Addr} (c : b ≠ a) : ∀ {ob : Ob}, ObR K ci M b ob → ObR K ci (ulM M I a kxs) b ob
  | .ins _ _, ⟨C, dx, fvs, h1, h2, h3, h4⟩ => ⟨C, dx, fvs, h1, (upd_ne c).trans h2, h3.mono fun _ _ => FR.off mi hi, h4⟩
  | .lst _, ⟨xs, h1, h2⟩ => ⟨xs, (upd_ne c).trans h1, (h2.mono mi).off hi⟩
  | .dct _, ⟨ks, h1, h2, h3⟩ => ⟨ks, (upd_ne c).trans h1, h2.mono fun _ _ h => Rp.off hi (Rp.mono mi h), h3⟩
  | .tup _, ⟨xs, h1, h2⟩ => ⟨xs, (upd_ne c).trans h1, h2.mono fun _ _ => FR.off mi hi⟩
  | .exc _ _, ⟨C, dx, vs, h1, h2, h3, h4, h5⟩ => ⟨C, dx, vs, h1, (upd_ne c).trans h2, (offA_ne (fun z => by have := mi _ _ h3; rw [z, hi] at this; cases this)).trans (mi _ _ h3), (h4.mono mi).off hi, h5⟩
  | .lsv _, ⟨xs, h1, h2⟩ => ⟨xs, (upd_ne c).trans h1, h2.mono fun _ _ => FR.off mi hi⟩
  | .dsk _, ⟨C, dx, fvs, h1, h2, h3, h4⟩ => ⟨C, dx, fvs, h1, (upd_ne c).trans h2, h3.mono fun _ _ => FR.off mi hi, h4⟩
  | .frm _, ⟨C, dx, fvs, h1, h2, h3, h4⟩ => ⟨C, dx, fvs, h1, (upd_ne c).trans h2, h3.mono fun _ _ => FR.off mi hi, h4⟩
  | .dcv _, ⟨ks, h1, h2, h3⟩ => ⟨ks, (upd_ne c).trans h1, h2.mono fun _ _ => FR.off mi hi, h3⟩
  | .dcl _, ⟨u, ks, h1, h2, h3⟩ => ⟨u, ks, (offA_ne c).trans (mi _ _ h1), h2.mono fun _ _ => FR.off mi hi, h3⟩
  | .dcn _, ⟨L, h1, h2, h3, h4, h5⟩ => ⟨L, (upd_ne c).trans h1, h2, h3, ER.off hi (h4.mono mi), h5⟩
end
section
variable {tb : List (Addr × Str)} {cl : Nat → Option (Addr × List Str)} {ci : Nat → Option Addr} {X : Cx} {W : WX}
end
end Dl
set_option maxRecDepth 100000
set_option maxHeartbeats 4000000
namespace Dl
open PySem L2 PySem.Spec PyProof.Rows
structure CF (K : PySem.W.Frag) (ci : Nat → Option Addr) (C : Addr) : Prop where
  at0 : ci 61 = some C
  cls : Cls K C
def FrmF (K : PySem.W.Frag) (ci : Nat → Option Addr) (f : Str) : Prop := ∀ C, ci 61 = some C → Cls K C ∧ NoAttr K C f
theorem CF.eq {K : PySem.W.Frag} {ci : Nat → Option Addr} {C C' : Addr} (c : CF K ci C) (h : ci 61 = some C') : C' = C := by
  rw [c.at0] at h
  exact (Option.some.inj h).symm
theorem CF.fl {K : PySem.W.Frag} {ci : Nat → Option Addr} {C : Addr} {x : Str} (c : CF K ci C) (m : NoAttr K C x) : FrmF K ci x := fun C' h => by
  cases c.eq h
  exact ⟨c.cls, m⟩
section
variable {tb : List (Addr × Str)} {cl : Nat → Option (Addr × List Str)} {ci : Nat → Option Addr} {X : Cx} {W : WX} {a e o : Expr} {Fa Fe : Rho → LS → Res LS Val} {f : Str} {pos pos' : Pos}
end
section
variable {tb : List (Addr × Str)} {cl : Nat → Option (Addr × List Str)} {ci : Nat → Option Addr} {X : Cx} {W : WX} {o e : Expr} {es : List Expr} {Fo Fe : Rho → LS → Res LS Val} {A B : Rho → LS → Res LS (List Val)} {pos apos : Pos} {m kw : Str} {k n : Nat} {f : Addr} {fd : FuncData} {ps : List Str} {F : List Val → LS → Res LS Val} {ds : List PyData}
end
section
variable {tb : List (Addr × Str)} {cl : Nat → Option (Addr × List Str)} {ci : Nat → Option Addr} {X : Cx} {W : WX} {o e a b : Expr} {es : List Expr} {Fo Fe Fa Fb : Rho → LS → Res LS Val} {A B : Rho → LS → Res LS (List Val)} {pos apos p : Pos} {x : Str} {k n : Nat} {f C : Addr} {fd : FuncData} {ps : List Str} {F : List Val → LS → Res LS Val} {ds : List PyData}
end
end Dl
set_option maxRecDepth 100000
set_option maxHeartbeats 4000000
namespace Dl
open PySem L2 PySem.Spec PyProof.Rows
theorem AR.at_ {κ β : Type} {R : V → β → Prop} {a : List (κ × V)} {b : List (κ × β)} (h : AR R a b) : ∀ {i : Nat} {k : κ} {x : V}, a[i]? = some (k, x) → ∃ v, b[i]? = some (k, v) ∧ R x v := by
  induction h with
  | nil => intro i k x e; simp at e
  | @cons k0 x0 v0 r r' h _ ih =>
    intro i k x e
    cases i with
    | zero => cases e; exact ⟨v0, rfl, h⟩
    | succ i => exact ih (by simpa using e)
theorem AR.datas {K : PySem.W.Frag} {M : Mw} : ∀ {a : List (Key × V)} {b : List (Key × Val)} {ds : List PyData}, AR (FR K M) a b → datas (b.map (·.2)) = some ds → RpAll K M.i (a.map (·.2)) ds
  | _, _, _, .nil, e => by cases e; exact .nil
  | _, _, ds, @AR.cons _ _ _ k x v r r' h t, e => by
    match v, h, e with
    | .d y, h, e =>
      have e : (Dl.datas (r'.map (·.2))).map (y :: ·) = some ds := e
      obtain ⟨es, e1, rfl⟩ := map_some e
      exact .cons h (AR.datas t e1)
    | .ref _, h, e => cases e
def Base.sub (Z : Base) (I : Hp) (M : Mw) (H : Hp) : Base := ⟨I, M, fun b => match Z.H b with
  | none => none
  | some _ => H b⟩
theorem Base.sub_none {Z : Base} {I : Hp} {M : Mw} {H : Hp} {b : Addr} (h : Z.H b = none) : (Z.sub I M H).H b = none := by
  show (match Z.H b with | none => none | some _ => H b) = none
  rw [h]
theorem Base.sub_at {Z : Base} {I : Hp} {M : Mw} {H : Hp} {b : Addr} (h : Z.H b ≠ none) : (Z.sub I M H).H b = H b := by
  obtain ⟨u, hu⟩ := some_of_ne h
  show (match Z.H b with | none => none | some _ => H b) = _
  rw [hu]
theorem Base.sub_le {Z : Base} {I : Hp} {M : Mw} {H : Hp} {b : Addr} {u : HO} (h : (Z.sub I M H).H b = some u) : H b = some u := by
  cases z : Z.H b with
  | none => rw [Base.sub_none z] at h; cases h
  | some w => rw [Base.sub_at (ne_none_of z)] at h; exact h
theorem Grow.sub {Z : Base} {I I2 : Hp} {M M2 : Mw} {H H2 : Hp} (g : Grow Z.I Z.M Z.H I M H) (g2 : Grow (Z.sub I M H).I (Z.sub I M H).M (Z.sub I M H).H I2 M2 H2) : Grow Z.I Z.M Z.H I2 M2 H2 where
  i := g.i.trans g2.i
  ni := fun x h z => g.ni x h (g2.ni x (by rw [Base.sub_at h]; exact g.th x h) z)
  nm := fun x h z => g.nm x h (g2.nm x (by rw [Base.sub_at h]; exact g.th x h) z)
  kp := fun x o h m => by
    have h1 := g.kp x o h m
    refine g2.kp x o (by rw [Base.sub_at (ne_none_of h)]; exact h1) ?_
    cases z : M.h x with
    | none => exact z
    | some u => exact absurd m (g.nm x (ne_none_of h) (ne_none_of z))
  th := fun x h => g2.th x (by rw [Base.sub_at h]; exact g.th x h)
  ad := fun n x h => g2.ad n x (g.ad n x h)
section
variable {U : Uni} {K : PySem.W.Frag} {W : WX} {Z : Base} {I I2 : Hp} {M M2 : Mw} {H H2 : Hp} {σ σ2 : L2.St} {ρ ρ2 : Rho} {st st2 : U.S}
theorem Fit.sub (f : Fit U K Z σ ρ st I M H) : Fit U K (Z.sub I M H) σ ρ st I M H :=
  ⟨⟨Same.refl _, fun _ _ z => z, fun _ _ z => z, fun b u e _ => Base.sub_le e, fun b e => (by
    obtain ⟨u, hu⟩ := some_of_ne e
    exact ne_none_of (Base.sub_le hu)), fun _ _ z => z⟩, f.ok, f.rs, f.len, f.env, fun i ds p e1 e2 => Base.sub_none (f.new i ds p e1 e2), f.sep, fun i t ks ds p e1 e2 => Base.sub_none (f.newd i t ks ds p e1 e2), f.sepd⟩
theorem Fit.unsub (g : Grow Z.I Z.M Z.H I M H) (f : Fit U K (Z.sub I M H) σ2 ρ2 st2 I2 M2 H2) : Fit U K Z σ2 ρ2 st2 I2 M2 H2 := by
  have lo : ∀ p, (Z.sub I M H).H p = none → Z.H p = none := fun p h => by
    cases z : Z.H p with
    | none => rfl
    | some u =>
      rw [Base.sub_at (ne_none_of z)] at h
      exact absurd h (g.th p (ne_none_of z))
  exact ⟨Grow.sub g f.g, f.ok, f.rs, f.len, f.env, fun i ds p h1 h2 => lo p (f.new i ds p h1 h2), f.sep, fun i t ks ds p h1 h2 => lo p (f.newd i t ks ds p h1 h2), f.sepd⟩
theorem SPost.sub {I0 : Hp} {D : Ends} {r : SRes U.S} (g : Grow Z.I Z.M Z.H I M H) (h : SPost U K W Z I0 D r) : SPost U K W (Z.sub I M H) I0 D r := by
  cases r with
  | next ρ st => exact fun σ I M H s f => h σ I M H s (f.unsub g)
  | brk ρ st => exact fun σ I M H s f => h σ I M H s (f.unsub g)
  | cnt ρ st => exact fun σ I M H s f => h σ I M H s (f.unsub g)
  | ret v st => exact fun x I M H g2 k r q => h x I M H (Grow.sub g g2) k r q
  | exc c fs ρ st => exact fun σ cls d I M H s f => h σ cls d I M H s (f.unsub g)
  | stuck => exact h
end
section
variable {tb : List (Addr × Str)} {cl : Nat → Option (Addr × List Str)} {ci : Nat → Option Addr} {X : Cx} {W : WX} {a : Expr} {Fa : Rho → LS → Res LS Val} {B : Rho → LS → SRes LS} {body : List Stmt} {pos p tpos pos2 apos cpos : Pos}
end
end Dl
set_option maxRecDepth 100000
set_option maxHeartbeats 4000000
namespace Dl
open PySem L2 PySem.Spec PyProof.Rows
def dR (K : PySem.W.Frag) (I : Hp) (x : V) (v : Val) : Prop := ∃ d, v = .d d ∧ Rp K I x d
theorem dR.mono {K : PySem.W.Frag} {I J : Hp} (e : Same I J) {x : V} {v : Val} (h : dR K I x v) : dR K J x v := by
  obtain ⟨d, e1, r⟩ := h
  exact ⟨d, e1, r.mono e⟩
section
variable {K : PySem.W.Frag} {tb : List (Addr × Str)} {cl : Nat → Option (Addr × List Str)} {ci : Nat → Option Addr} {W : WX}
variable {X : Cx} {kx vx tg iter : Expr} {scope : Scope} {own : List (Str × Nat)} {pos : Pos} {g : Tg} {G : Rho → LS → Res LS (List PyData)} {Kf Vf : Rho → LS → Res LS Val}
end
end Dl
set_option maxRecDepth 100000
set_option maxHeartbeats 4000000
namespace Dl
open PySem L2 PySem.Spec PyProof.Rows
abbrev S1 (y a p : Expr) (u : List Expr) (sc : Scope) (ps : Pos) : Expr := .SetComp y [⟨a, p, u, 0⟩] sc ps
section
variable {X : Cx} {pins : List (Addr × Obj)} {s : Shared} {σ : L2.St} {H : Hp} {Q : VK} {y a p : Expr} {u : List Expr} {sc : Scope} {own : List (Str × Nat)} {ps ps' : Pos} {wi : TI} {g : TG} {tt : TT} {te : TE} {use : Option (Value → Sem Unit)} {F : Value → Shared → Prop}
end
section
variable {S : Type}
end
section
variable {U : Uni} {K : PySem.W.Frag} {W : WX} {w : World} {tg : Tg} {vs : List Nat} {F : Rho → U.S → Res U.S (List PyData)} {T : Rho → U.S → Res U.S Bool} {E : Rho → U.S → Res U.S Val} {σ : L2.St} {H : Hp} {Q : VK}
end
section
variable {U : Uni} {X : Cx} {W : WX} {y a p : Expr} {u : List Expr} {sc : Scope} {own : List (Str × Nat)} {ps nps pos : Pos} {tg : Tg} {F : Rho → U.S → Res U.S (List PyData)} {T : Rho → U.S → Res U.S Bool} {E : Rho → U.S → Res U.S Val}
end
end Dl
set_option maxRecDepth 100000
set_option maxHeartbeats 4000000
namespace Dl
open PySem L2 PySem.Spec PyProof.Rows
section
variable {K : PySem.W.Frag} {tb : List (Addr × Str)} {cl : Nat → Option (Addr × List Str)} {ci : Nat → Option Addr}
variable {X : Cx} {W : WX} {a b c e : Expr} {es : List Expr} {Fa Fb Fc Fe Kf Vf : Rho → LS → Res LS Val} {A : Rho → LS → Res LS (List Val)} {pos pos' p apos cpos : Pos}
end
section
open PySem.W
variable {prog : Program} {w : World} {A : Around} {E : Value → Shared → Prop} {s : Shared} {T : String} {r d : Addr} {n : Nat} {P : Nat → Value → Prop} {OK : Heap → Prop}
end
end Dl
set_option maxRecDepth 100000
set_option maxHeartbeats 4000000
namespace Dl
open PySem L2 PySem.Spec PyProof.Rows
section
variable {X : Cx} {pins : List (Addr × Obj)} {σ : L2.St} {H : Hp} {s : Shared} {E : Value → Shared → Prop} {Q : List Value → Shared → Prop}
variable {e : Expr} {es : List Expr} {te : TE} {t : TA} {p apos cpos : Pos}
end
abbrev rAll (K : PySem.W.Frag) : Hp → Mw → Hp → List V → List PyData → Prop := fun I _ _ xs ds => RpAll K I xs ds
section
variable {tb : List (Addr × Str)} {cl : Nat → Option (Addr × List Str)} {ci : Nat → Option Addr} {X : Cx} {W : WX} {e : Expr} {es : List Expr} {Fe : Rho → LS → Res LS Val} {R : Rho → LS → Res LS (List PyData)} {pos p apos cpos : Pos}
end
section
variable {tb : List (Addr × Str)} {cl : Nat → Option (Addr × List Str)} {ci : Nat → Option Addr} {X : Cx} {W : WX} {a : Expr} {Fa : Rho → LS → Res LS Val} {pos p : Pos}
end
end Dl
set_option maxRecDepth 100000
set_option maxHeartbeats 4000000
namespace Dl
open PySem L2 PySem.Spec PyProof.Rows
structure PInP (K : PySem.W.Frag) (C : Addr) (q : Str) (st : Stmt) (ps : List Str) (f : Addr) (fd : FuncData) : Prop where
  fn : Fun K "__init__" q st f fd
  mk0 : Mk K C f
  b : Binds K fd ps []
theorem PInP.mb {K : PySem.W.Frag} {C : Addr} {q : Str} {st : Stmt} {ps : List Str} {f : Addr} {fd : FuncData} (T : PInP K C q st ps f fd) {n : Nat} (h : ps.length = n) : MB K fd ps n [] := ⟨⟨[], [], .nil, T.b, fun _ => .nil⟩, h⟩
section
variable {tb : List (Addr × Str)} {cl : Nat → Option (Addr × List Str)} {ci : Nat → Option Addr} {X : Cx} {W : WX} {a b : Expr} {Fa Fb : Rho → LS → Res LS Val} {pos : Pos}
theorem tval_read {F : Rho → LS → Res LS Val} {σ : L2.St} {H : Hp} {Q : Bool → Hp → Prop} (h : tB (UL X.K tb cl ci) X.K W (tVal F) σ H Q) : tE (UL X.K tb cl ci) X.K W F σ H fun v H' => ∃ b, v = .bl b ∧ Q b H' := by
  refine tG.bind h fun Z ρ st1 x u I1 M1 H1 ft hx ps => ?_
  match u, hx, ps with
  | .d (.bool b), hx, ps => exact ⟨b, Rp.bool_inv hx, ps b I1 M1 H1 (Grow.refl _ _ _) ft.ok ft.rs rfl⟩
end
end Dl
set_option maxRecDepth 100000
set_option maxHeartbeats 4000000
namespace Lw
open PySem PySem.W PySem.Calls PyProof.Rows HeadRun
end Lw
namespace Lw
open PySem PySem.W PySem.Calls PyProof.Rows HeadRun
end Lw
set_option maxRecDepth 100000
set_option maxHeartbeats 4000000
namespace Dl
open PySem L2
end Dl
set_option maxRecDepth 100000
set_option maxHeartbeats 4000000
namespace Dl
open PySem L2 PySem.Spec PyProof.Rows
theorem RpAll.perm {K : PySem.W.Frag} {I : Hp} {xs ys : List V} (p : ys.Perm xs) : ∀ {ds : List PyData}, RpAll K I ys ds → ∃ es, es.Perm ds ∧ RpAll K I xs es := by
  induction p with
  | nil => intro ds r; exact ⟨ds, .refl _, r⟩
  | cons x _ ih =>
    intro ds r
    cases r with
    | cons h r =>
      obtain ⟨es, h1, h2⟩ := ih r
      exact ⟨_ :: es, h1.cons _, .cons h h2⟩
  | swap x y l =>
    intro ds r
    cases r with
    | cons h r =>
      cases r with
      | cons h' r => exact ⟨_ :: _ :: _, .swap _ _ _, .cons h' (.cons h r)⟩
  | trans _ _ i1 i2 =>
    intro ds r
    obtain ⟨es, h1, h2⟩ := i1 r
    obtain ⟨gs, h3, h4⟩ := i2 h2
    exact ⟨gs, h3.trans h1, h4⟩
end Dl
set_option maxRecDepth 100000
set_option maxHeartbeats 4000000
namespace Dl
open PySem L2 PySem.Spec PyProof.Rows
end Dl
set_option maxRecDepth 100000
set_option maxHeartbeats 4000000
namespace Dl
open PySem L2 PySem.Spec PyProof.Rows LamX PySem.W
theorem each_zipD : ∀ {xs : List V} {its : List Value} {ds : List PyData}, Vals xs its → ds.length = xs.length → EachIs (fun (v : Value) (b : V × PyData) => RelV b.1 v) its (xs.zip ds)
  | [], _, [], .nil, _ => .nil
  | x :: xs, _, b :: ds, .cons r t, h => .cons r (each_zipD t (by simpa using h))
theorem vals_eachD : ∀ {out : List Value} {bs : List (V × PyData)}, EachIs (fun (v : Value) (b : V × PyData) => RelV b.1 v) out bs → Vals (bs.map (·.1)) out
  | _, _, .nil => .nil
  | _, _, .cons r t => .cons r (vals_eachD t)
theorem each_readsD {X : Cx} {pins : List (Addr × Obj)} {σ : L2.St} {H J : Hp} {s : Shared} (I : Inv X pins σ H s) (e : Same J H) : ∀ {xs : List V} {ds : List PyData} {its : List Value}, RpAll X.K J xs ds → Vals xs its → EachIs (fun (v : Value) (b : V × PyData) => ∃ as, Reads s.heap v b.2 as) its (xs.zip ds)
  | _, _, _, .nil, .nil => .nil
  | _, _, _, .cons h ra, .cons r t => .cons (Rp.readsX I e h r) (each_readsD I e ra t)
noncomputable def sortVD (xs : List V) (ds : List PyData) : List (V × PyData) := (xs.zip ds).mergeSort (dataLe false (·.2))
def rSortedDT (K : PySem.W.Frag) : List V → Hp → VK → Prop := fun vs H Q => ∃ (a : Addr) (xs : List V) (J : Hp) (ds : List PyData), vs = [V.ref a] ∧ SqL K H a xs ∧ Same J H ∧ RpAll K J xs ds ∧ AllAlike ds ∧ Sortable ds ∧ (∀ d ∈ ds, d.depth ≤ 60) ∧
  ∀ (q : Addr), H q = none → Q (.ref q) (upd H q (.lst ((sortVD xs ds).map (·.1))))
theorem cr_sortedDT {X : Cx} (hu : X.A.units + 65 < cLine) : CallR X (.builtin "sorted") (rSortedDT X.K) := by
  intro pins s σ H vs us Q I r h
  obtain ⟨a, xs, J, ds, rfl, hs, hJ, ra, hal, hk, hd, q⟩ := h
  obtain ⟨its, rv, hl, hz⟩ := I.list hs
  obtain ⟨u, rfl, ru⟩ := vals1 r
  obtain rfl : u = Value.ref a := ru
  have hlen := ra.len
  have zs : (xs.zip ds).map (·.2) = ds := by
    rw [show (fun p : V × PyData => p.2) = Prod.snd from rfl, List.map_snd_zip (by omega)]
  have hm : ∀ b ∈ xs.zip ds, b.2 ∈ ds := fun b hb => by
    rw [← zs]
    exact List.mem_map_of_mem hb
  refine sorted_data (vs := its) (bs := xs.zip ds) (enc := fun b : V × PyData => b.2) (R := fun v b => RelV b.1 v) hl.isList (each_zipD rv (by omega)) (each_readsD I hJ ra rv) (by rw [zs]; exact hal) (by rw [zs]; exact hk) ?_ (fun b hb => ?_) fun out ho eo => ?_
  · rw [List.length_zip]
    omega
  · have := hd _ (hm b hb)
    show X.A.units + 2 + _ < _
    omega
  · have vo := vals_eachD eo
    refine ⟨.ref (s.heap.objs.size + 1), upd H (s.heap.objs.size + 1) (.lst ((sortVD xs ds).map (·.1))), I.laid (t' := s.toks) (fun b o e => sortedAll_old e) (Nat.le_succ _) ⟨?_, out, ?_⟩, rfl, q _ (I.hok.fresh (Nat.le_succ _))⟩
    · rw [List.length_map]
      unfold sortVD
      rw [List.length_mergeSort, List.length_zip]
      omega
    · obtain ⟨n, hn⟩ := sortedAll_at s.heap its out.toArray
      exact ⟨n, vo, hn⟩
def tupB : PyData → Bool
  | .tuple (_ :: _) => true
  | _ => false
def sortOk (ds : List PyData) : Bool := (ds.all fun d => ds.all fun e => alike d e) && (ds.all tupB && ds.all fun d => decide (d.depth ≤ 60))
noncomputable def sortD (ds : List PyData) : List PyData := ds.mergeSort (dataLe false id)
noncomputable def bSortD : List Val → Option PyData
  | [u] => (lstOf u).bind fun ds => if sortOk ds then some (.list (sortD ds)) else none
  | _ => none
theorem RpAll.zip {K : PySem.W.Frag} {I : Hp} : ∀ {l : List (V × PyData)}, (∀ p ∈ l, Rp K I p.1 p.2) → RpAll K I (l.map (·.1)) (l.map (·.2))
  | [], _ => .nil
  | p :: l, h => .cons (h p List.mem_cons_self) (RpAll.zip fun q hq => h q (List.mem_cons_of_mem _ hq))
theorem RpAll.unzip {K : PySem.W.Frag} {I : Hp} : ∀ {xs : List V} {ds : List PyData}, RpAll K I xs ds → ∀ p ∈ xs.zip ds, Rp K I p.1 p.2
  | _, _, .nil, p, h => nomatch h
  | _, _, .cons a r, p, h => by
    rcases List.mem_cons.mp h with rfl | h
    · exact a
    · exact RpAll.unzip r p h
theorem sortVD_snd {xs : List V} {ds : List PyData} (h : xs.length = ds.length) : (sortVD xs ds).map (·.2) = sortD ds := by
  unfold sortVD sortD
  have e : (xs.zip ds).map Prod.snd = ds := List.map_snd_zip (by omega)
  have m := List.map_mergeSort (r := dataLe false fun x : V × PyData => x.2) (s := dataLe false id) (f := Prod.snd) (l := xs.zip ds) (fun a _ b _ => rfl)
  rw [e] at m
  exact m
theorem sortOk_of {ds : List PyData} (h : sortOk ds = true) : AllAlike ds ∧ Sortable ds ∧ ∀ d ∈ ds, d.depth ≤ 60 := by
  unfold sortOk at h
  rw [Bool.and_eq_true, Bool.and_eq_true] at h
  obtain ⟨h1, h2, h3⟩ := h
  refine ⟨fun d hd e he => List.all_eq_true.mp (List.all_eq_true.mp h1 d hd) e he, .inl fun d hd => ?_, fun d hd => of_decide_eq_true (List.all_eq_true.mp h3 d hd)⟩
  have := List.all_eq_true.mp h2 d hd
  match d, this with
  | .tuple (x :: r), _ => exact ⟨x, r, rfl⟩
theorem d_sortD {K : PySem.W.Frag} : CallD K (rSortedDT K) bSortD := by
  intro xs vs w I M H Q k hs e q
  unfold bSortD at e
  split at e
  · obtain ⟨x, rfl, hx⟩ := VRs.one hs
    obtain ⟨ds, e1, e2⟩ := bind_some e
    obtain ⟨hok, rfl⟩ := opt_if e2
    obtain ⟨p, ys, rfl, h1, r⟩ := VR.lst k hx e1
    obtain ⟨o1, o2, o3⟩ := sortOk_of hok
    refine ⟨p, ys, I, ds, rfl, SqL.of h1, k.ih, r, o1, o2, o3, fun l hl => ?_⟩
    have rz : RpAll K I ((sortVD ys ds).map (·.1)) (sortD ds) := by
      rw [← sortVD_snd r.len]
      refine RpAll.zip fun p hp => RpAll.unzip r p ?_
      exact (List.mergeSort_perm _ _).subset hp
    exact new_lst k rz hl q
  · cases e
end Dl
set_option maxRecDepth 100000
set_option maxHeartbeats 4000000
namespace Dl
open PySem L2 PySem.Spec PyProof.Rows
mutual
def txtOk : NestedKey → Bool
  | .text x => decide (x ∈ txL)
  | .tup ks => txtAll ks
  | _ => true
def txtAll : List NestedKey → Bool
  | [] => true
  | k :: ks => txtOk k && txtAll ks
end
/-- the numbers tell the hashes of the known texts -/
def HW (w : World) (ci : Nat → Option Addr) : Prop := ∀ x ∈ txL, hsC ci x = hashStr w x
mutual
theorem nhash_eq {w : World} {ci : Nat → Option Addr} (hw : HW w ci) : ∀ k : NestedKey, txtOk k = true → nhash (hsC ci) k = k.hash w
  | .none, _ => by rw [nhash, NestedKey.hash]
  | .num i, _ => by rw [nhash, NestedKey.hash]
  | .text x, h => by
    rw [nhash, NestedKey.hash]
    exact hw x (of_decide_eq_true (by rw [txtOk] at h; exact h))
  | .tup ks, h => by
    rw [nhash, NestedKey.hash, nhashes_eq hw ks (by rw [txtOk] at h; exact h)]
theorem nhashes_eq {w : World} {ci : Nat → Option Addr} (hw : HW w ci) : ∀ ks : List NestedKey, txtAll ks = true → nhashes (hsC ci) ks = NestedKey.hashes w ks
  | [], _ => by rw [nhashes, NestedKey.hashes]
  | k :: ks, h => by
    rw [txtAll, Bool.and_eq_true] at h
    rw [nhashes, NestedKey.hashes, nhash_eq hw k h.1, nhashes_eq hw ks h.2]
end
mutual
theorem nk_txt : ∀ {d : PyData} {k : NestedKey}, nkOf d = some k → txtOk k = true
  | .none, _, e => by rw [nkOf] at e; cases e; rw [txtOk]; exact fun _ z => nomatch z; exact fun _ z => nomatch z
  | .bool b, _, e => by rw [nkOf] at e; cases e; rw [txtOk]; exact fun _ z => nomatch z; exact fun _ z => nomatch z
  | .int i, _, e => by rw [nkOf] at e; cases e; rw [txtOk]; exact fun _ z => nomatch z; exact fun _ z => nomatch z
  | .str x, _, e => by
    rw [nkOf] at e
    split at e
    · rename_i h; cases e; rw [txtOk]; exact decide_eq_true h
    · cases e
  | .tuple ds, _, e => by
    rw [nkOf] at e
    obtain ⟨ks, h, rfl⟩ := Option.map_eq_some_iff.mp e
    rw [txtOk]
    exact nk_txtAll h
  | .list _, _, e => by rw [nkOf] at e <;> first | cases e | (intros; intro z; cases z)
  | .dict _, _, e => by rw [nkOf] at e <;> first | cases e | (intros; intro z; cases z)
theorem nk_txtAll : ∀ {ds : List PyData} {ks : List NestedKey}, nkAll ds = some ks → txtAll ks = true
  | [], _, e => by rw [nkAll] at e; cases e; rw [txtAll]
  | d :: ds, _, e => by
    rw [nkAll] at e
    obtain ⟨k, h1, h2⟩ := Option.bind_eq_some_iff.mp e
    obtain ⟨ks, h3, rfl⟩ := Option.map_eq_some_iff.mp h2
    rw [txtAll, nk_txt h1, nk_txtAll h3]; rfl
end
mutual
theorem nk_reads {h : Heap} : ∀ {u : Value} {d : PyData} {as : List Addr} {k : NestedKey}, Reads h u d as → nkOf d = some k → NestedIs h k u
  | _, _, _, _, .none, e => by rw [nkOf] at e; cases e; exact .none
  | _, _, _, _, .bool b, e => by rw [nkOf] at e; cases e; exact .bool rfl
  | _, _, _, _, .int i t, e => by rw [nkOf] at e; cases e; exact .int i t
  | _, _, _, _, .str x t, e => by
    rw [nkOf] at e
    split at e
    · cases e; exact .text x t
    · cases e
  | _, _, _, _, .tuple h1 h2 h3 h4, e => by
    rw [nkOf] at e
    obtain ⟨ks, hk, rfl⟩ := Option.map_eq_some_iff.mp e
    exact .tup h1 h2 h3 (nk_readsAll h4 hk)
  | _, _, _, _, .list _ _ _ _, e => by rw [nkOf] at e <;> first | cases e | (intros; intro z; cases z)
  | _, _, _, _, .dict _ _ _ _ _, e => by rw [nkOf] at e <;> first | cases e | (intros; intro z; cases z)
theorem nk_readsAll {h : Heap} : ∀ {us : List Value} {ds : List PyData} {as : List Addr} {ks : List NestedKey}, ReadsAll h us ds as → nkAll ds = some ks → NestedAll h ks us
  | _, _, _, _, .nil, e => by rw [nkAll] at e; cases e; exact .nil
  | _, _, _, _, .cons r1 r2, e => by
    rw [nkAll] at e
    obtain ⟨k, h1, h2⟩ := Option.bind_eq_some_iff.mp e
    obtain ⟨ks, h3, rfl⟩ := Option.map_eq_some_iff.mp h2
    exact .cons (nk_reads r1 h1) (nk_readsAll r2 h3)
end
theorem keyN_some {d : PyData} {k : NestedKey} (e : keyN d = some k) : nkOf d = some k ∧ k.depth ≤ 8 := by
  match d, e with
  | .tuple ds, e =>
    rw [keyN] at e
    obtain ⟨k', h1, h2⟩ := Option.bind_eq_some_iff.mp e
    split at h2
    · rename_i h; cases h2; exact ⟨h1, h⟩
    · cases h2
/-- at b stands the key k -/
def KeyAt (K : PySem.W.Frag) (H : Hp) (k : NestedKey) (b : Addr) : Prop := ∃ (J : Hp) (d : PyData), Same J H ∧ Rp K J (.ref b) d ∧ keyN d = some k
def valT {β : Type} (L : List (NestedKey × β)) (k : NestedKey) : Option β := (L.find? fun p => decide (p.1 = k)).map (·.2)
def putT (L : List (NestedKey × Addr × V)) (k : NestedKey) (b : Addr) (v : V) : List (NestedKey × Addr × V) := if (valT L k).isSome = true then L.map (fun p => if p.1 = k then (p.1, p.2.1, v) else p) else L ++ [(k, b, v)]
def putM (kvs : List (NestedKey × PyData)) (k : NestedKey) (d : PyData) : List (NestedKey × PyData) := if (valT kvs k).isSome = true then kvs.map (fun p => if p.1 = k then (p.1, d) else p) else kvs ++ [(k, d)]
abbrev LX : List (NestedKey × Addr × V) → List (NestedKey × Addr × Value) → Prop := Paired fun p q => p.1 = q.1 ∧ p.2.1 = q.2.1 ∧ RelV p.2.2 q.2.2
/-- at a stands such a dict -/
structure NAt (K : PySem.W.Frag) (hs : Str → Int) (H : Hp) (a : Addr) (L : List (NestedKey × Addr × V)) : Prop where
  at_ : H a = some (.ext (nPhi hs a L))
  sys : (a == sysModules) = false
  nod : (L.map (·.1)).Nodup
  keys : ∀ p ∈ L, KeyAt K H p.1 p.2.1
  len : L.length ≤ 1000000
theorem valT_cons {β : Type} {p : NestedKey × β} {L : List (NestedKey × β)} {k : NestedKey} : valT (p :: L) k = if p.1 = k then some p.2 else valT L k := by
  unfold valT
  rw [List.find?_cons]
  by_cases h : p.1 = k
  · rw [decide_eq_true h, if_pos h]; rfl
  · rw [decide_eq_false h, if_neg h]
theorem atKey_cons {p : NestedKey × Addr × Value} {L : List (NestedKey × Addr × Value)} {k : NestedKey} : atKey (p :: L) k = if p.1 = k then some p.2 else atKey L k := by
  unfold atKey
  rw [List.find?_cons]
  by_cases h : p.1 = k
  · rw [decide_eq_true h, if_pos h]; rfl
  · rw [decide_eq_false h, if_neg h]
theorem LX.val {L : List (NestedKey × Addr × V)} {xs : List (NestedKey × Addr × Value)} (r : LX L xs) (k : NestedKey) : (∃ b v u, valT L k = some (b, v) ∧ atKey xs k = some (b, u) ∧ RelV v u) ∨ (valT L k = none ∧ atKey xs k = none) := by
  induction r with
  | nil => exact .inr ⟨rfl, rfl⟩
  | @cons p q ps qs h t ih =>
    obtain ⟨h1, h2, h3⟩ := h
    rw [valT_cons, atKey_cons, ← h1]
    by_cases e : p.1 = k
    · rw [if_pos e, if_pos e]
      exact .inl ⟨p.2.1, p.2.2, q.2.2, rfl, by rw [h2], h3⟩
    · rw [if_neg e, if_neg e]; exact ih
theorem LX.repl {L : List (NestedKey × Addr × V)} {xs : List (NestedKey × Addr × Value)} (r : LX L xs) (k : NestedKey) {v : V} {u : Value} (rv : RelV v u) : LX (L.map fun p => if p.1 = k then (p.1, p.2.1, v) else p) (xs.map (putAt k u)) := by
  induction r with
  | nil => exact .nil
  | @cons p q ps qs h t ih =>
    rw [List.map_cons, List.map_cons]
    refine .cons ?_ ih
    obtain ⟨h1, h2, h3⟩ := h
    unfold putAt
    rw [← h1]
    by_cases z : p.1 = k
    · rw [if_pos z, if_pos z]; exact ⟨rfl, h2, rv⟩
    · rw [if_neg z, if_neg z]; exact ⟨h1, h2, h3⟩
theorem LX.put {L : List (NestedKey × Addr × V)} {xs : List (NestedKey × Addr × Value)} (r : LX L xs) (k : NestedKey) (b : Addr) {v : V} {u : Value} (rv : RelV v u) : LX (putT L k b v) (storedH xs k b u) := by
  have e : (valT L k).isSome = (atKey xs k).isSome := by
    rcases r.val k with ⟨_, _, _, h1, h2, _⟩ | ⟨h1, h2⟩ <;> rw [h1, h2] <;> rfl
  unfold putT storedH
  rw [e]
  split
  · exact r.repl k rv
  · exact Paired.snoc r ⟨rfl, rfl, rv⟩
theorem LX.keys {L : List (NestedKey × Addr × V)} {xs : List (NestedKey × Addr × Value)} (r : LX L xs) : L.map (·.1) = xs.map (·.1) := by
  induction r with
  | nil => rfl
  | cons h _ ih => rw [List.map_cons, List.map_cons, ih, h.1]
theorem valT_none {β : Type} {L : List (NestedKey × β)} {k : NestedKey} : valT L k = none → k ∉ L.map (·.1) := by
  induction L with
  | nil => intro _ h; cases h
  | cons p L ih =>
    rw [valT_cons]
    intro h
    split at h
    · cases h
    · rename_i c
      rw [List.map_cons, List.mem_cons]
      rintro (e | e)
      · exact c e.symm
      · exact ih h e
theorem putT_keys {L : List (NestedKey × Addr × V)} {k : NestedKey} {b : Addr} {v : V} (h : (L.map (·.1)).Nodup) : ((putT L k b v).map (·.1)).Nodup := by
  unfold putT
  split
  · rw [List.map_map]
    have : ((fun p : NestedKey × Addr × V => p.1) ∘ fun p => if p.1 = k then (p.1, p.2.1, v) else p) = fun p => p.1 := by
      funext p
      show (if p.1 = k then (p.1, p.2.1, v) else p).1 = p.1
      split <;> rfl
    rw [this]; exact h
  · rename_i c
    have c : valT L k = none := by
      cases z : valT L k with
      | none => rfl
      | some p => rw [z] at c; exact absurd rfl c
    rw [List.map_append, List.nodup_append]
    refine ⟨h, by simp, fun x hx y hy => ?_⟩
    simp only [List.map_cons, List.map_nil, List.mem_singleton] at hy
    subst hy
    exact fun z => valT_none c (z ▸ hx)
theorem putT_mem {L : List (NestedKey × Addr × V)} {k : NestedKey} {b : Addr} {v : V} {p : NestedKey × Addr × V} (h : p ∈ putT L k b v) : (p.1 = k ∧ p.2.1 = b) ∨ ∃ q ∈ L, q.1 = p.1 ∧ q.2.1 = p.2.1 := by
  unfold putT at h
  split at h
  · obtain ⟨q, hq, rfl⟩ := List.mem_map.mp h
    refine .inr ⟨q, hq, ?_⟩
    split <;> exact ⟨rfl, rfl⟩
  · rcases List.mem_append.mp h with h | h
    · exact .inr ⟨p, h, rfl, rfl⟩
    · cases List.mem_singleton.mp h
      exact .inl ⟨rfl, rfl⟩
section
variable {X : Cx} {pins : List (Addr × Obj)} {σ : L2.St} {H : Hp} {s : Shared} {a b : Addr} {k : NestedKey} {v : V} {u : Value} {ci : Nat → Option Addr} {L : List (NestedKey × Addr × V)} {A : Around} {E : Value → Shared → Prop}
theorem KeyAt.is (I : Inv X pins σ H s) (h : KeyAt X.K H k b) : (nestedKind X.prog X.w).is s.heap k b := by
  obtain ⟨J, d, e, r, hk⟩ := h
  obtain ⟨as, hr⟩ := Rp.readsX I e r (u := .ref b) rfl
  obtain ⟨h1, h2⟩ := keyN_some hk
  exact ⟨nk_reads hr h1, h2⟩
theorem KeyAt.hash (hw : HW X.w ci) {H : Hp} (h : KeyAt X.K H k b) : nhash (hsC ci) k = k.hash X.w := by
  obtain ⟨J, d, e, r, hk⟩ := h
  exact nhash_eq hw k (nk_txt (keyN_some hk).1)
theorem ents_eq (hw : HW X.w ci) : ∀ {L : List (NestedKey × Addr × V)} {xs : List (NestedKey × Addr × Value)}, LX L xs → (∀ p ∈ L, KeyAt X.K H p.1 p.2.1) → (xs.map fun x => (⟨nhash (hsC ci) x.1, .ref x.2.1, x.2.2⟩ : DictEntry)) = xs.map (entryOfKey (nestedKind X.prog X.w))
  | _, _, .nil, _ => rfl
  | p :: _, q :: _, .cons h t, hk => by
    rw [List.map_cons, List.map_cons, ents_eq hw t fun p hp => hk p (List.mem_cons_of_mem _ hp)]
    have := (hk p List.mem_cons_self).hash hw
    rw [← h.1, this]
    show _ = (⟨NestedKey.hash X.w q.1, _, _⟩ : DictEntry) :: _
    rw [← h.1]
theorem NAt.dict (hw : HW X.w ci) (I : Inv X pins σ H s) (N : NAt X.K (hsC ci) H a L) : ∃ xs, LX L xs ∧ s.heap.DictOfH (nestedKind X.prog X.w) a xs := by
  obtain ⟨⟨xs, r, o, es, ep, h1, h2, h3, h4⟩, _, _⟩ := (show ObjOk X.prog X.w H s.heap a (.ext (nPhi (hsC ci) a L)) from I.hok a _ N.at_)
  refine ⟨xs, r, o, es, ep, h1, h2, h3, h4.trans (ents_eq hw r N.keys), fun x hx => ?_, by rw [← LX.keys r]; exact N.nod⟩
  have key : ∀ {L : List (NestedKey × Addr × V)} {xs : List (NestedKey × Addr × Value)}, LX L xs → (∀ p ∈ L, KeyAt X.K H p.1 p.2.1) → ∀ x ∈ xs, (nestedKind X.prog X.w).is s.heap x.1 x.2.1 := by
    intro L xs r
    induction r with
    | nil => intro _ x hx; cases hx
    | @cons p q ps qs h t ih =>
      intro hk x hx
      rcases List.mem_cons.mp hx with rfl | hx
      · rw [← h.1, ← h.2.1]; exact (hk p List.mem_cons_self).is I
      · exact ih (fun p hp => hk p (List.mem_cons_of_mem _ hp)) x hx
  exact key r N.keys x hx
theorem room_in1 (hu : A.units + 9 < cLine) : (nestedKind X.prog X.w).room A.in1 := by
  show A.in1.units + 8 < cLine
  exact hu
theorem n_get {c : Addr} {Q : Value → Shared → Prop} (hu : A.units + 9 < cLine) (hw : HW X.w ci) (I : Inv X pins σ H s) (N : NAt X.K (hsC ci) H a L) (hk : KeyAt X.K H k b) (hv : valT L k = some (c, v)) (h : ∀ w' s', Inv X pins σ H s' → RelV v w' → Q w' s') :
    wpAny (model X.prog X.w) A (getItem (.ref a) (.ref b)) Q E s := by
  obtain ⟨xs, r, dd⟩ := N.dict hw I
  rcases r.val k with ⟨b', v', u, h1, h2, h3⟩ | ⟨h1, _⟩
  · rw [hv] at h1
    cases h1
    exact wpAny_getItem_heap (room_in1 (X := X) hu) (hk.is I) dd h2 (h u _ (I.tok _) h3)
  · rw [hv] at h1; cases h1
theorem n_notin {Q : Value → Shared → Prop} (hu : A.units + 9 < cLine) (hw : HW X.w ci) (I : Inv X pins σ H s) (N : NAt X.K (hsC ci) H a L) (hk : KeyAt X.K H k b) (h : ∀ s', Inv X pins σ H s' → Q (.bool (!(valT L k).isSome)) s') :
    wpAny (model X.prog X.w) A (compareOp .NotIn (.ref b) (.ref a)) Q E s := by
  obtain ⟨xs, r, dd⟩ := N.dict hw I
  refine wpAny_notIn_heap (room_in1 (X := X) hu) (hk.is I) N.sys dd ?_
  have e : (valT L k).isSome = (atKey xs k).isSome := by
    rcases r.val k with ⟨_, _, _, h1, h2, _⟩ | ⟨h1, h2⟩ <;> rw [h1, h2] <;> rfl
  rw [← e]
  exact h _ (I.tok _)
theorem n_get1 {Q : Value → Shared → Prop} (hu : A.units + 9 < cLine) (hw : HW X.w ci) (I : Inv X pins σ H s) (N : NAt X.K (hsC ci) H a L) (hk : KeyAt X.K H k b) (h : ∀ w' s', Inv X pins σ H s' → RelV (((valT L k).map (·.2)).getD .non) w' → Q w' s') :
    wpAny (model X.prog X.w) A (call (.builtin "dict.get") [.ref a, .ref b]) Q E s := by
  obtain ⟨xs, r, dd⟩ := N.dict hw I
  refine call_meetsIn PySem.F.slot_dict_get dd.typeIs PySem.F.entry_dict_get (PySem.F.args_dict_get_2 _ _) (meetsH_dict_get (nestedKind X.prog X.w) a b N.sys) ⟨room_in1 (X := X) hu, k, xs, hk.is I, dd, h _ _ (I.tok _) ?_⟩
  rcases r.val k with ⟨_, _, _, h1, h2, h3⟩ | ⟨h1, h2⟩
  · rw [h1, h2]; exact h3
  · rw [h1, h2]; exact rfl
/-- the dict's object in a later heap -/
theorem nphi_of (hw : HW X.w ci) {h' : Heap} {xs : List (NestedKey × Addr × Value)} (r : LX L xs) (hk : ∀ p ∈ L, KeyAt X.K H p.1 p.2.1) (dd : h'.DictOfH (nestedKind X.prog X.w) a xs) {H' : Hp} : ObjOk X.prog X.w H' h' a (.ext (nPhi (hsC ci) a L)) := by
  obtain ⟨o, es, ep, h1, h2, h3, h4, _, _⟩ := dd
  refine ⟨⟨xs, r, o, es, ep, h1, h2, h3, h4.trans (ents_eq hw r hk).symm⟩, ⟨o, h1⟩, fun g1 g2 hp st => ?_⟩
  obtain ⟨ys, r', o', es', ep', i1, i2, i3, i4⟩ := hp
  exact ⟨ys, r', o', es', ep', st _ i1, i2, i3, i4⟩
theorem n_put {Q : Unit → Shared → Prop} (hu : A.units + 9 < cLine) (hw : HW X.w ci) (I : Inv X pins σ H s) (N : NAt X.K (hsC ci) H a L) (hk : KeyAt X.K H k b) (rv : RelV v u) (h : ∀ s', Inv X pins σ (upd H a (.ext (nPhi (hsC ci) a (putT L k b v)))) s' → Q () s') :
    wpAny (model X.prog X.w) A (setItem (.ref a) (.ref b) u) Q E s := by
  obtain ⟨xs, r, dd⟩ := N.dict hw I
  have hz : xs.length ≤ sizeLine := by
    rw [← Paired.length r, sizeLine_eq]
    have := N.len
    omega
  refine wpAny_setItem_heap (hsz := hz) (room_in1 (X := X) hu) (hk.is I) dd fun h' dd' hs => h _ ?_
  have he : ∃ q, h'.get? a = some q := let ⟨q, _, _, hq, _⟩ := dd'; ⟨q, hq⟩
  refine d_write I (by rw [N.at_]; exact True.intro) hs he (nphi_of hw (r.put k b rv) (fun p hp => ?_) dd' (H := H))
  rcases putT_mem hp with ⟨e1, e2⟩ | ⟨q, hq, e1, e2⟩
  · rw [e1, e2]; exact hk
  · rw [← e1, ← e2]; exact N.keys q hq
end
end Dl
set_option maxRecDepth 100000
set_option maxHeartbeats 4000000
namespace Dl
open PySem L2 PySem.Spec PyProof.Rows
theorem room9 {k : Nat} {A : Around} (h : Room k A) : A.units + 9 < cLine := Nat.lt_of_le_of_lt (Nat.add_le_add_left (show 9 ≤ 65 by decide) _) (room65 h)
section
variable {X : Cx} {ci : Nat → Option Addr} {o i e value : Expr} {pos pos' apos cpos : Pos} {td ty tv : TE}
def tNGet (K : PySem.W.Frag) (ci : Nat → Option Addr) (td ty : TE) : TE := fun σ H Q => td σ H fun x H1 => ty σ H1 fun y H2 => ∃ a b k L c v, x = .ref a ∧ y = .ref b ∧ NAt K (hsC ci) H2 a L ∧ KeyAt K H2 k b ∧ valT L k = some (c, v) ∧ Q v H2
def tNIn (K : PySem.W.Frag) (ci : Nat → Option Addr) (n : Bool) (ty td : TE) : TE := fun σ H Q => ty σ H fun y H1 => td σ H1 fun x H2 => ∃ a b k L, x = .ref a ∧ y = .ref b ∧ NAt K (hsC ci) H2 a L ∧ KeyAt K H2 k b ∧ Q (.bl (n != (valT L k).isSome)) H2
def tNGet1 (K : PySem.W.Frag) (ci : Nat → Option Addr) (td ty : TE) : TE := fun σ H Q => td σ H fun x H1 => ∃ a L0, x = .ref a ∧ NAt K (hsC ci) H1 a L0 ∧ ty σ H1 fun y H2 => ∃ b k L, y = .ref b ∧ NAt K (hsC ci) H2 a L ∧ KeyAt K H2 k b ∧ Q (((valT L k).map (·.2)).getD .non) H2
def sNPut (K : PySem.W.Frag) (ci : Nat → Option Addr) (td ty tv : TE) : TS := fun D σ H => tv σ H fun v H1 => td σ H1 fun x H2 => ty σ H2 fun y H3 => ∃ a b k L, x = .ref a ∧ y = .ref b ∧ NAt K (hsC ci) H3 a L ∧ KeyAt K H3 k b ∧ D.nx σ (upd H3 a (.ext (nPhi (hsC ci) a (putT L k b v))))
def tNDisp (K : PySem.W.Frag) (ci : Nat → Option Addr) (ta tb : TE) : TE := fun σ H Q => ∀ p, H p = none → (p == sysModules) = false → tPairs [(ta, tb)] σ (upd H p (.dK [])) fun ps H2 => H2 p = some (.dK []) ∧ ∃ b k y, ps = [(.ref b, y)] ∧ KeyAt K H2 k b ∧ Q (.ref p) (upd H2 p (.ext (nPhi (hsC ci) p [(k, b, y)])))
theorem pe_nget (hu : X.A.units + 9 < cLine) (hw : HW X.w ci) (ho : PE X o td) (hi : PE X i ty) (hs : NoSl i) : PE X (.Subscript o i pos) (tNGet X.K ci td ty) := by
  refine ⟨fun pn s0 σ H Q I0 h => ?_⟩
  refine subD_of PySem.F.slot_dict_getitem.lookup hs (thn (ho.run pn s0 σ H _ I0 h) fun u s1 ⟨x, H1, I1, rx, q1⟩ => thn (hi.run pn s1 σ H1 _ I1 q1) fun iv s2 ⟨y, H2, I2, ry, a, b, k, L, c, v, ex, ey, N, hk, hv, q2⟩ => ?_)
  subst ex
  subst ey
  cases (show u = Value.ref a from rx)
  cases (show iv = Value.ref b from ry)
  obtain ⟨xs, _, dd⟩ := N.dict hw I2
  exact ⟨dd.typeIs, n_get hu hw I2 N hk hv fun w' s3 I3 rw' => ⟨v, H2, I3, rw', q2⟩⟩
theorem pc_nnotin (hu : X.A.units + 9 < cLine) (hw : HW X.w ci) (hi : PE X i ty) (ho : PE X o td) : PC X .NotIn i o (tNIn X.K ci true ty td) := by
  refine ⟨fun pn s0 σ H Q I0 h => ?_⟩
  refine thn (hi.run pn s0 σ H _ I0 h) fun iv s1 ⟨y, H1, I1, ry, q1⟩ => thn (ho.run pn s1 σ H1 _ I1 q1) fun u s2 ⟨x, H2, I2, rx, a, b, k, L, ex, ey, N, hk, q2⟩ => ?_
  subst ex
  subst ey
  cases (show u = Value.ref a from rx)
  cases (show iv = Value.ref b from ry)
  exact n_notin hu hw I2 N hk fun s3 I3 => ⟨.bl (true != (valT L k).isSome), H2, I3, by cases (valT L k).isSome <;> rfl, q2⟩
theorem pe_nget1 (hu : X.A.units + 9 < cLine) (hw : HW X.w ci) (ho : PE X o td) (he : PE X e ty) (m : M1 X o "get" apos e cpos) : PE X (.Call (.Attribute o "get" apos) [e] [] cpos) (tNGet1 X.K ci td ty) := by
  refine ⟨fun pn s0 σ H Q I0 h => ?_⟩
  refine wpAny_Call_method m.base m.few m.line PySem.F.plainAttrs_dict PySem.F.slot_dict_get PySem.F.type_dict_get (thn (ho.run pn s0 σ H _ I0 h) fun u s1 ⟨x, H1, I1, rx, a, L0, ex, N0, q1⟩ => ?_)
  subst ex
  cases (show u = Value.ref a from rx)
  obtain ⟨xs, _, dd⟩ := N0.dict hw I1
  refine ⟨dd.typeIs, dictOfH_noDict dd, ?_⟩
  rw [m.trees]
  refine Calls.callWith_builtin rfl (Calls.evalArgs_plain (Calls.spliced_cons (thn (he.run pn s1 σ H1 _ I1 q1) fun iv s2 ⟨y, H2, I2, ry, b, k, L, ey, N, hk, q2⟩ => Calls.spliced_nil ?_)))
  subst ey
  cases (show iv = Value.ref b from ry)
  exact n_get1 hu hw I2 N hk fun w' s3 I3 rw' => ⟨_, H2, I3, rw', q2⟩
theorem ps_nput (hu : X.A.units + 9 < cLine) (hw : HW X.w ci) (ho : PE X o td) (hi : PE X i ty) (hv : PE X value tv) (hs : swapsWith value (some (.Subscript o i pos')) pos.line X.env = pure false) :
    PS X (.Assign [.Subscript o i pos'] value pos) (sNPut X.K ci td ty tv) := by
  refine ⟨fun pn s0 σ H D I0 h => ?_⟩
  refine wpAny_Assign_Subscript (thn (hv.run pn s0 σ H _ I0 h) fun r s1 ⟨v, H1, I1, rv, q1⟩ => thn (ho.run pn s1 σ H1 _ I1 q1) fun u s2 ⟨x, H2, I2, rx, q2⟩ => thn (hi.run pn s2 σ H2 _ I2 q2) fun iv s3 ⟨y, H3, I3, ry, a, b, k, L, ex, ey, N, hk, q3⟩ => ?_) hs
  subst ex
  subst ey
  cases (show u = Value.ref a from rx)
  cases (show iv = Value.ref b from ry)
  exact n_put hu hw I3 N hk rv fun s4 I4 => ⟨σ, _, I4, q3⟩
theorem pe_ndisp {a b : Expr} {ta tb : TE} (hu : X.A.units + 9 < cLine) (hw : HW X.w ci) (hk : PE X a ta) (hv : PE X b tb) : PE X (.Dict [some a] [b] pos) (tNDisp X.K ci ta tb) := by
  refine ⟨fun pn s0 σ H Q I0 q => ?_⟩
  have hn := I0.hok.fresh (Nat.le_refl s0.heap.objs.size)
  have I1 := I0.laid (a := s0.heap.objs.size) (o := .dK []) (h' := s0.heap.push { cls := .type "dict", data := .dict #[] }) (t' := s0.toks) (fun _ _ q => Heap.get?_push_of_some _ q) (Nat.le_refl _) (dk_empty s0.heap I0.big)
  have hz : pairTrees [some a] [b] X.env pos ≠ [] := fun z => by
    have := pairTrees_length [some a] [b] X.env pos rfl rfl
    rw [z] at this
    cases this
  have hl : (pairTrees [some a] [b] X.env pos).length = 1 := pairTrees_length [some a] [b] X.env pos rfl rfl
  have run := (pps_cons (pos := pos) hk hv pps_nil).run pn _ σ (upd H s0.heap.objs.size (.dK [])) (fun ps H2 => H2 s0.heap.objs.size = some (.dK []) ∧ ∃ b k y, ps = [(.ref b, y)] ∧ KeyAt X.K H2 k b ∧ Q (.ref s0.heap.objs.size) (upd H2 s0.heap.objs.size (.ext (nPhi (hsC ci) s0.heap.objs.size [(k, b, y)])))) I1 ?_
  · rw [arm_eval_Dict, zip_pairTrees [some a] [b] X.env pos rfl rfl, dictDisplay_pairs _ hz (by omega)]
    refine wpAny_bind (wpAny_standAt (wpAny_bind (wpAny_subDictH (knd := nestedKind X.prog X.w) (Q := fun d s' => wpAny (model X.prog X.w) X.A (pure (Value.ref d)) _ _ s') (show X.A.units + 8 < cLine by omega) (by omega) (thn run fun ws s2 ⟨ps, H2, I2, rel, e, b, k, y, ep, hk2, q2⟩ => ?_))))
    subst ep
    cases rel with
    | @cons _ w1 _ _ h t =>
      cases t
      obtain ⟨u, r⟩ := w1
      obtain ⟨ru, rr⟩ := h
      have ru : u = Value.ref b := ru
      subst ru
      obtain ⟨_, hd, vs0, r0, o, es, ep, h1, h2, h3, _, h5, _⟩ := dk_of I2.hok e
      cases r0
      have he0 : es.toList = [] := by cases z : es.toList with
        | nil => rfl
        | cons c l => rw [z] at h5; cases h5
      have dd0 : s2.heap.DictOfH (nestedKind X.prog X.w) s0.heap.objs.size [] := ⟨o, es, ep, h1, h2, h3, he0, fun x hx => absurd hx List.not_mem_nil, List.Pairwise.nil⟩
      have cc : CarriesH (nestedKind X.prog X.w) s2.heap [(Value.ref b, r)] [(k, b, r)] := ⟨rfl, rfl, hk2.is I2, trivial⟩
      refine ⟨[(k, b, r)], cc, dd0, fun h' tk dd hs => wpAny_pure ⟨.ref s0.heap.objs.size, _, ?_, rfl, q2⟩⟩
      have he : ∃ q, h'.get? s0.heap.objs.size = some q := let ⟨q, _, _, hq, _⟩ := dd; ⟨q, hq⟩
      refine d_write I2 (by rw [e]; exact True.intro) hs he (nphi_of hw (.cons ⟨rfl, rfl, rr⟩ .nil) (fun p hp => ?_) dd (H := H2))
      rw [List.mem_singleton.mp hp]
      exact hk2
  · exact q _ hn (beq_eq_false_iff_ne.mpr (Nat.ne_of_gt I0.big))
end
def keyVN : Val → Option NestedKey
  | .d d => keyN d
  | _ => none
def kvN : Option Ob → Option (List (NestedKey × PyData))
  | some (.dcn kvs) => some kvs
  | _ => none
def dctNE (x y : Val) (st : LS) : Res LS Val := match keyVN x, y with
  | some k, .d d => .ok (newV st) (newO st (.dcn [(k, d)]))
  | _, _ => .stuck
def eDctN (Kf Vf : Rho → LS → Res LS Val) : Rho → LS → Res LS Val := fun ρ st => (Kf ρ st).bind fun x st1 => (Vf ρ st1).bind fun y st2 => dctNE x y st2
def eGetN (a b : Rho → LS → Res LS Val) : Rho → LS → Res LS Val := fun ρ st => (a ρ st).bind fun x st1 => (b ρ st1).bind fun y st2 => match kvN (obI st2 x), keyVN y with
  | some kvs, some k => match valT kvs k with
    | some d => .ok (.d d) st2
    | none => .stuck
  | _, _ => .stuck
def eGet1N (a b : Rho → LS → Res LS Val) : Rho → LS → Res LS Val := fun ρ st => (a ρ st).bind fun x st1 => match kvN (obI st1 x) with
  | some _ => (b ρ st1).bind fun y st2 => match kvN (obI st2 x), keyVN y with
    | some kvs, some k => .ok (.d ((valT kvs k).getD .none)) st2
    | _, _ => .stuck
  | none => .stuck
def eInN (n : Bool) (b a : Rho → LS → Res LS Val) : Rho → LS → Res LS Val := fun ρ st => (b ρ st).bind fun y st1 => (a ρ st1).bind fun x st2 => match kvN (obI st2 x), keyVN y with
  | some kvs, some k => .ok (.d (.bool (n != (valT kvs k).isSome))) st2
  | _, _ => .stuck
def sPutN (a b e : Rho → LS → Res LS Val) : Rho → LS → SRes LS := fun ρ st => sBind (e ρ st) ρ fun v st1 => sBind (a ρ st1) ρ fun x st2 => sBind (b ρ st2) ρ fun y st3 => match v, kvN (obI st3 x), keyVN y with
  | .d d, some kvs, some k => if kvs.length < 1000000 then .next ρ (setO st3 x (.dcn (putM kvs k d))) else .stuck
  | _, _, _ => .stuck
theorem ER.len {K : PySem.W.Frag} {I : Hp} {L : List (NestedKey × Addr × V)} {kvs : List (NestedKey × PyData)} (h : ER K I L kvs) : L.length = kvs.length := by
  induction h with
  | nil => rfl
  | cons _ _ _ _ ih => rw [List.length_cons, List.length_cons, ih]
theorem ER.val {K : PySem.W.Frag} {I : Hp} {L : List (NestedKey × Addr × V)} {kvs : List (NestedKey × PyData)} (h : ER K I L kvs) (k : NestedKey) : (∃ c v d, valT L k = some (c, v) ∧ valT kvs k = some d ∧ Rp K I v d) ∨ (valT L k = none ∧ valT kvs k = none) := by
  induction h with
  | nil => exact .inr ⟨rfl, rfl⟩
  | @cons k' a x d e r r' h1 h2 h3 _ ih =>
    rw [valT_cons, valT_cons]
    by_cases c : k' = k
    · rw [if_pos c, if_pos c]; exact .inl ⟨a, x, d, rfl, rfl, h3⟩
    · rw [if_neg c, if_neg c]; exact ih
theorem ER.app {K : PySem.W.Frag} {I : Hp} {L L' : List (NestedKey × Addr × V)} {kvs kvs' : List (NestedKey × PyData)} (h : ER K I L kvs) (h' : ER K I L' kvs') : ER K I (L ++ L') (kvs ++ kvs') := by
  induction h with
  | nil => exact h'
  | cons h1 h2 h3 _ ih => exact .cons h1 h2 h3 ih
theorem ER.map {K : PySem.W.Frag} {I : Hp} {L : List (NestedKey × Addr × V)} {kvs : List (NestedKey × PyData)} (h : ER K I L kvs) (k : NestedKey) {v : V} {d : PyData} (q : Rp K I v d) : ER K I (L.map fun p => if p.1 = k then (p.1, p.2.1, v) else p) (kvs.map fun p => if p.1 = k then (p.1, d) else p) := by
  induction h with
  | nil => exact .nil
  | @cons k' a x d' e r r' h1 h2 h3 _ ih =>
    rw [List.map_cons, List.map_cons]
    by_cases c : k' = k
    · simp only [c, if_true]
      exact .cons (c ▸ h1) h2 q ih
    · simp only [c, if_false]
      exact .cons h1 h2 h3 ih
theorem ER.put {K : PySem.W.Frag} {I : Hp} {L : List (NestedKey × Addr × V)} {kvs : List (NestedKey × PyData)} (h : ER K I L kvs) {k : NestedKey} {b : Addr} {v : V} {e d : PyData} (hk : keyN e = some k) (hb : Rp K I (.ref b) e) (q : Rp K I v d) : ER K I (putT L k b v) (putM kvs k d) := by
  have z : (valT L k).isSome = (valT kvs k).isSome := by
    rcases h.val k with ⟨_, _, _, h1, h2, _⟩ | ⟨h1, h2⟩ <;> rw [h1, h2] <;> rfl
  unfold putT putM
  rw [z]
  split
  · exact h.map k q
  · exact h.app (.cons hk hb q .nil)
theorem putM_len {kvs : List (NestedKey × PyData)} {k : NestedKey} {d : PyData} : (putM kvs k d).length ≤ kvs.length + 1 := by
  unfold putM
  split
  · rw [List.length_map]; omega
  · rw [List.length_append]; exact Nat.le_refl _
theorem key_ref {K : PySem.W.Frag} {I : Hp} {x : V} {e : PyData} {k : NestedKey} (h : keyN e = some k) (r : Rp K I x e) : ∃ b, x = .ref b := by
  match e, h, r with
  | .tuple ds, _, .tup _ _ => exact ⟨_, rfl⟩
theorem ER.keyAt {K : PySem.W.Frag} {I H : Hp} (s : Same I H) {L : List (NestedKey × Addr × V)} {kvs : List (NestedKey × PyData)} (h : ER K I L kvs) : ∀ p ∈ L, KeyAt K H p.1 p.2.1 := by
  induction h with
  | nil => intro p hp; cases hp
  | cons h1 h2 h3 _ ih =>
    intro p hp
    rcases List.mem_cons.mp hp with rfl | hp
    · exact ⟨I, _, s, h2, h1⟩
    · exact ih p hp
section
variable {K : PySem.W.Frag} {tb : List (Addr × Str)} {cl : Nat → Option (Addr × List Str)} {ci : Nat → Option Addr}
theorem dcn_at {st : LS} {I : Hp} {M : Mw} {H : Hp} {x : V} {v : Val} {kvs : List (NestedKey × PyData)} (rs : LR K tb ci st M) (ok : Ok I M H) (hx : VR K I M H x v) (ho : kvN (obI st v) = some kvs) :
    ∃ n a L, v = .ref (n + 2) ∧ n < st.ob.length ∧ M.ad (n + 2) = some a ∧ M.h a = some (.ext (nPhi (hsC ci) a L)) ∧ x = .ref a ∧ NAt K (hsC ci) H a L ∧ ER K M.i L kvs ∧ kvs.length ≤ 1000000 := by
  cases h : obI st v with
  | none => rw [h] at ho; cases ho
  | some ob =>
    rw [h] at ho
    match ob, h, ho with
    | .dcn ws, h, ho =>
      cases ho
      obtain ⟨n, a, e1, e2, e3, e4, L, h1, h2, h3, h4, h5⟩ := rs.at_ hx h
      exact ⟨n, a, L, e1, e2, e4, h1, e3, ⟨ok.mh _ _ h1, h2, h3, h4.keyAt (ok.mi.trans ok.ih), by rw [h4.len]; exact h5⟩, h4, h5⟩
theorem keyV_at {I : Hp} {M : Mw} {H : Hp} {y : V} {w : Val} {k : NestedKey} (ok : Ok I M H) (hy : VR K I M H y w) (h : keyVN w = some k) : ∃ b e, y = .ref b ∧ w = .d e ∧ KeyAt K H k b ∧ keyN e = some k ∧ Rp K I (.ref b) e := by
  match w, hy, h with
  | .d e, hy, h =>
    have hy : Rp K I y e := hy
    obtain ⟨b, rfl⟩ := key_ref h hy
    exact ⟨b, e, rfl, rfl, ⟨I, e, ok.ih, hy, h⟩, h, hy⟩
variable {X : Cx} {W : WX} {a b c e : Expr} {es : List Expr} {Fa Fb Fc Fe Kf Vf : Rho → LS → Res LS Val} {pos pos' p apos cpos : Pos}
theorem ped_getN (hu : X.A.units + 9 < cLine) (hw : HW X.w ci) (ha : PEd (UL X.K tb cl ci) X W a Fa) (hb : PEd (UL X.K tb cl ci) X W b Fb) (hs : NoSl b) : PEd (UL X.K tb cl ci) X W (.Subscript a b pos) (eGetN Fa Fb) := by
  refine pe_imp (pe_nget hu hw ha hb hs) fun σ H Q h => ?_
  refine tG.bind h fun Z ρ st1 x u I1 M1 H1 ft hx ps => ?_
  refine Post.next ft ps fun st2 y w I2 M2 H2 g ft2 hy ps2 => ?_
  have hx2 := VR.grow g hx
  cases ho : kvN (obI st2 u) with
  | none => simp only [ho] at ps2; exact False.elim ps2
  | some kvs =>
    cases zk : keyVN w with
    | none => simp only [ho, zk] at ps2; exact False.elim ps2
    | some k =>
      simp only [ho, zk] at ps2
      obtain ⟨n, b, L, _, _, _, _, e3, N, er, _⟩ := dcn_at ft2.rs ft2.ok hx2 ho
      obtain ⟨b', e, ey, _, hk, _, _⟩ := keyV_at ft2.ok hy zk
      rcases er.val k with ⟨c, v, d, h1, h2, h3⟩ | ⟨_, h2⟩
      · rw [h2] at ps2
        exact ⟨b, b', k, L, c, v, e3, ey, N, hk, h1, ps2 v I2 M2 H2 (Grow.refl _ _ _) ft2.ok ft2.rs (Rp.mono ft2.ok.mi h3)⟩
      · rw [h2] at ps2; exact False.elim ps2
theorem ped_get1N (hu : X.A.units + 9 < cLine) (hw : HW X.w ci) (ha : PEd (UL X.K tb cl ci) X W a Fa) (hb : PEd (UL X.K tb cl ci) X W b Fb) (m : M1 X a "get" apos b cpos) : PEd (UL X.K tb cl ci) X W (.Call (.Attribute a "get" apos) [b] [] cpos) (eGet1N Fa Fb) := by
  refine pe_imp (pe_nget1 hu hw ha hb m) fun σ H Q h => ?_
  refine tG.bind h fun Z ρ st1 x u I1 M1 H1 ft hx ps => ?_
  cases ho : kvN (obI st1 u) with
  | none => rw [ho] at ps; exact False.elim ps
  | some kvs0 =>
    rw [ho] at ps
    obtain ⟨n0, b0, L0, _, _, _, _, e0, N0, _, _⟩ := dcn_at ft.rs ft.ok hx ho
    refine ⟨b0, L0, e0, N0, ?_⟩
    refine Post.next ft ps fun st2 y w I2 M2 H2 g ft2 hy ps2 => ?_
    have hx2 := VR.grow g hx
    cases ho2 : kvN (obI st2 u) with
    | none => simp only [ho2] at ps2; exact False.elim ps2
    | some kvs =>
      cases zk : keyVN w with
      | none => simp only [ho2, zk] at ps2; exact False.elim ps2
      | some k =>
        simp only [ho2, zk] at ps2
        obtain ⟨n, b1, L, _, _, _, _, e3, N, er, _⟩ := dcn_at ft2.rs ft2.ok hx2 ho2
        obtain ⟨b', e, ey, _, hk, _, _⟩ := keyV_at ft2.ok hy zk
        rw [e0] at e3
        cases e3
        refine ⟨b', k, L, ey, N, hk, ?_⟩
        rcases er.val k with ⟨c, v, d, h1, h2, h3⟩ | ⟨h1, h2⟩
        · rw [h2] at ps2
          rw [h1]
          exact ps2 v I2 M2 H2 (Grow.refl _ _ _) ft2.ok ft2.rs (Rp.mono ft2.ok.mi h3)
        · rw [h2] at ps2
          rw [h1]
          exact ps2 .non I2 M2 H2 (Grow.refl _ _ _) ft2.ok ft2.rs (show Rp X.K I2 .non .none from .non)
theorem inN_read {n : Bool} {σ : L2.St} {H : Hp} {Q : VK} (h : tE (UL X.K tb cl ci) X.K W (eInN n Fb Fa) σ H Q) : tNIn X.K ci n (tE (UL X.K tb cl ci) X.K W Fb) (tE (UL X.K tb cl ci) X.K W Fa) σ H Q := by
  refine tG.bind h fun Z ρ st1 y w I1 M1 H1 ft hy ps => ?_
  refine Post.next ft ps fun st2 x u I2 M2 H2 g ft2 hx ps2 => ?_
  have hy2 := VR.grow g hy
  cases ho : kvN (obI st2 u) with
  | none => simp only [ho] at ps2; exact False.elim ps2
  | some kvs =>
    cases zk : keyVN w with
    | none => simp only [ho, zk] at ps2; exact False.elim ps2
    | some k =>
      simp only [ho, zk] at ps2
      obtain ⟨m, b, L, _, _, _, _, e3, N, er, _⟩ := dcn_at ft2.rs ft2.ok hx ho
      obtain ⟨b', e, ey, _, hk, _, _⟩ := keyV_at ft2.ok hy2 zk
      have z : (valT L k).isSome = (valT kvs k).isSome := by
        rcases er.val k with ⟨_, _, _, h1, h2, _⟩ | ⟨h1, h2⟩ <;> rw [h1, h2] <;> rfl
      exact ⟨b, b', k, L, e3, ey, N, hk, by rw [z]; exact Post.boolE ps2 ft2.ok ft2.rs⟩
theorem psd_putN (hu : X.A.units + 9 < cLine) (hw : HW X.w ci) (ha : PEd (UL X.K tb cl ci) X W a Fa) (hb : PEd (UL X.K tb cl ci) X W b Fb) (he : PEd (UL X.K tb cl ci) X W e Fe) (hs : swapsWith e (some (.Subscript a b pos')) pos.line X.env = pure false := by rfl) :
    PSd (UL X.K tb cl ci) X W (.Assign [.Subscript a b pos'] e pos) (sPutN Fa Fb Fe) := by
  refine ps_imp (ps_nput hu hw ha hb he hs) fun D σ H h => ?_
  refine tS.bind (rel := VR X.K) h fun Z ρ st1 v w I1 M1 H1 ft hv ps => ?_
  refine SPost.next (rel := VR X.K) ft ps fun st2 x u I2 M2 H2 g2 ft2 hx ps2 => ?_
  refine SPost.next (rel := VR X.K) ft2 ps2 fun st3 y z I3 M3 H3 g3 ft3 hy ps3 => ?_
  have hv3 := VR.grow (g2.trans g3) hv
  have hx3 := VR.grow g3 hx
  have rs : LR X.K tb ci st3 M3 := ft3.rs
  match w, hv3, ps3 with
  | .d d, hv3, ps3 =>
    cases ho : kvN (obI st3 u) with
    | none => simp only [ho] at ps3; exact False.elim ps3
    | some kvs =>
      cases zk : keyVN z with
      | none => simp only [ho, zk] at ps3; exact False.elim ps3
      | some k =>
        simp only [ho, zk] at ps3
        by_cases hl : kvs.length < 1000000
        · have ps3 : SPost (UL X.K tb cl ci) X.K W Z I3 D (if kvs.length < 1000000 then .next ρ (setO st3 u (.dcn (putM kvs k d))) else .stuck) := ps3
          rw [if_pos hl] at ps3
          obtain ⟨n, b, L, rfl, e2, e4, h1, e3, N, er, _⟩ := dcn_at rs ft3.ok hx3 ho
          obtain ⟨b', e', ey, _, hk, hk2, hk3⟩ := keyV_at ft3.ok hy zk
          obtain ⟨g4, k4, r4⟩ := rs.chg (o := .ext (nPhi (hsC ci) b (putT L k b' v))) (ob' := .dcn (putM kvs k d)) ft3.ok e2 e4 (ne_none_of h1) ⟨_, upd_same, N.sys, putT_keys N.nod, (er.mono ft3.ok.mi).put hk2 hk3 (show Rp X.K I3 v d from hv3), by have := putM_len (kvs := kvs) (k := k) (d := d); omega⟩
          exact ⟨b, b', k, L, e3, ey, N, hk, ps3 σ I3 _ _ (Same.refl _) (ft3.grow g4 k4 r4)⟩
        · have ps3 : SPost (UL X.K tb cl ci) X.K W Z I3 D (if kvs.length < 1000000 then .next ρ (setO st3 u (.dcn (putM kvs k d))) else .stuck) := ps3
          rw [if_neg hl] at ps3; exact False.elim ps3
  | .ref _, _, ps3 => exact False.elim ps3
  | .own _, _, ps3 => exact False.elim ps3
  | .exc _ _, _, ps3 => exact False.elim ps3
  | .ownd _ _ _, _, ps3 => exact False.elim ps3
theorem ptd_notinNk (hu : X.A.units + 9 < cLine) (hw : HW X.w ci) (hb : PEd (UL X.K tb cl ci) X W b Fb) (ha : PEd (UL X.K tb cl ci) X W a Fa) (hm : behindInMarks .NotIn a = false) : PTd (UL X.K tb cl ci) X W (.Compare b [.NotIn] [a] pos) (tVal (eInN true Fb Fa)) :=
  pt_imp (pt_cmp (pc_nnotin hu hw hb ha) hm) fun σ H Q h => inN_read (tval_read h)
theorem ped_dctN (hu : X.A.units + 9 < cLine) (hw : HW X.w ci) (hk : PEd (UL X.K tb cl ci) X W a Kf) (hv : PEd (UL X.K tb cl ci) X W b Vf) : PEd (UL X.K tb cl ci) X W (.Dict [some a] [b] pos) (eDctN Kf Vf) := by
  refine pe_imp (pe_ndisp hu hw hk hv) fun σ H Q h => fun p hp hsy => ?_
  obtain ⟨Z, ρ, st, I, M, ft, ps⟩ := h
  obtain ⟨g0, k0⟩ := Grow.allocO (o := .dK []) ft.ok hp
  have ft0 : Fit (UL X.K tb cl ci) X.K Z σ ρ st I M (upd H p (.dK [])) := ft.grow g0 k0 ft.rs
  have ps : Post (UL X.K tb cl ci) X.K (VR X.K) ((Kf ρ st).bind fun x st1 => (Vf ρ st1).bind fun y st2 => dctNE x y st2) I M H Q (fun cls d H' => W cls d σ H') := ps
  refine ⟨Z, ρ, st, I, M, ft0, ?_⟩
  cases zK : Kf ρ st with
  | stuck => rw [zK] at ps; exact ps
  | exc c fs st1 =>
    rw [zK] at ps
    exact fun cls d I' M' H' g k r q => ps cls d I' M' H' (g0.trans g) k r q
  | ok v st1 =>
    rw [zK] at ps
    have ps : Post (UL X.K tb cl ci) X.K (VR X.K) ((Vf ρ st1).bind fun y st2 => dctNE v y st2) I M H Q (fun cls d H' => W cls d σ H') := ps
    intro x I1 M1 H1 g1 k1 r1 hx
    refine ⟨Z, ρ, st1, I1, M1, ft0.grow g1 k1 r1, ?_⟩
    cases zV : Vf ρ st1 with
    | stuck => rw [zV] at ps; exact ps
    | exc c fs st2 =>
      rw [zV] at ps
      exact fun cls d I' M' H' g k r q => ps cls d I' M' H' (g0.trans (g1.trans g)) k r q
    | ok w st2 =>
      rw [zV] at ps
      have ps : Post (UL X.K tb cl ci) X.K (VR X.K) (dctNE v w st2) I M H Q (fun cls d H' => W cls d σ H') := ps
      intro y I2 M2 H2 g2 k2 r2 hy
      have hx2 := VR.grow g2 hx
      unfold dctNE at ps
      cases zk : keyVN v with
      | none => simp only [zk] at ps; exact False.elim ps
      | some k =>
        simp only [zk] at ps
        match w, hy, ps with
        | .d d, hy, ps =>
          have ps : Post (UL X.K tb cl ci) X.K (VR X.K) (.ok (newV st2) (newO st2 (.dcn [(k, d)]))) I M H Q (fun cls d H' => W cls d σ H') := ps
          have g12 := g1.trans g2
          have hpm : M.h p = none := ft.ok.mh.free hp
          have hpi : I p = none := ft.ok.ih.free hp
          have ip : I2 p = none := by
            cases w : I2 p with
            | none => rfl
            | some u => exact absurd hpi (g12.ni p (by rw [upd_same]; exact fun z => nomatch z) (ne_none_of w))
          have mp : M2.h p = none := by
            cases w : M2.h p with
            | none => rfl
            | some u => exact absurd hpm (g12.nm p (by rw [upd_same]; exact fun z => nomatch z) (ne_none_of w))
          obtain ⟨b', e, ey, ew, hk1, hk2, hk3⟩ := keyV_at k2 hx2 zk
          have hy : Rp X.K I2 y d := hy
          refine ⟨g12.kp p _ upd_same hpm, b', k, y, by rw [ey], hk1, ?_⟩
          have rs : LR X.K tb ci st2 M2 := r2
          obtain ⟨g3, k3, r3, v3⟩ := rs.addAt (o := .ext (nPhi (hsC ci) p [(k, b', y)])) (ob' := .dcn [(k, d)]) k2 (g0.trans g12) hp ip mp ⟨[(k, b', y)], upd_same, hsy, by simp, .cons hk2 hk3 hy .nil, by simp⟩
          exact ps (.ref p) I2 _ _ g3 k3 r3 v3
        | .ref _, _, ps => exact False.elim ps
        | .own _, _, ps => exact False.elim ps
        | .exc _ _, _, ps => exact False.elim ps
        | .ownd _ _ _, _, ps => exact False.elim ps
end
end Dl
set_option maxRecDepth 100000
set_option maxHeartbeats 4000000
namespace Dl
open PySem L2 PySem.Spec PyProof.Rows
def ItK {β : Type} (tb : List (Str × β)) : It := ⟨fun i _ => i < tb.length, fun i H x H' => H' = H ∧ ∃ p, tb[i]? = some p ∧ x = .str p.1, fun i _ => tb.length ≤ i⟩
theorem tabE_len : ∀ {es : List DictEntry} {tb : List (Str × Addr)}, TabE es tb → es.length = tb.length
  | [], [], _ => rfl
  | _ :: _, _ :: _, ⟨_, r⟩ => by rw [List.length_cons, List.length_cons, tabE_len r]
theorem tabE_get : ∀ {es : List DictEntry} {tb : List (Str × Addr)}, TabE es tb → ∀ {i : Nat} {p : Str × Addr}, tb[i]? = some p → ∃ e t, es[i]? = some e ∧ e.key = .str p.1 t
  | [], [], _, i, q, z => by simp at z
  | e :: es, p :: tb, ⟨⟨⟨t, h⟩, _⟩, r⟩, 0, q, z => by cases z; exact ⟨e, t, rfl, h⟩
  | e :: es, p :: tb, ⟨_, r⟩, i + 1, q, z => tabE_get r (i := i) (by simpa using z)
section
variable {P : Program} {w : World} {K : PySem.W.Frag} {tg : Expr} {d : Addr} {es : Array DictEntry} {n : Nat} {tb : List (Str × Addr)}
theorem turn_tab (it : Addr) (hl : K.lookup d = some ⟨.type "dict", none, .dict es n, #[]⟩) (he : TabE es.toList tb) : Turn P w K tg (ItK tb) [it] it (fun i h => h.IsKeyIter it d i tb.length n) where
  mem := by simp
  obj := fun i h st b hb => by
    cases (show b = it by simpa using hb)
    obtain ⟨oi, e, c, dd⟩ := st
    exact ⟨oi, e, fun v z => by rw [dd] at z; cases z⟩
  keep := fun i h h' st k => Heap.IsKeyIter.at st fun oi e => k it (List.mem_singleton.mpr rfl) oi e
  item := by
    intro X hP hw hK hc i pn s σ H E I0 hf st hi
    cases hP
    cases hw
    cases hK
    obtain ⟨f0, f1, f2, f3, f4, f5⟩ := hf it (List.mem_singleton.mpr rfl)
    have ho : s.heap.get? d = some ⟨.type "dict", none, .dict es n, #[]⟩ := I0.kIn d _ hl
    have hsz : es.size = tb.length := by rw [← Array.length_toList]; exact tabE_len he
    obtain ⟨p, hp⟩ : ∃ p, tb[i]? = some p := ⟨tb[i], List.getElem?_eq_getElem hi⟩
    obtain ⟨en, t, hen, hk⟩ := tabE_get he hp
    rw [Array.getElem?_toList] at hen
    refine next_key_item st ho rfl hsz hen fun h' st' sb => ?_
    have I1 : Inv X pn σ H { s with heap := h' } := I0.turned (t' := s.toks) (fun b ob hb e => (sb.2 b hb).trans e) f0 f1 f3 f4 f5
    obtain ⟨oi, e, c, dd⟩ := id st'
    exact ⟨en.key, rfl, go_of (s := { s with heap := h' }) e c dd (by decide) ⟨.str p.1, H, I1, ⟨t, hk⟩, ⟨rfl, p, hp, rfl⟩, st', fun b hb => (hf b hb).1⟩⟩
  done := by
    intro X hP hw hK hc i pn s σ H E I0 hf st hi
    cases hP
    cases hw
    cases hK
    obtain ⟨f0, f1, f2, f3, f4, f5⟩ := hf it (List.mem_singleton.mpr rfl)
    have ho : s.heap.get? d = some ⟨.type "dict", none, .dict es n, #[]⟩ := I0.kIn d _ hl
    have hsz : es.size = tb.length := by rw [← Array.length_toList]; exact tabE_len he
    exact next_key_end (I0.ok.hd hc) st ho rfl hsz hi fun h' eb => ⟨rfl, I0.turned (t' := s.toks) (fun b ob hb e => eb b ob hb e) f0 f1 f3 f4 f5⟩
  self := fun A i s Q E st h => wpAny_pyIter_keyiter st h
end
def iTab {S : Type} (ks : List Str) : Rho → S → Res S (List PyData) := fun _ st => .ok (ks.map .str) st
section
variable {U : Uni} {X : Cx} {W : WX} {tg : Expr} {x : Str} {ad : Addr} {tb : List (Str × Addr)} {p : Pos}
theorem pid_tabK (T : TabF X.w X.K X.mg x ad tb) {ks : List Str} (hk : tb.map (·.1) = ks) (hg : Gl X x) (hd : (x == ("__debug__" : Str)) = false := by decide) : PId U X W tg (.Name x p) (iTab ks) := by
  refine ⟨fun pn s σ H0 R I0 h => ?_⟩
  obtain ⟨es, n, hl, _, he⟩ := T.ex
  refine thn ((pe_glob (v := .ref ad) hg T.m rfl hd).run pn s σ H0 (fun x H' => x = .ref ad ∧ H' = H0) I0 ⟨rfl, rfl⟩) fun u s1 ⟨x, H1, I1, rx, ex, eH⟩ => ?_
  subst ex
  subst eH
  cases (show u = Value.ref ad from rx)
  have ho : s1.heap.get? ad = some ⟨.type "dict", none, .dict es n, #[]⟩ := I1.kIn ad _ hl
  have hsz : es.size = tb.length := by rw [← Array.length_toList]; exact tabE_len he
  obtain ⟨Z, ρ, st, I, M, ft, ps⟩ := h
  refine iter_keys T.no ho ⟨rfl, rfl, rfl⟩ rfl (pi_one (tk := s1.toks) I1 _ (turn_tab _ hl he) ⟨_, Heap.get?_push_size _ rfl, rfl, ?_⟩ ?_)
  · rw [hsz]; rfl
  · refine ps (ItK tb) I M _ (Grow.refl _ _ _) ft.ok ft.rs ⟨fun i I2 M2 H2 _ _ hi => ?_, fun I2 M2 H2 _ _ => ?_, fun i I2 M2 H2 x H3 _ k hi y => ?_⟩
    · rw [← hk, List.length_map, List.length_map] at hi; exact hi
    · show tb.length ≤ _
      rw [← hk, List.length_map, List.length_map]; exact Nat.le_refl _
    · obtain ⟨rfl, q, hq, rfl⟩ := y
      exact ⟨.str q.1, I2, by rw [← hk, List.map_map, List.getElem?_map, hq]; rfl, Grow.refl _ _ _, k, .str _⟩
end
end Dl
set_option maxRecDepth 100000
set_option maxHeartbeats 4000000
namespace Dl
open PySem L2 PySem.Spec PyProof.Rows
/-- how the parameters behind the first one are filled by names: some of them, the rest by defaults -/
structure KBp (K : PySem.W.Frag) (fd : FuncData) (ps ks : List Str) (q : List Nat) (ds : List PyData) : Prop where
  ex : ∃ (dvs : List V) (dus : List Value), Vals dvs dus ∧ (∀ I, RpAll K I dvs ds) ∧ ∀ (s : Shared) (y : Value) (ws : List Value), K.In s.heap → ws.length = ks.length → BindsTo s fd ⟨[y], ks.zip ws⟩ (ps.zip (y :: (pickL ws q ++ dus)))
  lt : ∀ i ∈ q, i < ks.length
  len : ps.length = 1 + q.length + ds.length
theorem KBp.plain {K : PySem.W.Frag} {fd : FuncData} {ps ks : List Str} {q : List Nat} (lt : ∀ i ∈ q, i < ks.length) (len : ps.length = 1 + q.length) (h : ∀ (s : Shared) (y : Value) (ws : List Value), ws.length = ks.length → BindsTo s fd ⟨[y], ks.zip ws⟩ (ps.zip (y :: pickL ws q))) : KBp K fd ps ks q [] :=
  ⟨⟨[], [], .nil, fun _ => .nil, fun s y ws _ hl => by rw [List.append_nil]; exact h s y ws hl⟩, lt, len⟩
section
variable {tb : List (Addr × Str)} {cl : Nat → Option (Addr × List Str)} {ci : Nat → Option Addr} {X : Cx} {W : WX} {o e : Expr} {es : List Expr} {Fo Fe : Rho → LS → Res LS Val} {A B : Rho → LS → Res LS (List Val)} {pos apos p : Pos} {x m kw : Str} {k n : Nat} {f C : Addr} {fd : FuncData} {ps ks : List Str} {q : List Nat} {F : List Val → LS → Res LS Val} {ds : List PyData}
end
section
variable {tb : List (Addr × Str)} {cl : Nat → Option (Addr × List Str)} {ci : Nat → Option Addr} {X : Cx} {W : WX} {o e : Expr} {es : List Expr} {Fo Fe : Rho → LS → Res LS Val} {A B : Rho → LS → Res LS (List Val)} {pos apos p : Pos} {x m kw : Str} {k n : Nat} {f C : Addr} {fd : FuncData} {ps ks : List Str} {q : List Nat} {F : List Val → LS → Res LS Val} {ds : List PyData}
end
section
variable {tb : List (Addr × Str)} {cl : Nat → Option (Addr × List Str)} {ci : Nat → Option Addr} {X : Cx} {W : WX} {o e : Expr} {es : List Expr} {Fo Fe : Rho → LS → Res LS Val} {A B : Rho → LS → Res LS (List Val)} {pos apos p : Pos} {x m kw : Str} {k n : Nat} {f C : Addr} {fd : FuncData} {ps ks : List Str} {q : List Nat} {F : List Val → LS → Res LS Val} {ds : List PyData}
end
end Dl
set_option maxRecDepth 100000
set_option maxHeartbeats 4000000
namespace Dl
open PySem L2 PySem.Spec PyProof.Rows
def hashN (w : World) (n : Nat) : Option Addr := if 200 ≤ n then some (encI (hashStr w (txL.getD (n - 200) ""))) else none
theorem hw_of {w : World} {ci : Nat → Option Addr} (h : ∀ j, j < 5 → ci (200 + j) = hashN w (200 + j)) : HW w ci := by
  have key : ∀ j, j < 5 → decI ((ci (200 + j)).getD 0) = hashStr w (txL.getD j "") := fun j hj => by
    rw [h j hj]
    unfold hashN
    rw [if_pos (Nat.le_add_right _ _), Nat.add_sub_cancel_left]
    exact dec_enc _
  intro x hx
  unfold hsC
  simp only [txL, List.mem_cons, List.not_mem_nil, or_false] at hx
  rcases hx with rfl | rfl | rfl | rfl | rfl
  · exact key 0 (by decide)
  · exact key 1 (by decide)
  · exact key 2 (by decide)
  · exact key 3 (by decide)
  · exact key 4 (by decide)
def CatQ (K : PySem.W.Frag) (cl : Nat → Option (Addr × List Str)) : List (Nat × Addr) → Prop
  | [] => True
  | p :: r => (∀ c C nms, cl c = some (C, nms) → PySem.W.exmOne K (.ref C) (.ref p.2) = some (decide (c = p.1))) ∧ CatQ K cl r
theorem CatQ.at_ {K : PySem.W.Frag} {cl : Nat → Option (Addr × List Str)} : ∀ {L : List (Nat × Addr)}, CatQ K cl L → ∀ p ∈ L, ∀ c C nms, cl c = some (C, nms) → PySem.W.exmOne K (.ref C) (.ref p.2) = some (decide (c = p.1))
  | q :: r, ⟨h, t⟩, p, hp => by
    rcases List.mem_cons.mp hp with rfl | hp
    · exact h
    · exact CatQ.at_ t p hp
section
variable {K : PySem.W.Frag} {x q kw : Str} {st : Stmt} {ps ks : List Str} {pq : List Nat} {d1 d2 : PyData} {f D T : Addr} {od an : Option Addr} {osl : Array (Option Value)} {oc kV doc pm cdv ct u1 u2 : Value} {oT : Obj} {nT : Nat}
end
end Dl
set_option maxRecDepth 100000
set_option maxHeartbeats 4000000
namespace Mr
open PySem L2 Dl
def d_EMPTY : PyData := .tuple [.str "empty", .tuple [], .tuple [], .int (0), .int (1), .int (2), .int (1), .bool false]
def d_PACES : PyData := .tuple [.int (1), .int (2), .int (4)]
def d_LOOPING : PyData := .tuple [.str "play", .str "dub", .str "stop"]
noncomputable def B_is_number : Rho → DS → SRes DS :=
  (sRet (eAnd' (eUn (isTy .int) (eVar 0)) (eUn vNot (eUn (isTy .bool) (eVar 0)))))
noncomputable def F_is_number : List Val → DS → Res DS Val := fnF 1 B_is_number
noncomputable def B_is_whole : Rho → DS → SRes DS :=
  (sRet (eAnd' (eUn (isTy .int) (eVar 0)) (eAnd' (eUn vNot (eUn (isTy .bool) (eVar 0))) (eB (eChain vLe vLe (eVar 1) (eVar 0) (eVar 2))))))
noncomputable def F_is_whole : List Val → DS → Res DS Val := fnF 3 B_is_whole
noncomputable def B_is_layer : Rho → DS → SRes DS :=
  (sRet (eAnd' (eUn (isTy .tuple) (eVar 0)) (eAnd' (eB (eChain vLe vLe (eVar 1) (eCall bLen (aCons (eVar 0) aNil)) (eVar 2))) (eCall bAll (aCons (eFrz (nComp (iSeq (eVar 0)) [3] (.name 3) tYes' (eApp F_is_number 1 (aCons (eVar 3) aNil)))) aNil)))))
noncomputable def F_is_layer : List Val → DS → Res DS Val := fnF 4 B_is_layer
noncomputable def B_is_sign : Rho → DS → SRes DS :=
  (sRet (eAnd' (eApp F_is_whole 3 (aCons (eVar 0) (aCons (eUn vNeg (eC (.int 1))) (aCons (eC (.int 1)) aNil)))) (eB (eCmp vNe (eVar 0) (eC (.int 0))))))
noncomputable def F_is_sign : List Val → DS → Res DS Val := fnF 1 B_is_sign
noncomputable def B_is_pace : Rho → DS → SRes DS :=
  (sRet (eAnd' (eApp F_is_whole 3 (aCons (eVar 0) (aCons (eC (.int 1)) (aCons (eC (.int 4)) aNil)))) (eB (eCmp vIn (eVar 0) (eC d_PACES)))))
noncomputable def F_is_pace : List Val → DS → Res DS Val := fnF 1 B_is_pace
noncomputable def B_are_layers : Rho → DS → SRes DS :=
  (sSeq (sIf (tOr' (tNot' (tVal (eUn (isTy .tuple) (eVar 0)))) (tOr' (tNot' (tVal (eUn (isTy .tuple) (eVar 1)))) (eCmp vEq (eVar 0) (eTup aNil)))) (sRet (eC (.bool false))) sNop)
  (sSeq (sIf (tOr' (eCmp vGt (eCall bLen (aCons (eOp vAdd (eVar 0) (eVar 1)) aNil)) (eC (.int 4))) (tNot' (tVal (eApp F_is_layer 3 (aCons (eOp vIx (eVar 0) (eC (.int 0))) (aCons (eC (.int 1)) (aCons (eC (.int 64)) aNil))))))) (sRet (eC (.bool false))) sNop)
  (sSeq (sSet 2 (eCall bLen (aCons (eOp vIx (eVar 0) (eC (.int 0))) aNil)))
  (sRet (eCall bAll (aCons (eFrz (nComp (iSeq (eOp vAdd (eVar 0) (eVar 1))) [3] (.name 3) tYes' (eApp F_is_layer 3 (aCons (eVar 3) (aCons (eVar 2) (aCons (eVar 2) aNil)))))) aNil))))))
noncomputable def F_are_layers : List Val → DS → Res DS Val := fnF 4 B_are_layers
noncomputable def B_is_looping : Rho → DS → SRes DS :=
  (sSeq (sUnp (.tup [1, 2, 3, 4, 5, 6, 7, 8]) (eVar 0))
  (sSeq (sIf (tOr' (tNot' (tVal (eApp F_are_layers 2 (aCons (eVar 2) (aCons (eVar 3) aNil))))) (tNot' (tVal (eApp F_is_whole 3 (aCons (eVar 4) (aCons (eC (.int 0)) (aCons (eOp vSub (eOp vMul (eC (.int 2)) (eCall bLen (aCons (eOp vIx (eVar 2) (eC (.int 0))) aNil))) (eC (.int 1))) aNil))))))) (sRet (eC (.bool false))) sNop)
  (sSeq (sIf (tOr' (tAnd' (eCmp vEq (eVar 1) (eC (.str "stop"))) (eCmp vNe (eVar 4) (eC (.int 0)))) (tAnd' (eCmp vEq (eVar 1) (eC (.str "dub"))) (tOr' (eCmp vLt (eCall bLen (aCons (eVar 2) aNil)) (eC (.int 2))) (eCmp vNe (eVar 3) (eTup aNil))))) (sRet (eC (.bool false))) sNop)
  (sRet (eAnd' (eApp F_is_sign 1 (aCons (eVar 5) aNil)) (eAnd' (eApp F_is_pace 1 (aCons (eVar 6) aNil)) (eAnd' (eApp F_is_sign 1 (aCons (eVar 7) aNil)) (eUn (isTy .bool) (eVar 8)))))))))
noncomputable def F_is_looping : List Val → DS → Res DS Val := fnF 9 B_is_looping
noncomputable def B_are_default : Rho → DS → SRes DS :=
  (sSeq (sIf (tOr' (tNot' (tVal (eUn (isTy .tuple) (eOp vIx (eVar 0) (eC (.int 2)))))) (tOr' (eCmp vNe (eOp vIx (eVar 0) (eC (.int 2))) (eTup aNil)) (tOr' (tNot' (tVal (eUn (isTy .bool) (eOp vIx (eVar 0) (eC (.int 7)))))) (tVal (eOp vIx (eVar 0) (eC (.int 7))))))) (sRet (eC (.bool false))) sNop)
  (sRet (eAnd' (eCall bAll (aCons (eFrz (nComp (iSeq (eSl vSl (eVar 0) (oSome (eC (.int 3))) (oSome (eC (.int 7))))) [1] (.name 1) tYes' (eApp F_is_number 1 (aCons (eVar 1) aNil)))) aNil)) (eB (eCmp vEq (eSl vSl (eVar 0) (oSome (eC (.int 3))) (oSome (eC (.int 7)))) (eSl vSl (eC d_EMPTY) (oSome (eC (.int 3))) (oSome (eC (.int 7)))))))))
noncomputable def F_are_default : List Val → DS → Res DS Val := fnF 2 B_are_default
noncomputable def B_is_track : Rho → DS → SRes DS :=
  (sSeq (sIf (tOr' (tNot' (tVal (eUn (isTy .tuple) (eVar 0)))) (tOr' (eCmp vNe (eCall bLen (aCons (eVar 0) aNil)) (eC (.int 8))) (tNot' (tVal (eUn (isTy .str) (eOp vIx (eVar 0) (eC (.int 0)))))))) (sRet (eC (.bool false))) sNop)
  (sSeq (sIf (eCmp vIn (eOp vIx (eVar 0) (eC (.int 0))) (eC d_LOOPING)) (sRet (eApp F_is_looping 1 (aCons (eVar 0) aNil))) sNop)
  (sSeq (sIf (tOr' (tNot' (tVal (eApp F_are_default 1 (aCons (eVar 0) aNil)))) (tNot' (tVal (eUn (isTy .tuple) (eOp vIx (eVar 0) (eC (.int 1))))))) (sRet (eC (.bool false))) sNop)
  (sSeq (sIf (eCmp vEq (eOp vIx (eVar 0) (eC (.int 0))) (eC (.str "empty"))) (sRet (eB (eCmp vEq (eOp vIx (eVar 0) (eC (.int 1))) (eTup aNil)))) sNop)
  (sRet (eAnd' (eB (eCmp vEq (eOp vIx (eVar 0) (eC (.int 0))) (eC (.str "record")))) (eAnd' (eB (eCmp vEq (eCall bLen (aCons (eOp vIx (eVar 0) (eC (.int 1))) aNil)) (eC (.int 1)))) (eApp F_is_layer 3 (aCons (eOp vIx (eOp vIx (eVar 0) (eC (.int 1))) (eC (.int 0))) (aCons (eC (.int 0)) (aCons (eOp vSub (eC (.int 64)) (eC (.int 1))) aNil)))))))))))
noncomputable def F_is_track : List Val → DS → Res DS Val := fnF 1 B_is_track
noncomputable def B_closed : Rho → DS → SRes DS :=
  (sRet (eIf (eCmp vEq (eOp vIx (eVar 0) (eC (.int 1))) (eTup (aCons (eTup aNil) aNil))) (eC d_EMPTY) (eOp vAdd (eTup (aCons (eVar 1) aNil)) (eSl vSl (eVar 0) (oSome (eC (.int 1))) oNone))))
noncomputable def F_closed : List Val → DS → Res DS Val := fnF 2 B_closed
noncomputable def B_tapped : Rho → DS → SRes DS :=
  (sSeq (sUnp (.tup [1, 2, 3, 4, 5, 6, 7, 8]) (eVar 0))
  (sSeq (sIf (eCmp vEq (eVar 1) (eC (.str "empty"))) (sRet (eOp vAdd (eTup (aCons (eC (.str "record")) (aCons (eTup (aCons (eTup aNil) aNil)) aNil))) (eSl vSl (eVar 0) (oSome (eC (.int 2))) oNone))) sNop)
  (sSeq (sIf (eCmp vEq (eVar 1) (eC (.str "record"))) (sRet (eApp F_closed 2 (aCons (eVar 0) (aCons (eC (.str "play")) aNil)))) sNop)
  (sSeq (sIf (eCmp vEq (eVar 1) (eC (.str "play"))) (sSeq (sIf (eCmp vEq (eCall bLen (aCons (eVar 2) aNil)) (eC (.int 4))) (sRet (eVar 0)) sNop)
  (sRet (eOp vAdd (eTup (aCons (eC (.str "dub")) (aCons (eOp vAdd (eVar 2) (eTup (aCons (eOp vMul (eTup (aCons (eC (.int 0)) aNil)) (eCall bLen (aCons (eOp vIx (eVar 2) (eC (.int 0))) aNil))) aNil))) (aCons (eTup aNil) aNil)))) (eSl vSl (eVar 0) (oSome (eC (.int 3))) oNone)))) sNop)
  (sRet (eOp vAdd (eTup (aCons (eC (.str "play")) aNil)) (eSl vSl (eVar 0) (oSome (eC (.int 1))) oNone)))))))
noncomputable def F_tapped : List Val → DS → Res DS Val := fnF 9 B_tapped
noncomputable def B_stopped : Rho → DS → SRes DS :=
  (sSeq (sIf (eCmp vEq (eOp vIx (eVar 0) (eC (.int 0))) (eC (.str "record"))) (sRet (eApp F_closed 2 (aCons (eVar 0) (aCons (eC (.str "stop")) aNil)))) sNop)
  (sRet (eIf (eCmp vIn (eOp vIx (eVar 0) (eC (.int 0))) (eC d_LOOPING)) (eOp vAdd (eOp vAdd (eOp vAdd (eTup (aCons (eC (.str "stop")) aNil)) (eSl vSl (eVar 0) (oSome (eC (.int 1))) (oSome (eC (.int 3))))) (eTup (aCons (eC (.int 0)) aNil))) (eSl vSl (eVar 0) (oSome (eC (.int 4))) oNone)) (eVar 0))))
noncomputable def F_stopped : List Val → DS → Res DS Val := fnF 1 B_stopped
noncomputable def B_cleared : Rho → DS → SRes DS :=
  (sRet (eC d_EMPTY))
noncomputable def F_cleared : List Val → DS → Res DS Val := fnF 1 B_cleared
noncomputable def B_undone_by : Rho → DS → SRes DS :=
  (sSeq (sUnp (.tup [1, 2, 3]) (eSl vSl (eVar 0) oNone (oSome (eC (.int 3)))))
  (sSeq (sIf (tOr' (eCmp vNotIn (eVar 1) (eC d_LOOPING)) (eCmp vLt (eCall bLen (aCons (eVar 2) aNil)) (eC (.int 2)))) (sRet (eVar 0)) sNop)
  (sRet (eOp vAdd (eTup (aCons (eIf (eCmp vEq (eVar 1) (eC (.str "dub"))) (eC (.str "play")) (eVar 1)) (aCons (eSl vSl (eVar 2) oNone (oSome (eUn vNeg (eC (.int 1))))) (aCons (eOp vAdd (eVar 3) (eSl vSl (eVar 2) (oSome (eUn vNeg (eC (.int 1)))) oNone)) aNil)))) (eSl vSl (eVar 0) (oSome (eC (.int 3))) oNone)))))
noncomputable def F_undone_by : List Val → DS → Res DS Val := fnF 4 B_undone_by
noncomputable def B_redone_by : Rho → DS → SRes DS :=
  (sSeq (sUnp (.tup [1, 2, 3]) (eSl vSl (eVar 0) oNone (oSome (eC (.int 3)))))
  (sSeq (sIf (tOr' (eCmp vNotIn (eVar 1) (eTup (aCons (eC (.str "play")) (aCons (eC (.str "stop")) aNil)))) (eCmp vEq (eVar 3) (eTup aNil))) (sRet (eVar 0)) sNop)
  (sRet (eOp vAdd (eTup (aCons (eVar 1) (aCons (eOp vAdd (eVar 2) (eSl vSl (eVar 3) (oSome (eUn vNeg (eC (.int 1)))) oNone)) (aCons (eSl vSl (eVar 3) oNone (oSome (eUn vNeg (eC (.int 1))))) aNil)))) (eSl vSl (eVar 0) (oSome (eC (.int 3))) oNone)))))
noncomputable def F_redone_by : List Val → DS → Res DS Val := fnF 4 B_redone_by
noncomputable def B_joined : Rho → DS → SRes DS :=
  (sSeq (sUnp (.tup [1, 2]) (eSl vSl (eVar 0) oNone (oSome (eC (.int 2)))))
  (sSeq (sIf (tOr' (eCmp vNotIn (eVar 1) (eTup (aCons (eC (.str "play")) (aCons (eC (.str "stop")) aNil)))) (eCmp vLt (eCall bLen (aCons (eVar 2) aNil)) (eC (.int 2)))) (sRet (eVar 0)) sNop)
  (sRet (eOp vAdd (eTup (aCons (eVar 1) (aCons (eTup (aCons (eCall bTuple (aCons (eFrz (nComp (iZpN (eVar 2)) [3] (.name 3) tYes' (eCall bSumT (aCons (eVar 3) aNil)))) aNil)) aNil)) (aCons (eTup aNil) aNil)))) (eSl vSl (eVar 0) (oSome (eC (.int 3))) oNone)))))
noncomputable def F_joined : List Val → DS → Res DS Val := fnF 4 B_joined
noncomputable def B_other_way : Rho → DS → SRes DS :=
  (sRet (eIf (eCmp vIn (eOp vIx (eVar 0) (eC (.int 0))) (eC d_LOOPING)) (eOp vAdd (eOp vAdd (eSl vSl (eVar 0) oNone (oSome (eC (.int 4)))) (eTup (aCons (eUn vNeg (eOp vIx (eVar 0) (eC (.int 4)))) aNil))) (eSl vSl (eVar 0) (oSome (eC (.int 5))) oNone)) (eVar 0)))
noncomputable def F_other_way : List Val → DS → Res DS Val := fnF 1 B_other_way
noncomputable def B_flipped : Rho → DS → SRes DS :=
  (sRet (eIf (eCmp vIn (eOp vIx (eVar 0) (eC (.int 0))) (eC d_LOOPING)) (eOp vAdd (eSl vSl (eVar 0) oNone (oSome (eC (.int 6)))) (eTup (aCons (eUn vNeg (eOp vIx (eVar 0) (eC (.int 6)))) (aCons (eOp vIx (eVar 0) (eC (.int 7))) aNil)))) (eVar 0)))
noncomputable def F_flipped : List Val → DS → Res DS Val := fnF 1 B_flipped
noncomputable def B_hushed_or_not : Rho → DS → SRes DS :=
  (sRet (eIf (eCmp vIn (eOp vIx (eVar 0) (eC (.int 0))) (eC d_LOOPING)) (eOp vAdd (eSl vSl (eVar 0) oNone (oSome (eC (.int 7)))) (eTup (aCons (eUn vNot (eOp vIx (eVar 0) (eC (.int 7)))) aNil))) (eVar 0)))
noncomputable def F_hushed_or_not : List Val → DS → Res DS Val := fnF 1 B_hushed_or_not
noncomputable def B_behind_press : Rho → DS → SRes DS :=
  (sSeq (sSet 2 (eOp vIx (eVar 0) (eOp vIx (eVar 1) (eC (.int 1)))))
  (sSeq (sIf (eCmp vNe (eOp vIx (eVar 1) (eC (.int 0))) (eC (.str "pace"))) (sSet 2 (eAppT [("tap", F_tapped), ("stop", F_stopped), ("clear", F_cleared), ("undo", F_undone_by), ("redo", F_redone_by), ("join", F_joined), ("turn", F_other_way), ("flip", F_flipped), ("mute", F_hushed_or_not)] 1 (eOp vIx (eVar 1) (eC (.int 0))) (aCons (eVar 2) aNil))) (sIf (eCmp vIn (eOp vIx (eVar 2) (eC (.int 0))) (eC d_LOOPING)) (sSet 2 (eOp vAdd (eOp vAdd (eSl vSl (eVar 2) oNone (oSome (eC (.int 5)))) (eTup (aCons (eOp vIx (eVar 1) (eC (.int 2))) aNil))) (eSl vSl (eVar 2) (oSome (eC (.int 6))) oNone))) sNop))
  (sRet (eOp vAdd (eOp vAdd (eSl vSl (eVar 0) oNone (oSome (eOp vIx (eVar 1) (eC (.int 1))))) (eTup (aCons (eVar 2) aNil))) (eSl vSl (eVar 0) (oSome (eOp vAdd (eOp vIx (eVar 1) (eC (.int 1))) (eC (.int 1)))) oNone)))))
noncomputable def F_behind_press : List Val → DS → Res DS Val := fnF 3 B_behind_press
noncomputable def B_all_presses : Rho → DS → SRes DS :=
  (sRet (eCall bSortD (aCons (eOp vAdd (eFrz (nComp (iTab ["tap", "stop", "clear", "undo", "redo", "join", "turn", "flip", "mute"]) [0] (.name 0) tYes' (eTup (aCons (eVar 0) (aCons (eC (.int 0)) aNil))))) (eFrz (nComp (iSeq (eC d_PACES)) [1] (.name 1) tYes' (eTup (aCons (eC (.str "pace")) (aCons (eC (.int 0)) (aCons (eVar 1) aNil))))))) aNil)))
noncomputable def F_all_presses : List Val → DS → Res DS Val := fnF 2 B_all_presses
noncomputable def B_way_to : Rho → LS → SRes LS :=
  (sSeq (sFor (iSeq (eTup (aCons (eVar 0) (aCons (eVar 1) aNil)))) (.name 2) (sIf (tNot' (tVal (eApp (upF F_is_track) 1 (aCons (eVar 2) aNil)))) (sRaise 6 1 id (aCons (eC (.str "no track")) aNil)) sNop))
  (sSeq (sPar3 3 4 5 (aCons (eDctN (eVar 0) (eTup aNil)) (aCons (eLst (aCons (eVar 0) aNil)) (aCons (eApp (upF F_all_presses) 0 aNil) aNil))))
  (sSeq (sWhile (tAnd' (eCmp vNe (eVar 4) (eLst aNil)) (tVal (eInN true (eVar 1) (eVar 3)))) (sSeq (sNew 6 (nLst aNil))
  (sSeq (sFor (iSeq (eVar 4)) (.name 7) (sFor (iSeq (eVar 5)) (.name 8) (sSeq (sSet 9 (eOp vIx (eApp (upF F_behind_press) 2 (aCons (eTup (aCons (eVar 7) aNil)) (aCons (eVar 8) aNil))) (eC (.int 0))))
  (sIf (tVal (eInN true (eVar 9) (eVar 3))) (sSeq (sPutN (eVar 3) (eVar 9) (eOp vAdd (eGetN (eVar 3) (eVar 7)) (eTup (aCons (eVar 8) aNil))))
  (sApp 6 (eVar 9))) sNop))))
  (sFrzS 6 (sSet 4 (eVar 6))))))
  (sRet (eGet1N (eVar 3) (eVar 1))))))
noncomputable def F_way_to : List Val → LS → Res LS Val := fnF 10 B_way_to
noncomputable def B__law_way_k54 : Rho → LS → SRes LS :=
  (sRet (eApp F_way_to 2 (aCons (eOp vAdd (eVar 0) (eTup (aCons (eC (.int 0)) (aCons (eC (.int 1)) (aCons (eC (.int 2)) (aCons (eC (.int 1)) (aCons (eC (.bool false)) aNil))))))) (aCons (eOp vAdd (eVar 1) (eTup (aCons (eC (.int 0)) (aCons (eC (.int 1)) (aCons (eC (.int 2)) (aCons (eC (.int 1)) (aCons (eC (.bool false)) aNil))))))) aNil))))
noncomputable def F__law_way_k54 : List Val → LS → Res LS Val := fnF 2 B__law_way_k54
noncomputable def B__law_long_right_k54 : Rho → LS → SRes LS :=
  (sSeq (sSet 0 (eTup (aCons (eTup (aCons (eC (.str "flip")) (aCons (eC (.int 0)) aNil))) (aCons (eTup (aCons (eC (.str "mute")) (aCons (eC (.int 0)) aNil))) (aCons (eTup (aCons (eC (.str "pace")) (aCons (eC (.int 0)) (aCons (eC (.int 4)) aNil)))) (aCons (eTup (aCons (eC (.str "turn")) (aCons (eC (.int 0)) aNil))) (aCons (eTup (aCons (eC (.str "undo")) (aCons (eC (.int 0)) aNil))) (aCons (eTup (aCons (eC (.str "undo")) (aCons (eC (.int 0)) aNil))) (aCons (eTup (aCons (eC (.str "undo")) (aCons (eC (.int 0)) aNil))) aNil)))))))))
  (sSeq (sSet 1 (eTup (aCons (eTup (aCons (eC (.int 1)) aNil)) (aCons (eTup (aCons (eC (.int 2)) aNil)) (aCons (eTup (aCons (eC (.int 4)) aNil)) (aCons (eTup (aCons (eC (.int 8)) aNil)) aNil))))))
  (sSeq (sPar 2 3 (aCons (eTup (aCons (eC (.str "play")) (aCons (eVar 1) (aCons (eTup aNil) (aCons (eC (.int 1)) (aCons (eC (.int 1)) (aCons (eC (.int 2)) (aCons (eC (.int 1)) (aCons (eC (.bool false)) aNil))))))))) (aCons (eTup (aCons (eC (.str "play")) (aCons (eTup (aCons (eTup (aCons (eC (.int 1)) aNil)) aNil)) (aCons (eTup aNil) (aCons (eC (.int 1)) (aCons (eUn vNeg (eC (.int 1))) (aCons (eC (.int 4)) (aCons (eUn vNeg (eC (.int 1))) (aCons (eC (.bool true)) aNil))))))))) aNil)))
  (sRet (eB (eCmp vEq (eApp F_way_to 2 (aCons (eVar 2) (aCons (eVar 3) aNil))) (eOp vAdd (eVar 0) (eTup (aCons (eTup (aCons (eC (.str "tap")) (aCons (eC (.int 0)) aNil))) (aCons (eTup (aCons (eC (.str "tap")) (aCons (eC (.int 0)) aNil))) (aCons (eTup (aCons (eC (.str "join")) (aCons (eC (.int 0)) aNil))) aNil)))))))))))
noncomputable def F__law_long_right_k54 : List Val → LS → Res LS Val := fnF 4 B__law_long_right_k54
noncomputable def B_law_k54 : Rho → LS → SRes LS :=
  (sSeq (sSet 1 (eApp (upF fBegun) 1 (aCons (eVar 0) aNil)))
  (sSeq (sPar 2 3 (aCons (eTup (aCons (eC (.str "empty")) (aCons (eTup aNil) (aCons (eTup aNil) aNil)))) (aCons (eTup (aCons (eTup (aCons (eOp vAdd (eApp (upF fNext) 2 (aCons (eVar 1) (aCons (eC (.int 9)) aNil))) (eC (.int 1))) (aCons (eC (.int 2)) aNil))) aNil)) aNil)))
  (sSeq (sIf (eCmp vNe (eApp F__law_way_k54 2 (aCons (eVar 2) (aCons (eTup (aCons (eC (.str "record")) (aCons (eTup (aCons (eTup aNil) aNil)) (aCons (eTup aNil) aNil)))) aNil))) (eTup (aCons (eTup (aCons (eC (.str "tap")) (aCons (eC (.int 0)) aNil))) aNil))) (sRet (eC (.bool false))) sNop)
  (sSeq (sIf (eCmp vNe (eApp F__law_way_k54 2 (aCons (eTup (aCons (eC (.str "record")) (aCons (eTup (aCons (eTup aNil) aNil)) (aCons (eTup aNil) aNil)))) (aCons (eVar 2) aNil))) (eTup (aCons (eTup (aCons (eC (.str "clear")) (aCons (eC (.int 0)) aNil))) aNil))) (sRet (eC (.bool false))) sNop)
  (sSeq (sIf (eCmp vNe (eApp F__law_way_k54 2 (aCons (eTup (aCons (eC (.str "play")) (aCons (eVar 3) (aCons (eTup aNil) aNil)))) (aCons (eVar 2) aNil))) (eTup (aCons (eTup (aCons (eC (.str "clear")) (aCons (eC (.int 0)) aNil))) aNil))) (sRet (eC (.bool false))) sNop)
  (sSeq (sIf (tIs vIsNot (eApp F__law_way_k54 2 (aCons (eVar 2) (aCons (eTup (aCons (eC (.str "play")) (aCons (eVar 3) (aCons (eTup aNil) aNil)))) aNil)))) (sRet (eC (.bool false))) sNop)
  (sSeq (sIf (eCmp vNe (eApp F__law_way_k54 2 (aCons (eTup (aCons (eC (.str "record")) (aCons (eVar 3) (aCons (eTup aNil) aNil)))) (aCons (eTup (aCons (eC (.str "stop")) (aCons (eVar 3) (aCons (eTup aNil) aNil)))) aNil))) (eTup (aCons (eTup (aCons (eC (.str "stop")) (aCons (eC (.int 0)) aNil))) aNil))) (sRet (eC (.bool false))) sNop)
  (sSeq (sPar 4 5 (aCons (eOp vAdd (eVar 3) (eTup (aCons (eTup (aCons (eC (.int 3)) (aCons (eC (.int 4)) aNil))) aNil))) (aCons (eTup (aCons (eTup (aCons (eC (.int 0)) (aCons (eC (.int 0)) aNil))) aNil)) aNil)))
  (sSeq (sIf (eCmp vNe (eApp F__law_way_k54 2 (aCons (eTup (aCons (eC (.str "play")) (aCons (eVar 3) (aCons (eTup aNil) aNil)))) (aCons (eTup (aCons (eC (.str "play")) (aCons (eOp vAdd (eVar 3) (eVar 5)) (aCons (eTup aNil) aNil)))) aNil))) (eTup (aCons (eTup (aCons (eC (.str "tap")) (aCons (eC (.int 0)) aNil))) (aCons (eTup (aCons (eC (.str "tap")) (aCons (eC (.int 0)) aNil))) aNil)))) (sRet (eC (.bool false))) sNop)
  (sSeq (sIf (eCmp vNe (eApp F__law_way_k54 2 (aCons (eTup (aCons (eC (.str "play")) (aCons (eVar 3) (aCons (eTup aNil) aNil)))) (aCons (eTup (aCons (eC (.str "play")) (aCons (eVar 3) (aCons (eVar 5) aNil)))) aNil))) (eTup (aCons (eTup (aCons (eC (.str "tap")) (aCons (eC (.int 0)) aNil))) (aCons (eTup (aCons (eC (.str "undo")) (aCons (eC (.int 0)) aNil))) aNil)))) (sRet (eC (.bool false))) sNop)
  (sSeq (sIf (eCmp vNe (eApp F__law_way_k54 2 (aCons (eTup (aCons (eC (.str "dub")) (aCons (eVar 4) (aCons (eTup aNil) aNil)))) (aCons (eTup (aCons (eC (.str "play")) (aCons (eVar 4) (aCons (eTup aNil) aNil)))) aNil))) (eTup (aCons (eTup (aCons (eC (.str "tap")) (aCons (eC (.int 0)) aNil))) aNil))) (sRet (eC (.bool false))) sNop)
  (sSeq (sSet 6 (eTup (aCons (eTup (aCons (eOp vAdd (eOp vIx (eOp vIx (eVar 3) (eC (.int 0))) (eC (.int 0))) (eC (.int 3))) (aCons (eC (.int 6)) aNil))) aNil)))
  (sSeq (sIf (eCmp vNe (eApp F__law_way_k54 2 (aCons (eTup (aCons (eC (.str "play")) (aCons (eVar 4) (aCons (eTup aNil) aNil)))) (aCons (eTup (aCons (eC (.str "play")) (aCons (eVar 6) (aCons (eTup aNil) aNil)))) aNil))) (eTup (aCons (eTup (aCons (eC (.str "join")) (aCons (eC (.int 0)) aNil))) aNil))) (sRet (eC (.bool false))) sNop)
  (sSeq (sIf (eCmp vNe (eApp F__law_way_k54 2 (aCons (eTup (aCons (eC (.str "stop")) (aCons (eVar 3) (aCons (eTup (aCons (eTup (aCons (eC (.int 3)) (aCons (eC (.int 4)) aNil))) aNil)) aNil)))) (aCons (eTup (aCons (eC (.str "play")) (aCons (eVar 6) (aCons (eTup aNil) aNil)))) aNil))) (eTup (aCons (eTup (aCons (eC (.str "redo")) (aCons (eC (.int 0)) aNil))) (aCons (eTup (aCons (eC (.str "join")) (aCons (eC (.int 0)) aNil))) (aCons (eTup (aCons (eC (.str "tap")) (aCons (eC (.int 0)) aNil))) aNil))))) (sRet (eC (.bool false))) sNop)
  (sSeq (sIf (tIs vIsNot (eApp F__law_way_k54 2 (aCons (eTup (aCons (eC (.str "play")) (aCons (eVar 6) (aCons (eTup aNil) aNil)))) (aCons (eTup (aCons (eC (.str "play")) (aCons (eVar 4) (aCons (eTup aNil) aNil)))) aNil)))) (sRet (eC (.bool false))) sNop)
  (sSeq (sSet 7 (eTup (aCons (eC (.str "play")) (aCons (eVar 3) (aCons (eTup aNil) (aCons (eC (.int 1)) (aCons (eC (.int 1)) (aCons (eC (.int 2)) (aCons (eC (.int 1)) (aCons (eC (.bool false)) aNil))))))))))
  (sSeq (sSet 8 (eTup (aCons (eTup (aCons (eC (.str "flip")) (aCons (eC (.int 0)) aNil))) (aCons (eTup (aCons (eC (.str "mute")) (aCons (eC (.int 0)) aNil))) (aCons (eTup (aCons (eC (.str "pace")) (aCons (eC (.int 0)) (aCons (eC (.int 4)) aNil)))) (aCons (eTup (aCons (eC (.str "turn")) (aCons (eC (.int 0)) aNil))) aNil))))))
  (sSeq (sIf (eCmp vNe (eApp F_way_to 2 (aCons (eVar 7) (aCons (eTup (aCons (eC (.str "play")) (aCons (eVar 3) (aCons (eTup aNil) (aCons (eC (.int 1)) (aCons (eUn vNeg (eC (.int 1))) (aCons (eC (.int 4)) (aCons (eUn vNeg (eC (.int 1))) (aCons (eC (.bool true)) aNil))))))))) aNil))) (eVar 8)) (sRet (eC (.bool false))) sNop)
  (sSeq (sIf (eCmp vNe (eApp F_way_to 2 (aCons (eVar 7) (aCons (eTup (aCons (eC (.str "play")) (aCons (eVar 3) (aCons (eTup aNil) (aCons (eC (.int 0)) (aCons (eC (.int 1)) (aCons (eC (.int 2)) (aCons (eC (.int 1)) (aCons (eC (.bool false)) aNil))))))))) aNil))) (eTup (aCons (eTup (aCons (eC (.str "stop")) (aCons (eC (.int 0)) aNil))) (aCons (eTup (aCons (eC (.str "tap")) (aCons (eC (.int 0)) aNil))) aNil)))) (sRet (eC (.bool false))) sNop)
  (sSeq (sFor (iSeq (eTup (aCons (eC (.none)) (aCons (eSl vSl (eVar 7) oNone (oSome (eC (.int 7)))) (aCons (eOp vAdd (eVar 7) (eTup (aCons (eC (.int 0)) aNil))) (aCons (eCall bList (aCons (eVar 7) aNil)) (aCons (eTup (aCons (eC (.str "play")) aNil)) (aCons (eTup (aCons (eVar 7) aNil)) (aCons (eC (.str "play")) (aCons (eC (.int 5)) aNil)))))))))) (.name 9) (sSeq (sIf (eCmp vNe (eOut (eApp F_way_to 2 (aCons (eVar 9) (aCons (eVar 7) aNil)))) (eTup (aCons (eC (.str "place")) (aCons (eC (.none)) aNil)))) (sRet (eC (.bool false))) sNop)
  (sIf (eCmp vNe (eOut (eApp F_way_to 2 (aCons (eVar 7) (aCons (eVar 9) aNil)))) (eTup (aCons (eC (.str "place")) (aCons (eC (.none)) aNil)))) (sRet (eC (.bool false))) sNop)))
  (sRet (eApp F__law_long_right_k54 0 aNil))))))))))))))))))))))
noncomputable def FL_law_k54 : List Val → LS → Res LS Val := fnF 10 B_law_k54
noncomputable def F_law_k54 : List Val → DS → Res DS Val := dnF FL_law_k54
end Mr
set_option maxRecDepth 100000
set_option maxHeartbeats 4000000
namespace Dl
open PySem L2
theorem r_omap0 {α β : Type} (f : α → β) : (none : Option α).map f = none := rfl
theorem r_obind0 {α β : Type} (f : α → Option β) : (none : Option α).bind f = none := rfl
theorem r_zle (n : Nat) : (0 ≤ n) = True := by simp
theorem ws_forP {S β : Type} {tg : Tg} {B : Rho → S → SRes S} {E : En S} (g : β → PyData) (P : List β → Rho → S → Prop) (bs : List β) (ρ : Rho) (s : S) (h : P [] ρ s)
    (t : ∀ done b rest ρ s, bs = done ++ b :: rest → P done ρ s → ∃ ρ1, setT tg (g b) ρ = some ρ1 ∧ @Ws _ (B ρ1 s) { E with n := fun ρ s => @Hid (P (done ++ [b]) ρ s), c := fun ρ s => @Hid (P (done ++ [b]) ρ s), b := E.n }) (e : ∀ ρ s, P bs ρ s → E.n ρ s) : @Ws _ (forL tg B (bs.map g) ρ s) E := by
  refine ws_forL (fun i ρ s => P (bs.take i) ρ s) (bs.map g) 0 ρ s (by simpa using h) (fun j d ρ s hd hj => ?_) (fun ρ s hj => e ρ s (by simpa using hj))
  rw [List.getElem?_map] at hd
  cases z : bs[j]? with
  | none => rw [z] at hd; cases hd
  | some b =>
    rw [z] at hd
    cases hd
    have hl : j < bs.length := (List.getElem?_eq_some_iff.mp z).1
    have eb : bs = bs.take j ++ b :: bs.drop (j + 1) := by
      have h2 := (List.getElem?_eq_some_iff.mp z).2
      rw [← h2, List.getElem_cons_drop hl, List.take_append_drop]
    have et : bs.take (0 + j + 1) = bs.take j ++ [b] := by
      rw [show 0 + j + 1 = j + 1 by omega, List.take_add_one, z]; rfl
    have := t (bs.take j) b _ ρ s eb (by simpa using hj)
    simp only [et]
    exact this
theorem sIx_nn (n : Nat) (d : Nat) (k : Int) (h0 : 0 ≤ k) : HT.sIx n d (some k) = min k.toNat n := by
  show (if k < 0 then _ else _) = _
  rw [if_neg (by omega)]
theorem cut_from {α : Type} (xs : List α) (k : Int) (h0 : 0 ≤ k) : cutD xs (some k) none = xs.drop k.toNat := by
  unfold cutD
  rw [sIx_nn _ _ _ h0, HT.sIx_none]
  by_cases h : k.toNat ≤ xs.length
  · rw [Nat.min_eq_left h, List.take_of_length_le (by simp)]
  · rw [Nat.min_eq_right (by omega), List.drop_of_length_le (Nat.le_refl _), List.drop_of_length_le (by omega)]; simp
theorem cut_to {α : Type} (xs : List α) (k : Int) (h0 : 0 ≤ k) : cutD xs none (some k) = xs.take k.toNat := by
  unfold cutD
  rw [sIx_nn _ _ _ h0, HT.sIx_none, List.drop_zero, Nat.sub_zero]
  by_cases h : k.toNat ≤ xs.length
  · rw [Nat.min_eq_left h]
  · rw [Nat.min_eq_right (by omega), List.take_of_length_le (Nat.le_refl _), List.take_of_length_le (by omega)]
theorem compL_ok {S : Type} {tg : Tg} {F : Rho → S → Res S Val} {ρ : Rho} {st : S} (f : PyData → PyData) (ds : List PyData) (hl : ds.length ≤ 1000000) (h : ∀ d ∈ ds, ∃ ρ1, setT tg d ρ = some ρ1 ∧ F ρ1 st = .ok (.d (f d)) st) : compL tg tYes' F ρ ds [] st = .ok (ds.map f) st := by
  rw [compL_map f ds [] (by simpa using hl) h]; rfl
theorem compL_of {S : Type} {β : Type} {tg : Tg} {F : Rho → S → Res S Val} {ρ : Rho} {st : S} (g : β → PyData) (f : β → PyData) (bs : List β) (hl : bs.length ≤ 1000000) (h : ∀ b ∈ bs, ∃ ρ1, setT tg (g b) ρ = some ρ1 ∧ F ρ1 st = .ok (.d (f b)) st) : compL tg tYes' F ρ (bs.map g) [] st = .ok (bs.map f) st := by
  have key : ∀ (bs : List β) (acc : List PyData), acc.length + bs.length ≤ 1000000 → (∀ b ∈ bs, ∃ ρ1, setT tg (g b) ρ = some ρ1 ∧ F ρ1 st = .ok (.d (f b)) st) → compL tg tYes' F ρ (bs.map g) acc st = .ok (acc ++ bs.map f) st := by
    intro bs
    induction bs with
    | nil => intro acc _ _; simp [compL]
    | cons b bs ih =>
      intro acc hl h
      obtain ⟨ρ1, h1, h2⟩ := h b List.mem_cons_self
      simp only [List.length_cons] at hl
      simp only [List.map_cons]
      unfold compL
      rw [h1]
      simp only [tYes', h2]
      rw [if_pos (by omega), ih (acc ++ [f b]) (by simp; omega) fun b hb => h b (List.mem_cons_of_mem _ hb)]
      simp
  simpa using key bs [] (by simpa using hl) h
structure Gd (B : Int) (st : DS) : Prop where
  on : st.on = true
  lo : 0 ≤ st.at_
  hi : st.at_ ≤ B
  ns : st.ns.length ≤ 63
theorem Gd.mono {B C : Int} {st : DS} (h : Gd B st) (l : B ≤ C) : Gd C st := ⟨h.on, h.lo, Int.le_trans h.hi l, h.ns⟩
theorem wp_draw {B n : Int} {st : DS} {X : Nat → List PyData → DS → Prop} {Q : Val → DS → Prop} (h : Gd B st) (hn : 0 < n) (h2 : n ≤ 10 ^ 40) (hB : B ≤ 2 ^ 39) (q : ∀ x st', 0 ≤ x → x < n → Gd (B + 1) st' → Q (.d (.int x)) st') : @Wp _ _ (fNext [.ref 0, .d (.int n)] st) X Q :=
  wp_next ⟨h.on, h.lo, h.hi⟩ hn h2 hB fun x st' h1 h2 g e => q x st' h1 h2 ⟨g.on, g.lo, g.hi, by rw [e]; exact h.ns⟩
theorem wp_begin {ns : List Int} (hns : ns.length ≤ 63) {X : Nat → List PyData → DS → Prop} {Q : Val → DS → Prop} (q : ∀ st', Gd 0 st' → Q (.ref 0) st') : @Wp _ _ (fBegun [.ref 1] ⟨ns, [], [], 0, false⟩) X Q :=
  wp_begun fun st' g e => q st' ⟨g.on, g.lo, g.hi, by rw [e]; exact hns⟩
theorem at_0 (x : PyData) (xs : List PyData) : atI (x :: xs) 0 = some x := by
  have := atI_ok (x :: xs) (i := 0) (x := x) rfl
  simpa using this
theorem at_1 (x y : PyData) (xs : List PyData) : atI (x :: y :: xs) 1 = some y := atI_ok (x :: y :: xs) (i := 1) rfl
theorem at_2 (x y z : PyData) (xs : List PyData) : atI (x :: y :: z :: xs) 2 = some z := atI_ok (x :: y :: z :: xs) (i := 2) rfl
mutual
theorem eqv_self : ∀ d : PyData, d.canLay0 = true → PyData.eqv d d = true
  | .none, _ => rfl
  | .bool b, _ => by simp [PyData.eqv]
  | .int i, _ => by simp [PyData.eqv]
  | .str x, _ => by simp [PyData.eqv]
  | .list xs, h => by
    have h : PyData.canLayAll0 xs = true := by simpa [PyData.canLay0] using h
    simpa [PyData.eqv] using eqvAll_self xs h
  | .tuple xs, h => by
    have h : PyData.canLayAll0 xs = true := by simpa [PyData.canLay0] using h
    simpa [PyData.eqv] using eqvAll_self xs h
  | .dict kvs, h => by simp [PyData.canLay0] at h
theorem eqvAll_self : ∀ ds : List PyData, PyData.canLayAll0 ds = true → PyData.eqvAll ds ds = true
  | [], _ => rfl
  | d :: ds, h => by
    have h : d.canLay0 = true ∧ PyData.canLayAll0 ds = true := by simpa [PyData.canLayAll0] using h
    simp [PyData.eqvAll, eqv_self d h.1, eqvAll_self ds h.2]
end
theorem vEq_self {d : PyData} (h : okD d = true) : vEq (.d d) (.d d) = some true := by
  unfold vEq
  split
  · rename_i a b e1 e2
    have := e1.symm.trans e2
    simp at this
    simp [this]
  · rename_i xs e1 e2
    have := e1.symm.trans e2
    simp at this
    simp [this]
  · unfold vEqD
    simp [datOf, h, eqv_self d (SeqAt.canLay_of_shaped h)]
theorem ofString_inj {a b : String} (h : Str.ofString a = Str.ofString b) : a = b := by
  rw [Str.ofString_eq_toList, Str.ofString_eq_toList] at h
  have h1 : (a.toList.map Char.toNat) = (b.toList.map Char.toNat) := by simpa using h
  have key : ∀ (l m : List Char), l.map Char.toNat = m.map Char.toNat → l = m := by
    intro l
    induction l with
    | nil => intro m h; cases m with | nil => rfl | cons => simp at h
    | cons c l ih =>
      intro m h
      cases m with
      | nil => simp at h
      | cons d m =>
        simp only [List.map_cons, List.cons.injEq] at h
        rw [ih m h.2, Char.ext (UInt32.toNat_inj.mp h.1)]
  exact String.toList_inj.mp (key _ _ h1)
theorem r_str (a b : String) : (Str.ofString a = Str.ofString b) = (a = b) := propext ⟨ofString_inj, fun h => by rw [h]⟩
theorem at_3 (a b c d : PyData) (xs : List PyData) : atI (a :: b :: c :: d :: xs) 3 = some d := atI_ok (a :: b :: c :: d :: xs) (i := 3) rfl
theorem at_4 (a b c d e : PyData) (xs : List PyData) : atI (a :: b :: c :: d :: e :: xs) 4 = some e := atI_ok (a :: b :: c :: d :: e :: xs) (i := 4) rfl
theorem at_5 (a b c d e f : PyData) (xs : List PyData) : atI (a :: b :: c :: d :: e :: f :: xs) 5 = some f := atI_ok (a :: b :: c :: d :: e :: f :: xs) (i := 5) rfl
theorem at_6 (a b c d e f g : PyData) (xs : List PyData) : atI (a :: b :: c :: d :: e :: f :: g :: xs) 6 = some g := atI_ok (a :: b :: c :: d :: e :: f :: g :: xs) (i := 6) rfl
theorem at_7 (a b c d e f g h : PyData) (xs : List PyData) : atI (a :: b :: c :: d :: e :: f :: g :: h :: xs) 7 = some h := atI_ok (a :: b :: c :: d :: e :: f :: g :: h :: xs) (i := 7) rfl
theorem q_in2s (z a b : Str) : vIn (.d (.str z)) (.d (.tuple [.str a, .str b])) = some (decide (a = z) || decide (b = z)) := by
  simp [vIn, flatD, seqOf, PyData.eqv, BEq.beq]
theorem q_in3s (z a b c : Str) : vIn (.d (.str z)) (.d (.tuple [.str a, .str b, .str c])) = some (decide (a = z) || (decide (b = z) || decide (c = z))) := by
  simp [vIn, flatD, seqOf, PyData.eqv, BEq.beq]
theorem q_in3i (z a b c : Int) : vIn (.d (.int z)) (.d (.tuple [.int a, .int b, .int c])) = some (decide (a = z) || (decide (b = z) || decide (c = z))) := by
  simp [vIn, flatD, seqOf, PyData.eqv, BEq.beq]
theorem q_notin (u v : Val) : vNotIn u v = (vIn u v).map (!·) := rfl
section
variable {S : Type} {Fa : Rho → S → Res S Val} {A : Rho → S → Res S (List Val)} {ρ : Rho} {st : S}
theorem x_inT (ks : List Str) : tInT ks Fa ρ st = @bnd _ _ _ (Fa ρ st) fun v st1 => match v with
  | .d (.str x) => .ok (ks.contains x) st1
  | _ => .stuck := rfl
theorem x_appT (fs : List (Str × (List Val → S → Res S Val))) (n : Nat) : eAppT fs n Fa A ρ st = @bnd _ _ _ (Fa ρ st) fun v st1 => match v with
  | .d (.str x) => match fs.lookup x with
    | some F => eApp F n A ρ st1
    | none => .stuck
  | _ => .stuck := rfl
theorem x_zpN : iZpN Fa ρ st = @bnd _ _ _ (Fa ρ st) fun x st1 => match x with
  | .d (.tuple ds) => match tupsOf ds with
    | some xss => if 1 ≤ xss.length ∧ xss.length ≤ 4 ∧ ∀ ys ∈ xss, ys.length = (xss.headD []).length then .ok (zipRows xss) st1 else .stuck
    | none => .stuck
  | _ => .stuck := rfl
end
theorem cut_init (xs : List PyData) (x : PyData) : cutD (xs ++ [x]) none (some (-1)) = xs := by
  unfold cutD
  have h1 : HT.sIx (xs ++ [x]).length (xs ++ [x]).length (some (-1)) = xs.length := by
    simp [HT.sIx]
    omega
  have h2 : HT.sIx (xs ++ [x]).length 0 none = 0 := rfl
  rw [h1, h2]
  simp
theorem cut_last (xs : List PyData) (x : PyData) : cutD (xs ++ [x]) (some (-1)) none = [x] := by
  unfold cutD
  have h1 : HT.sIx (xs ++ [x]).length 0 (some (-1)) = xs.length := by
    simp [HT.sIx]
    omega
  have h2 : HT.sIx (xs ++ [x]).length (xs ++ [x]).length none = (xs ++ [x]).length := rfl
  rw [h1, h2]
  simp
theorem eq_t0 (xs : List PyData) : vEq (.d (.tuple xs)) (.d (.tuple [])) = some (decide (xs = [])) := rfl
theorem mul_tup0 (n : Nat) (h : n ≤ 1000) : vMul (.d (.tuple [.int 0])) (.d (.int ((n : Nat) : Int))) = some (.tuple ((List.replicate n (0 : Int)).map .int)) := by
  show cif _ _ _ = _
  rw [cif_pos ⟨by omega, by omega, by simp⟩]
  congr 2
  rw [Int.toNat_natCast, List.map_replicate]
  induction n with
  | zero => rfl
  | succ n ih => rw [List.replicate_succ, List.flatten_cons, ih (by omega), List.replicate_succ]; rfl
theorem at_mid (A B : List PyData) (x : PyData) : atI (A ++ x :: B) ((A.length : Nat) : Int) = some x := atI_ok _ (by simp)
theorem cut_mid1 (A B : List PyData) (x : PyData) : cutD (A ++ x :: B) none (some ((A.length : Nat) : Int)) = A := by
  rw [cut_to _ _ (by omega)]; simp
theorem cut_mid2 (A B : List PyData) (x : PyData) : cutD (A ++ x :: B) (some (((A.length : Nat) : Int) + 1)) none = B := by
  rw [cut_from _ _ (by omega)]
  have e : (((A.length : Nat) : Int) + 1).toNat = A.length + 1 := by omega
  rw [e, ← List.drop_drop]
  simp
end Dl
set_option maxRecDepth 100000
set_option maxHeartbeats 4000000
namespace Dl
open PySem L2
mutual
def wt : PyData → Nat
  | .none => 4
  | .bool _ => 5
  | .int i => i.natAbs.log2 + 2
  | .str x => (reprText x).length
  | .list xs => wtAll xs + 3
  | .tuple xs => wtAll xs + 3
  | .dict kvs => (PyData.shown (.dict kvs)).length
def wtAll : List PyData → Nat
  | [] => 0
  | x :: xs => wt x + 2 + wtAll xs
end
/-- data that can be shown: how deep, how long its text is at most -/
structure Fits (k w : Nat) (d : PyData) : Prop where
  lay : d.canLay0 = true
  sh : d.showable = true
  dp : d.depth ≤ k
  le : wt d ≤ w
theorem Fits.mono {k w k' w' : Nat} {d : PyData} (h : Fits k w d) (hk : k ≤ k') (hw : w ≤ w') : Fits k' w' d := ⟨h.lay, h.sh, Nat.le_trans h.dp hk, Nat.le_trans h.le hw⟩
theorem log2_le {n k : Nat} (h : n < 2 ^ k) (hk : 0 < k) : n.log2 < k := by
  by_cases h0 : n = 0
  · subst h0; simpa using hk
  · exact (Nat.log2_lt h0).mpr h
theorem Fits.int {i : Int} (h1 : -(10 ^ 40) ≤ i) (h2 : i ≤ 10 ^ 40) : Fits 0 140 (.int i) := by
  have h : i.natAbs < 2 ^ 134 := by omega
  have hl := log2_le h (by decide)
  refine ⟨rfl, ?_, Nat.le_refl _, ?_⟩
  · simp only [PyData.showable]; exact decide_eq_true (by omega)
  · simp only [wt]; omega
theorem Fits.none : Fits 0 4 .none := ⟨rfl, rfl, Nat.le_refl _, Nat.le_refl _⟩
theorem Fits.bool (b : Bool) : Fits 0 5 (.bool b) := ⟨rfl, rfl, Nat.le_refl _, Nat.le_refl _⟩
theorem Fits.all {k w : Nat} : ∀ {ds : List PyData}, (∀ d ∈ ds, Fits k w d) → PyData.canLayAll0 ds = true ∧ PyData.showableAll ds = true ∧ PyData.depthAll ds ≤ k ∧ wtAll ds ≤ ds.length * (w + 2)
  | [], _ => ⟨rfl, rfl, Nat.zero_le _, by simp [wtAll]⟩
  | d :: ds, h => by
    have h1 := h d List.mem_cons_self
    obtain ⟨a, b, c, e⟩ := Fits.all (ds := ds) fun d hd => h d (List.mem_cons_of_mem _ hd)
    refine ⟨?_, ?_, ?_, ?_⟩
    · simp [PyData.canLayAll0, h1.lay, a]
    · simp [PyData.showableAll, h1.sh, b]
    · simp only [PyData.depthAll]; have := h1.dp; omega
    · simp only [wtAll, List.length_cons]
      have := h1.le
      rw [Nat.add_mul]
      omega
theorem Fits.tup {k w : Nat} {ds : List PyData} (h : ∀ d ∈ ds, Fits k w d) : Fits (k + 1) (ds.length * (w + 2) + 3) (.tuple ds) := by
  obtain ⟨a, b, c, e⟩ := Fits.all h
  refine ⟨?_, ?_, ?_, ?_⟩
  · simpa [PyData.canLay0] using a
  · simpa [PyData.showable] using b
  · simp only [PyData.depth]; omega
  · simp only [wt]; omega
theorem Fits.lst {k w : Nat} {ds : List PyData} (h : ∀ d ∈ ds, Fits k w d) : Fits (k + 1) (ds.length * (w + 2) + 3) (.list ds) := by
  obtain ⟨a, b, c, e⟩ := Fits.all h
  refine ⟨?_, ?_, ?_, ?_⟩
  · simpa [PyData.canLay0] using a
  · simpa [PyData.showable] using b
  · simp only [PyData.depth]; omega
  · simp only [wt]; omega
theorem Fits.ok {k w : Nat} {d : PyData} (h : Fits k w d) (hk : k ≤ 64) : okD d = true := by
  unfold okD SeqAt.shaped
  rw [h.lay, Bool.true_and]
  exact decide_eq_true (Nat.le_trans h.dp hk)
theorem lay_ints (l : List Int) : PyData.canLayAll0 (l.map .int) = true := by
  induction l with
  | nil => rfl
  | cons x l ih => simp [PyData.canLayAll0, PyData.canLay0, ih]
theorem depth_ints (l : List Int) : PyData.depthAll (l.map .int) = 0 := by
  induction l with
  | nil => rfl
  | cons x l ih => simp [PyData.depthAll, PyData.depth, ih]
theorem okD_ints (l : List Int) : okD (.tuple (l.map .int)) = true := by
  simp [okD, SeqAt.shaped, PyData.canLay0, PyData.depth, lay_ints, depth_ints]
theorem eqv_ints : ∀ (l m : List Int), PyData.eqvAll (l.map .int) (m.map .int) = decide (l = m)
  | [], [] => rfl
  | [], _ :: _ => by simp [PyData.eqvAll]
  | _ :: _, [] => by simp [PyData.eqvAll]
  | x :: l, y :: m => by
    simp only [List.map_cons, PyData.eqvAll, PyData.eqv, eqv_ints l m]
    by_cases h1 : x = y <;> by_cases h2 : l = m <;> simp [h1, h2]
theorem vEq_rows (l m : List Int) : vEq (.d (.tuple (l.map .int))) (.d (.tuple (m.map .int))) = some (decide (l = m)) := by
  cases m with
  | nil =>
    show some (decide (l.map PyData.int = [])) = _
    cases l <;> rfl
  | cons a m =>
    show vEqD _ _ = _
    unfold vEqD
    have h1 := okD_ints l
    have h2 := okD_ints (a :: m)
    have h3 := eqv_ints l (a :: m)
    simp only [datOf, Option.bind_some, h1, h2, Bool.and_self, if_true, PyData.eqv, h3]
theorem pw30 : vPow (.d (.int 10)) (.d (.int 30)) = some (.int 1000000000000000000000000000000) := q_pow _ _ (by decide)
theorem pw29 : vPow (.d (.int 10)) (.d (.int 29)) = some (.int 100000000000000000000000000000) := q_pow _ _ (by decide)
theorem pw25 : vPow (.d (.int 10)) (.d (.int 25)) = some (.int 10000000000000000000000000) := q_pow _ _ (by decide)
theorem pw20 : vPow (.d (.int 10)) (.d (.int 20)) = some (.int 100000000000000000000) := q_pow _ _ (by decide)
theorem pw9 : vPow (.d (.int 10)) (.d (.int 9)) = some (.int 1000000000) := q_pow _ _ (by decide)
theorem pw6 : vPow (.d (.int 10)) (.d (.int 6)) = some (.int 1000000) := q_pow _ _ (by decide)
theorem pw62 : vPow (.d (.int 10)) (.d (.int 62)) = some (.int 100000000000000000000000000000000000000000000000000000000000000) := q_pow _ _ (by decide)
def great : Int := 10 ^ 992
theorem pwG : vPowW (.d (.int 100000000000000000000000000000000000000000000000000000000000000)) (.d (.int 16)) = some (.int great) := by
  show cif _ _ _ = _
  rw [cif_pos]
  · have e : (100000000000000000000000000000000000000000000000000000000000000 : Int) ^ (16 : Int).toNat = great := by decide +kernel
    rw [e]
  · exact ⟨by decide, by decide +kernel⟩
end Dl
set_option maxRecDepth 100000
set_option maxHeartbeats 4000000
local macro_rules | `(tactic| simp! [$args,*]) => `(tactic| simp only [Dl.cif_T, Dl.cif_F, Dl.seq_n, Dl.seq_r, Dl.seq_x, Dl.seq_b, Dl.seq_c, Dl.w_seq, Dl.w_if, Dl.w_set, Dl.w_ret, Dl.w_drop, Dl.w_for, Dl.w_new, Dl.w_sBind, Dl.w_unp, Dl.w_par, Dl.w_raise, Dl.w_retN, Dl.w_nop, Dl.w_nx, Dl.w_rt, Dl.w_exc, Dl.w_brk, Dl.w_cnt, Dl.w_stuck, Dl.w_goOn, Dl.w_retOwn, Dl.w_app, Dl.w_setI, Dl.w_augI, Dl.w_aug, Dl.p_ok, Dl.p_exc, Dl.p_stuck, Dl.p_bind, Dl.b_ok, Dl.b_exc, Dl.sb_ok, Dl.sb_exc, Dl.go_nx, Dl.go_rt, Dl.go_exc, Dl.ok_ite, Dl.l_some, Dl.lb_some, Dl.x_var, Dl.x_c, Dl.x_op, Dl.x_un, Dl.x_cmp, Dl.x_B, Dl.x_tVal, Dl.x_tAnd, Dl.x_tOr, Dl.x_tNot, Dl.x_if, Dl.x_aNil, Dl.x_aCons, Dl.x_tup, Dl.x_lst, Dl.x_and, Dl.x_or, Dl.c_some, Dl.x_chain, Dl.x_call, Dl.x_tIs, Dl.x_app, Dl.x_sl, Dl.x_oNone, Dl.x_oSome, Dl.x_frz, Dl.x_nLst, Dl.x_nList, Dl.x_nRep, Dl.x_iSeq, Dl.x_iRng, Dl.x_iRng2, Dl.x_iEnm, Dl.x_iZp, Dl.x_comp, Dl.x_yes, Dl.x_lenS, Dl.w_nil, Dl.w_cons, Dl.t_name, Dl.t_tup, Dl.t_all, Dl.t_nil, Dl.bg, Dl.r_map_cons, Dl.r_map_nil, Dl.r_rep_succ, Dl.r_rep_zero, Dl.r_len_cons, Dl.r_len_nil, Dl.r_len_map, Dl.r_app_cons, Dl.r_app_nil, Dl.r_nil_app, Dl.r_set_zero, Dl.r_set_succ, Dl.r_get_zero, Dl.r_get_succ, Dl.r_omap, Dl.r_obind, Dl.r_all_cons, Dl.r_all_nil, Dl.r_and_t, Dl.r_t_and, Dl.r_and_f, Dl.r_f_and, Dl.r_or_t, Dl.r_t_or, Dl.r_or_f, Dl.r_f_or, Dl.r_not_t, Dl.r_not_f, Dl.r_not_not, Dl.r_and_true, Dl.r_true_and, Dl.r_and_false, Dl.r_false_and, Dl.r_or_true, Dl.r_true_or, Dl.r_or_false, Dl.r_false_or, Dl.r_not_true, Dl.r_not_false, Dl.r_ft, Dl.r_tt, Dl.r_dt, Dl.r_df, Dl.r_de, Dl.r_dn, Dl.r_ne, Dl.r_oe, Dl.r_ae, Dl.r_ite_t, Dl.r_ite_f, Dl.r_ite_tb, Dl.r_ite_bf, Dl.r_db, Dl.r_self, Dl.r_ite_d, Dl.r_ite_b, Dl.r_ite_i, Dl.r_ite_s, Dl.q_isd, Dl.q_isr, Dl.q_add, Dl.q_sub, Dl.q_neg, Dl.q_lt, Dl.q_le, Dl.q_gt, Dl.q_ge, Dl.q_not, Dl.q_ixt, Dl.q_ixl, Dl.q_ixo, Dl.q_lent, Dl.q_lenl, Dl.q_leno, Dl.q_int, Dl.q_min, Dl.q_max, Dl.q_abs, Dl.q_tupl, Dl.q_tupt, Dl.q_tupo, Dl.q_listt, Dl.q_listl, Dl.q_listo, Dl.q_sum, Dl.q_all, Dl.q_any, Dl.q_sllt, Dl.q_slll, Dl.q_sllo, Dl.q_isi, Dl.q_nn, Dl.q_ni, Dl.q_nb, Dl.q_ns, Dl.q_nt, Dl.q_nl, Dl.q_nN, Dl.q_d0, Dl.q_d1, Dl.q_seql, Dl.q_seqt, Dl.q_seqo, Dl.q_lstl, Dl.q_lsto, Dl.q_dsl, Dl.q_dst, Dl.q_eqi, Dl.q_eqs, Dl.q_ne, Dl.x_chain3, Dl.x_dget, Dl.x_dix, Dl.ty_int_none, Dl.ty_int_bool, Dl.ty_int_int, Dl.ty_int_str, Dl.ty_int_list, Dl.ty_int_tuple, Dl.ty_int_dict, Dl.ty_bool_none, Dl.ty_bool_bool, Dl.ty_bool_int, Dl.ty_bool_str, Dl.ty_bool_list, Dl.ty_bool_tuple, Dl.ty_bool_dict, Dl.ty_tuple_none, Dl.ty_tuple_bool, Dl.ty_tuple_int, Dl.ty_tuple_str, Dl.ty_tuple_list, Dl.ty_tuple_tuple, Dl.ty_tuple_dict, Dl.ty_str_none, Dl.ty_str_bool, Dl.ty_str_int, Dl.ty_str_str, Dl.ty_str_list, Dl.ty_str_tuple, Dl.ty_str_dict, Dl.x_nCat, Dl.w_parNV, Dl.w_parVN, Dl.w_parNN, Dl.w_frzS, Dl.x_iRevN, Dl.w_par3, Dl.x_nSortS, Dl.x_nSl, Dl.w_newD, Dl.w_putT, Dl.w_putI, Dl.x_lenO, Dl.x_getO, Dl.w_parDV, Dl.x_appO, Dl.q_getD, Dl.x_tupR1, Dl.x_tupR2, Dl.r_omap0, Dl.r_obind0, Dl.r_zle, Dl.at_0, Dl.at_1, Dl.at_2, Dl.r_str, Dl.at_3, Dl.at_4, Dl.at_5, Dl.at_6, Dl.at_7, Dl.q_in2s, Dl.q_in3s, Dl.q_in3i, Dl.q_notin, Dl.x_inT, Dl.x_appT, Dl.x_zpN, Dl.pw30, Dl.pw29, Dl.pw25, Dl.pw20, Dl.pw9, Dl.pw6, Dl.pw62, Dl.pwG, simprocAttr, $args,*])
namespace Mr
open PySem L2 Dl
def isNum : PyData → Bool
  | .int _ => true
  | _ => false
def isWh (x : PyData) (a b : Int) : Bool := match x with
  | .int i => decide (a ≤ i) && decide (i ≤ b)
  | _ => false
theorem m_is_number (x : PyData) (st : DS) : F_is_number [.d x] st = .ok (.d (.bool (isNum x))) st := by
  cases x <;> rfl
theorem m_is_whole (x : PyData) (a b : Int) (st : DS) : F_is_whole [.d x, .d (.int a), .d (.int b)] st = .ok (.d (.bool (isWh x a b))) st := by
  refine ok_of ?_
  cases x <;> simp! [F_is_whole, w_fn, B_is_whole, isWh]
def fl3 (k j : Nat) (x : PyData) : Option PyData := if isNum x = true then none else some (.tuple [.int k, .int j])
theorem isWh_i (i a b : Int) : isWh (.int i) a b = (decide (a ≤ i) && decide (i ≤ b)) := rfl
abbrev lpD (l : List Int) : PyData := .tuple (l.map .int)
abbrev lpsD (L : List (List Int)) : PyData := .tuple (L.map lpD)
structure OkL (L : List (List Int)) : Prop where
  len : L.length ≤ 6
  each : ∀ l ∈ L, 1 ≤ l.length ∧ l.length ≤ 64
def turnL (l : List Int) (t : Int) : List Int := l.drop (t % (l.length : Int)).toNat ++ l.take (t % (l.length : Int)).toNat
def turnZ (L : List (List Int)) (t : Int) : List (List Int) := L.map fun l => turnL l t
theorem turn_len (l : List Int) (t : Int) : (turnL l t).length = l.length := by
  by_cases h : l = []
  · subst h; simp [turnL]
  · have h0 : 0 < l.length := List.length_pos_iff.mpr h
    have h1 := Int.emod_lt_of_pos t (show (0 : Int) < (l.length : Int) by omega)
    have h2 := Int.emod_nonneg t (show (l.length : Int) ≠ 0 by omega)
    have h3 : (t % (l.length : Int)).toNat ≤ l.length := by omega
    simp [turnL]
    omega
theorem OkL.turn {L : List (List Int)} (h : OkL L) (t : Int) : OkL (turnZ L t) := by
  refine ⟨by simpa [turnZ] using h.len, fun l hl => ?_⟩
  obtain ⟨m, hm, rfl⟩ := List.mem_map.mp hl
  rw [turn_len]
  exact h.each m hm
end Mr
set_option maxRecDepth 100000
set_option maxHeartbeats 4000000
namespace Mr
open PySem L2 Dl
end Mr
set_option maxRecDepth 100000
set_option maxHeartbeats 4000000
namespace Mr
open PySem L2 Dl
inductive Mode where
  | empty | record | play | dub | stop
deriving DecidableEq
def Mode.s : Mode → String
  | .empty => "empty" | .record => "record" | .play => "play" | .dub => "dub" | .stop => "stop"
structure Trk where
  mode : Mode
  layers : List (List Int)
  undone : List (List Int)
  point : Int
  way : Int
  pace : Int
  sign : Int
  muted : Bool
def dTrk (t : Trk) : PyData := .tuple [.str t.mode.s, lpsD t.layers, lpsD t.undone, .int t.point, .int t.way, .int t.pace, .int t.sign, .bool t.muted]
def dPed (p : List Trk) : PyData := .tuple (p.map dTrk)
/-- how many cells -/
def Trk.size (t : Trk) : Nat := (t.layers.headD []).length
structure OkLoop (t : Trk) : Prop where
  l1 : 1 ≤ t.layers.length
  l4 : t.layers.length + t.undone.length ≤ 4
  n1 : 1 ≤ t.size
  n64 : t.size ≤ 64
  eql : ∀ l ∈ t.layers, l.length = t.size
  equ : ∀ l ∈ t.undone, l.length = t.size
  p0 : 0 ≤ t.point
  p1 : t.point < 2 * (t.size : Int)
  way : t.way = 1 ∨ t.way = -1
  pace : t.pace = 1 ∨ t.pace = 2 ∨ t.pace = 4
  sign : t.sign = 1 ∨ t.sign = -1
def emptyT : Trk := ⟨.empty, [], [], 0, 1, 2, 1, false⟩
def recT (l : List Int) : Trk := ⟨.record, [l], [], 0, 1, 2, 1, false⟩
inductive OkT : Trk → Prop
  | empty : OkT emptyT
  | record (l : List Int) : l.length ≤ 63 → OkT (recT l)
  | play {t : Trk} : t.mode = .play → OkLoop t → OkT t
  | dub {t : Trk} : t.mode = .dub → OkLoop t → 2 ≤ t.layers.length → t.undone = [] → OkT t
  | stop {t : Trk} : t.mode = .stop → OkLoop t → t.point = 0 → OkT t
structure OkP (p : List Trk) : Prop where
  l1 : 1 ≤ p.length
  l4 : p.length ≤ 4
  each : ∀ t ∈ p, OkT t
theorem allB {α : Type} (f : α → Bool) (xs : List α) : bAll [.d (.list (xs.map fun x => PyData.bool (f x)))] = some (.bool (xs.all f)) := by
  have := q_all (xs.map f)
  rw [List.map_map] at this
  rw [show (xs.map fun x => PyData.bool (f x)) = xs.map (PyData.bool ∘ f) from rfl, this]
  simp
theorem m_is_layer_ok (l : List Int) (a b : Int) (h1 : a ≤ (l.length : Int)) (h2 : (l.length : Int) ≤ b) (hl : l.length ≤ 1000000) (st : DS) : F_is_layer [.d (lpD l), .d (.int a), .d (.int b)] st = .ok (.d (.bool true)) st := by
  refine ok_of ?_
  have hc : ∀ st : DS, compL (.name 3) tYes' (eApp F_is_number 1 (aCons (eVar 3) aNil)) [some (.d (lpD l)), some (.d (.int a)), some (.d (.int b)), none] (l.map PyData.int) [] st = .ok (l.map fun _ => PyData.bool true) st := fun st => by
    refine compL_of PyData.int (fun _ => .bool true) l hl fun x hx => ⟨_, rfl, ?_⟩
    simp! [m_is_number, isNum]
  have ha := allB (fun _ : Int => true) l
  simp! [F_is_layer, w_fn, B_is_layer, lpD, h1, h2]
  rw [hc]
  simp! [ha]
  simp
theorem m_is_sign (i : Int) (h : i = 1 ∨ i = -1) (st : DS) : F_is_sign [.d (.int i)] st = .ok (.d (.bool true)) st := by
  refine ok_of ?_
  rcases h with rfl | rfl <;> simp! [F_is_sign, w_fn, B_is_sign, m_is_whole, isWh] <;> simp
theorem m_is_pace (i : Int) (h : i = 1 ∨ i = 2 ∨ i = 4) (st : DS) : F_is_pace [.d (.int i)] st = .ok (.d (.bool true)) st := by
  refine ok_of ?_
  rcases h with rfl | rfl | rfl <;> simp! [F_is_pace, w_fn, B_is_pace, m_is_whole, isWh, d_PACES] <;> simp
end Mr
namespace Dl
open PySem L2
section
variable (a b c d e f g h : PyData)
theorem c8_t2 : cutD [a, b, c, d, e, f, g, h] none (some 2) = [a, b] := rfl
theorem c8_t3 : cutD [a, b, c, d, e, f, g, h] none (some 3) = [a, b, c] := rfl
theorem c8_t4 : cutD [a, b, c, d, e, f, g, h] none (some 4) = [a, b, c, d] := rfl
theorem c8_t5 : cutD [a, b, c, d, e, f, g, h] none (some 5) = [a, b, c, d, e] := rfl
theorem c8_t6 : cutD [a, b, c, d, e, f, g, h] none (some 6) = [a, b, c, d, e, f] := rfl
theorem c8_t7 : cutD [a, b, c, d, e, f, g, h] none (some 7) = [a, b, c, d, e, f, g] := rfl
theorem c8_f1 : cutD [a, b, c, d, e, f, g, h] (some 1) none = [b, c, d, e, f, g, h] := rfl
theorem c8_f2 : cutD [a, b, c, d, e, f, g, h] (some 2) none = [c, d, e, f, g, h] := rfl
theorem c8_f3 : cutD [a, b, c, d, e, f, g, h] (some 3) none = [d, e, f, g, h] := rfl
theorem c8_f4 : cutD [a, b, c, d, e, f, g, h] (some 4) none = [e, f, g, h] := rfl
theorem c8_f5 : cutD [a, b, c, d, e, f, g, h] (some 5) none = [f, g, h] := rfl
theorem c8_f6 : cutD [a, b, c, d, e, f, g, h] (some 6) none = [g, h] := rfl
theorem c8_13 : cutD [a, b, c, d, e, f, g, h] (some 1) (some 3) = [b, c] := rfl
theorem c8_37 : cutD [a, b, c, d, e, f, g, h] (some 3) (some 7) = [d, e, f, g] := rfl
end
end Dl
namespace Mr
open PySem L2 Dl
theorem eq_t1 (l : List Int) : vEq (.d (.tuple [.tuple (l.map .int)])) (.d (.tuple [.tuple []])) = some (decide (l = [])) := by
  show vEqD _ _ = _
  unfold vEqD
  have h1 : okD (.tuple [.tuple (l.map .int)]) = true := by
    simp [okD, SeqAt.shaped, PyData.canLay0, PyData.canLayAll0, PyData.depth, PyData.depthAll, lay_ints, depth_ints]
  have h2 : okD (.tuple [.tuple []]) = true := by decide
  simp only [datOf, Option.bind_some, h1, h2, Bool.and_self, if_true]
  cases l <;> simp [PyData.eqv, PyData.eqvAll]
theorem layers_comp (L : List (List Int)) (n : Nat) (h : ∀ l ∈ L, l.length = n) (hn : n ≤ 1000) (hL : L.length ≤ 1000) (a b : Option Val) (st : DS) : compL (.name 3) tYes' (eApp F_is_layer 3 (aCons (eVar 3) (aCons (eVar 2) (aCons (eVar 2) aNil)))) [a, b, some (.d (.int (n : Nat))), none] (L.map lpD) [] st = .ok (L.map fun _ => PyData.bool true) st := by
  refine compL_of lpD (fun _ => .bool true) L (by omega) fun l hl => ⟨_, rfl, ?_⟩
  have e := h l hl
  simp! [m_is_layer_ok l (n : Nat) (n : Nat) (by omega) (by omega) (by omega)]
theorem m_are_layers_ok (l0 : List Int) (L U : List (List Int)) (h4 : L.length + 1 + U.length ≤ 4) (n1 : 1 ≤ l0.length) (n2 : l0.length ≤ 64) (h : ∀ l ∈ L ++ U, l.length = l0.length) (st : DS) : F_are_layers [.d (lpsD (l0 :: L)), .d (lpsD U)] st = .ok (.d (.bool true)) st := by
  refine ok_of ?_
  have hs : L.length + 1 + U.length ≤ 1000000 := by omega
  have hg : ¬ ((4 : Int) < (((lpD l0 :: (L.map lpD ++ U.map lpD)).length : Nat) : Int)) := by simp; omega
  have hc := layers_comp (l0 :: (L ++ U)) l0.length (by intro l hl; rcases List.mem_cons.mp hl with rfl | hl; rfl; exact h l hl) (by omega) (by simp; omega)
  have ha := allB (fun _ : List Int => true) (l0 :: (L ++ U))
  simp only [List.map_cons, List.map_append] at hc ha
  simp only [List.length_cons] at hg
  simp! [F_are_layers, w_fn, B_are_layers, lpsD, eq_t0, q_addt, hs, hg, m_is_layer_ok l0 1 64 (by omega) (by omega) (by omega), hc, ha]
  simp
theorem m_is_looping_ok {t : Trk} (hm : t.mode = .play ∨ t.mode = .dub ∨ t.mode = .stop) (h : OkLoop t) (hs : t.mode = .stop → t.point = 0) (hd : t.mode = .dub → 2 ≤ t.layers.length ∧ t.undone = []) (st : DS) : F_is_looping [.d (dTrk t)] st = .ok (.d (.bool true)) st := by
  obtain ⟨mode, layers, undone, point, way, pace, sign, muted⟩ := t
  obtain ⟨l1, l4, n1, n64, eql, equ, p0, p1, hway, hpace, hsign⟩ := h
  simp only [Trk.size] at *
  cases layers with
  | nil => simp at l1
  | cons l0 L =>
    simp only [List.headD_cons, List.length_cons] at *
    have hl := m_are_layers_ok l0 L undone (by omega) n1 n64 (by
      intro l hl
      rcases List.mem_append.mp hl with hl | hl
      · exact eql l (List.mem_cons_of_mem _ hl)
      · exact equ l hl)
    simp only [lpsD, List.map_cons] at hl
    have hmul : vMul (.d (.int 2)) (.d (.int (l0.length : Nat))) = some (.int (2 * (l0.length : Nat))) := q_mul _ _ (by
      have := log2_le (n := ((l0.length : Nat) : Int).natAbs) (k := 10) (by simp; omega) (by omega)
      have e : (2 : Int).natAbs.log2 = 1 := by decide
      omega)
    have hw : isWh (.int point) 0 (2 * (l0.length : Nat) - 1) = true := by rw [isWh_i]; simp; omega
    refine ok_of ?_
    rcases hm with rfl | rfl | rfl
    · simp! [F_is_looping, w_fn, B_is_looping, dTrk, lpsD, Mode.s, hl, hmul, m_is_whole, hw, m_is_sign _ hway, m_is_pace _ hpace, m_is_sign _ hsign]
      all_goals simp
    · obtain ⟨d1, d2⟩ := hd rfl
      have d2' : undone = [] := d2
      subst d2'
      have hlt : ¬ (((L.length + 1 : Nat) : Int) < 2) := by omega
      simp only [List.map_nil] at hl
      simp! [F_is_looping, w_fn, B_is_looping, dTrk, lpsD, Mode.s, hl, hmul, m_is_whole, hw, m_is_sign _ hway, m_is_pace _ hpace, m_is_sign _ hsign, eq_t0, hlt]
      all_goals simp
    · have hs' : point = 0 := hs rfl
      subst hs'
      simp! [F_is_looping, w_fn, B_is_looping, dTrk, lpsD, Mode.s, hl, hmul, m_is_whole, hw, m_is_sign _ hway, m_is_pace _ hpace, m_is_sign _ hsign]
      all_goals simp
theorem default_comp (a : Option Val) (st : DS) : compL (.name 1) tYes' (eApp F_is_number 1 (aCons (eVar 1) aNil)) [a, none] [.int 0, .int 1, .int 2, .int 1] [] st = .ok [.bool true, .bool true, .bool true, .bool true] st := by
  have := compL_of (tg := .name 1) (F := eApp F_is_number 1 (aCons (eVar 1) aNil)) (ρ := [a, none]) (st := st) PyData.int (fun _ => .bool true) [0, 1, 2, 1] (by simp) (fun l hl => ⟨_, rfl, by simp! [m_is_number, isNum]⟩)
  exact this
theorem m_are_default_ok (s : Str) (x : PyData) (st : DS) : F_are_default [.d (.tuple [.str s, x, .tuple [], .int 0, .int 1, .int 2, .int 1, .bool false])] st = .ok (.d (.bool true)) st := by
  refine ok_of ?_
  have e : vEq (.d (.tuple [.int 0, .int 1, .int 2, .int 1])) (.d (.tuple [.int 0, .int 1, .int 2, .int 1])) = some true := vEq_self (okD_ints [0, 1, 2, 1])
  have ha := q_all [true, true, true, true]
  simp only [List.map_cons, List.map_nil] at ha
  simp! [F_are_default, w_fn, B_are_default, d_EMPTY, eq_t0, c8_37, default_comp, e, ha]
  all_goals simp
theorem m_is_track_ok {t : Trk} (h : OkT t) (st : DS) : F_is_track [.d (dTrk t)] st = .ok (.d (.bool true)) st := by
  refine ok_of ?_
  cases h with
  | empty => simp! [F_is_track, w_fn, B_is_track, dTrk, emptyT, lpsD, Mode.s, d_LOOPING, m_are_default_ok, eq_t0]
  | record l hl =>
    have := m_is_layer_ok l 0 63 (by omega) (by omega) (by omega)
    simp! [F_is_track, w_fn, B_is_track, dTrk, recT, lpsD, Mode.s, d_LOOPING, m_are_default_ok, this]
  | play hm h =>
    have := m_is_looping_ok (.inl hm) h (by simp [hm]) (by simp [hm])
    simp only [dTrk, lpsD, hm, Mode.s] at this
    simp! [F_is_track, w_fn, B_is_track, dTrk, lpsD, hm, Mode.s, d_LOOPING, this]
  | dub hm h h2 hu =>
    have := m_is_looping_ok (.inr (.inl hm)) h (by simp [hm]) (fun _ => ⟨h2, hu⟩)
    simp only [dTrk, lpsD, hm, Mode.s] at this
    simp! [F_is_track, w_fn, B_is_track, dTrk, lpsD, hm, Mode.s, d_LOOPING, this]
  | stop hm h hp =>
    have := m_is_looping_ok (.inr (.inr hm)) h (fun _ => hp) (by simp [hm])
    simp only [dTrk, lpsD, hm, Mode.s] at this
    simp! [F_is_track, w_fn, B_is_track, dTrk, lpsD, hm, Mode.s, d_LOOPING, this]
end Mr
set_option maxRecDepth 100000
set_option maxHeartbeats 4000000
namespace Dl
open PySem L2
theorem str_beq (a b : String) : (Str.ofString a == Str.ofString b) = decide (a = b) := by
  show decide (Str.ofString a = Str.ofString b) = _
  by_cases h : a = b
  · subst h; simp
  · have : ¬ (Str.ofString a = Str.ofString b) := fun e => h (ofString_inj e)
    simp [h, this]
theorem lk_cons {β : Type} (k a : String) (b : β) (es : List (Str × β)) : List.lookup (Str.ofString k) ((Str.ofString a, b) :: es) = if k = a then some b else List.lookup (Str.ofString k) es := by
  rw [List.lookup_cons, str_beq]
  by_cases h : k = a <;> simp [h]
theorem tups_of (L : List (List Int)) : tupsOf (L.map fun l => PyData.tuple (l.map .int)) = some (L.map fun l => l.map PyData.int) := by
  induction L with
  | nil => rfl
  | cons l L ih =>
    show (tupsOf (L.map fun l => PyData.tuple (l.map .int))).map ((l.map PyData.int) :: ·) = _
    rw [ih]; rfl
theorem q_sumT (ns : List Int) : bSumT [.d (.tuple (ns.map PyData.int))] = some (.int ns.sum) := by
  show ((allInts (ns.map PyData.int)).map fun ns => PyData.int ns.sum) = _
  rw [allInts_map]; rfl
end Dl
namespace Mr
open PySem L2 Dl
inductive Deed where
  | tap | stop | clear | undo | redo | join | turn | flip | mute
  | pace (k : Int)
def Deed.s : Deed → String
  | .tap => "tap" | .stop => "stop" | .clear => "clear" | .undo => "undo" | .redo => "redo" | .join => "join" | .turn => "turn" | .flip => "flip" | .mute => "mute" | .pace _ => "pace"
def dPress (d : Deed) (i : Nat) : PyData := match d with
  | .pace k => .tuple [.str "pace", .int (i : Nat), .int k]
  | d => .tuple [.str d.s, .int (i : Nat)]
def Deed.Ok : Deed → Prop
  | .pace k => k = 1 ∨ k = 2 ∨ k = 4
  | _ => True
def joinL (L : List (List Int)) (n : Nat) : List Int := (List.range n).map fun i => (L.map fun l => l.getD i 0).sum
def Mode.loops : Mode → Bool
  | .play => true | .dub => true | .stop => true | _ => false
def doT : Deed → Trk → Trk
  | .tap, t => match t.mode with
    | .empty => { t with mode := .record, layers := [[]] }
    | .record => if t.layers = [[]] then emptyT else { t with mode := .play }
    | .play => if t.layers.length = 4 then t else { t with mode := .dub, layers := t.layers ++ [List.replicate t.size 0], undone := [] }
    | _ => { t with mode := .play }
  | .stop, t => match t.mode with
    | .empty => t
    | .record => if t.layers = [[]] then emptyT else { t with mode := .stop }
    | _ => { t with mode := .stop, point := 0 }
  | .clear, _ => emptyT
  | .undo, t => if t.mode.loops = true ∧ 2 ≤ t.layers.length then { t with mode := if t.mode = .dub then .play else t.mode, layers := t.layers.dropLast, undone := t.undone ++ t.layers.drop (t.layers.length - 1) } else t
  | .redo, t => if (t.mode = .play ∨ t.mode = .stop) ∧ t.undone ≠ [] then { t with layers := t.layers ++ t.undone.drop (t.undone.length - 1), undone := t.undone.dropLast } else t
  | .join, t => if (t.mode = .play ∨ t.mode = .stop) ∧ 2 ≤ t.layers.length then { t with layers := [joinL t.layers t.size], undone := [] } else t
  | .turn, t => if t.mode.loops = true then { t with way := -t.way } else t
  | .flip, t => if t.mode.loops = true then { t with sign := -t.sign } else t
  | .mute, t => if t.mode.loops = true then { t with muted := !t.muted } else t
  | .pace k, t => if t.mode.loops = true then { t with pace := k } else t
theorem doT_tap_rec (l : List Int) : doT .tap (recT l) = if l = [] then emptyT else { recT l with mode := .play } := by
  show (if (recT l).layers = [[]] then _ else _) = _
  by_cases h : l = []
  · rw [if_pos h, if_pos (by rw [h]; rfl)]
  · rw [if_neg h, if_neg (by simpa [recT] using h)]
theorem doT_stop_rec (l : List Int) : doT .stop (recT l) = if l = [] then emptyT else { recT l with mode := .stop } := by
  show (if (recT l).layers = [[]] then _ else _) = _
  by_cases h : l = []
  · rw [if_pos h, if_pos (by rw [h]; rfl)]
  · rw [if_neg h, if_neg (by simpa [recT] using h)]
theorem joinL_len (L : List (List Int)) (n : Nat) : (joinL L n).length = n := by simp [joinL]
theorem OkLoop.do_layers {t : Trk} (h : OkLoop t) {m : Mode} {L U : List (List Int)} (h1 : 1 ≤ L.length) (h4 : L.length + U.length ≤ 4) (hL : ∀ l ∈ L, l.length = t.size) (hU : ∀ l ∈ U, l.length = t.size) : OkLoop { t with mode := m, layers := L, undone := U } := by
  have hs : (Trk.size { t with mode := m, layers := L, undone := U }) = t.size := by
    cases L with
    | nil => simp at h1
    | cons l L => exact hL l List.mem_cons_self
  exact ⟨h1, h4, by rw [hs]; exact h.n1, by rw [hs]; exact h.n64, fun l hl => by rw [hs]; exact hL l hl, fun l hl => by rw [hs]; exact hU l hl, h.p0, by rw [hs]; exact h.p1, h.way, h.pace, h.sign⟩
theorem size_last {t : Trk} (h : OkLoop t) : ∀ l ∈ t.layers.drop (t.layers.length - 1), l.length = t.size := fun l hl => h.eql l (List.mem_of_mem_drop hl)
theorem OkT.loop {t : Trk} (h : OkT t) (hm : t.mode.loops = true) : OkLoop t := by
  cases h with
  | empty => cases hm
  | record l hl => cases hm
  | play _ h => exact h
  | dub _ h _ _ => exact h
  | stop _ h _ => exact h
theorem OkT.stopped {t : Trk} (h : OkT t) (hm : t.mode = .stop) : t.point = 0 := by
  cases h with
  | empty => cases hm
  | record l hl => cases hm
  | play e _ => rw [e] at hm; cases hm
  | dub e _ _ _ => rw [e] at hm; cases hm
  | stop _ _ h => exact h
theorem OkT.dubbed {t : Trk} (h : OkT t) (hm : t.mode = .dub) : 2 ≤ t.layers.length ∧ t.undone = [] := by
  cases h with
  | empty => cases hm
  | record l hl => cases hm
  | play e _ => rw [e] at hm; cases hm
  | dub _ _ h2 hu => exact ⟨h2, hu⟩
  | stop e _ _ => rw [e] at hm; cases hm
theorem OkT.mk {t : Trk} (hm : t.mode.loops = true) (h : OkLoop t) (hs : t.mode = .stop → t.point = 0) (hd : t.mode = .dub → 2 ≤ t.layers.length ∧ t.undone = []) : OkT t := by
  cases e : t.mode with
  | empty => rw [e] at hm; cases hm
  | record => rw [e] at hm; cases hm
  | play => exact .play e h
  | dub => exact .dub e h (hd e).1 (hd e).2
  | stop => exact .stop e h (hs e)
theorem rec_ok (l : List Int) (m : Mode) (hm : m = .play ∨ m = .stop) (h0 : l ≠ []) (h : l.length ≤ 64) : OkT { recT l with mode := m } := by
  have hl : 0 < l.length := List.length_pos_iff.mpr h0
  have : OkLoop { recT l with mode := m } := ⟨by simp [recT], by simp [recT], by simp [Trk.size, recT]; omega, by simpa [Trk.size, recT] using h, by simp [recT, Trk.size], by simp [recT], by simp [recT], by simp [recT, Trk.size]; omega, .inl rfl, .inr (.inl rfl), .inl rfl⟩
  rcases hm with rfl | rfl
  · exact .play rfl this
  · exact .stop rfl this rfl
theorem doT_ok {t : Trk} (h : OkT t) (d : Deed) (hd : d.Ok) : OkT (doT d t) := by
  cases d with
  | clear => exact .empty
  | tap =>
    cases h with
    | empty => exact .record [] (by simp)
    | record l hl =>
      rw [doT_tap_rec]
      by_cases h0 : l = []
      · rw [if_pos h0]; exact .empty
      · rw [if_neg h0]
        exact rec_ok l .play (.inl rfl) h0 (by omega)
    | play e h =>
      simp only [doT, e]
      by_cases h4 : t.layers.length = 4
      · rw [if_pos h4]; exact .play e h
      · rw [if_neg h4]
        have h1 := h.l1
        have h2 := h.l4
        exact .dub rfl (h.do_layers (by simp) (by simp; omega) (by
          intro l hl
          rcases List.mem_append.mp hl with hl | hl
          · exact h.eql l hl
          · simp at hl; subst hl; simp) (by simp)) (by simp; omega) rfl
    | dub e h h2 hu =>
      simp only [doT, e]
      exact .play rfl ⟨h.l1, h.l4, h.n1, h.n64, h.eql, h.equ, h.p0, h.p1, h.way, h.pace, h.sign⟩
    | stop e h hp =>
      simp only [doT, e]
      exact .play rfl ⟨h.l1, h.l4, h.n1, h.n64, h.eql, h.equ, h.p0, h.p1, h.way, h.pace, h.sign⟩
  | stop =>
    cases h with
    | empty => exact .empty
    | record l hl =>
      rw [doT_stop_rec]
      by_cases h0 : l = []
      · rw [if_pos h0]; exact .empty
      · rw [if_neg h0]
        exact rec_ok l .stop (.inr rfl) h0 (by omega)
    | play e h =>
      simp only [doT, e]
      exact .stop rfl ⟨h.l1, h.l4, h.n1, h.n64, h.eql, h.equ, by simp, by have := h.n1; simp [Trk.size] at *; omega, h.way, h.pace, h.sign⟩ rfl
    | dub e h h2 hu =>
      simp only [doT, e]
      exact .stop rfl ⟨h.l1, h.l4, h.n1, h.n64, h.eql, h.equ, by simp, by have := h.n1; simp [Trk.size] at *; omega, h.way, h.pace, h.sign⟩ rfl
    | stop e h hp =>
      simp only [doT, e]
      exact .stop rfl ⟨h.l1, h.l4, h.n1, h.n64, h.eql, h.equ, by simp, by have := h.n1; simp [Trk.size] at *; omega, h.way, h.pace, h.sign⟩ rfl
  | undo =>
    simp only [doT]
    by_cases c : t.mode.loops = true ∧ 2 ≤ t.layers.length
    · rw [if_pos c]
      have hl := h.loop c.1
      have l4 := hl.l4
      have c2 := c.2
      refine OkT.mk ?_ (hl.do_layers (by simp; omega) (by simp; omega) (fun l hm => hl.eql l (List.dropLast_subset _ hm)) (by
        intro l hm
        rcases List.mem_append.mp hm with hm | hm
        · exact hl.equ l hm
        · exact size_last hl l hm)) ?_ ?_
      · have := c.1; by_cases e : t.mode = .dub <;> simp [e, Mode.loops] <;> exact this
      · intro e
        by_cases e2 : t.mode = .dub
        · simp [e2] at e
        · simp [e2] at e; exact h.stopped e
      · intro e
        by_cases e2 : t.mode = .dub
        · simp [e2] at e
        · simp [e2] at e
    · rw [if_neg c]; exact h
  | redo =>
    simp only [doT]
    by_cases c : (t.mode = .play ∨ t.mode = .stop) ∧ t.undone ≠ []
    · rw [if_pos c]
      have hl := h.loop (by rcases c.1 with e | e <;> rw [e] <;> rfl)
      have l4 := hl.l4
      have hu := List.length_pos_iff.mpr c.2
      refine OkT.mk (by rcases c.1 with e | e <;> simp [e, Mode.loops]) (hl.do_layers (by simp; omega) (by simp; omega) (by
        intro l hm
        rcases List.mem_append.mp hm with hm | hm
        · exact hl.eql l hm
        · exact hl.equ l (List.mem_of_mem_drop hm)) (fun l hm => hl.equ l (List.dropLast_subset _ hm))) (fun e => h.stopped e) ?_
      intro e
      rcases c.1 with e2 | e2 <;> simp [e2] at e
    · rw [if_neg c]; exact h
  | join =>
    simp only [doT]
    by_cases c : (t.mode = .play ∨ t.mode = .stop) ∧ 2 ≤ t.layers.length
    · rw [if_pos c]
      have hl := h.loop (by rcases c.1 with e | e <;> rw [e] <;> rfl)
      refine OkT.mk (by rcases c.1 with e | e <;> simp [e, Mode.loops]) (hl.do_layers (by simp) (by simp) (by simp [joinL_len]) (by simp)) (fun e => h.stopped e) ?_
      intro e
      rcases c.1 with e2 | e2 <;> simp [e2] at e
    · rw [if_neg c]; exact h
  | turn =>
    simp only [doT]
    by_cases c : t.mode.loops = true
    · rw [if_pos c]
      have h' := h.loop c
      exact OkT.mk c ⟨h'.l1, h'.l4, h'.n1, h'.n64, h'.eql, h'.equ, h'.p0, h'.p1, by have := h'.way; simp; omega, h'.pace, h'.sign⟩ (fun e => h.stopped e) (fun e => h.dubbed e)
    · rw [if_neg c]; exact h
  | flip =>
    simp only [doT]
    by_cases c : t.mode.loops = true
    · rw [if_pos c]
      have h' := h.loop c
      exact OkT.mk c ⟨h'.l1, h'.l4, h'.n1, h'.n64, h'.eql, h'.equ, h'.p0, h'.p1, h'.way, h'.pace, by have := h'.sign; simp; omega⟩ (fun e => h.stopped e) (fun e => h.dubbed e)
    · rw [if_neg c]; exact h
  | mute =>
    simp only [doT]
    by_cases c : t.mode.loops = true
    · rw [if_pos c]
      have h' := h.loop c
      exact OkT.mk c ⟨h'.l1, h'.l4, h'.n1, h'.n64, h'.eql, h'.equ, h'.p0, h'.p1, h'.way, h'.pace, h'.sign⟩ (fun e => h.stopped e) (fun e => h.dubbed e)
    · rw [if_neg c]; exact h
  | pace k =>
    simp only [doT]
    by_cases c : t.mode.loops = true
    · rw [if_pos c]
      have h' := h.loop c
      exact OkT.mk c ⟨h'.l1, h'.l4, h'.n1, h'.n64, h'.eql, h'.equ, h'.p0, h'.p1, h'.way, hd, h'.sign⟩ (fun e => h.stopped e) (fun e => h.dubbed e)
    · rw [if_neg c]; exact h
end Mr
set_option maxRecDepth 100000
set_option maxHeartbeats 4000000
namespace Mr
open PySem L2 Dl
theorem lps_append (L M : List (List Int)) : lpsD (L ++ M) = .tuple (L.map lpD ++ M.map lpD) := by simp [lpsD]
theorem last_of {α : Type} {xs : List α} (h : xs ≠ []) : ∃ ys y, xs = ys ++ [y] := by
  rcases List.eq_nil_or_concat xs with h' | ⟨ys, y, h'⟩
  · exact absurd h' h
  · exact ⟨ys, y, by simpa using h'⟩
theorem m_closed (l : List Int) (m : Str) (st : DS) : F_closed [.d (dTrk (recT l)), .d (.str m)] st = .ok (.d (if l = [] then dTrk emptyT else .tuple [.str m, lpsD [l], .tuple [], .int 0, .int 1, .int 2, .int 1, .bool false])) st := by
  refine ok_of ?_
  by_cases h : l = []
  · subst h
    have := eq_t1 []
    simp only [List.map_nil] at this
    simp! [F_closed, w_fn, B_closed, dTrk, recT, lpsD, lpD, Mode.s, this, d_EMPTY, emptyT]
  · simp! [F_closed, w_fn, B_closed, dTrk, recT, lpsD, lpD, Mode.s, eq_t1, h, c8_f1, q_addt]
theorem m_tapped {t : Trk} (h : OkT t) (st : DS) : F_tapped [.d (dTrk t)] st = .ok (.d (dTrk (doT .tap t))) st := by
  refine ok_of ?_
  cases h with
  | empty => simp! [F_tapped, w_fn, B_tapped, dTrk, doT, emptyT, lpsD, lpD, Mode.s, c8_f2, q_addt]
  | record l hl =>
    have hc := m_closed l "play"
    simp only [dTrk, recT, Mode.s] at hc
    by_cases h0 : l = []
    · subst h0
      rw [doT_tap_rec]
      simp! [F_tapped, w_fn, B_tapped, dTrk, recT, Mode.s, hc, emptyT]
    · rw [doT_tap_rec, if_neg h0]
      simp! [F_tapped, w_fn, B_tapped, dTrk, recT, Mode.s, hc, h0]
      simp [lpsD]
  | play e h =>
    obtain ⟨mode, layers, undone, point, way, pace, sign, muted⟩ := t
    obtain rfl : mode = .play := e
    cases layers with
    | nil => have := h.l1; simp at this
    | cons l0 L =>
      have l4 := h.l4
      have n64 := h.n64
      simp only [Trk.size, List.headD_cons, List.length_cons] at l4 n64
      by_cases h4 : L.length = 3
      · have e1 : (((L.length + 1 : Nat) : Int) = 4) = True := eq_true (by omega)
        simp! [F_tapped, w_fn, B_tapped, dTrk, doT, lpsD, Mode.s, h4, e1]
        all_goals simp [h4]
      · have e1 : (((L.length + 1 : Nat) : Int) = 4) = False := eq_false (by omega)
        have e2 : (L.length + 1 = 4) = False := eq_false (by omega)
        have hl : L.length + 1 + 1 ≤ 1000000 := by omega
        simp! [F_tapped, w_fn, B_tapped, dTrk, doT, lpsD, lpD, Mode.s, e1, e2, mul_tup0 _ (show l0.length ≤ 1000 by omega), q_addt, hl, c8_f3, Trk.size]
        all_goals simp [Trk.size]
  | dub e h h2 hu =>
    simp! [F_tapped, w_fn, B_tapped, dTrk, doT, e, Mode.s, c8_f1, q_addt]
  | stop e h hp =>
    simp! [F_tapped, w_fn, B_tapped, dTrk, doT, e, Mode.s, c8_f1, q_addt]
theorem m_stopped {t : Trk} (h : OkT t) (st : DS) : F_stopped [.d (dTrk t)] st = .ok (.d (dTrk (doT .stop t))) st := by
  refine ok_of ?_
  cases h with
  | empty => simp! [F_stopped, w_fn, B_stopped, dTrk, doT, emptyT, lpsD, lpD, Mode.s, d_LOOPING]
  | record l hl =>
    have hc := m_closed l "stop"
    simp only [dTrk, recT, Mode.s] at hc
    by_cases h0 : l = []
    · subst h0
      rw [doT_stop_rec]
      simp! [F_stopped, w_fn, B_stopped, dTrk, recT, Mode.s, hc, emptyT]
    · rw [doT_stop_rec, if_neg h0]
      simp! [F_stopped, w_fn, B_stopped, dTrk, recT, Mode.s, hc, h0]
      simp [lpsD]
  | play e h => simp! [F_stopped, w_fn, B_stopped, dTrk, doT, e, Mode.s, d_LOOPING, c8_13, c8_f4, q_addt]
  | dub e h h2 hu => simp! [F_stopped, w_fn, B_stopped, dTrk, doT, e, Mode.s, d_LOOPING, c8_13, c8_f4, q_addt]
  | stop e h hp => simp! [F_stopped, w_fn, B_stopped, dTrk, doT, e, Mode.s, d_LOOPING, c8_13, c8_f4, q_addt]
theorem m_cleared (x : PyData) (st : DS) : F_cleared [.d x] st = .ok (.d (dTrk emptyT)) st := by
  refine ok_of ?_
  simp! [F_cleared, w_fn, B_cleared, d_EMPTY, dTrk, emptyT, lpsD, Mode.s]
theorem m_other_way {t : Trk} (st : DS) : F_other_way [.d (dTrk t)] st = .ok (.d (dTrk (doT .turn t))) st := by
  refine ok_of ?_
  cases e : t.mode <;> simp! [F_other_way, w_fn, B_other_way, dTrk, doT, e, Mode.s, Mode.loops, d_LOOPING, c8_t4, c8_f5, q_addt]
theorem m_flipped {t : Trk} (st : DS) : F_flipped [.d (dTrk t)] st = .ok (.d (dTrk (doT .flip t))) st := by
  refine ok_of ?_
  cases e : t.mode <;> simp! [F_flipped, w_fn, B_flipped, dTrk, doT, e, Mode.s, Mode.loops, d_LOOPING, c8_t6, q_addt]
theorem m_hushed_or_not {t : Trk} (st : DS) : F_hushed_or_not [.d (dTrk t)] st = .ok (.d (dTrk (doT .mute t))) st := by
  refine ok_of ?_
  cases e : t.mode <;> simp! [F_hushed_or_not, w_fn, B_hushed_or_not, dTrk, doT, e, Mode.s, Mode.loops, d_LOOPING, c8_t7, q_addt]
theorem m_undone_by {t : Trk} (h : OkT t) (st : DS) : F_undone_by [.d (dTrk t)] st = .ok (.d (dTrk (doT .undo t))) st := by
  refine ok_of ?_
  by_cases c : t.mode.loops = true
  · have hl := h.loop c
    obtain ⟨mode, layers, undone, point, way, pace, sign, muted⟩ := t
    obtain ⟨L, l, rfl⟩ := last_of (xs := layers) (by have := hl.l1; intro e; subst e; simp at this)
    have l4 := hl.l4
    simp only [List.length_append, List.length_cons, List.length_nil] at l4
    have hs : undone.length + 1 ≤ 1000000 := by omega
    by_cases c2 : 1 ≤ L.length
    · have e1 : (((L.length + 1 : Nat) : Int) < 2) = False := eq_false (by omega)
      have e2 : (2 ≤ L.length + 1) = True := eq_true (by omega)
      cases mode <;> first | (cases c; done) | skip
      all_goals simp! [F_undone_by, w_fn, B_undone_by, dTrk, doT, Mode.s, Mode.loops, d_LOOPING, lps_append, List.length_append, c8_t3, c8_f3, e1, e2, cut_init, cut_last, q_addt, hs]
      all_goals simp [e2, lpsD]
      all_goals omega
    · have e1 : (((L.length + 1 : Nat) : Int) < 2) = True := eq_true (by omega)
      have e2 : (2 ≤ L.length + 1) = False := eq_false (by omega)
      cases mode <;> first | (cases c; done) | skip
      all_goals simp! [F_undone_by, w_fn, B_undone_by, dTrk, doT, Mode.s, Mode.loops, d_LOOPING, lps_append, List.length_append, c8_t3, c8_f3, e1, e2]
      all_goals simp [e2, lpsD]
      all_goals omega
  · cases e : t.mode <;> first | (rw [e] at c; exact absurd rfl c) | skip
    all_goals simp! [F_undone_by, w_fn, B_undone_by, dTrk, doT, e, Mode.s, Mode.loops, d_LOOPING, c8_t3]
theorem m_redone_by {t : Trk} (h : OkT t) (st : DS) : F_redone_by [.d (dTrk t)] st = .ok (.d (dTrk (doT .redo t))) st := by
  refine ok_of ?_
  by_cases c : t.mode = .play ∨ t.mode = .stop
  · have hl := h.loop (by rcases c with e | e <;> rw [e] <;> rfl)
    obtain ⟨mode, layers, undone, point, way, pace, sign, muted⟩ := t
    by_cases c2 : undone = []
    · subst c2
      rcases c with rfl | rfl <;> simp! [F_redone_by, w_fn, B_redone_by, dTrk, doT, Mode.s, lpsD, c8_t3, eq_t0]
      all_goals simp
    · obtain ⟨L, l, rfl⟩ := last_of c2
      have l4 := hl.l4
      simp only [List.length_append, List.length_cons, List.length_nil] at l4
      have hs : layers.length + 1 ≤ 1000000 := by omega
      have e0 : (L.map lpD ++ [lpD l] = []) = False := by simp
      rcases c with rfl | rfl <;> simp! [F_redone_by, w_fn, B_redone_by, dTrk, doT, Mode.s, lps_append, c8_t3, c8_f3, eq_t0, e0, cut_init, cut_last, q_addt, hs]
      all_goals simp [lpsD]
  · cases e : t.mode <;> first | (rw [e] at c; simp at c; done) | skip
    all_goals simp! [F_redone_by, w_fn, B_redone_by, dTrk, doT, e, Mode.s, c8_t3]
    all_goals simp
theorem rows_comp (L : List (List Int)) (n : Nat) (hn : n ≤ 1000) (h : ∀ l ∈ L, l.length = n) (a b c : Option Val) (st : DS) :
    compL (.name 3) tYes' (eCall bSumT (aCons (eVar 3) aNil)) [a, b, c, none] ((List.range n).map fun i => PyData.tuple ((L.map fun l => l.map PyData.int).map fun ys => ys.getD i .none)) [] st = .ok ((joinL L n).map PyData.int) st := by
  have key : ((List.range n).map fun i => PyData.tuple ((L.map fun l => l.map PyData.int).map fun ys => ys.getD i .none)) = ((List.range n).map fun i => PyData.tuple ((L.map fun l => l.getD i 0).map PyData.int)) := by
    refine List.map_congr_left fun i hi => ?_
    have hi := List.mem_range.mp hi
    congr 1
    rw [List.map_map, List.map_map]
    refine List.map_congr_left fun l hl => ?_
    have e := h l hl
    simp [List.getD_eq_getElem?_getD, List.getElem?_map, List.getElem?_eq_getElem (show i < l.length by omega)]
  rw [key, compL_of (fun i => PyData.tuple ((L.map fun l => l.getD i 0).map PyData.int)) (fun i => .int (L.map fun l => l.getD i 0).sum) (List.range n) (by simp; omega)]
  · simp [joinL]
  · intro i hi
    refine ⟨_, rfl, ?_⟩
    simp! [q_sumT]
theorem m_joined {t : Trk} (h : OkT t) (st : DS) : F_joined [.d (dTrk t)] st = .ok (.d (dTrk (doT .join t))) st := by
  refine ok_of ?_
  by_cases c : t.mode = .play ∨ t.mode = .stop
  · have hl := h.loop (by rcases c with e | e <;> rw [e] <;> rfl)
    obtain ⟨mode, layers, undone, point, way, pace, sign, muted⟩ := t
    have l4 := hl.l4
    have l1 := hl.l1
    simp only at l4 l1
    by_cases c2 : 2 ≤ layers.length
    · have e1 : ((layers.length : Int) < 2) = False := eq_false (by omega)
      cases layers with
      | nil => simp at c2
      | cons l0 L =>
        have hr := fun a b c => rows_comp (l0 :: L) l0.length (by have := hl.n64; simp [Trk.size] at this; omega) (by have := hl.eql; simpa [Trk.size] using this) a b c st
        have hz : zipRows ((l0 :: L).map fun l => l.map PyData.int) = ((List.range l0.length).map fun i => PyData.tuple (((l0 :: L).map fun l => l.map PyData.int).map fun ys => ys.getD i .none)) := by simp [zipRows]
        have ht := tups_of (l0 :: L)
        have hcnd : 1 ≤ ((l0 :: L).map fun l => l.map PyData.int).length ∧ ((l0 :: L).map fun l => l.map PyData.int).length ≤ 4 ∧ ∀ ys ∈ ((l0 :: L).map fun l => l.map PyData.int), ys.length = (((l0 :: L).map fun l => l.map PyData.int).headD []).length := by
          refine ⟨by simp, by simp at l4 ⊢; omega, fun ys hy => ?_⟩
          obtain ⟨l, hm, rfl⟩ := List.mem_map.mp hy
          have := hl.eql l hm
          simp [Trk.size] at this
          simp [this]
        have hd : (lpsD (l0 :: L)) = .tuple ((l0 :: L).map fun l => PyData.tuple (l.map .int)) := rfl
        simp only [List.length_map] at hcnd
        have c3 : 1 ≤ L.length := by simp only [List.length_cons] at c2; omega
        generalize hLL : l0 :: L = LL at *
        rcases c with rfl | rfl
        all_goals
          simp! [F_joined, w_fn, B_joined, dTrk, doT, Mode.s, hd, c8_t2, c8_f3, e1, ht]
          rw [if_pos hcnd, hz]
          simp! [hr, q_addt]
          simp [c3, Trk.size, ← hLL, lpsD]
    · have e1 : ((layers.length : Int) < 2) = True := eq_true (by omega)
      rcases c with rfl | rfl <;> simp! [F_joined, w_fn, B_joined, dTrk, doT, Mode.s, lpsD, c8_t2, e1]
      all_goals simp [c2]
  · cases e : t.mode <;> first | (rw [e] at c; simp at c; done) | skip
    all_goals simp! [F_joined, w_fn, B_joined, dTrk, doT, e, Mode.s, c8_t2]
    all_goals simp
theorem ped_split (A B : List Trk) (t : Trk) : (A ++ t :: B).map dTrk = A.map dTrk ++ dTrk t :: B.map dTrk := by simp
theorem cutA (A B : List Trk) (t : Trk) : cutD (A.map dTrk ++ dTrk t :: B.map dTrk) none (some ((A.length : Nat) : Int)) = A.map dTrk := by
  have := cut_mid1 (A.map dTrk) (B.map dTrk) (dTrk t)
  simpa using this
theorem cutB (A B : List Trk) (t : Trk) : cutD (A.map dTrk ++ dTrk t :: B.map dTrk) (some (((A.length : Nat) : Int) + 1)) none = B.map dTrk := by
  have := cut_mid2 (A.map dTrk) (B.map dTrk) (dTrk t)
  simpa using this
theorem atA (A B : List Trk) (t : Trk) : atI (A.map dTrk ++ dTrk t :: B.map dTrk) ((A.length : Nat) : Int) = some (dTrk t) := by
  have := at_mid (A.map dTrk) (B.map dTrk) (dTrk t)
  simpa using this
theorem m_behind_press (A B : List Trk) (t : Trk) (h : OkT t) (hA : A.length ≤ 4) (hB : B.length ≤ 4) (d : Deed) (st : DS) : F_behind_press [.d (dPed (A ++ t :: B)), .d (dPress d A.length)] st = .ok (.d (dPed (A ++ doT d t :: B))) st := by
  refine ok_of ?_
  have h1 : A.length + 1 ≤ 1000000 := by omega
  have h1' : A.length ≤ 999999 := by omega
  have h2 : A.length + (0 + 1) + B.length ≤ 1000000 := by omega
  have h3 : A.length + 1 + B.length ≤ 1000000 := by omega
  cases d with
  | pace k =>
    have hin : vIn (.d (.str t.mode.s)) (.d (.tuple [.str "play", .str "dub", .str "stop"])) = some t.mode.loops := by
      cases t.mode <;> rfl
    cases hm : t.mode.loops with
    | true =>
      simp! [F_behind_press, w_fn, B_behind_press, dPress, dPed, ped_split, atA, d_LOOPING]
      simp only [dTrk]
      simp! [hin, hm, c8_t5, c8_f6, q_addt]
      have c1 := cutA A B t
      have c2 := cutB A B t
      simp only [dTrk] at c1 c2
      simp! [c1, c2, h1, h1', h2, h3, List.length_append, q_addt]
      simp [doT, hm, dTrk]
    | false =>
      simp! [F_behind_press, w_fn, B_behind_press, dPress, dPed, ped_split, atA, d_LOOPING]
      simp only [dTrk]
      simp! [hin, hm]
      have c1 := cutA A B t
      have c2 := cutB A B t
      simp only [dTrk] at c1 c2
      simp! [c1, c2, h1, h1', h2, h3, List.length_append, q_addt]
      simp [doT, hm, dTrk]
  | tap => simp! [F_behind_press, w_fn, B_behind_press, dPress, Deed.s, dPed, ped_split, atA, lk_cons, m_tapped h, cutA, cutB, h1, h2, h3, List.length_append, q_addt]; simp
  | stop => simp! [F_behind_press, w_fn, B_behind_press, dPress, Deed.s, dPed, ped_split, atA, lk_cons, m_stopped h, cutA, cutB, h1, h2, h3, List.length_append, q_addt]; simp
  | clear => simp! [F_behind_press, w_fn, B_behind_press, dPress, Deed.s, dPed, ped_split, atA, lk_cons, m_cleared, cutA, cutB, h1, h2, h3, List.length_append, q_addt]; simp [doT]
  | undo => simp! [F_behind_press, w_fn, B_behind_press, dPress, Deed.s, dPed, ped_split, atA, lk_cons, m_undone_by h, cutA, cutB, h1, h2, h3, List.length_append, q_addt]; simp
  | redo => simp! [F_behind_press, w_fn, B_behind_press, dPress, Deed.s, dPed, ped_split, atA, lk_cons, m_redone_by h, cutA, cutB, h1, h2, h3, List.length_append, q_addt]; simp
  | join => simp! [F_behind_press, w_fn, B_behind_press, dPress, Deed.s, dPed, ped_split, atA, lk_cons, m_joined h, cutA, cutB, h1, h2, h3, List.length_append, q_addt]; simp
  | turn => simp! [F_behind_press, w_fn, B_behind_press, dPress, Deed.s, dPed, ped_split, atA, lk_cons, m_other_way, cutA, cutB, h1, h2, h3, List.length_append, q_addt]; simp
  | flip => simp! [F_behind_press, w_fn, B_behind_press, dPress, Deed.s, dPed, ped_split, atA, lk_cons, m_flipped, cutA, cutB, h1, h2, h3, List.length_append, q_addt]; simp
  | mute => simp! [F_behind_press, w_fn, B_behind_press, dPress, Deed.s, dPed, ped_split, atA, lk_cons, m_hushed_or_not, cutA, cutB, h1, h2, h3, List.length_append, q_addt]; simp
theorem OkP.do {A B : List Trk} {t : Trk} (h : OkP (A ++ t :: B)) {d : Deed} (hd : d.Ok) : OkP (A ++ doT d t :: B) := by
  refine ⟨by simp; omega, by have := h.l4; simpa using this, fun u hu => ?_⟩
  rcases List.mem_append.mp hu with hu | hu
  · exact h.each u (by simp [hu])
  · rcases List.mem_cons.mp hu with rfl | hu
    · exact doT_ok (h.each t (by simp)) d hd
    · exact h.each u (by simp [hu])
theorem ped_at {p : List Trk} {i : Nat} (hi : i < p.length) : ∃ A t B, p = A ++ t :: B ∧ A.length = i := by
  refine ⟨p.take i, p[i], p.drop (i + 1), ?_, by simp; omega⟩
  rw [List.getElem_cons_drop hi, List.take_append_drop]
end Mr
set_option maxRecDepth 100000
set_option maxHeartbeats 4000000
namespace Mr
open PySem L2 Dl
end Mr
set_option maxRecDepth 100000
set_option maxHeartbeats 4000000
namespace Dl
open PySem L2
structure FitsL (k w : Nat) (ds : List PyData) : Prop where
  lay : PyData.canLayAll0 ds = true
  sh : PyData.showableAll ds = true
  dp : PyData.depthAll ds ≤ k
  le : wtAll ds ≤ w
theorem FitsL.nil (k : Nat) : FitsL k 0 [] := ⟨rfl, rfl, Nat.zero_le _, Nat.le_refl _⟩
theorem FitsL.cons {k w w' : Nat} {d : PyData} {ds : List PyData} (h : Fits k w d) (r : FitsL k w' ds) : FitsL k (w + 2 + w') (d :: ds) := by
  have := h.dp
  have := r.dp
  have := h.le
  have := r.le
  exact ⟨by simp [PyData.canLayAll0, h.lay, r.lay], by simp [PyData.showableAll, h.sh, r.sh], by simp only [PyData.depthAll]; omega, by simp only [wtAll]; omega⟩
end Dl
namespace Mr
open PySem L2 Dl
def BndT (b : Int) (t : Trk) : Prop := ∀ l ∈ t.layers ++ t.undone, ∀ x ∈ l, -b ≤ x ∧ x ≤ b
def BndP (b : Int) (p : List Trk) : Prop := ∀ t ∈ p, BndT b t
theorem BndT.mono {b c : Int} {t : Trk} (h : BndT b t) (e : b ≤ c) : BndT c t := fun l hl x hx => by have := h l hl x hx; omega
theorem BndP.mono {b c : Int} {p : List Trk} (h : BndP b p) (e : b ≤ c) : BndP c p := fun t ht => (h t ht).mono e
theorem sum_bnd {b : Int} (hb : 0 ≤ b) (i : Nat) : ∀ (L : List (List Int)), (∀ l ∈ L, ∀ x ∈ l, -b ≤ x ∧ x ≤ b) → -(b * L.length) ≤ (L.map fun l => l.getD i 0).sum ∧ (L.map fun l => l.getD i 0).sum ≤ b * L.length
  | [], _ => by simp
  | l :: L, h => by
    have h1 := sum_bnd hb i L fun m hm => h m (List.mem_cons_of_mem _ hm)
    have h2 : -b ≤ l.getD i 0 ∧ l.getD i 0 ≤ b := by
      rw [List.getD_eq_getElem?_getD]
      cases z : l[i]? with
      | none => simp; omega
      | some x => exact h l List.mem_cons_self x (List.mem_of_getElem? z)
    simp only [List.map_cons, List.sum_cons, List.length_cons]
    have e : b * ((L.length + 1 : Nat) : Int) = b * (L.length : Int) + b := by
      rw [Int.natCast_add, Int.mul_add]; simp
    rw [e]
    omega
theorem doT_bnd {b : Int} (hb : 0 ≤ b) {t : Trk} (h : OkT t) (hB : BndT b t) (d : Deed) : BndT (4 * b) (doT d t) := by
  have h4 : BndT (4 * b) t := hB.mono (by omega)
  have hE : BndT (4 * b) emptyT := by intro l hl; simp [emptyT] at hl
  have ex : ∀ (m : Mode) (L U : List (List Int)) (p : Int), (∀ l ∈ L ++ U, l ∈ t.layers ++ t.undone) → BndT (4 * b) { t with mode := m, layers := L, undone := U, point := p } := fun m L U p hs l hl => h4 l (hs l hl)
  cases d with
  | clear => exact hE
  | tap =>
    simp only [doT]
    split
    · intro l hl; simp at hl; rcases hl with rfl | hl
      · simp
      · exact h4 l (by simp [hl])
    · split
      · exact hE
      · exact h4
    · split
      · exact h4
      · intro l hl
        simp at hl
        rcases hl with hl | rfl
        · exact h4 l (by simp [hl])
        · intro x hx
          have := List.eq_of_mem_replicate hx
          omega
    · exact h4
  | stop =>
    simp only [doT]
    split
    · exact h4
    · split
      · exact hE
      · exact h4
    · exact h4
  | undo =>
    simp only [doT]
    split
    · intro l hl
      simp only [List.mem_append] at hl
      rcases hl with hl | hl | hl
      · exact h4 l (by simp [List.dropLast_subset _ hl])
      · exact h4 l (by simp [hl])
      · exact h4 l (by simp [List.mem_of_mem_drop hl])
    · exact h4
  | redo =>
    simp only [doT]
    split
    · intro l hl
      simp only [List.mem_append] at hl
      rcases hl with (hl | hl) | hl
      · exact h4 l (by simp [hl])
      · exact h4 l (by simp [List.mem_of_mem_drop hl])
      · exact h4 l (by simp [List.dropLast_subset _ hl])
    · exact h4
  | join =>
    simp only [doT]
    split
    · rename_i c
      have hl := h.loop (by rcases c.1 with e | e <;> rw [e] <;> rfl)
      have l4 := hl.l4
      intro l hl
      simp at hl
      subst hl
      intro x hx
      obtain ⟨i, hi, rfl⟩ := List.mem_map.mp hx
      have := sum_bnd hb i t.layers fun l hl => hB l (by simp [hl])
      have e : b * (t.layers.length : Int) ≤ b * 4 := Int.mul_le_mul_of_nonneg_left (by omega) hb
      omega
    · exact h4
  | turn => simp only [doT]; split <;> exact h4
  | flip => simp only [doT]; split <;> exact h4
  | mute => simp only [doT]; split <;> exact h4
  | pace k => simp only [doT]; split <;> exact h4
theorem BndP.do {b : Int} (hb : 0 ≤ b) {A B : List Trk} {t : Trk} (h : OkP (A ++ t :: B)) (hB : BndP b (A ++ t :: B)) (d : Deed) : BndP (4 * b) (A ++ doT d t :: B) := by
  intro u hu
  rcases List.mem_append.mp hu with hu | hu
  · exact (hB u (by simp [hu])).mono (by omega)
  · rcases List.mem_cons.mp hu with rfl | hu
    · exact doT_bnd hb (h.each t (by simp)) (hB t (by simp)) d
    · exact (hB u (by simp [hu])).mono (by omega)
structure SmallT (t : Trk) : Prop where
  ly : t.layers.length + t.undone.length ≤ 4
  ll : ∀ l ∈ t.layers ++ t.undone, l.length ≤ 64
  pt : -1000 ≤ t.point ∧ t.point ≤ 1000
  wy : -1000 ≤ t.way ∧ t.way ≤ 1000
  pc : -1000 ≤ t.pace ∧ t.pace ≤ 1000
  sg : -1000 ≤ t.sign ∧ t.sign ≤ 1000
theorem OkT.small {t : Trk} (h : OkT t) : SmallT t := by
  cases c : t.mode.loops with
  | true =>
    have h := h.loop c
    have a := h.p0
    have b := h.p1
    have n := h.n64
    refine ⟨h.l4, fun l hl => ?_, by omega, by have := h.way; omega, by have := h.pace; omega, by have := h.sign; omega⟩
    rcases List.mem_append.mp hl with hl | hl
    · rw [h.eql l hl]; exact n
    · rw [h.equ l hl]; exact n
  | false =>
    cases h with
    | empty => exact ⟨by simp [emptyT], by simp [emptyT], by simp [emptyT], by simp [emptyT], by simp [emptyT], by simp [emptyT]⟩
    | record l hl => exact ⟨by simp [recT], by simp [recT]; omega, by simp [recT], by simp [recT], by simp [recT], by simp [recT]⟩
    | play e h => rw [e] at c; cases c
    | dub e h => rw [e] at c; cases c
    | stop e h => rw [e] at c; cases c
end Mr
set_option maxRecDepth 100000
set_option maxHeartbeats 4000000
namespace Mr
open PySem L2 Dl
end Mr
set_option maxRecDepth 100000
set_option maxHeartbeats 4000000
namespace Dl
open PySem L2
theorem whileF_more {S : Type} {T : Rho → S → Res S Bool} {B : Rho → S → SRes S} : ∀ (n m : Nat) (ρ : Rho) (st : S), n ≤ m → whileF T B n ρ st ≠ .stuck → whileF T B m ρ st = whileF T B n ρ st
  | 0, _, _, _, _, h => absurd rfl h
  | n + 1, 0, _, _, l, _ => absurd l (by omega)
  | n + 1, m + 1, ρ, st, l, h => by
    unfold whileF at h ⊢
    cases hT : T ρ st with
    | stuck => rfl
    | exc c fs s => rfl
    | ok b s1 =>
      simp only [hT, sBind] at h ⊢
      cases b with
      | false => rfl
      | true =>
        simp only [if_true] at h ⊢
        cases hB : B ρ s1 with
        | next ρ' s' =>
          simp only [hB, goOn] at h ⊢
          exact whileF_more n m ρ' s' (by omega) h
        | cnt ρ' s' =>
          simp only [hB, goOn] at h ⊢
          exact whileF_more n m ρ' s' (by omega) h
        | ret v s' => rfl
        | brk ρ' s' => rfl
        | exc c fs ρ' s' => rfl
        | stuck => rfl
theorem while_eq {S : Type} {T : Rho → S → Res S Bool} {B : Rho → S → SRes S} {n : Nat} {ρ : Rho} {st : S} (h : whileF T B n ρ st ≠ .stuck) : sWhile T B ρ st = whileF T B n ρ st := by
  unfold sWhile
  have hx : ∃ n, whileF T B n ρ st ≠ .stuck := ⟨n, h⟩
  rw [dif_pos hx]
  have hc := Classical.choose_spec hx
  rcases Nat.le_total n (Classical.choose hx) with l | l
  · exact whileF_more _ _ _ _ l h
  · exact (whileF_more _ _ _ _ l hc).symm
theorem ws_while {S : Type} {T : Rho → S → Res S Bool} {B : Rho → S → SRes S} {E : En S} (J : Nat → Rho → S → Prop)
    (t : ∀ n ρ s, J n ρ s → @Wp _ _ (T ρ s) (fun c fs s => E.x c fs ρ s) fun b s1 => @Ws _ (if b = true then B ρ s1 else .next ρ s1) (if b = true then { E with n := fun ρ' s' => ∃ m, m < n ∧ J m ρ' s', c := fun ρ' s' => ∃ m, m < n ∧ J m ρ' s', b := E.n } else E)) :
    ∀ (n : Nat) (ρ : Rho) (s : S), J n ρ s → @Ws _ (sWhile T B ρ s) E := by
  have key : ∀ (n : Nat) (ρ : Rho) (s : S), J n ρ s → ∃ m, @Ws _ (whileF T B m ρ s) E := by
    intro n
    induction n using Nat.strongRecOn with
    | _ n ih =>
      intro ρ s hJ
      have h := t n ρ s hJ
      cases hT : T ρ s with
      | stuck => rw [hT] at h; exact h.elim
      | exc c fs s1 =>
        rw [hT] at h
        refine ⟨1, ?_⟩
        unfold whileF
        rw [hT]
        exact h
      | ok b s1 =>
        rw [hT] at h
        cases b with
        | false =>
          refine ⟨1, ?_⟩
          unfold whileF
          rw [hT]
          exact h
        | true =>
          have h : @Ws _ (B ρ s1) { E with n := fun ρ' s' => ∃ m, m < n ∧ J m ρ' s', c := fun ρ' s' => ∃ m, m < n ∧ J m ρ' s', b := E.n } := h
          cases hB : B ρ s1 with
          | next ρ' s' =>
            rw [hB] at h
            obtain ⟨m, hm, hj⟩ := h
            obtain ⟨k, hk⟩ := ih m hm ρ' s' hj
            refine ⟨k + 1, ?_⟩
            unfold whileF
            rw [hT]
            show @Ws _ (goOn (B ρ s1) (whileF T B k)) E
            rw [hB]
            exact hk
          | cnt ρ' s' =>
            rw [hB] at h
            obtain ⟨m, hm, hj⟩ := h
            obtain ⟨k, hk⟩ := ih m hm ρ' s' hj
            refine ⟨k + 1, ?_⟩
            unfold whileF
            rw [hT]
            show @Ws _ (goOn (B ρ s1) (whileF T B k)) E
            rw [hB]
            exact hk
          | ret v s' =>
            rw [hB] at h
            refine ⟨1, ?_⟩
            unfold whileF
            rw [hT]
            show @Ws _ (goOn (B ρ s1) (whileF T B 0)) E
            rw [hB]
            exact h
          | brk ρ' s' =>
            rw [hB] at h
            refine ⟨1, ?_⟩
            unfold whileF
            rw [hT]
            show @Ws _ (goOn (B ρ s1) (whileF T B 0)) E
            rw [hB]
            exact h
          | exc c fs ρ' s' =>
            rw [hB] at h
            refine ⟨1, ?_⟩
            unfold whileF
            rw [hT]
            show @Ws _ (goOn (B ρ s1) (whileF T B 0)) E
            rw [hB]
            exact h
          | stuck => rw [hB] at h; exact h.elim
  intro n ρ s hJ
  obtain ⟨m, hm⟩ := key n ρ s hJ
  rw [while_eq (n := m)]
  · exact hm
  · intro hs
    rw [hs] at hm
    exact hm
end Dl
namespace Mr
open PySem L2 Dl
end Mr
set_option maxRecDepth 100000
set_option maxHeartbeats 4000000
namespace Mr
open PySem L2 Dl
def Mode.plays : Mode → Bool
  | .play => true | .dub => true | _ => false
def nowT (t : Trk) : Int := if t.mode.plays = true ∧ t.muted = false then t.sign * (t.layers.map fun l => l.getD (t.point / 2).toNat 0).sum else 0
def addAt (l : List Int) (i : Nat) (s : Int) : List Int := l.set i (l.getD i 0 + s)
def movT (t : Trk) (s : Int) : Trk := match t.mode with
  | .record => { t with mode := if (t.layers.headD []).length + 1 = 64 then .play else .record, layers := [t.layers.headD [] ++ [s]] }
  | .play => { t with point := (t.point + t.way * t.pace) % (2 * (t.size : Int)) }
  | .dub => { t with layers := t.layers.dropLast ++ (t.layers.drop (t.layers.length - 1)).map (addAt · (t.point / 2).toNat s), point := (t.point + t.way * t.pace) % (2 * (t.size : Int)) }
  | _ => t
theorem addAt_len (l : List Int) (i : Nat) (s : Int) : (addAt l i s).length = l.length := by simp [addAt]
theorem mov_point {t : Trk} (h : OkLoop t) : 0 ≤ (t.point + t.way * t.pace) % (2 * (t.size : Int)) ∧ (t.point + t.way * t.pace) % (2 * (t.size : Int)) < 2 * (t.size : Int) := by
  have := h.n1
  exact ⟨Int.emod_nonneg _ (by omega), Int.emod_lt_of_pos _ (by omega)⟩
theorem movT_ok {t : Trk} (h : OkT t) (s : Int) : OkT (movT t s) := by
  cases h with
  | empty => exact .empty
  | record l hl =>
    show OkT ({ recT l with mode := if l.length + 1 = 64 then .play else .record, layers := [l ++ [s]] })
    by_cases e : l.length + 1 = 64
    · rw [if_pos e]
      exact rec_ok (l ++ [s]) .play (.inl rfl) (by simp) (by simp; omega)
    · rw [if_neg e]
      exact .record (l ++ [s]) (by simp; omega)
  | play e h =>
    simp only [movT, e]
    have hp := mov_point h
    exact .play rfl ⟨h.l1, h.l4, h.n1, h.n64, h.eql, h.equ, hp.1, hp.2, h.way, h.pace, h.sign⟩
  | dub e h h2 hu =>
    simp only [movT, e]
    have hp := mov_point h
    have hL : ∀ l ∈ t.layers.dropLast ++ (t.layers.drop (t.layers.length - 1)).map (addAt · (t.point / 2).toNat s), l.length = t.size := by
      intro l hl
      rcases List.mem_append.mp hl with hl | hl
      · exact h.eql l (List.dropLast_subset _ hl)
      · obtain ⟨m, hm, rfl⟩ := List.mem_map.mp hl
        rw [addAt_len]
        exact size_last h m hm
    have hn : (t.layers.dropLast ++ (t.layers.drop (t.layers.length - 1)).map (addAt · (t.point / 2).toNat s)).length = t.layers.length := by
      simp only [List.length_append, List.length_dropLast, List.length_map, List.length_drop]
      omega
    have hl4 := h.l4
    have hk := h.do_layers (m := .dub) (L := t.layers.dropLast ++ (t.layers.drop (t.layers.length - 1)).map (addAt · (t.point / 2).toNat s)) (U := t.undone) (by omega) (by omega) hL h.equ
    have hsz : (Trk.size { t with mode := .dub, layers := t.layers.dropLast ++ (t.layers.drop (t.layers.length - 1)).map (addAt · (t.point / 2).toNat s), undone := t.undone }) = t.size := by
      have := hk.eql
      generalize t.layers.dropLast ++ (t.layers.drop (t.layers.length - 1)).map (addAt · (t.point / 2).toNat s) = LL at *
      cases LL with
      | nil => simp at hn; omega
      | cons a b => exact hL a List.mem_cons_self
    refine .dub rfl ⟨hk.l1, hk.l4, hk.n1, hk.n64, hk.eql, hk.equ, hp.1, ?_, h.way, h.pace, h.sign⟩ (by simp only; omega) hu
    have : (Trk.size { t with mode := .dub, layers := t.layers.dropLast ++ (t.layers.drop (t.layers.length - 1)).map (addAt · (t.point / 2).toNat s), point := (t.point + t.way * t.pace) % (2 * (t.size : Int)) }) = t.size := hsz
    rw [this]
    exact hp.2
  | stop e h hp =>
    simp only [movT, e]
    exact .stop e h hp
theorem movT_bnd {b s : Int} (hb : 0 ≤ b) {t : Trk} (hB : BndT b t) (d : Int) (hs : -d ≤ s ∧ s ≤ d) : BndT (b + d) (movT t s) := by
  have h1 : BndT (b + d) t := hB.mono (by omega)
  unfold movT
  split
  · intro l hl
    simp only [List.cons_append, List.nil_append, List.mem_cons] at hl
    rcases hl with rfl | hl
    · intro x hx
      rcases List.mem_append.mp hx with hx | hx
      · cases e : t.layers with
        | nil => rw [e] at hx; simp at hx
        | cons a r => rw [e] at hx; exact h1 a (by simp [e]) x hx
      · simp at hx; omega
    · exact h1 l (by simp [hl])
  · exact h1
  · intro l hl
    simp only [List.mem_append, List.mem_map] at hl
    rcases hl with (hl | ⟨m, hm, rfl⟩) | hl
    · exact h1 l (by simp [List.dropLast_subset _ hl])
    · intro x hx
      have hm' := hB m (by simp [List.mem_of_mem_drop hm])
      rcases List.mem_or_eq_of_mem_set hx with hx | rfl
      · have := hm' x hx; omega
      · rw [List.getD_eq_getElem?_getD]
        cases z : m[(t.point / 2).toNat]? with
        | none => simp; omega
        | some y => have := hm' y (List.mem_of_getElem? z); simp; omega
    · exact h1 l (by simp [hl])
  · exact h1
theorem plays_loops {m : Mode} (c : m.plays = true) : m.loops = true := by cases m <;> first | (cases c; done) | rfl
end Mr
set_option maxRecDepth 100000
set_option maxHeartbeats 4000000
namespace Mr
open PySem L2 Dl
def nowP (p : List Trk) : Int := (p.map nowT).sum
def movP (p : List Trk) (s : Int) : List Trk := p.map fun t => movT t s
theorem OkP.mov {p : List Trk} (h : OkP p) (s : Int) : OkP (movP p s) := by
  refine ⟨by simpa [movP] using h.l1, by simpa [movP] using h.l4, fun t ht => ?_⟩
  obtain ⟨u, hu, rfl⟩ := List.mem_map.mp ht
  exact movT_ok (h.each u hu) s
theorem BndP.mov {b s d : Int} (hb : 0 ≤ b) {p : List Trk} (h : BndP b p) (hs : -d ≤ s ∧ s ≤ d) : BndP (b + d) (movP p s) := by
  intro t ht
  obtain ⟨u, hu, rfl⟩ := List.mem_map.mp ht
  exact movT_bnd hb (h u hu) d hs
end Mr
set_option maxRecDepth 100000
set_option maxHeartbeats 4000000
namespace Mr
open PySem L2 Dl
theorem addAt_zero (l : List Int) (i : Nat) : addAt l i 0 = l := by
  unfold addAt
  by_cases h : i < l.length
  · simp [List.getD_eq_getElem?_getD, List.getElem?_eq_getElem h]
  · exact List.set_eq_of_length_le (by omega)
def stepW (t : Trk) : Int := t.way * t.pace
theorem mov0 {t : Trk} (c : t.mode.plays = true) (h1 : 1 ≤ t.layers.length) : movT t 0 = { t with point := (t.point + stepW t) % (2 * (t.size : Int)) } := by
  obtain ⟨mode, layers, undone, point, way, pace, sign, muted⟩ := t
  cases mode <;> first | (cases c; done) | skip
  · rfl
  · obtain ⟨L, l, rfl⟩ := last_of (xs := layers) (by intro e; subst e; simp at h1)
    simp [movT, stepW, addAt_zero]
theorem mov0_still {t : Trk} (c : t.mode.plays = false) (hr : t.mode ≠ .record) (s : Int) : movT t s = t := by
  unfold movT
  cases e : t.mode <;> rw [e] at c hr <;> first | (cases c; done) | exact absurd rfl hr | rfl
def movN : Nat → Trk → Trk
  | 0, t => t
  | k + 1, t => movT (movN k t) 0
theorem movN_add (j k : Nat) (t : Trk) : movN (j + k) t = movN k (movN j t) := by
  induction k with
  | zero => rfl
  | succ k ih => show movT (movN (j + k) t) 0 = movT (movN k (movN j t)) 0; rw [ih]
theorem movN_bnd {b : Int} (hb : 0 ≤ b) {t : Trk} (h : BndT b t) (k : Nat) : BndT b (movN k t) := by
  induction k with
  | zero => exact h
  | succ k ih => exact (movT_bnd hb ih 0 ⟨by omega, by omega⟩).mono (by omega)
theorem movN_still {t : Trk} (c : t.mode.plays = false) (hr : t.mode ≠ .record) (k : Nat) : movN k t = t := by
  induction k with
  | zero => rfl
  | succ k ih => show movT (movN k t) 0 = t; rw [ih, mov0_still c hr]
theorem movN_play {t : Trk} (h : OkT t) (c : t.mode.plays = true) (k : Nat) : movN k t = { t with point := (t.point + (k : Int) * stepW t) % (2 * (t.size : Int)) } := by
  have hl := h.loop (plays_loops c)
  induction k with
  | zero =>
    have e : (t.point + ((0 : Nat) : Int) * stepW t) % (2 * (t.size : Int)) = t.point := by
      have h0 : ((0 : Nat) : Int) * stepW t = 0 := by simp
      rw [h0, Int.add_zero, Int.emod_eq_of_lt hl.p0 hl.p1]
    show t = _
    rw [e]
  | succ k ih =>
    show movT (movN k t) 0 = _
    rw [ih, mov0 (by exact c) (by exact hl.l1)]
    show ({ t with point := ((t.point + (k : Int) * stepW t) % (2 * (t.size : Int)) + stepW t) % (2 * (t.size : Int)) } : Trk) = _
    rw [Int.emod_add_emod]
    congr 2
    rw [Int.natCast_add, Int.add_mul]
    simp
    omega
/-- how long a track's point takes to come back -/
structure Per (t : Trk) (K : Nat) : Prop where
  pos : 1 ≤ K
  le : K ≤ 128
  back : (movN K t).point = t.point
  least : ∀ k, 1 ≤ k → k < K → (movN k t).point ≠ t.point
theorem Per.same {t : Trk} {K : Nat} (h : OkT t) (hr : t.mode ≠ .record) (p : Per t K) : movN K t = t := by
  cases c : t.mode.plays with
  | false => exact movN_still c hr K
  | true =>
    have := p.back
    rw [movN_play h c] at this ⊢
    simp only at this
    rw [this]
theorem Per.mod {t : Trk} {K : Nat} (h : OkT t) (hr : t.mode ≠ .record) (p : Per t K) (j : Nat) : movN j t = movN (j % K) t := by
  have key : ∀ q r, movN (K * q + r) t = movN r t := by
    intro q
    induction q with
    | zero => intro r; rw [Nat.mul_zero, Nat.zero_add]
    | succ q ih =>
      intro r
      rw [show K * (q + 1) + r = K + (K * q + r) by rw [Nat.mul_add]; omega, movN_add, p.same h hr, ih]
  have := key (j / K) (j % K)
  rwa [Nat.div_add_mod] at this
def movPN (k : Nat) (p : List Trk) : List Trk := p.map (movN k)
theorem movPN_succ (k : Nat) (p : List Trk) : movP (movPN k p) 0 = movPN (k + 1) p := by simp [movP, movPN, movN]
theorem movPN_zero (p : List Trk) : movPN 0 p = p := by
  show p.map (fun t => t) = p
  simp
theorem OkP.movN {p : List Trk} (h : OkP p) (k : Nat) : OkP (movPN k p) := by
  induction k with
  | zero => rw [movPN_zero]; exact h
  | succ k ih => rw [← movPN_succ]; exact ih.mov 0
theorem BndP.movN {b : Int} (hb : 0 ≤ b) {p : List Trk} (h : BndP b p) (k : Nat) : BndP b (movPN k p) := by
  intro t ht
  obtain ⟨u, hu, rfl⟩ := List.mem_map.mp ht
  exact movN_bnd hb (h u hu) k
end Mr
set_option maxRecDepth 100000
set_option maxHeartbeats 4000000
namespace Dl
open PySem L2
end Dl
namespace Mr
open PySem L2 Dl
end Mr
set_option maxRecDepth 100000
set_option maxHeartbeats 4000000
namespace Mr
open PySem L2 Dl
end Mr
set_option maxRecDepth 100000
set_option maxHeartbeats 4000000
namespace Mr
open PySem L2 Dl
def maxA : List Int → Nat
  | [] => 0
  | x :: l => max x.natAbs (maxA l)
theorem maxA_mem : ∀ {l : List Int} {x : Int}, x ∈ l → x.natAbs ≤ maxA l
  | y :: l, x, h => by
    rcases List.mem_cons.mp h with rfl | h
    · simp only [maxA]; omega
    · have := maxA_mem h; simp only [maxA]; omega
theorem maxA_le {b : Nat} : ∀ {l : List Int}, (∀ x ∈ l, x.natAbs ≤ b) → maxA l ≤ b
  | [], _ => Nat.zero_le _
  | x :: l, h => by
    have h1 := h x List.mem_cons_self
    have h2 := maxA_le (l := l) fun y hy => h y (List.mem_cons_of_mem _ hy)
    simp only [maxA]; omega
def massL (L : List (List Int)) : Nat := (L.map maxA).sum
theorem massL_append (L M : List (List Int)) : massL (L ++ M) = massL L + massL M := by simp [massL]
theorem massL_mem : ∀ {L : List (List Int)} {l : List Int}, l ∈ L → maxA l ≤ massL L
  | m :: L, l, h => by
    rcases List.mem_cons.mp h with rfl | h
    · simp [massL]
    · have := massL_mem h; simp only [massL, List.map_cons, List.sum_cons] at *; omega
def mass (t : Trk) : Nat := massL t.layers + massL t.undone
theorem getD_abs (l : List Int) (i : Nat) : (l.getD i 0).natAbs ≤ maxA l := by
  rw [List.getD_eq_getElem?_getD]
  cases z : l[i]? with
  | none => simp
  | some x => exact maxA_mem (List.mem_of_getElem? z)
theorem sum_abs (i : Nat) : ∀ (L : List (List Int)), ((L.map fun l : List Int => l.getD i 0).sum).natAbs ≤ massL L
  | [] => by simp [massL]
  | l :: L => by
    have h1 := getD_abs l i
    have h2 := sum_abs i L
    simp only [massL, List.map_cons, List.sum_cons] at *
    omega
theorem massL_dropLast (L : List (List Int)) : massL L.dropLast + massL (L.drop (L.length - 1)) = massL L := by
  by_cases h : L = []
  · subst h; rfl
  · obtain ⟨M, l, rfl⟩ := last_of h
    have e : (M ++ [l]).drop ((M ++ [l]).length - 1) = [l] := by simp
    rw [List.dropLast_concat, e, massL_append]
theorem doT_mass (d : Deed) (t : Trk) : mass (doT d t) ≤ mass t := by
  have hE : mass emptyT = 0 := rfl
  cases d with
  | clear => show mass emptyT ≤ _; rw [hE]; exact Nat.zero_le _
  | tap =>
    simp only [doT]
    split
    · simp [mass, massL, maxA]
    · split
      · rw [hE]; exact Nat.zero_le _
      · exact Nat.le_refl _
    · split
      · exact Nat.le_refl _
      · simp only [mass, massL_append]
        have : massL [List.replicate t.size (0 : Int)] = 0 := by
          have := maxA_le (b := 0) (l := List.replicate t.size (0 : Int)) fun x hx => by rw [List.eq_of_mem_replicate hx]; simp
          simp only [massL, List.map_cons, List.map_nil, List.sum_cons, List.sum_nil]; omega
        have e : massL [] = 0 := rfl
        omega
    · exact Nat.le_refl _
  | stop =>
    simp only [doT]
    split
    · exact Nat.le_refl _
    · split
      · rw [hE]; exact Nat.zero_le _
      · exact Nat.le_refl _
    · exact Nat.le_refl _
  | undo =>
    simp only [doT]
    split
    · simp only [mass, massL_append]
      have := massL_dropLast t.layers
      omega
    · exact Nat.le_refl _
  | redo =>
    simp only [doT]
    split
    · simp only [mass, massL_append]
      have := massL_dropLast t.undone
      omega
    · exact Nat.le_refl _
  | join =>
    simp only [doT]
    split
    · simp only [mass]
      have : massL [joinL t.layers t.size] ≤ massL t.layers := by
        simp only [massL, List.map_cons, List.map_nil, List.sum_cons, List.sum_nil, Nat.add_zero]
        refine maxA_le fun x hx => ?_
        obtain ⟨i, _, rfl⟩ := List.mem_map.mp hx
        exact sum_abs i t.layers
      have e : massL [] = 0 := rfl
      omega
    · exact Nat.le_refl _
  | turn => simp only [doT]; split <;> exact Nat.le_refl _
  | flip => simp only [doT]; split <;> exact Nat.le_refl _
  | mute => simp only [doT]; split <;> exact Nat.le_refl _
  | pace k => simp only [doT]; split <;> exact Nat.le_refl _
theorem maxA_addAt (l : List Int) (i : Nat) (s : Int) : maxA (addAt l i s) ≤ maxA l + s.natAbs := by
  refine maxA_le fun x hx => ?_
  rcases List.mem_or_eq_of_mem_set hx with hx | rfl
  · have := maxA_mem hx; omega
  · have := getD_abs l i; omega
theorem movT_mass (t : Trk) (s : Int) : mass (movT t s) ≤ mass t + s.natAbs := by
  unfold movT
  split
  · have h1 : maxA (t.layers.headD []) ≤ massL t.layers := by
      cases t.layers with
      | nil => simp [maxA]
      | cons a r => exact massL_mem List.mem_cons_self
    have h2 : maxA (t.layers.headD [] ++ [s]) ≤ maxA (t.layers.headD []) + s.natAbs := by
      refine maxA_le fun x hx => ?_
      rcases List.mem_append.mp hx with hx | hx
      · have := maxA_mem hx; omega
      · simp at hx; subst hx; omega
    simp only [mass, massL, List.map_cons, List.map_nil, List.sum_cons, List.sum_nil] at *
    omega
  · simp [mass]
  · have h1 := massL_dropLast t.layers
    have h2 : massL ((t.layers.drop (t.layers.length - 1)).map (addAt · (t.point / 2).toNat s)) ≤ massL (t.layers.drop (t.layers.length - 1)) + s.natAbs := by
      by_cases h : t.layers = []
      · rw [h]; simp [massL]
      · obtain ⟨M, l, e⟩ := last_of h
        have e2 : t.layers.drop (t.layers.length - 1) = [l] := by rw [e]; simp
        rw [e2]
        have := maxA_addAt l (t.point / 2).toNat s
        simp only [massL, List.map_cons, List.map_nil, List.sum_cons, List.sum_nil]
        omega
    simp only [mass, massL_append]
    omega
  · simp [mass]
theorem nowT_abs {t : Trk} (h : OkT t) : (nowT t).natAbs ≤ mass t := by
  unfold nowT
  split
  · rename_i c
    have hl := h.loop (plays_loops c.1)
    have := sum_abs (t.point / 2).toNat t.layers
    unfold mass
    rcases hl.sign with e | e <;> rw [e] <;> omega
  · simp
def MassP (b : Nat) (p : List Trk) : Prop := ∀ t ∈ p, mass t ≤ b
theorem MassP.mono {b c : Nat} {p : List Trk} (h : MassP b p) (e : b ≤ c) : MassP c p := fun t ht => Nat.le_trans (h t ht) e
theorem MassP.bnd {b : Nat} {p : List Trk} (h : MassP b p) {c : Int} (e : (b : Int) ≤ c) : BndP c p := by
  intro t ht l hl x hx
  have h1 := h t ht
  have h2 : maxA l ≤ mass t := by
    unfold mass
    rw [← massL_append]
    exact massL_mem hl
  have h3 := maxA_mem hx
  omega
theorem MassP.mov {b : Nat} {p : List Trk} (h : MassP b p) (s : Int) : MassP (b + s.natAbs) (movP p s) := by
  intro t ht
  obtain ⟨u, hu, rfl⟩ := List.mem_map.mp ht
  have := movT_mass u s
  have := h u hu
  omega
def atP (f : Trk → Trk) : Nat → List Trk → List Trk
  | _, [] => []
  | 0, t :: p => f t :: p
  | i + 1, t :: p => t :: atP f i p
theorem atP_mid (f : Trk → Trk) (B : List Trk) (t : Trk) : ∀ A : List Trk, atP f A.length (A ++ t :: B) = A ++ f t :: B
  | [] => rfl
  | a :: A => by
    show a :: atP f A.length (A ++ t :: B) = a :: (A ++ f t :: B)
    rw [atP_mid f B t A]
theorem atP_len (f : Trk → Trk) : ∀ (i : Nat) (p : List Trk), (atP f i p).length = p.length
  | 0, [] => rfl
  | _ + 1, [] => rfl
  | 0, t :: p => rfl
  | i + 1, t :: p => by show (atP f i p).length + 1 = p.length + 1; rw [atP_len f i p]
def doP (p : List Trk) (x : Deed × Nat) : List Trk := atP (doT x.1) x.2 p
theorem doP_at {A B : List Trk} {t : Trk} {d : Deed} : doP (A ++ t :: B) (d, A.length) = A ++ doT d t :: B := atP_mid _ _ _ _
structure OkX (n : Nat) (x : Deed × Nat) : Prop where
  ok : x.1.Ok
  lt : x.2 < n
theorem doP_len (p : List Trk) (x : Deed × Nat) : (doP p x).length = p.length := atP_len _ _ _
theorem OkP.doP {p : List Trk} (h : OkP p) {x : Deed × Nat} (hx : OkX p.length x) : OkP (doP p x) := by
  obtain ⟨d, i⟩ := x
  obtain ⟨A, t, B, rfl, rfl⟩ := ped_at hx.lt
  rw [doP_at]
  exact h.do hx.ok
theorem MassP.doP {b : Nat} {p : List Trk} (h : MassP b p) {x : Deed × Nat} (hx : x.2 < p.length) : MassP b (doP p x) := by
  obtain ⟨d, i⟩ := x
  obtain ⟨A, t, B, rfl, rfl⟩ := ped_at hx
  rw [doP_at]
  intro u hu
  rcases List.mem_append.mp hu with hu | hu
  · exact h u (by simp [hu])
  · rcases List.mem_cons.mp hu with rfl | hu
    · exact Nat.le_trans (doT_mass d t) (h t (by simp))
    · exact h u (by simp [hu])
def dPr (p : Deed × Nat) : PyData := dPress p.1 p.2
abbrev Step := List (Deed × Nat)
def dStep (s : Step) : PyData := .tuple (s.map dPr)
def dRow (r : List Step) : PyData := .tuple (r.map dStep)
structure OkR (n : Nat) (r : List Step) : Prop where
  len : r.length ≤ 200
  each : ∀ s ∈ r, s.length ≤ 8 ∧ ∀ x ∈ s, OkX n x
def stepP (p : List Trk) (s : Step) : List Trk := s.foldl doP p
theorem stepP_len (s : Step) : ∀ p : List Trk, (stepP p s).length = p.length := by
  induction s with
  | nil => intro p; rfl
  | cons x s ih => intro p; show (stepP (doP p x) s).length = _; rw [ih, doP_len]
theorem stepP_snoc (p : List Trk) (s : Step) (x : Deed × Nat) : stepP p (s ++ [x]) = doP (stepP p s) x := by simp [stepP]
theorem OkP.step {s : Step} : ∀ {p : List Trk}, OkP p → (∀ x ∈ s, OkX p.length x) → OkP (stepP p s) := by
  induction s with
  | nil => intro p h _; exact h
  | cons x s ih =>
    intro p h hs
    refine ih (h.doP (hs x List.mem_cons_self)) fun y hy => ?_
    rw [doP_len]
    exact hs y (List.mem_cons_of_mem _ hy)
theorem MassP.step {b : Nat} {s : Step} : ∀ {p : List Trk}, MassP b p → (∀ x ∈ s, x.2 < p.length) → MassP b (stepP p s) := by
  induction s with
  | nil => intro p h _; exact h
  | cons x s ih =>
    intro p h hs
    refine ih (h.doP (hs x List.mem_cons_self)) fun y hy => ?_
    rw [doP_len]
    exact hs y (List.mem_cons_of_mem _ hy)
/-- rows played -/
def playS (a : List Int × List Trk) (z : Step × Int) : List Int × List Trk := (a.1 ++ [nowP (stepP a.2 z.1)], movP (stepP a.2 z.1) z.2)
def playZ (p : List Trk) (zs : List (Step × Int)) : List Int × List Trk := zs.foldl playS ([], p)
theorem playZ_snoc (p : List Trk) (zs : List (Step × Int)) (z : Step × Int) : playZ p (zs ++ [z]) = playS (playZ p zs) z := by simp [playZ]
theorem playZ_acc (zs : List (Step × Int)) : ∀ (xs : List Int) (p : List Trk), zs.foldl playS (xs, p) = (xs ++ (playZ p zs).1, (playZ p zs).2) := by
  induction zs with
  | nil => intro xs p; simp [playZ]
  | cons z zs ih =>
    intro xs p
    show zs.foldl playS (xs ++ [nowP (stepP p z.1)], movP (stepP p z.1) z.2) = _
    have e : playZ p (z :: zs) = zs.foldl playS ([nowP (stepP p z.1)], movP (stepP p z.1) z.2) := rfl
    rw [ih, e, ih]
    simp
theorem playZ_append (p : List Trk) (a b : List (Step × Int)) : playZ p (a ++ b) = ((playZ p a).1 ++ (playZ (playZ p a).2 b).1, (playZ (playZ p a).2 b).2) := by
  show (a ++ b).foldl playS ([], p) = _
  rw [List.foldl_append]
  exact playZ_acc b (playZ p a).1 (playZ p a).2
theorem movP_len (p : List Trk) (s : Int) : (movP p s).length = p.length := by simp [movP]
theorem playZ_cons (p : List Trk) (z : Step × Int) (zs : List (Step × Int)) : playZ p (z :: zs) = (nowP (stepP p z.1) :: (playZ (movP (stepP p z.1) z.2) zs).1, (playZ (movP (stepP p z.1) z.2) zs).2) := by
  have e : playZ p (z :: zs) = zs.foldl playS ([nowP (stepP p z.1)], movP (stepP p z.1) z.2) := rfl
  rw [e, playZ_acc]
  rfl
theorem playZ_len (zs : List (Step × Int)) : ∀ p : List Trk, (playZ p zs).2.length = p.length ∧ (playZ p zs).1.length = zs.length := by
  induction zs with
  | nil => intro p; exact ⟨rfl, rfl⟩
  | cons z zs ih =>
    intro p
    rw [playZ_cons]
    have := ih (movP (stepP p z.1) z.2)
    rw [movP_len, stepP_len] at this
    exact ⟨this.1, by simp [this.2]⟩
/-- what holds of a played row -/
theorem playZ_ok (zs : List (Step × Int)) : ∀ {p : List Trk} {b d : Nat}, OkP p → MassP b p → (∀ z ∈ zs, ∀ x ∈ z.1, OkX p.length x) → (∀ z ∈ zs, z.2.natAbs ≤ d) → OkP (playZ p zs).2 ∧ MassP (b + d * zs.length) (playZ p zs).2 ∧ ∀ v ∈ (playZ p zs).1, v.natAbs ≤ 4 * (b + d * zs.length) := by
  induction zs with
  | nil => intro p b d h m _ _; exact ⟨h, m.mono (by omega), fun v hv => nomatch hv⟩
  | cons z zs ih =>
    intro p b d h m hx hd
    rw [playZ_cons]
    have h1 : OkP (stepP p z.1) := h.step (hx z List.mem_cons_self)
    have m1 : MassP b (stepP p z.1) := m.step fun x hxx => (hx z List.mem_cons_self x hxx).lt
    have m2 : MassP (b + d) (movP (stepP p z.1) z.2) := (m1.mov z.2).mono (by have := hd z List.mem_cons_self; omega)
    have hl : (movP (stepP p z.1) z.2).length = p.length := by rw [movP_len, stepP_len]
    obtain ⟨a1, a2, a3⟩ := ih (h1.mov z.2) m2 (fun y hy x hxx => by rw [hl]; exact hx y (List.mem_cons_of_mem _ hy) x hxx) (fun y hy => hd y (List.mem_cons_of_mem _ hy))
    have e : b + d + d * zs.length = b + d * (z :: zs).length := by rw [List.length_cons, Nat.mul_add]; omega
    rw [e] at a2 a3
    refine ⟨a1, a2, fun v hv => ?_⟩
    rcases List.mem_cons.mp hv with rfl | hv
    · have key : ∀ q : List Trk, (∀ t ∈ q, OkT t ∧ mass t ≤ b) → (nowP q).natAbs ≤ q.length * b := by
        intro q
        induction q with
        | nil => intro _; simp [nowP]
        | cons t q ihq =>
          intro hq
          have h1 := ihq fun u hu => hq u (List.mem_cons_of_mem _ hu)
          obtain ⟨o, mm⟩ := hq t List.mem_cons_self
          have h2 := nowT_abs o
          simp only [nowP, List.map_cons, List.sum_cons, List.length_cons] at *
          rw [Nat.add_mul]
          omega
      have := key (stepP p z.1) fun t ht => ⟨h1.each t ht, m1 t ht⟩
      have h4 := Nat.mul_le_mul_right b h1.l4
      have : b ≤ b + d * (z :: zs).length := Nat.le_add_right _ _
      omega
    · exact a3 v hv
end Mr
set_option maxRecDepth 100000
set_option maxHeartbeats 4000000
namespace Dl
open PySem L2
section
variable {S : Type} {A B : Rho → S → Res S (List Val)} {ρ : Rho} {st : S}
end
end Dl
namespace Mr
open PySem L2 Dl
theorem zip_fst {r : List Step} {s : List Int} {z : Step × Int} (h : z ∈ r.zip s) : z.1 ∈ r := (List.of_mem_zip (a := z.1) (b := z.2) h).1
theorem zip_snd {r : List Step} {s : List Int} {z : Step × Int} (h : z ∈ r.zip s) : z.2 ∈ s := (List.of_mem_zip (a := z.1) (b := z.2) h).2
theorem OkX.mono {n m : Nat} (e : n ≤ m) {x : Deed × Nat} (h : OkX n x) : OkX m x := ⟨h.ok, Nat.lt_of_lt_of_le h.lt e⟩
end Mr
set_option maxRecDepth 100000
set_option maxHeartbeats 4000000
namespace Dl
open PySem L2
section
variable {Fa Fb : Rho → LS → Res LS Val} {A B : Rho → LS → Res LS (List Val)} {ρ : Rho} {st : LS} {F : List Val → LS → Res LS Val}
end
theorem obI_set {s : LS} {v : Val} {o : Ob} (h : (obI s v).isSome = true) : obI (setO s v o) v = some o := by
  cases v with
  | ref n =>
    have h : (if n < 2 then none else s.ob[n - 2]?).isSome = true := h
    by_cases c : n < 2
    · rw [if_pos c] at h; cases h
    · rw [if_neg c] at h
      show (if n < 2 then none else (s.ob.set (n - 2) o)[n - 2]?) = _
      rw [if_neg c]
      obtain ⟨u, hu⟩ := Option.isSome_iff_exists.mp h
      exact List.getElem?_set_self (List.getElem?_eq_some_iff.mp hu).1
  | d x => cases h
  | own x => cases h
  | exc x y => cases h
  | ownd x y z => cases h
theorem obI_set_ne {s : LS} {n m : Nat} {o : Ob} (h : (n = m) = False) : obI (setO s (.ref (n + 2)) o) (.ref (m + 2)) = obI s (.ref (m + 2)) := by
  rw [obI_ref, obI_ref]
  show (s.ob.set n o)[m]? = s.ob[m]?
  rw [List.getElem?_set_ne]
  intro e
  rw [h] at e
  exact e
theorem set_len (s : LS) (v : Val) (o : Ob) : (setO s v o).ob.length = s.ob.length := by
  cases v with
  | ref n => exact List.length_set
  | d x => rfl
  | own x => rfl
  | exc x y => rfl
  | ownd x y z => rfl
theorem new_len (s : LS) (o : Ob) : (newO s o).ob.length = s.ob.length + 1 := by simp [newO]
theorem obI_new (s : LS) (o : Ob) : obI (newO s o) (newV s) = some o := by
  show obI (newO s o) (.ref (s.ob.length + 2)) = _
  rw [obI_ref]
  simp [newO]
theorem obI_new_lt {s : LS} {v : Val} {o : Ob} (h : (obI s v).isSome = true) : obI (newO s o) v = obI s v := by
  cases v with
  | ref n =>
    have h : (if n < 2 then none else s.ob[n - 2]?).isSome = true := h
    by_cases c : n < 2
    · rw [if_pos c] at h; cases h
    · rw [if_neg c] at h
      show (if n < 2 then none else (s.ob ++ [o])[n - 2]?) = (if n < 2 then none else s.ob[n - 2]?)
      rw [if_neg c, if_neg c]
      obtain ⟨u, hu⟩ := Option.isSome_iff_exists.mp h
      exact List.getElem?_append_left (List.getElem?_eq_some_iff.mp hu).1
  | d x => cases h
  | own x => cases h
  | exc x y => cases h
  | ownd x y z => cases h
theorem up_ok {F : List Val → DS → Res DS Val} {vs : List Val} {x : PyData} (h : ∀ st, F vs st = .ok (.d x) st) (ha : vs.all okU = true := by rfl) (s : LS) : upF F vs s = .ok (.d x) s := by
  unfold upF
  rw [if_pos ha, h]
  rfl
theorem wp_up {F : List Val → DS → Res DS Val} {vs : List Val} {s : LS} {X : Nat → List PyData → LS → Prop} {Q : Val → LS → Prop} (ha : vs.all okU = true) (h : @Wp _ _ (F vs s.d) (fun c fs d => X c fs ⟨d, s.ob⟩) (fun v d => okU v = true ∧ Q v ⟨d, s.ob⟩)) : @Wp _ _ (upF F vs s) X Q := by
  unfold upF
  rw [if_pos ha]
  cases z : F vs s.d with
  | ok v d =>
    rw [z] at h
    obtain ⟨h1, h2⟩ := (show okU v = true ∧ Q v ⟨d, s.ob⟩ from h)
    show @Wp _ _ (if okU v = true then .ok v ⟨d, s.ob⟩ else .stuck) X Q
    rw [if_pos h1]
    exact h2
  | exc c fs d => rw [z] at h; exact h
  | stuck => rw [z] at h; exact h
theorem wp_ex {S α : Type} {r : Res S α} {Q : α → S → Prop} (h : @Wp _ _ r (fun _ _ _ => False) Q) : ∃ a s, r = .ok a s ∧ Q a s := by
  cases r with
  | ok a s => exact ⟨a, s, rfl, h⟩
  | exc c fs s => exact h.elim
  | stuck => exact h.elim
end Dl
namespace Mr
open PySem L2 Dl
theorem wp_drawL {B n : Int} {s : LS} {X : Nat → List PyData → LS → Prop} {Q : Val → LS → Prop} (h : Gd B s.d) (hn : 0 < n) (h2 : n ≤ 10 ^ 40) (hB : B ≤ 2 ^ 39) (q : ∀ x d', 0 ≤ x → x < n → Gd (B + 1) d' → Q (.d (.int x)) ⟨d', s.ob⟩) : @Wp _ _ (upF fNext [.ref 0, .d (.int n)] s) X Q :=
  wp_up rfl (wp_draw h hn h2 hB fun x d' h1 h2 g => ⟨rfl, q x d' h1 h2 g⟩)
def lvF (m : Nat) (p st r so he : PyData) : List (Str × Val) := [("own_stand", .ref (m + 2)), ("own_pedal", .d p), ("own_step", .d st), ("own_row", .d r), ("own_sound", .d so), ("own_heard", .d he)]
section
variable (m m' : Nat) (p st r so he x : PyData)
end
end Mr
set_option maxRecDepth 100000
set_option maxHeartbeats 4000000
namespace Dl
open PySem L2
section
variable {ρ : Rho} {st : LS} {Fa Fb Fc : Rho → LS → Res LS Val}
theorem x_dctN : eDctN Fa Fb ρ st = @bnd _ _ _ (Fa ρ st) fun x st1 => @bnd _ _ _ (Fb ρ st1) fun y st2 => dctNE x y st2 := rfl
theorem x_getN : eGetN Fa Fb ρ st = @bnd _ _ _ (Fa ρ st) fun x st1 => @bnd _ _ _ (Fb ρ st1) fun y st2 => match kvN (obI st2 x), keyVN y with
  | some kvs, some k => match valT kvs k with
    | some d => .ok (.d d) st2
    | none => .stuck
  | _, _ => .stuck := rfl
theorem x_get1N : eGet1N Fa Fb ρ st = @bnd _ _ _ (Fa ρ st) fun x st1 => match kvN (obI st1 x) with
  | some _ => @bnd _ _ _ (Fb ρ st1) fun y st2 => match kvN (obI st2 x), keyVN y with
    | some kvs, some k => .ok (.d ((valT kvs k).getD .none)) st2
    | _, _ => .stuck
  | none => .stuck := rfl
theorem x_inNk {n : Bool} : eInN n Fb Fa ρ st = @bnd _ _ _ (Fb ρ st) fun y st1 => @bnd _ _ _ (Fa ρ st1) fun x st2 => match kvN (obI st2 x), keyVN y with
  | some kvs, some k => .ok (.d (.bool (n != (valT kvs k).isSome))) st2
  | _, _ => .stuck := rfl
theorem x_putN : sPutN Fa Fb Fc ρ st = @sbnd _ _ (Fc ρ st) ρ fun v st1 => @sbnd _ _ (Fa ρ st1) ρ fun x st2 => @sbnd _ _ (Fb ρ st2) ρ fun y st3 => match v, kvN (obI st3 x), keyVN y with
  | .d d, some kvs, some k => if kvs.length < 1000000 then .next ρ (setO st3 x (.dcn (putM kvs k d))) else .stuck
  | _, _, _ => .stuck := rfl
end
theorem x_iTab {S : Type} {ks : List Str} {ρ : Rho} {st : S} : iTab ks ρ st = .ok (ks.map .str) st := rfl
end Dl
namespace Mr
open PySem L2 Dl
def numsK (l : List Int) : NestedKey := .tup (l.map .num)
def nkT (t : Trk) : NestedKey := .tup [.text t.mode.s, .tup (t.layers.map numsK), .tup (t.undone.map numsK), .num t.point, .num t.way, .num t.pace, .num t.sign, .num (if t.muted = true then 1 else 0)]
theorem nk_ints : ∀ l : List Int, nkAll (l.map .int) = some (l.map .num)
  | [] => rfl
  | x :: l => by
    rw [List.map_cons, nkAll, nkOf, Option.bind_some, nk_ints l]; rfl
theorem nk_lays : ∀ L : List (List Int), nkAll (L.map lpD) = some (L.map numsK)
  | [] => rfl
  | l :: L => by
    rw [List.map_cons, nkAll, show lpD l = .tuple (l.map .int) from rfl, nkOf, nk_ints l, Option.map_some, Option.bind_some, nk_lays L]; rfl
theorem mode_tx (m : Mode) : (m.s : Str) ∈ txL := by cases m <;> decide
theorem nk_trk (t : Trk) : nkOf (dTrk t) = some (nkT t) := by
  unfold dTrk
  rw [nkOf]
  have h1 : nkOf (.str t.mode.s) = some (.text t.mode.s) := by rw [nkOf, if_pos (mode_tx _)]
  have h2 : nkOf (lpsD t.layers) = some (.tup (t.layers.map numsK)) := by rw [show lpsD t.layers = .tuple (t.layers.map lpD) from rfl, nkOf, nk_lays]; rfl
  have h3 : nkOf (lpsD t.undone) = some (.tup (t.undone.map numsK)) := by rw [show lpsD t.undone = .tuple (t.undone.map lpD) from rfl, nkOf, nk_lays]; rfl
  have h4 : ∀ i : Int, nkOf (.int i) = some (.num i) := fun i => by rw [nkOf]
  have h5 : ∀ b : Bool, nkOf (.bool b) = some (.num (if b = true then 1 else 0)) := fun b => by rw [nkOf]
  simp only [nkAll, h1, h2, h3, h4, h5, Option.bind_some, Option.map_some]
  rfl
theorem dep_nums : ∀ l : List Int, NestedKey.depthAll (l.map .num) = 0
  | [] => rfl
  | x :: l => by rw [List.map_cons, NestedKey.depthAll, NestedKey.depth, dep_nums l]; rfl
theorem dep_lays : ∀ L : List (List Int), NestedKey.depthAll (L.map numsK) ≤ 1
  | [] => Nat.zero_le _
  | l :: L => by
    rw [List.map_cons, NestedKey.depthAll, numsK, NestedKey.depth, dep_nums l]
    have := dep_lays L
    omega
theorem dep_trk (t : Trk) : (nkT t).depth ≤ 8 := by
  have h1 := dep_lays t.layers
  have h2 := dep_lays t.undone
  unfold nkT
  simp only [NestedKey.depth, NestedKey.depthAll]
  omega
theorem key_trk (t : Trk) : keyVN (.d (dTrk t)) = some (nkT t) := by
  show keyN (dTrk t) = _
  have h := nk_trk t
  unfold dTrk at h ⊢
  rw [keyN, h, Option.bind_some, if_pos (dep_trk t)]
def deedsS : List Deed := [.clear, .flip, .join, .mute, .pace 1, .pace 2, .pace 4, .redo, .stop, .tap, .turn, .undo]
def prsK (d : Deed) : PyData := dPress d 0
def rnk : List Nat := [9, 8, 0, 11, 7, 2, 10, 1, 3, 4, 5, 6]
def rk (n : Nat) : PyData := (deedsS.map prsK).getD n .none
theorem sort_rank : (rnk.mergeSort fun a b => decide (a ≤ b)) = List.range 12 := by
  refine List.Perm.eq_of_pairwise (le := fun a b => a ≤ b) (fun a b _ _ h1 h2 => Nat.le_antisymm h1 h2) ?_ ?_ ?_
  · have := List.pairwise_mergeSort (le := fun a b : Nat => decide (a ≤ b)) (fun a b c h1 h2 => by simp at *; omega) (fun a b => by simp; omega) rnk
    exact this.imp fun h => of_decide_eq_true h
  · decide
  · refine (List.mergeSort_perm _ _).trans ?_
    decide
theorem all_sort : sortD (rnk.map rk) = deedsS.map prsK := by
  have e : (List.range 12).map rk = deedsS.map prsK := rfl
  rw [← e, ← sort_rank]
  unfold sortD
  refine (List.map_mergeSort (r := fun a b => decide (a ≤ b)) (s := PySem.W.dataLe false id) (f := rk) (l := rnk) ?_).symm
  decide +kernel
end Mr
set_option maxRecDepth 100000
set_option maxHeartbeats 4000000
namespace Mr
open PySem L2 Dl
/-- the object at n, its list at m -/
structure Lv (s : LS) (n m : Nat) (ps : List (List Trk)) (p : List Trk) (st : Step) (r : List Step) (so he : List Int) : Prop where
  i : obI s (.ref (n + 2)) = some (.ins 0 (lvF m (dPed p) (dStep st) (dRow r) (lpD so) (lpD he)))
  l : obI s (.ref (m + 2)) = some (.lst (ps.map dPed))
  ne : (n = m) = False
/-- nothing else has changed -/
structure Kp (s s' : LS) (n m : Nat) : Prop where
  d : s'.d = s.d
  l : s.ob.length ≤ s'.ob.length
  o : ∀ k, k ≠ n → k ≠ m → (obI s (.ref (k + 2))).isSome = true → obI s' (.ref (k + 2)) = obI s (.ref (k + 2))
theorem obI_new2 (s : LS) (o : Ob) : obI (newO s o) (.ref (s.ob.length + 2)) = some o := obI_new s o
theorem newV_def (s : LS) : newV s = .ref (s.ob.length + 2) := rfl
theorem lt_of_at {s : LS} {n : Nat} {o : Ob} (h : obI s (.ref (n + 2)) = some o) : n < s.ob.length := by
  rw [obI_ref] at h
  exact (List.getElem?_eq_some_iff.mp h).1
section
variable (v a b c d e : Val)
end
/-- what a new one stands as -/
abbrev newS (s : LS) (b : List Trk) : LS := setO (newO (newO s (.ins 0 [])) (.lst [dPed b])) (.ref (s.ob.length + 2)) (.ins 0 (lvF (s.ob.length + 1) (dPed b) (dStep []) (dRow []) (lpD []) (lpD [])))
theorem new_facts (s : LS) (b : List Trk) : (newS s b).d = s.d ∧ (∀ k, (obI s (.ref (k + 2))).isSome = true → obI (newS s b) (.ref (k + 2)) = obI s (.ref (k + 2))) ∧ (newS s b).ob.length = s.ob.length + 2 ∧ Lv (newS s b) s.ob.length (s.ob.length + 1) [b] b [] [] [] [] := by
  have nl := new_len s (.ins 0 [])
  have n1 : (s.ob.length = s.ob.length + 1) = False := eq_false (by omega)
  refine ⟨rfl, fun k hk => ?_, ?_, ?_, ?_, n1⟩
  · have hl : k < s.ob.length := by
      obtain ⟨o, ho⟩ := Option.isSome_iff_exists.mp hk
      exact lt_of_at ho
    have h1 : obI (newO s (.ins 0 [])) (.ref (k + 2)) = obI s (.ref (k + 2)) := obI_new_lt hk
    have h2 : obI (newO (newO s (.ins 0 [])) (.lst [dPed b])) (.ref (k + 2)) = obI s (.ref (k + 2)) := (obI_new_lt (by rw [h1]; exact hk)).trans h1
    exact (obI_set_ne (eq_false (by omega))).trans h2
  · rw [set_len, new_len, new_len]
  · exact obI_set (by rw [obI_new_lt (by rw [obI_new2]; rfl), obI_new2]; rfl)
  · refine (obI_set_ne n1).trans ?_
    have := obI_new2 (newO s (.ins 0 [])) (.lst [dPed b])
    rw [nl] at this
    exact this
end Mr
set_option maxRecDepth 100000
set_option maxHeartbeats 4000000
namespace Mr
open PySem L2 Dl
section
variable (z : Bool) (t r so st x : PyData)
end
structure LvR (b : List Trk) (ps : List (List Trk)) (p : List Trk) (st : Step) (r : List Step) (so he : List Int) : Prop where
  okb : OkP b
  mb : MassP (10 ^ 27) b
  sl : so.length = r.length
  rok : OkR b.length r
  s8 : st.length ≤ 8
  sok : ∀ x ∈ st, OkX b.length x
  sob : ∀ x ∈ so, x.natAbs ≤ 10 ^ 26
  pl : ps.length = r.length + 1
  pk : ∀ k, k ≤ r.length → ps[k]? = some (playZ b ((r.take k).zip (so.take k))).2
  pe : p = stepP (playZ b (r.zip so)).2 st
  he : he = (playZ b (r.zip so)).1
theorem zip_cut {r : List Step} {s : List Int} (h : s.length = r.length) (k : Nat) : r.zip s = (r.take k).zip (s.take k) ++ (r.drop k).zip (s.drop k) := by
  have h1 := List.zip_append (l₁ := r.take k) (r₁ := r.drop k) (l₂ := s.take k) (r₂ := s.drop k) (by simp; omega)
  rw [List.take_append_drop, List.take_append_drop] at h1
  exact h1
section
variable {b : List Trk} {ps : List (List Trk)} {p : List Trk} {st : Step} {r : List Step} {so he : List Int}
theorem LvR.ok (h : LvR b ps p st r so he) : OkP p ∧ MassP (10 ^ 29) p ∧ p.length = b.length ∧ he.length = r.length ∧ (∀ v ∈ he, v.natAbs ≤ 10 ^ 30) := by
  have hsl := h.sl
  have zl : (r.zip so).length = r.length := by rw [List.length_zip]; omega
  obtain ⟨o1, m1, v1⟩ := playZ_ok (r.zip so) h.okb h.mb (fun z hz x hx => (h.rok.each z.1 (zip_fst hz)).2 x hx) (fun z hz => h.sob z.2 (zip_snd hz))
  obtain ⟨l1, l2⟩ := playZ_len (r.zip so) b
  have hr := h.rok.len
  have e : 10 ^ 26 * (r.zip so).length ≤ 10 ^ 26 * 200 := Nat.mul_le_mul_left _ (by omega)
  have hs : ∀ x ∈ st, OkX (playZ b (r.zip so)).2.length x := by rw [l1]; exact h.sok
  refine ⟨by rw [h.pe]; exact o1.step hs, by rw [h.pe]; exact (m1.step fun x hx => (hs x hx).lt).mono (by omega), by rw [h.pe, stepP_len, l1], by rw [h.he, l2, zl], fun v hv => ?_⟩
  rw [h.he] at hv
  have := v1 v hv
  omega
theorem LvR.new (okb : OkP b) (mb : MassP (10 ^ 27) b) : LvR b [b] b [] [] [] [] := by
  refine ⟨okb, mb, rfl, ⟨by simp, fun s hs => nomatch hs⟩, by simp, fun x hx => (nomatch hx), fun x hx => (nomatch hx), rfl, fun k hk => ?_, rfl, rfl⟩
  have : k = 0 := by simpa using hk
  subst this
  rfl
theorem LvR.press (h : LvR b ps p st r so he) {x : Deed × Nat} (hx : OkX b.length x) (hl : st.length < 8) : LvR b ps (Mr.doP p x) (st ++ [x]) r so he :=
  ⟨h.okb, h.mb, h.sl, h.rok, by simp; omega, fun y hy => by
    rcases List.mem_append.mp hy with hy | hy
    · exact h.sok y hy
    · simp at hy; subst hy; exact hx, h.sob, h.pl, h.pk, by rw [h.pe, stepP_snoc], h.he⟩
theorem LvR.call (h : LvR b ps p st r so he) {v : Int} (hv : v.natAbs ≤ 10 ^ 26) (hl : r.length < 200) : LvR b (ps ++ [movP p v]) (movP p v) [] (r ++ [st]) (so ++ [v]) (he ++ [nowP p]) := by
  have ez : (r ++ [st]).zip (so ++ [v]) = r.zip so ++ [(st, v)] := by rw [List.zip_append h.sl.symm]; rfl
  have e1 : playZ b ((r ++ [st]).zip (so ++ [v])) = playS (playZ b (r.zip so)) (st, v) := by rw [ez, playZ_snoc]
  have e2 : playS (playZ b (r.zip so)) (st, v) = (he ++ [nowP p], movP p v) := by
    show ((playZ b (r.zip so)).1 ++ [nowP (stepP (playZ b (r.zip so)).2 st)], movP (stepP (playZ b (r.zip so)).2 st) v) = _
    rw [← h.pe, ← h.he]
  have hsl := h.sl
  have hpl := h.pl
  refine ⟨h.okb, h.mb, by simp [h.sl], ⟨by simp; omega, fun s hs => ?_⟩, by simp, fun x hx => (nomatch hx), fun x hx => ?_, by simp [h.pl], fun k hk => ?_, ?_, ?_⟩
  · rcases List.mem_append.mp hs with hs | hs
    · exact h.rok.each s hs
    · simp at hs; subst hs; exact ⟨h.s8, h.sok⟩
  · rcases List.mem_append.mp hx with hx | hx
    · exact h.sob x hx
    · simp at hx; subst hx; exact hv
  · by_cases c : k ≤ r.length
    · rw [List.getElem?_append_left (by omega), List.take_append_of_le_length c, List.take_append_of_le_length (by omega)]
      exact h.pk k c
    · have hk1 : k = r.length + 1 := by simp at hk; omega
      subst hk1
      rw [List.take_of_length_le (by simp), List.take_of_length_le (by simp; omega), e1, e2, List.getElem?_append_right (by omega), hpl]
      simp
  · rw [e1, e2]; rfl
  · rw [e1, e2]
theorem LvR.back (h : LvR b ps p st r so he) {k : Nat} (hk : k ≤ r.length) : LvR b (ps.take (k + 1)) (playZ b ((r.take k).zip (so.take k))).2 [] (r.take k) (so.take k) (he.take k) := by
  have hsl := h.sl
  have hpl := h.pl
  refine ⟨h.okb, h.mb, by simp; omega, ⟨by have := h.rok.len; simp; omega, fun s hs => h.rok.each s (List.mem_of_mem_take hs)⟩, by simp, fun x hx => (nomatch hx), fun x hx => h.sob x (List.mem_of_mem_take hx), by simp; omega, fun j hj => ?_, rfl, ?_⟩
  · have hj : j ≤ k := by simp at hj; omega
    rw [List.getElem?_take, if_pos (by omega), List.take_take, List.take_take, Nat.min_eq_left hj]
    exact h.pk j (by omega)
  · have e := (congrArg (playZ b) (zip_cut hsl k)).trans (playZ_append b _ _)
    have hl := (playZ_len ((r.take k).zip (so.take k)) b).2
    have hz : ((r.take k).zip (so.take k)).length = k := by rw [List.length_zip, List.length_take, List.length_take]; omega
    rw [h.he, e]
    show List.take k (_ ++ _) = _
    rw [List.take_append_of_le_length (by omega), List.take_of_length_le (by omega)]
end
end Mr
set_option maxRecDepth 100000
set_option maxHeartbeats 4000000
namespace Mr
open PySem L2 Dl
structure Fr (s s' : LS) (A : List Nat) : Prop where
  o : ∀ k, k ∉ A → (obI s (.ref (k + 2))).isSome = true → obI s' (.ref (k + 2)) = obI s (.ref (k + 2))
  l : s.ob.length ≤ s'.ob.length
theorem Kp.fr {s s' : LS} {n m : Nat} (h : Kp s s' n m) : Fr s s' [n, m] := ⟨fun k hk e => h.o k (fun c => hk (by simp [c])) (fun c => hk (by simp [c])) e, h.l⟩
theorem Fr.trans {s s' s'' : LS} {A A' B : List Nat} (h : Fr s s' A) (h' : Fr s' s'' A') (hA : ∀ k ∈ A, k ∈ B ∨ s.ob.length ≤ k) (hA' : ∀ k ∈ A', k ∈ B ∨ s.ob.length ≤ k) : Fr s s'' B := by
  refine ⟨fun k hk e => ?_, Nat.le_trans h.l h'.l⟩
  have hl : k < s.ob.length := by
    obtain ⟨o, ho⟩ := Option.isSome_iff_exists.mp e
    exact lt_of_at ho
  have n1 : k ∉ A := fun c => by rcases hA k c with c | c; exact hk c; omega
  have n2 : k ∉ A' := fun c => by rcases hA' k c with c | c; exact hk c; omega
  rw [← h.o k n1 e]
  exact h'.o k n2 (by rw [h.o k n1 e]; exact e)
theorem Fr.d (s : LS) (d : DS) : Fr s ⟨d, s.ob⟩ [] := ⟨fun _ _ _ => rfl, Nat.le_refl _⟩
theorem Fr.set (s : LS) (o : Nat) (x : Ob) : Fr s (setO s (.ref (o + 2)) x) [o] := ⟨fun k hk _ => obI_set_ne (eq_false fun e => hk (by simp [e])), Nat.le_of_eq (set_len _ _ _).symm⟩
theorem Lv.d {s : LS} {n m : Nat} {ps : List (List Trk)} {p : List Trk} {st : Step} {r : List Step} {so he : List Int} (L : Lv s n m ps p st r so he) (d : DS) : Lv ⟨d, s.ob⟩ n m ps p st r so he := ⟨L.i, L.l, L.ne⟩
theorem Lv.fr {s s' : LS} {n m : Nat} {ps : List (List Trk)} {p : List Trk} {st : Step} {r : List Step} {so he : List Int} (L : Lv s n m ps p st r so he) {A : List Nat} (h : Fr s s' A) (h1 : n ∉ A) (h2 : m ∉ A) : Lv s' n m ps p st r so he :=
  ⟨(h.o n h1 (by rw [L.i]; rfl)).trans L.i, (h.o m h2 (by rw [L.l]; rfl)).trans L.l, L.ne⟩
theorem Fr.at_ {s s' : LS} {A : List Nat} (h : Fr s s' A) {o : Nat} {x : Ob} (e : obI s (.ref (o + 2)) = some x) (h1 : o ∉ A) : obI s' (.ref (o + 2)) = some x := (h.o o h1 (by rw [e]; rfl)).trans e
end Mr
set_option maxRecDepth 100000
set_option maxHeartbeats 4000000
namespace Mr
open PySem L2 Dl
def findW (R : List (Trk × List Deed)) (k : NestedKey) : Option (List Deed) := (R.find? fun p => decide (nkT p.1 = k)).map (·.2)
def wayD (w : List Deed) : PyData := .tuple (w.map prsK)
def kvsW (R : List (Trk × List Deed)) : List (NestedKey × PyData) := R.map fun p => (nkT p.1, wayD p.2)
theorem findW_cons (p : Trk × List Deed) (R : List (Trk × List Deed)) (k : NestedKey) : findW (p :: R) k = if nkT p.1 = k then some p.2 else findW R k := by
  unfold findW
  rw [List.find?_cons]
  by_cases h : nkT p.1 = k
  · rw [decide_eq_true h, if_pos h]; rfl
  · rw [decide_eq_false h, if_neg h]
theorem valT_kvs (R : List (Trk × List Deed)) (k : NestedKey) : valT (kvsW R) k = (findW R k).map wayD := by
  induction R with
  | nil => rfl
  | cons p R ih =>
    rw [findW_cons, kvsW, List.map_cons, valT_cons]
    by_cases h : nkT p.1 = k
    · rw [if_pos h, if_pos h]; rfl
    · rw [if_neg h, if_neg h]; exact ih
theorem putM_new {R : List (Trk × List Deed)} {b : Trk} (w : List Deed) (h : findW R (nkT b) = none) : putM (kvsW R) (nkT b) (wayD w) = kvsW (R ++ [(b, w)]) := by
  unfold putM
  rw [valT_kvs, h, if_neg (by simp)]
  simp [kvsW]
theorem findW_app {R S : List (Trk × List Deed)} {k : NestedKey} : findW (R ++ S) k = (findW R k).or (findW S k) := by
  induction R with
  | nil => rfl
  | cons p R ih =>
    rw [List.cons_append, findW_cons, findW_cons, ih]
    split <;> rfl
abbrev Zw := List (Trk × List Deed) × List Trk
def pushD (way : List Deed) (here : Trk) (z : Zw) (d : Deed) : Zw := if (findW z.1 (nkT (doT d here))).isSome = true then z else (z.1 ++ [(doT d here, way ++ [d])], z.2 ++ [doT d here])
theorem pushD_len (way : List Deed) (here : Trk) (z : Zw) (d : Deed) : (pushD way here z d).1.length ≤ z.1.length + 1 ∧ (pushD way here z d).2.length ≤ z.2.length + 1 := by
  unfold pushD
  split
  · exact ⟨by omega, by omega⟩
  · exact ⟨by simp, by simp⟩
theorem pushD_keep {way : List Deed} {here : Trk} {z : Zw} {d : Deed} {k : NestedKey} {w : List Deed} (h : findW z.1 k = some w) : findW (pushD way here z d).1 k = some w := by
  unfold pushD
  split
  · exact h
  · show findW (z.1 ++ _) k = _
    rw [findW_app, h]; rfl
theorem push_len (way : List Deed) (here : Trk) : ∀ (ds : List Deed) (z : Zw), (ds.foldl (pushD way here) z).1.length ≤ z.1.length + ds.length ∧ (ds.foldl (pushD way here) z).2.length ≤ z.2.length + ds.length
  | [], z => ⟨by simp, by simp⟩
  | d :: ds, z => by
    have h1 := push_len way here ds (pushD way here z d)
    have h2 := pushD_len way here z d
    simp only [List.foldl_cons, List.length_cons]
    omega
theorem push_keep {way : List Deed} {here : Trk} {k : NestedKey} {w : List Deed} : ∀ (ds : List Deed) {z : Zw}, findW z.1 k = some w → findW (ds.foldl (pushD way here) z).1 k = some w
  | [], _, h => h
  | d :: ds, _, h => push_keep ds (pushD_keep h)
theorem fr_refl62 (s : LS) (A : List Nat) : Fr s s A := ⟨fun _ _ _ => rfl, Nat.le_refl _⟩
theorem nn_tf : (true != (none : Option PyData).isSome) = true := rfl
theorem nn_tt (d : PyData) : (true != (some d : Option PyData).isSome) = false := rfl
theorem kvN_dcn (kvs : List (NestedKey × PyData)) : kvN (some (.dcn kvs)) = some kvs := rfl
theorem add_way {way : List Deed} (d : Deed) (h : way.length ≤ 100000) : vAdd (.d (wayD way)) (.d (.tuple [prsK d])) = some (wayD (way ++ [d])) := by
  unfold wayD
  rw [q_addt, if_pos (by simp; omega)]
  simp
theorem m_press1 {here : Trk} (h : OkT here) (d : Deed) : ∀ s, upF F_behind_press [.d (.tuple [dTrk here]), .d (prsK d)] s = .ok (.d (.tuple [dTrk (doT d here)])) s := up_ok fun st => m_behind_press [] [] here h (by simp) (by simp) d st
noncomputable def w_press : Rho → LS → SRes LS := (sFor (iSeq (eVar 5)) (.name 8) (sSeq (sSet 9 (eOp vIx (eApp (upF F_behind_press) 2 (aCons (eTup (aCons (eVar 7) aNil)) (aCons (eVar 8) aNil))) (eC (.int 0)))) (sIf (tVal (eInN true (eVar 9) (eVar 3))) (sSeq (sPutN (eVar 3) (eVar 9) (eOp vAdd (eGetN (eVar 3) (eVar 7)) (eTup (aCons (eVar 8) aNil)))) (sApp 6 (eVar 9))) sNop)))
noncomputable def w_here : Rho → LS → SRes LS := (sFor (iSeq (eVar 4)) (.name 7) w_press)
noncomputable def w_turn : Rho → LS → SRes LS := (sSeq (sNew 6 (nLst aNil)) (sSeq w_here (sFrzS 6 (sSet 4 (eVar 6)))))
noncomputable def w_loop : Rho → LS → SRes LS := (sWhile (tAnd' (eCmp vNe (eVar 4) (eLst aNil)) (tVal (eInN true (eVar 1) (eVar 3)))) w_turn)
theorem way_eq : B_way_to = (sSeq (sFor (iSeq (eTup (aCons (eVar 0) (aCons (eVar 1) aNil)))) (.name 2) (sIf (tNot' (tVal (eApp (upF F_is_track) 1 (aCons (eVar 2) aNil)))) (sRaise 6 1 id (aCons (eC (.str "no track")) aNil)) sNop)) (sSeq (sPar3 3 4 5 (aCons (eDctN (eVar 0) (eTup aNil)) (aCons (eLst (aCons (eVar 0) aNil)) (aCons (eApp (upF F_all_presses) 0 aNil) aNil)))) (sSeq w_loop (sRet (eGet1N (eVar 3) (eVar 1)))))) := rfl
theorem ws_press {D : Nat} {here : Trk} (ho : OkT here) {way : List Deed} {z0 : Zw} (hw : findW z0.1 (nkT here) = some way) (hl : way.length ≤ 100000) (h1 : z0.1.length ≤ 900000) (h2 : z0.2.length ≤ 900000) {s : LS} (hs : obI s (.ref (D + 2)) = some (.dcn (kvsW z0.1))) {c0 c1 c2 c4 c8 c9 : Option Val} {E : En LS}
    (q : ∀ c8 c9 s', obI s' (.ref (D + 2)) = some (.dcn (kvsW (deedsS.foldl (pushD way here) z0).1)) → s'.d = s.d → Fr s s' [D] → E.n [c0, c1, c2, some (.ref (D + 2)), c4, some (.d (.list (deedsS.map prsK))), some (.own ((deedsS.foldl (pushD way here) z0).2.map dTrk)), some (.d (dTrk here)), c8, c9] s') :
    @Ws _ (w_press [c0, c1, c2, some (.ref (D + 2)), c4, some (.d (.list (deedsS.map prsK))), some (.own (z0.2.map dTrk)), some (.d (dTrk here)), c8, c9] s) E := by
  simp! [w_press]
  refine ws_forP prsK (fun done ρ s' => ∃ c8 c9, ρ = [c0, c1, c2, some (.ref (D + 2)), c4, some (.d (.list (deedsS.map prsK))), some (.own ((done.foldl (pushD way here) z0).2.map dTrk)), some (.d (dTrk here)), c8, c9] ∧ obI s' (.ref (D + 2)) = some (.dcn (kvsW (done.foldl (pushD way here) z0).1)) ∧ s'.d = s.d ∧ Fr s s' [D]) _ _ _ ⟨_, _, rfl, hs, rfl, fr_refl62 s [D]⟩ ?_ ?_
  · rintro done d rest ρ s' eg ⟨c8, c9, rfl, o1, d1, F1⟩
    refine ⟨_, rfl, ?_⟩
    have hdl : done.length ≤ 12 := by
      have := congrArg List.length eg
      simp [deedsS] at this
      omega
    have hz := push_len way here done z0
    have hw2 := push_keep (way := way) (here := here) done hw
    rw [List.foldl_append]
    generalize done.foldl (pushD way here) z0 = z at *
    have e1 := m_press1 ho d
    have k1 := key_trk (doT d here)
    have k2 := key_trk here
    have v1 := valT_kvs z.1 (nkT (doT d here))
    have v2 : valT (kvsW z.1) (nkT here) = some (wayD way) := by rw [valT_kvs, hw2]; rfl
    have hlen : ((kvsW z.1).length < 1000000) = True := eq_true (by simp only [kvsW, List.length_map]; omega)
    have hlen2 : (z.2.length < 1000000) = True := eq_true (by omega)
    have ad := add_way d hl
    cases hf : findW z.1 (nkT (doT d here)) with
    | some w =>
      rw [hf] at v1
      have v1 : valT (kvsW z.1) (nkT (doT d here)) = some (wayD w) := v1
      have hp : pushD way here z d = z := by unfold pushD; rw [hf]; rfl
      simp! [e1, x_inNk, k1, o1, kvN_dcn, v1, nn_tt]
      exact ⟨some (.d (prsK d)), some (.d (dTrk (doT d here))), by simp only [List.foldl_cons, List.foldl_nil, hp], by simpa only [List.foldl_cons, List.foldl_nil, hp] using o1, d1, F1⟩
    | none =>
      rw [hf] at v1
      have v1 : valT (kvsW z.1) (nkT (doT d here)) = none := v1
      have hp : pushD way here z d = (z.1 ++ [(doT d here, way ++ [d])], z.2 ++ [doT d here]) := by unfold pushD; rw [hf]; rfl
      have pm := putM_new (way ++ [d]) hf
      have o2 : obI (setO s' (.ref (D + 2)) (.dcn (kvsW (z.1 ++ [(doT d here, way ++ [d])])))) (.ref (D + 2)) = some (.dcn (kvsW (z.1 ++ [(doT d here, way ++ [d])]))) := obI_set (by rw [o1]; rfl)
      have F2 : Fr s (setO s' (.ref (D + 2)) (.dcn (kvsW (z.1 ++ [(doT d here, way ++ [d])])))) [D] := F1.trans (Fr.set s' D _) (fun k hk => .inl hk) (fun k hk => .inl hk)
      have d2 : (setO s' (.ref (D + 2)) (.dcn (kvsW (z.1 ++ [(doT d here, way ++ [d])])))).d = s.d := d1
      simp! [e1, x_inNk, x_putN, x_getN, k1, k2, o1, kvN_dcn, v1, v2, ad, hlen, pm, hlen2, nn_tf]
      refine ⟨some (.d (prsK d)), some (.d (dTrk (doT d here))), ?_, ?_, d2, F2⟩
      · simp only [List.foldl_cons, List.foldl_nil, hp, List.map_append, List.map_cons, List.map_nil]
      · simpa only [List.foldl_cons, List.foldl_nil, hp] using o2
  · rintro ρ s' ⟨c8, c9, rfl, o1, d1, F1⟩
    exact q c8 c9 s' o1 d1 F1
end Mr
set_option maxRecDepth 100000
set_option maxHeartbeats 4000000
namespace Mr
open PySem L2 Dl
def pushAll (z : Zw) (here : Trk) : Zw := deedsS.foldl (pushD ((findW z.1 (nkT here)).getD []) here) z
def layerW (R : List (Trk × List Deed)) (L : List Trk) : Zw := L.foldl pushAll (R, [])
theorem pushAll_len (z : Zw) (here : Trk) : (pushAll z here).1.length ≤ z.1.length + 12 ∧ (pushAll z here).2.length ≤ z.2.length + 12 := push_len _ here deedsS z
theorem pushAll_keep {z : Zw} {here : Trk} {k : NestedKey} {w : List Deed} (h : findW z.1 k = some w) : findW (pushAll z here).1 k = some w := push_keep deedsS h
theorem layer_len : ∀ (L : List Trk) (z : Zw), (L.foldl pushAll z).1.length ≤ z.1.length + 12 * L.length ∧ (L.foldl pushAll z).2.length ≤ z.2.length + 12 * L.length
  | [], z => ⟨by simp, by simp⟩
  | t :: L, z => by
    have h1 := layer_len L (pushAll z t)
    have h2 := pushAll_len z t
    simp only [List.foldl_cons, List.length_cons]
    omega
theorem layer_keep {k : NestedKey} {w : List Deed} : ∀ (L : List Trk) {z : Zw}, findW z.1 k = some w → findW (L.foldl pushAll z).1 k = some w
  | [], _, h => h
  | t :: L, z, h => by
    rw [List.foldl_cons]
    have h2 := pushAll_keep (here := t) h
    generalize pushAll z t = z' at *
    exact layer_keep L h2
theorem ws_here {D : Nat} {L : List Trk} {R : List (Trk × List Deed)} (okL : ∀ t ∈ L, OkT t) (hR : ∀ t ∈ L, ∃ w, findW R (nkT t) = some w ∧ w.length ≤ 100000) (hl : R.length + 12 * L.length ≤ 800000) {s : LS} (hs : obI s (.ref (D + 2)) = some (.dcn (kvsW R))) {c0 c1 c2 c7 c8 c9 : Option Val} {E : En LS}
    (q : ∀ c7 c8 c9 s', obI s' (.ref (D + 2)) = some (.dcn (kvsW (layerW R L).1)) → s'.d = s.d → Fr s s' [D] → E.n [c0, c1, c2, some (.ref (D + 2)), some (.d (.list (L.map dTrk))), some (.d (.list (deedsS.map prsK))), some (.own ((layerW R L).2.map dTrk)), c7, c8, c9] s') :
    @Ws _ (w_here [c0, c1, c2, some (.ref (D + 2)), some (.d (.list (L.map dTrk))), some (.d (.list (deedsS.map prsK))), some (.own []), c7, c8, c9] s) E := by
  simp! [w_here]
  refine ws_forP dTrk (fun done ρ s' => ∃ c7 c8 c9, ρ = [c0, c1, c2, some (.ref (D + 2)), some (.d (.list (L.map dTrk))), some (.d (.list (deedsS.map prsK))), some (.own ((done.foldl pushAll (R, [])).2.map dTrk)), c7, c8, c9] ∧ obI s' (.ref (D + 2)) = some (.dcn (kvsW (done.foldl pushAll (R, [])).1)) ∧ s'.d = s.d ∧ Fr s s' [D]) _ _ _ ⟨_, _, _, rfl, hs, rfl, fr_refl62 s [D]⟩ ?_ ?_
  · rintro done here rest ρ s' eg ⟨c7, c8, c9, rfl, o1, d1, F1⟩
    refine ⟨_, rfl, ?_⟩
    have hm : here ∈ L := by rw [eg]; simp
    obtain ⟨w, hw, wl⟩ := hR here hm
    have hdl : done.length ≤ L.length := by rw [eg]; simp
    have hz := layer_len done (R, [])
    have hw2 := layer_keep done (z := (R, [])) hw
    rw [List.foldl_append]
    simp only [List.length_nil, Nat.zero_add] at hz
    generalize done.foldl pushAll (R, []) = z at *
    refine ws_press (okL here hm) hw2 wl (by omega) (by omega) o1 fun c8 c9 s2 o2 d2 F2 => ?_
    have e : pushAll z here = deedsS.foldl (pushD w here) z := by unfold pushAll; rw [hw2]; rfl
    refine ⟨some (.d (dTrk here)), c8, c9, ?_, ?_, d2.trans d1, F1.trans F2 (fun k hk => .inl hk) (fun k hk => .inl hk)⟩
    · simp only [List.foldl_cons, List.foldl_nil, e]
    · simpa only [List.foldl_cons, List.foldl_nil, e] using o2
  · rintro ρ s' ⟨c7, c8, c9, rfl, o1, d1, F1⟩
    exact q c7 c8 c9 s' o1 d1 F1
/-- one turn of the search -/
theorem ws_turn {D : Nat} {L : List Trk} {R : List (Trk × List Deed)} (okL : ∀ t ∈ L, OkT t) (hR : ∀ t ∈ L, ∃ w, findW R (nkT t) = some w ∧ w.length ≤ 100000) (hl : R.length + 12 * L.length ≤ 800000) {s : LS} (hs : obI s (.ref (D + 2)) = some (.dcn (kvsW R))) {c0 c1 c2 c6 c7 c8 c9 : Option Val} {E : En LS}
    (q : ∀ c7 c8 c9 s', obI s' (.ref (D + 2)) = some (.dcn (kvsW (layerW R L).1)) → s'.d = s.d → Fr s s' [D] → E.n [c0, c1, c2, some (.ref (D + 2)), some (.d (.list ((layerW R L).2.map dTrk))), some (.d (.list (deedsS.map prsK))), some (.d (.list ((layerW R L).2.map dTrk))), c7, c8, c9] s') :
    @Ws _ (w_turn [c0, c1, c2, some (.ref (D + 2)), some (.d (.list (L.map dTrk))), some (.d (.list (deedsS.map prsK))), c6, c7, c8, c9] s) E := by
  simp! [w_turn]
  refine ws_here okL hR hl hs fun c7 c8 c9 s' o1 d1 F1 => ?_
  simp! []
  exact q c7 c8 c9 s' o1 d1 F1
theorem words_S (c : Option Val) (st : DS) : compL (.name 0) tYes' (eTup (aCons (eVar 0) (aCons (eC (.int 0)) aNil))) [none, c] [.str "tap", .str "stop", .str "clear", .str "undo", .str "redo", .str "join", .str "turn", .str "flip", .str "mute"] [] st = .ok ([Deed.tap, .stop, .clear, .undo, .redo, .join, .turn, .flip, .mute].map prsK) st := by
  have := compL_of (tg := .name 0) (F := eTup (aCons (eVar 0) (aCons (eC (.int 0)) aNil))) (ρ := [none, c]) (st := st) (fun d : Deed => PyData.str d.s) (fun d => .tuple [.str d.s, .int 0]) [Deed.tap, .stop, .clear, .undo, .redo, .join, .turn, .flip, .mute] (by simp) (fun d hd => ⟨_, rfl, by simp! []⟩)
  exact this
theorem paces_S (c : Option Val) (st : DS) : compL (.name 1) tYes' (eTup (aCons (eC (.str "pace")) (aCons (eC (.int 0)) (aCons (eVar 1) aNil)))) [c, none] [.int 1, .int 2, .int 4] [] st = .ok ([Deed.pace 1, .pace 2, .pace 4].map prsK) st := by
  have := compL_of (tg := .name 1) (F := eTup (aCons (eC (.str "pace")) (aCons (eC (.int 0)) (aCons (eVar 1) aNil)))) (ρ := [c, none]) (st := st) PyData.int (fun k => .tuple [.str "pace", .int 0, .int k]) [1, 2, 4] (by simp) (fun d hd => ⟨_, rfl, by simp! []⟩)
  exact this
theorem sort_pr : bSortD [.d (.list (rnk.map rk))] = some (.list (deedsS.map prsK)) := by
  show ((if sortOk (rnk.map rk) then some (PyData.list (sortD (rnk.map rk))) else none)) = _
  rw [if_pos (by decide +kernel), all_sort]
theorem m_all_presses (st : DS) : F_all_presses [] st = .ok (.d (.list (deedsS.map prsK))) st := by
  refine ok_of ?_
  have a : vAdd (.d (.list ([Deed.tap, .stop, .clear, .undo, .redo, .join, .turn, .flip, .mute].map prsK))) (.d (.list ([Deed.pace 1, .pace 2, .pace 4].map prsK))) = some (.list (rnk.map rk)) := rfl
  have w := words_S
  have p := paces_S
  have sp := sort_pr
  generalize [Deed.tap, .stop, .clear, .undo, .redo, .join, .turn, .flip, .mute].map prsK = W at *
  generalize [Deed.pace 1, .pace 2, .pace 4].map prsK = P at *
  generalize rnk.map rk = Z at *
  generalize deedsS.map prsK = Y at *
  simp! [F_all_presses, w_fn, B_all_presses, x_iTab, w, d_PACES, p, a, sp]
end Mr
set_option maxRecDepth 100000
set_option maxHeartbeats 4000000
namespace Mr
open PySem L2 Dl
theorem Fr.new (s : LS) (b : List Trk) : Fr s (newS s b) [] := ⟨fun k _ h => (new_facts s b).2.1 k h, by rw [(new_facts s b).2.2.1]; omega⟩
theorem Fr.newO (s : LS) (x : Ob) : Fr s (Dl.newO s x) [] := ⟨fun k _ h => obI_new_lt h, by rw [new_len]; omega⟩
end Mr
set_option maxRecDepth 100000
set_option maxHeartbeats 4000000
namespace Mr
open PySem L2 Dl
theorem lay_lpss (L : List (List Int)) : PyData.canLayAll0 (L.map lpD) = true := by
  induction L with
  | nil => rfl
  | cons l L ih => simp [PyData.canLayAll0, PyData.canLay0, lpD, lay_ints, ih]
theorem dep_lpss (L : List (List Int)) : PyData.depthAll (L.map lpD) ≤ 1 := by
  induction L with
  | nil => exact Nat.zero_le _
  | cons l L ih => simp only [List.map_cons, PyData.depthAll, PyData.depth, lpD, depth_ints]; omega
theorem lay_trk (t : Trk) : (dTrk t).canLay0 = true := by
  have h : PyData.strOk (Str.ofString t.mode.s) = true := by cases t.mode <;> decide +kernel
  simp [dTrk, PyData.canLay0, PyData.canLayAll0, show ∀ L, lpsD L = .tuple (L.map lpD) from fun _ => rfl, lay_lpss, h]
theorem dep_trkD (t : Trk) : (dTrk t).depth ≤ 3 := by
  have h1 := dep_lpss t.layers
  have h2 := dep_lpss t.undone
  simp only [dTrk, PyData.depth, PyData.depthAll, show ∀ L, lpsD L = .tuple (L.map lpD) from fun _ => rfl]
  omega
theorem ok_trks (X : List Trk) : okD (.list (X.map dTrk)) = true := by
  have h1 : PyData.canLayAll0 (X.map dTrk) = true := by
    induction X with
    | nil => rfl
    | cons t X ih => simp only [List.map_cons, PyData.canLayAll0, lay_trk, ih]; rfl
  have h2 : PyData.depthAll (X.map dTrk) ≤ 3 := by
    induction X with
    | nil => exact Nat.zero_le _
    | cons t X ih =>
      have := dep_trkD t
      simp only [List.map_cons, PyData.depthAll]
      have := ih (by simp only [List.map_cons, PyData.canLayAll0, Bool.and_eq_true] at h1; exact h1.2)
      omega
  unfold okD SeqAt.shaped
  have : (PyData.list (X.map dTrk)).depth ≤ 64 := by simp only [PyData.depth]; omega
  simp only [PyData.canLay0, h1, Bool.true_and]
  exact decide_eq_true this
theorem eq_trks (X : List Trk) : vEq (.d (.list (X.map dTrk))) (.d (.list [])) = some X.isEmpty := by
  have h1 := ok_trks X
  have h2 : okD (.list []) = true := by decide
  show vEqD _ _ = _
  unfold vEqD
  simp only [datOf, Option.bind_some, h1, h2, Bool.and_self, if_true]
  cases X <;> simp [PyData.eqv, PyData.eqvAll]
end Mr
set_option maxRecDepth 100000
set_option maxHeartbeats 4000000
namespace Mr
open PySem L2 Dl
theorem num_inj : ∀ {l m : List Int}, l.map NestedKey.num = m.map NestedKey.num → l = m
  | [], [], _ => rfl
  | [], _ :: _, h => by cases h
  | _ :: _, [], h => by cases h
  | a :: l, b :: m, h => by
    rw [List.map_cons, List.map_cons] at h
    injection h with h1 h2
    injection h1 with h1
    rw [h1, num_inj h2]
theorem numsK_inj {l m : List Int} (h : numsK l = numsK m) : l = m := by
  unfold numsK at h
  injection h with h
  exact num_inj h
theorem numsKs_inj : ∀ {L M : List (List Int)}, L.map numsK = M.map numsK → L = M
  | [], [], _ => rfl
  | [], _ :: _, h => by cases h
  | _ :: _, [], h => by cases h
  | a :: l, b :: m, h => by
    rw [List.map_cons, List.map_cons] at h
    injection h with h1 h2
    rw [numsK_inj h1, numsKs_inj h2]
theorem mode_inj {a b : Mode} (h : (a.s : Str) = b.s) : a = b := by
  cases a <;> cases b <;> first | rfl | exact absurd h (by decide)
theorem nkT_inj {a b : Trk} (h : nkT a = nkT b) : a = b := by
  obtain ⟨m, L, U, p, w, c, s, t⟩ := a
  obtain ⟨m', L', U', p', w', c', s', t'⟩ := b
  unfold nkT at h
  simp only [NestedKey.tup.injEq, List.cons.injEq, NestedKey.text.injEq, NestedKey.num.injEq, and_true] at h
  obtain ⟨h1, h2, h3, h4, h5, h6, h7, h8⟩ := h
  have e1 := mode_inj h1
  have e2 := numsKs_inj h2
  have e3 := numsKs_inj h3
  have e8 : t = t' := by cases t <;> cases t' <;> first | rfl | (simp at h8)
  subst e1 e2 e3 h4 h5 h6 h7 e8
  rfl
abbrev Rw := List (Trk × List Deed)
def runs (w : List Deed) (t : Trk) : Trk := w.foldl (fun t d => doT d t) t
theorem runs_app (w : List Deed) (d : Deed) (t : Trk) : runs (w ++ [d]) t = doT d (runs w t) := by simp [runs]
abbrev hasK (R : Rw) (b : Trk) : Bool := (findW R (nkT b)).isSome
theorem has_iff {R : Rw} {b : Trk} : hasK R b = true ↔ ∃ p ∈ R, p.1 = b := by
  unfold hasK findW
  rw [Option.isSome_map, List.find?_isSome]
  constructor
  · rintro ⟨p, hp, e⟩
    exact ⟨p, hp, nkT_inj (of_decide_eq_true e)⟩
  · rintro ⟨p, hp, e⟩
    exact ⟨p, hp, by rw [e]; exact decide_eq_true rfl⟩
theorem findW_mem {R : Rw} {b : Trk} {w : List Deed} (h : findW R (nkT b) = some w) : (b, w) ∈ R := by
  unfold findW at h
  rw [Option.map_eq_some_iff] at h
  obtain ⟨p, hp, rfl⟩ := h
  have h1 := List.mem_of_find?_eq_some hp
  have h2 := List.find?_some hp
  have h2 : p.1 = b := nkT_inj (by simpa using h2)
  rw [← h2]
  exact h1
/-- one key once -/
def Once (R : Rw) : Prop := R.Pairwise fun p q => p.1 ≠ q.1
theorem once_find : ∀ {R : Rw}, Once R → ∀ {p : Trk × List Deed}, p ∈ R → findW R (nkT p.1) = some p.2
  | q :: R, h, p, hp => by
    obtain ⟨h1, h2⟩ := List.pairwise_cons.mp h
    rw [findW_cons]
    rcases List.mem_cons.mp hp with rfl | hp
    · rw [if_pos rfl]
    · rw [if_neg fun e => h1 p hp (nkT_inj e)]
      exact once_find h2 hp
def pushE (way : List Deed) (here : Trk) (z : Rw × Rw) (d : Deed) : Rw × Rw := if hasK z.1 (doT d here) = true then z else (z.1 ++ [(doT d here, way ++ [d])], z.2 ++ [(doT d here, way ++ [d])])
def allE (z : Rw × Rw) (p : Trk × List Deed) : Rw × Rw := deedsS.foldl (pushE p.2 p.1) z
def layE (R M : Rw) : Rw × Rw := M.foldl allE (R, [])
def drop2 (z : Rw × Rw) : Zw := (z.1, z.2.map (·.1))
theorem push_D (way : List Deed) (here : Trk) (z : Rw × Rw) (d : Deed) : pushD way here (drop2 z) d = drop2 (pushE way here z d) := by
  unfold pushD pushE drop2
  split <;> simp_all
theorem pushs_D (way : List Deed) (here : Trk) : ∀ (ds : List Deed) (z : Rw × Rw), ds.foldl (pushD way here) (drop2 z) = drop2 (ds.foldl (pushE way here) z)
  | [], _ => rfl
  | d :: ds, z => by rw [List.foldl_cons, List.foldl_cons, push_D, pushs_D]
theorem all_D {z : Rw × Rw} {p : Trk × List Deed} (h : findW z.1 (nkT p.1) = some p.2) : pushAll (drop2 z) p.1 = drop2 (allE z p) := by
  unfold pushAll allE
  rw [show (drop2 z).1 = z.1 from rfl, h, Option.getD_some]
  exact pushs_D _ _ _ _
theorem pushE_keep {way : List Deed} {here : Trk} {z : Rw × Rw} {d : Deed} {k : NestedKey} {w : List Deed} (h : findW z.1 k = some w) : findW (pushE way here z d).1 k = some w := by
  unfold pushE
  split
  · exact h
  · show findW (z.1 ++ _) k = _
    rw [findW_app, h]; rfl
theorem pushEs_keep {way : List Deed} {here : Trk} {k : NestedKey} {w : List Deed} : ∀ (ds : List Deed) {z : Rw × Rw}, findW z.1 k = some w → findW (ds.foldl (pushE way here) z).1 k = some w
  | [], _, h => h
  | d :: ds, z, h => by rw [List.foldl_cons]; exact pushEs_keep ds (pushE_keep h)
theorem allE_keep {k : NestedKey} {w : List Deed} : ∀ (M : Rw) {z : Rw × Rw}, findW z.1 k = some w → findW (M.foldl allE z).1 k = some w
  | [], _, h => h
  | p :: M, z, h => by
    rw [List.foldl_cons]
    have h2 : findW (allE z p).1 k = some w := pushEs_keep deedsS h
    exact allE_keep M h2
theorem lays_D : ∀ (M : Rw) (z : Rw × Rw), (∀ p ∈ M, findW z.1 (nkT p.1) = some p.2) → (M.map (·.1)).foldl pushAll (drop2 z) = drop2 (M.foldl allE z)
  | [], _, _ => rfl
  | p :: M, z, h => by
    rw [List.map_cons, List.foldl_cons, List.foldl_cons, all_D (h p List.mem_cons_self)]
    exact lays_D M _ fun q hq => pushEs_keep deedsS (h q (List.mem_cons_of_mem _ hq))
theorem lay_D {R M : Rw} (h : ∀ p ∈ M, findW R (nkT p.1) = some p.2) : layerW R (M.map (·.1)) = drop2 (layE R M) := lays_D M (R, []) h
structure LayI (R0 : Rw) (n : Nat) (t0 : Trk) (z : Rw × Rw) : Prop where
  app : z.1 = R0 ++ z.2
  once : Once z.1
  way : ∀ p ∈ z.2, p.2.length = n + 1 ∧ p.1 = runs p.2 t0 ∧ ∀ d ∈ p.2, d ∈ deedsS
theorem once_add {R : Rw} (h : Once R) {b : Trk} {w : List Deed} (hb : ¬ hasK R b = true) : Once (R ++ [(b, w)]) := by
  unfold Once
  rw [List.pairwise_append]
  refine ⟨h, List.pairwise_singleton _ _, fun p hp q hq e => ?_⟩
  rw [List.mem_singleton] at hq
  subst hq
  exact hb (has_iff.mpr ⟨p, hp, e⟩)
theorem LayI.push {R0 : Rw} {n : Nat} {t0 : Trk} {z : Rw × Rw} (h : LayI R0 n t0 z) {way : List Deed} {here : Trk} (hl : way.length = n) (hr : here = runs way t0) (hw : ∀ d ∈ way, d ∈ deedsS) {d : Deed} (hd : d ∈ deedsS) : LayI R0 n t0 (pushE way here z d) := by
  unfold pushE
  split
  · exact h
  · rename_i hb
    refine ⟨?_, once_add h.once hb, fun p hp => ?_⟩
    · show z.1 ++ _ = R0 ++ (z.2 ++ _)
      rw [h.app, List.append_assoc]
    · rw [List.mem_append] at hp
      rcases hp with hp | hp
      · exact h.way p hp
      · rw [List.mem_singleton] at hp
        subst hp
        refine ⟨by simp [hl], ?_, fun e he => ?_⟩
        · show doT d here = runs (way ++ [d]) t0
          rw [runs_app, ← hr]
        · rw [List.mem_append, List.mem_singleton] at he
          rcases he with he | rfl
          · exact hw e he
          · exact hd
theorem LayI.pushs {R0 : Rw} {n : Nat} {t0 : Trk} {way : List Deed} {here : Trk} (hl : way.length = n) (hr : here = runs way t0) (hw : ∀ d ∈ way, d ∈ deedsS) : ∀ (ds : List Deed) {z : Rw × Rw}, LayI R0 n t0 z → (∀ d ∈ ds, d ∈ deedsS) → LayI R0 n t0 (ds.foldl (pushE way here) z)
  | [], _, h, _ => h
  | d :: ds, z, h, hd => by
    rw [List.foldl_cons]
    exact LayI.pushs hl hr hw ds (h.push hl hr hw (hd d List.mem_cons_self)) fun e he => hd e (List.mem_cons_of_mem _ he)
theorem LayI.all {R0 : Rw} {n : Nat} {t0 : Trk} : ∀ (M : Rw) {z : Rw × Rw}, LayI R0 n t0 z → (∀ p ∈ M, p.2.length = n ∧ p.1 = runs p.2 t0 ∧ ∀ d ∈ p.2, d ∈ deedsS) → LayI R0 n t0 (M.foldl allE z)
  | [], _, h, _ => h
  | p :: M, z, h, hM => by
    rw [List.foldl_cons]
    obtain ⟨h1, h2, h3⟩ := hM p List.mem_cons_self
    exact LayI.all M (LayI.pushs h1 h2 h3 deedsS h fun _ h => h) fun q hq => hM q (List.mem_cons_of_mem _ hq)
/-- what stands behind a press of a row is known -/
theorem has_keep {way : List Deed} {here : Trk} {z : Rw × Rw} {b : Trk} {ds : List Deed} (h : hasK z.1 b = true) : hasK (ds.foldl (pushE way here) z).1 b = true := by
  obtain ⟨w, hw⟩ := Option.isSome_iff_exists.mp h
  unfold hasK
  rw [pushEs_keep ds hw]; rfl
theorem has_push {way : List Deed} {here : Trk} {z : Rw × Rw} {d : Deed} : hasK (pushE way here z d).1 (doT d here) = true := by
  unfold pushE
  split
  · assumption
  · exact has_iff.mpr ⟨(doT d here, way ++ [d]), by simp, rfl⟩
theorem has_pushs {way : List Deed} {here : Trk} {d : Deed} : ∀ (ds : List Deed) {z : Rw × Rw}, d ∈ ds → hasK (ds.foldl (pushE way here) z).1 (doT d here) = true
  | e :: ds, z, h => by
    rw [List.foldl_cons]
    rcases List.mem_cons.mp h with rfl | h
    · exact has_keep has_push
    · exact has_pushs ds h
theorem has_all {d : Deed} (hd : d ∈ deedsS) : ∀ (M : Rw) {z : Rw × Rw} {p : Trk × List Deed}, p ∈ M → hasK (M.foldl allE z).1 (doT d p.1) = true
  | q :: M, z, p, h => by
    rw [List.foldl_cons]
    rcases List.mem_cons.mp h with rfl | h
    · have h1 : hasK (allE z p).1 (doT d p.1) = true := has_pushs deedsS hd
      obtain ⟨w, hw⟩ := Option.isSome_iff_exists.mp h1
      unfold hasK
      rw [allE_keep M hw]; rfl
    · exact has_all hd M h
def bfs (t : Trk) : Nat → Rw × Rw
  | 0 => ([(t, [])], [(t, [])])
  | n + 1 => layE (bfs t n).1 (bfs t n).2
structure BfsI (t : Trk) (n : Nat) : Prop where
  once : Once (bfs t n).1
  way : ∀ p ∈ (bfs t n).1, p.2.length ≤ n ∧ p.1 = runs p.2 t ∧ ∀ d ∈ p.2, d ∈ deedsS
  last : ∀ p, p ∈ (bfs t n).2 ↔ (p ∈ (bfs t n).1 ∧ p.2.length = n)
  shut : ∀ p ∈ (bfs t n).1, p.2.length < n → ∀ d ∈ deedsS, hasK (bfs t n).1 (doT d p.1) = true
theorem lay_I {t : Trk} {n : Nat} (h : BfsI t n) : LayI (bfs t n).1 n t (bfs t (n + 1)) :=
  LayI.all _ ⟨by simp, h.once, fun p hp => by simp at hp⟩ fun p hp => by
    obtain ⟨h1, h2⟩ := (h.last p).mp hp
    exact ⟨h2, (h.way p h1).2⟩
theorem bfs_keep {t : Trk} {n : Nat} {k : NestedKey} {w : List Deed} (h : findW (bfs t n).1 k = some w) : findW (bfs t (n + 1)).1 k = some w := allE_keep _ h
theorem bfs_I (t : Trk) : ∀ n, BfsI t n
  | 0 => ⟨List.pairwise_singleton _ _, fun p hp => by
      rw [show (bfs t 0).1 = [(t, [])] from rfl, List.mem_singleton] at hp
      subst hp
      exact ⟨Nat.le_refl _, rfl, fun d hd => by simp at hd⟩, fun p => by
      show p ∈ [(t, [])] ↔ p ∈ [(t, [])] ∧ _
      rw [List.mem_singleton]
      constructor
      · rintro rfl; exact ⟨rfl, rfl⟩
      · exact fun h => h.1, fun p hp hl => absurd hl (by omega)⟩
  | n + 1 => by
    have I := bfs_I t n
    have L := lay_I I
    have hm : ∀ p, p ∈ (bfs t (n + 1)).1 ↔ p ∈ (bfs t n).1 ∨ p ∈ (bfs t (n + 1)).2 := fun p => by rw [L.app, List.mem_append]
    refine ⟨L.once, fun p hp => ?_, fun p => ?_, fun p hp hl d hd => ?_⟩
    · rcases (hm p).mp hp with hp | hp
      · have := I.way p hp
        exact ⟨by omega, this.2⟩
      · have := L.way p hp
        exact ⟨by omega, this.2⟩
    · constructor
      · exact fun hp => ⟨(hm p).mpr (.inr hp), (L.way p hp).1⟩
      · rintro ⟨hp, hl⟩
        rcases (hm p).mp hp with hp | hp
        · have := (I.way p hp).1
          omega
        · exact hp
    · rcases (hm p).mp hp with hp | hp
      · by_cases hn : p.2.length = n
        · exact has_all hd _ ((I.last p).mpr ⟨hp, hn⟩)
        · have h1 := I.shut p hp (by have := (I.way p hp).1; omega) d hd
          obtain ⟨w, hw⟩ := Option.isSome_iff_exists.mp h1
          unfold hasK
          rw [bfs_keep hw]; rfl
      · have := (L.way p hp).1
        omega
end Mr
set_option maxRecDepth 100000
set_option maxHeartbeats 4000000
namespace Mr
open PySem L2 Dl
def res (t g : Trk) (n : Nat) : Option (List Deed) := findW (bfs t n).1 (nkT g)
theorem res_keep {t g : Trk} {n : Nat} {w : List Deed} (h : res t g n = some w) : ∀ k, res t g (n + k) = some w
  | 0 => h
  | k + 1 => bfs_keep (res_keep h k)
theorem res_le {t g : Trk} {n m : Nat} {w : List Deed} (h : res t g n = some w) (hm : n ≤ m) : res t g m = some w := by
  obtain ⟨k, rfl⟩ := Nat.exists_eq_add_of_le hm
  exact res_keep h k
theorem bfs_stop {t : Trk} {n : Nat} (h : (bfs t n).2 = []) : ∀ k, (bfs t (n + k)).1 = (bfs t n).1 ∧ (bfs t (n + k)).2 = []
  | 0 => ⟨rfl, h⟩
  | k + 1 => by
    obtain ⟨h1, h2⟩ := bfs_stop h k
    have e : bfs t (n + (k + 1)) = layE (bfs t (n + k)).1 (bfs t (n + k)).2 := rfl
    rw [e, h2, h1]
    exact ⟨rfl, rfl⟩
theorem res_stop {t g : Trk} {n m : Nat} (h : (bfs t n).2 = []) (hm : n ≤ m) : res t g m = res t g n := by
  obtain ⟨k, rfl⟩ := Nat.exists_eq_add_of_le hm
  unfold res
  rw [(bfs_stop h k).1]
/-- what way_to tells -/
def WayTo (t g : Trk) (r : Option (List Deed)) : Prop := ∃ n, r = res t g n ∧ ((bfs t n).2 = [] ∨ r.isSome = true)
theorem way_near {t g : Trk} {r : Option (List Deed)} (h : WayTo t g r) {m : Nat} {w : List Deed} (hw : res t g m = some w) : r = some w := by
  obtain ⟨n, rfl, hs⟩ := h
  by_cases hn : m ≤ n
  · exact res_le hw hn
  · rcases hs with hs | hs
    · rw [← res_stop hs (Nat.le_of_lt (Nat.lt_of_not_le hn)), hw]
    · obtain ⟨v, hv⟩ := Option.isSome_iff_exists.mp hs
      have := res_le hv (Nat.le_of_lt (Nat.lt_of_not_le hn))
      rw [hw] at this
      rw [hv, this]
theorem way_runs {t g : Trk} {r : Option (List Deed)} (h : WayTo t g r) {w : List Deed} (hr : r = some w) : runs w t = g ∧ ∀ d ∈ w, d ∈ deedsS := by
  obtain ⟨n, rfl, _⟩ := h
  have := (bfs_I t n).way _ (findW_mem hr)
  exact ⟨this.2.1.symm, this.2.2⟩
theorem res_runs {t g : Trk} {n : Nat} {w : List Deed} (hr : res t g n = some w) : runs w t = g ∧ (∀ d ∈ w, d ∈ deedsS) ∧ w.length ≤ n := by
  have := (bfs_I t n).way _ (findW_mem hr)
  exact ⟨this.2.1.symm, this.2.2, this.1⟩
theorem nodup_len {α : Type} : ∀ (l m : List α), l.Nodup → (∀ x ∈ l, x ∈ m) → l.length ≤ m.length
  | [], _, _, _ => Nat.zero_le _
  | a :: l, m, h, hs => by
    haveI : DecidableEq α := fun a b => Classical.propDecidable (a = b)
    obtain ⟨h1, h2⟩ := List.nodup_cons.mp h
    have ha := hs a List.mem_cons_self
    have := nodup_len l (m.erase a) h2 fun x hx => (List.mem_erase_of_ne (fun e : x = a => h1 (by rw [← e]; exact hx))).mpr (hs x (List.mem_cons_of_mem _ hx))
    rw [List.length_erase_of_mem ha] at this
    have := List.length_pos_of_mem ha
    simp only [List.length_cons]
    omega
/-- a set of tracks that no press leaves -/
structure Clos (X : List Trk) : Prop where
  ok : ∀ x ∈ X, OkT x
  shut : ∀ x ∈ X, ∀ d ∈ deedsS, doT d x ∈ X
theorem Clos.runs {X : List Trk} (h : Clos X) : ∀ (w : List Deed) {t : Trk}, t ∈ X → (∀ d ∈ w, d ∈ deedsS) → runs w t ∈ X
  | [], _, ht, _ => ht
  | d :: w, t, ht, hd => Clos.runs h w (h.shut t ht d (hd d List.mem_cons_self)) fun e he => hd e (List.mem_cons_of_mem _ he)
theorem Clos.bfs {X : List Trk} (h : Clos X) {t : Trk} (ht : t ∈ X) (n : Nat) : ∀ p ∈ (bfs t n).1, p.1 ∈ X := fun p hp => by
  obtain ⟨_, h2, h3⟩ := (bfs_I t n).way p hp
  rw [h2]
  exact h.runs _ ht h3
theorem Clos.len {X : List Trk} (h : Clos X) {t : Trk} (ht : t ∈ X) (n : Nat) : (Mr.bfs t n).1.length ≤ X.length := by
  have := nodup_len ((Mr.bfs t n).1.map (·.1)) X (by
    unfold List.Nodup
    rw [List.pairwise_map]
    exact (bfs_I t n).once) (fun x hx => by
      obtain ⟨p, hp, rfl⟩ := List.mem_map.mp hx
      exact h.bfs ht n p hp)
  simpa using this
end Mr
set_option maxRecDepth 100000
set_option maxHeartbeats 4000000
namespace Mr
open PySem L2 Dl
def wayO : Option (List Deed) → PyData
  | some w => wayD w
  | none => .none
theorem bfs_once {t : Trk} {n : Nat} : ∀ p ∈ (bfs t n).2, findW (bfs t n).1 (nkT p.1) = some p.2 := fun p hp => once_find (bfs_I t n).once (((bfs_I t n).last p).mp hp).1
theorem bfs_layer (t : Trk) (n : Nat) : layerW (bfs t n).1 ((bfs t n).2.map (·.1)) = ((bfs t (n + 1)).1, (bfs t (n + 1)).2.map (·.1)) := lay_D bfs_once
theorem bfs_grow (t : Trk) (n : Nat) : (bfs t (n + 1)).1.length = (bfs t n).1.length + (bfs t (n + 1)).2.length := by
  rw [(lay_I (bfs_I t n)).app, List.length_append]
theorem bfs_way {X : List Trk} (hX : Clos X) {t : Trk} (ht : t ∈ X) : ∀ n, (bfs t n).2 = [] ∨ n ≤ (bfs t n).1.length
  | 0 => .inr (Nat.zero_le _)
  | n + 1 => by
    have g := bfs_grow t n
    rcases bfs_way hX ht n with h | h
    · exact .inl (bfs_stop h 1).2
    · cases e : (bfs t (n + 1)).2 with
      | nil => exact .inl rfl
      | cons p M => refine .inr ?_; rw [e] at g; simp only [List.length_cons] at g; omega
theorem m_way {X : List Trk} (hX : Clos X) (hn : X.length ≤ 50000) {t g : Trk} (ht : t ∈ X) (hg : OkT g) (s : LS) : ∃ r, WayTo t g r ∧ ∃ s', F_way_to [.d (dTrk t), .d (dTrk g)] s = .ok (.d (wayO r)) s' ∧ s'.d = s.d ∧ Fr s s' [] := by
  have h := hX.ok t ht
  have key : ∃ v s', F_way_to [.d (dTrk t), .d (dTrk g)] s = .ok v s' ∧ (∃ r, v = .d (wayO r) ∧ WayTo t g r ∧ s'.d = s.d ∧ Fr s s' []) := by
    refine wp_ex ?_
    have i1 : ∀ s, upF F_is_track [.d (dTrk t)] s = .ok (.d (.bool true)) s := up_ok fun st => m_is_track_ok h st
    have i2 : ∀ s, upF F_is_track [.d (dTrk g)] s = .ok (.d (.bool true)) s := up_ok fun st => m_is_track_ok hg st
    have pr : ∀ s, upF F_all_presses [] s = .ok (.d (.list (deedsS.map prsK))) s := up_ok fun st => m_all_presses st
    have k1 := key_trk t
    have k2 := key_trk g
    have dn : ∀ d s, dctNE (.d (dTrk t)) (.d d) s = .ok (newV s) (newO s (.dcn [(nkT t, d)])) := fun d s => by unfold dctNE; rw [k1]
    rw [show F_way_to = fnF 10 B_way_to from rfl, way_eq]
    have kv0 : kvsW [(t, ([] : List Deed))] = [(nkT t, .tuple [])] := rfl
    generalize hD : s.ob.length = D at *
    have hV : newV s = .ref (D + 2) := by rw [newV_def, hD]
    generalize hPR : deedsS.map prsK = PR at *
    simp! [w_fn]
    refine ws_forP (fun u : Trk => dTrk u) (fun done ρ s' => ∃ c2, ρ = [some (.d (dTrk t)), some (.d (dTrk g)), c2, none, none, none, none, none, none, none] ∧ s' = s) [t, g] _ _ ⟨_, rfl, rfl⟩ ?_ ?_
    · rintro done u rest ρ s' eg ⟨c2, rfl, rfl⟩
      refine ⟨_, rfl, ?_⟩
      have hu : u = t ∨ u = g := by
        have : u ∈ [t, g] := by rw [eg]; simp
        simpa using this
      have iu : ∀ s, upF F_is_track [.d (dTrk u)] s = .ok (.d (.bool true)) s := by rcases hu with rfl | rfl <;> assumption
      simp! [iu]
      exact ⟨_, rfl⟩
    rintro ρ s' ⟨c2, rfl, rfl⟩
    simp! [pr, x_dctN, dn, hV]
    have o0 : obI (newO s' (.dcn [(nkT t, .tuple [])])) (.ref (D + 2)) = some (.dcn (kvsW [(t, [])])) := by rw [← hD]; exact obI_new2 s' _
    have F0 : Fr s' (newO s' (.dcn [(nkT t, .tuple [])])) [] := Fr.newO s' _
    have d0 : (newO s' (.dcn [(nkT t, .tuple [])])).d = s'.d := rfl
    generalize newO s' (.dcn [(nkT t, .tuple [])]) = s1 at *
    subst hPR
    unfold w_loop
    refine ws_while (fun n ρ s2 => ∃ (c2 c6 c7 c8 c9 : Option Val) (i : Nat), ρ = [some (.d (dTrk t)), some (.d (dTrk g)), c2, some (.ref (D + 2)), some (.d (.list (((bfs t i).2.map (·.1)).map dTrk))), some (.d (.list (deedsS.map prsK))), c6, c7, c8, c9] ∧ obI s2 (.ref (D + 2)) = some (.dcn (kvsW (bfs t i).1)) ∧ s2.d = s'.d ∧ Fr s' s2 [] ∧
      n + (bfs t i).1.length = X.length + (if (bfs t i).2.isEmpty = true then 0 else 1)) ?_ (X.length - 1 + 1) _ _ ⟨c2, none, none, none, none, 0, rfl, o0, d0, F0, ?_⟩
    · rintro n ρ s2 ⟨c2, c6, c7, c8, c9, i, rfl, o1, d1, F1, hc⟩
      have nt := eq_trks ((bfs t i).2.map (·.1))
      have vt := valT_kvs (bfs t i).1 (nkT g)
      have hle := hX.len ht i
      cases hf : findW (bfs t i).1 (nkT g) with
      | some w =>
        have hw : WayTo t g (some w) := ⟨i, hf.symm, .inr rfl⟩
        rw [hf] at vt
        have vt : valT (kvsW (bfs t i).1) (nkT g) = some (wayD w) := vt
        have dn2 : (some (wayD w) : Option PyData).getD .none = wayD w := rfl
        cases hY : ((bfs t i).2.map (·.1)).isEmpty with
        | true =>
          rw [hY] at nt
          simp! [nt, x_inNk, x_get1N, k2, o1, kvN_dcn, vt, nn_tt, dn2]
          exact ⟨some w, rfl, hw, d1, F1⟩
        | false =>
          rw [hY] at nt
          simp! [nt, x_inNk, x_get1N, k2, o1, kvN_dcn, vt, nn_tt, dn2]
          exact ⟨some w, rfl, hw, d1, F1⟩
      | none =>
        rw [hf] at vt
        have vt : valT (kvsW (bfs t i).1) (nkT g) = none := vt
        have dn2 : (none : Option PyData).getD .none = .none := rfl
        cases hY : ((bfs t i).2.map (·.1)).isEmpty with
        | true =>
          rw [hY] at nt
          have hemp : (bfs t i).2 = [] := by simpa using hY
          simp! [nt, x_inNk, x_get1N, k2, o1, kvN_dcn, vt, nn_tf, dn2]
          exact ⟨none, rfl, ⟨i, hf.symm, .inl hemp⟩, d1, F1⟩
        | false =>
          rw [hY] at nt
          have hne : (bfs t i).2.isEmpty = false := by simpa using hY
          have hgr := bfs_grow t i
          have hle2 := hX.len ht (i + 1)
          have hlast : (bfs t i).2.length ≤ (bfs t i).1.length := by
            cases i with
            | zero => exact Nat.le_refl _
            | succ i => rw [bfs_grow t i]; omega
          have hdep : i ≤ (bfs t i).1.length := by
            rcases bfs_way hX ht i with h | h
            · rw [h] at hne; cases hne
            · exact h
          simp! [nt, x_inNk, k2, o1, kvN_dcn, vt, nn_tf]
          refine ws_turn (fun u hu => ?_) (fun u hu => ?_) ?_ o1 fun c7 c8 c9 s3 o3 d3 F3 => ?_
          · obtain ⟨p, hp, rfl⟩ := List.mem_map.mp hu
            exact hX.ok _ (hX.bfs ht i p (((bfs_I t i).last p).mp hp).1)
          · obtain ⟨p, hp, rfl⟩ := List.mem_map.mp hu
            refine ⟨p.2, bfs_once p hp, ?_⟩
            have := ((bfs_I t i).last p).mp hp
            omega
          · rw [List.length_map]; omega
          rw [bfs_layer] at o3 ⊢
          refine ⟨X.length + (if (bfs t (i + 1)).2.isEmpty = true then 0 else 1) - (bfs t (i + 1)).1.length, ?_, c2, _, c7, c8, c9, i + 1, rfl, o3, d3.trans d1, F1.trans F3 (fun k hk => absurd hk (by simp)) (fun k hk => .inr (by simp at hk; omega)), ?_⟩
          · rw [hne] at hc
            simp only [Bool.false_eq_true, if_false] at hc
            cases e : (bfs t (i + 1)).2 with
            | nil => rw [e] at hgr; simp only [List.length_nil] at hgr; simp only [List.isEmpty_nil, if_true]; omega
            | cons p M => rw [e] at hgr; simp only [List.length_cons] at hgr; simp only [List.isEmpty_cons, Bool.false_eq_true, if_false]; omega
          · omega
    · have := List.length_pos_of_mem ht
      show X.length - 1 + 1 + 1 = X.length + 1
      omega
  obtain ⟨v, s', e1, r, rfl, e2, e3, e4⟩ := key
  exact ⟨r, e2, s', e1, e3, e4⟩
end Mr
set_option maxRecDepth 100000
set_option maxHeartbeats 4000000
namespace Mr
open PySem L2 Dl
def stemX (A B : List Int) : Nat → List (List Int)
  | 0 => [A]
  | 1 => [A, B]
  | _ => [joinL [A, B] A.length]
/-- layers, and what is undone behind them -/
def allX (A B : List Int) (s k : Nat) : List (List Int) := stemX A B s ++ List.replicate k (List.replicate A.length 0)
def mkX (A B : List Int) (p : Int) (m : Mode) (s k j : Nat) (b : Bool) (w c g : Int) (mu : Bool) : Trk :=
  ⟨m, (allX A B s k).take j, ((allX A B s k).drop j).reverse, if b = true then p else 0, w, c, g, mu⟩
abbrev IxX := Mode × Nat × Nat × Nat × Bool × Int × Int × Int × Bool
def idxX : List IxX := [Mode.play, .dub, .stop].flatMap fun m => [0, 1, 2].flatMap fun s => [0, 1, 2, 3].flatMap fun k => [1, 2, 3, 4].flatMap fun j => [true, false].flatMap fun b =>
  [(1 : Int), -1].flatMap fun w => [(1 : Int), 2, 4].flatMap fun c => [(1 : Int), -1].flatMap fun g => [true, false].map fun mu => (m, s, k, j, b, w, c, g, mu)
theorem idx_len : idxX.length = 6912 := by decide +kernel
structure InX (A B : List Int) (p : Int) (t : Trk) : Prop where
  ex : ∃ m s k j b w c g mu, t = mkX A B p m s k j b w c g mu ∧ m.loops = true ∧ s < 3 ∧ k < 4 ∧ 1 ≤ j ∧ j ≤ 4 ∧ (w = 1 ∨ w = -1) ∧ (c = 1 ∨ c = 2 ∨ c = 4) ∧ (g = 1 ∨ g = -1)
noncomputable def okTB (t : Trk) : Bool := @decide (OkT t) (Classical.propDecidable _)
theorem okTB_iff {t : Trk} : okTB t = true ↔ OkT t := @decide_eq_true_iff _ (Classical.propDecidable _)
noncomputable def setX (A B : List Int) (p : Int) : List Trk := (emptyT :: recT [] :: recT A :: idxX.map fun (m, s, k, j, b, w, c, g, mu) => mkX A B p m s k j b w c g mu).filter okTB
theorem set_len (A B : List Int) (p : Int) : (setX A B p).length ≤ 50000 := by
  unfold setX
  refine Nat.le_trans (List.length_filter_le _ _) ?_
  simp only [List.length_cons, List.length_map, idx_len]
  omega
theorem mem_idx {m : Mode} {s k j : Nat} {b : Bool} {w c g : Int} {mu : Bool} (hm : m.loops = true) (hs : s < 3) (hk : k < 4) (h1 : 1 ≤ j) (h4 : j ≤ 4) (hw : w = 1 ∨ w = -1) (hc : c = 1 ∨ c = 2 ∨ c = 4) (hg : g = 1 ∨ g = -1) : (m, s, k, j, b, w, c, g, mu) ∈ idxX := by
  unfold idxX
  simp only [List.mem_flatMap, List.mem_map]
  refine ⟨m, ?_, s, ?_, k, ?_, j, ?_, b, ?_, w, ?_, c, ?_, g, ?_, mu, ?_, rfl⟩
  · cases m <;> first | (simp; done) | cases hm
  · rcases (show s = 0 ∨ s = 1 ∨ s = 2 by omega) with rfl | rfl | rfl <;> simp
  · rcases (show k = 0 ∨ k = 1 ∨ k = 2 ∨ k = 3 by omega) with rfl | rfl | rfl | rfl <;> simp
  · rcases (show j = 1 ∨ j = 2 ∨ j = 3 ∨ j = 4 by omega) with rfl | rfl | rfl | rfl <;> simp
  · cases b <;> simp
  · rcases hw with rfl | rfl <;> simp
  · rcases hc with rfl | rfl | rfl <;> simp
  · rcases hg with rfl | rfl <;> simp
  · cases mu <;> simp
theorem mem_set {A B : List Int} {p : Int} {t : Trk} : t ∈ setX A B p ↔ OkT t ∧ (t = emptyT ∨ t = recT [] ∨ t = recT A ∨ InX A B p t) := by
  unfold setX
  rw [List.mem_filter, okTB_iff, and_comm]
  refine and_congr_right fun _ => ?_
  rw [List.mem_cons, List.mem_cons, List.mem_cons, List.mem_map]
  refine or_congr_right (or_congr_right (or_congr_right ?_))
  constructor
  · rintro ⟨⟨m, s, k, j, b, w, c, g, mu⟩, hi, rfl⟩
    refine ⟨m, s, k, j, b, w, c, g, mu, rfl, ?_⟩
    unfold idxX at hi
    simp only [List.mem_flatMap, List.mem_map] at hi
    obtain ⟨m', hm, s', hs, k', hk, j', hj, b', hb, w', hw, c', hc, g', hg, mu', hmu, e⟩ := hi
    cases e
    refine ⟨?_, ?_, ?_, ?_, ?_, ?_, ?_, ?_⟩
    · simp at hm; rcases hm with rfl | rfl | rfl <;> rfl
    · simp at hs; omega
    · simp at hk; omega
    · simp at hj; omega
    · simp at hj; omega
    · simpa using hw
    · simpa using hc
    · simpa using hg
  · rintro ⟨⟨m, s, k, j, b, w, c, g, mu, rfl, hm, hs, hk, h1, h4, hw, hc, hg⟩⟩
    exact ⟨(m, s, k, j, b, w, c, g, mu), mem_idx hm hs hk h1 h4 hw hc hg, rfl⟩
end Mr
set_option maxRecDepth 100000
set_option maxHeartbeats 4000000
namespace Mr
open PySem L2 Dl
end Mr
set_option maxRecDepth 100000
set_option maxHeartbeats 4000000
namespace Mr
open PySem L2 Dl
theorem joinL_rep (L : List (List Int)) (n i : Nat) : joinL (L ++ List.replicate i (List.replicate n 0)) n = joinL L n := by
  unfold joinL
  refine List.map_congr_left fun a ha => ?_
  rw [List.map_append, List.sum_append, List.map_replicate]
  have : (List.replicate n (0 : Int)).getD a 0 = 0 := by
    rw [List.getD_eq_getElem?_getD, List.getElem?_replicate]
    split <;> rfl
  have z : ∀ i, (List.replicate i (0 : Int)).sum = 0 := fun i => by
    induction i with
    | zero => rfl
    | succ i ih => rw [List.replicate_succ, List.sum_cons, ih]; rfl
  rw [this, z]
  omega
theorem joinL_one {l : List Int} {n : Nat} (h : l.length = n) : joinL [l] n = l := by
  subst h
  unfold joinL
  refine List.ext_getElem (by simp) fun i h1 h2 => ?_
  simp [List.getD_eq_getElem?_getD, List.getElem?_eq_getElem h2]
theorem take_last {α : Type} (T : List α) {j : Nat} (h : 1 ≤ (T.take j).length) : (T.take j).dropLast = T.take ((T.take j).length - 1) ∧ (T.drop j).reverse ++ (T.take j).drop ((T.take j).length - 1) = (T.drop ((T.take j).length - 1)).reverse := by
  have e := List.take_append_drop j T
  generalize hL : T.take j = L at *
  generalize hU : T.drop j = U at *
  rcases List.eq_nil_or_concat L with rfl | ⟨M, x, rfl⟩
  · simp at h
  · subst e
    simp
theorem take_more {α : Type} (T : List α) {j : Nat} (h : (T.drop j).reverse ≠ []) : T.take j ++ ((T.drop j).reverse).drop (((T.drop j).reverse).length - 1) = T.take (j + 1) ∧ ((T.drop j).reverse).dropLast = (T.drop (j + 1)).reverse ∧ j < T.length := by
  have hj : j < T.length := by
    apply Classical.byContradiction
    intro hn
    exact h (by rw [List.drop_eq_nil_of_le (by omega)]; rfl)
  have e : T.drop j = T[j] :: T.drop (j + 1) := List.drop_eq_getElem_cons hj
  have e2 : T.take (j + 1) = T.take j ++ [T[j]] := List.take_succ_eq_append_getElem hj
  rw [e, e2]
  generalize T.drop (j + 1) = V
  generalize T[j] = x
  have k : ((x :: V).reverse).drop (((x :: V).reverse).length - 1) = [x] := by simp
  refine ⟨by rw [k], by simp, hj⟩
end Mr
set_option maxRecDepth 100000
set_option maxHeartbeats 4000000
namespace Mr
open PySem L2 Dl
section
variable {A B : List Int}
theorem take_all (s k j : Nat) : (allX A B s k).take j = (stemX A B s).take j ++ List.replicate (min (j - (stemX A B s).length) k) (List.replicate A.length 0) := by
  unfold allX
  rw [List.take_append, List.take_replicate]
theorem rep_snoc {α : Type} (i : Nat) (z : α) : List.replicate i z ++ [z] = List.replicate (i + 1) z := by
  rw [List.replicate_succ']
theorem take_1 {α : Type} {x : α} {j : Nat} (h : 1 ≤ j) : [x].take j = [x] := List.take_of_length_le (by simpa using h)
theorem take_2 {α : Type} {x y : α} {j : Nat} (h : 2 ≤ j) : [x, y].take j = [x, y] := List.take_of_length_le (by simpa using h)
theorem tap_x {s k j : Nat} (hs : s < 3) (hj : 1 ≤ j) (hl : ((allX A B s k).take j).length < 4) : ∃ s' k', s' < 3 ∧ k' < 4 ∧ (allX A B s k).take j ++ [List.replicate A.length 0] = allX A B s' k' ∧ (allX A B s' k').length ≤ 4 := by
  have e : ∃ s' i, s' < 3 ∧ (allX A B s k).take j = allX A B s' i := by
    rcases (show s = 0 ∨ s = 1 ∨ s = 2 by omega) with rfl | rfl | rfl
    · exact ⟨0, _, by omega, by rw [take_all, show (stemX A B 0).take j = stemX A B 0 from take_1 hj]; rfl⟩
    · by_cases h2 : 2 ≤ j
      · exact ⟨1, _, by omega, by rw [take_all, show (stemX A B 1).take j = stemX A B 1 from take_2 h2]; rfl⟩
      · have : j = 1 := by omega
        subst this
        refine ⟨0, 0, by omega, ?_⟩
        rw [take_all]
        simp [stemX, allX]
    · exact ⟨2, _, by omega, by rw [take_all, show (stemX A B 2).take j = stemX A B 2 from take_1 hj]; rfl⟩
  obtain ⟨s', i, h1, h2⟩ := e
  rw [h2] at hl ⊢
  have e3 : allX A B s' i ++ [List.replicate A.length 0] = allX A B s' (i + 1) := by
    unfold allX
    rw [List.append_assoc, rep_snoc]
  have hq : 1 ≤ (stemX A B s').length := by
    rcases (show s' = 0 ∨ s' = 1 ∨ s' = 2 by omega) with rfl | rfl | rfl <;> simp [stemX]
  refine ⟨s', i + 1, h1, ?_, e3, ?_⟩
  · unfold allX at hl
    simp at hl
    omega
  · rw [← e3, List.length_append]
    simp only [List.length_singleton]
    omega
theorem join_x {s k j : Nat} (hs : s < 3) (hj : 1 ≤ j) : ∃ s', s' < 3 ∧ [joinL ((allX A B s k).take j) A.length] = allX A B s' 0 := by
  rcases (show s = 0 ∨ s = 1 ∨ s = 2 by omega) with rfl | rfl | rfl
  · refine ⟨0, by omega, ?_⟩
    rw [take_all, joinL_rep, show (stemX A B 0).take j = [A] from take_1 hj, joinL_one rfl]
    simp [allX, stemX]
  · by_cases h2 : 2 ≤ j
    · refine ⟨2, by omega, ?_⟩
      rw [take_all, joinL_rep, show (stemX A B 1).take j = [A, B] from take_2 h2]
      simp [allX, stemX]
    · have : j = 1 := by omega
      subst this
      refine ⟨0, by omega, ?_⟩
      rw [take_all, joinL_rep, show (stemX A B 1).take 1 = [A] from rfl, joinL_one rfl]
      simp [allX, stemX]
  · refine ⟨2, by omega, ?_⟩
    rw [take_all, joinL_rep, show (stemX A B 2).take j = [joinL [A, B] A.length] from take_1 hj, joinL_one (joinL_len _ _)]
    simp [allX, stemX]
theorem size_mk {p : Int} {m : Mode} {s k j : Nat} {b : Bool} {w c g : Int} {mu : Bool} (hs : s < 3) (hj : 1 ≤ j) : (mkX A B p m s k j b w c g mu).size = A.length := by
  obtain ⟨i, rfl⟩ : ∃ i, j = i + 1 := ⟨j - 1, by omega⟩
  unfold Trk.size mkX
  rcases (show s = 0 ∨ s = 1 ∨ s = 2 by omega) with rfl | rfl | rfl
  · simp [allX, stemX]
  · simp [allX, stemX]
  · simp [allX, stemX, joinL_len]
theorem OkT.len4 {t : Trk} (h : OkT t) (hm : t.mode.loops = true) : 1 ≤ t.layers.length ∧ t.layers.length + t.undone.length ≤ 4 := ⟨(h.loop hm).l1, (h.loop hm).l4⟩
end
end Mr
set_option maxRecDepth 100000
set_option maxHeartbeats 4000000
namespace Mr
open PySem L2 Dl
theorem deed_ok {d : Deed} (h : d ∈ deedsS) : d.Ok := by
  simp only [deedsS, List.mem_cons, List.not_mem_nil, or_false] at h
  rcases h with rfl | rfl | rfl | rfl | rfl | rfl | rfl | rfl | rfl | rfl | rfl | rfl <;> simp [Deed.Ok]
theorem in_do {A B : List Int} {p : Int} {t : Trk} (ok : OkT t) (h : InX A B p t) {d : Deed} (hd : d ∈ deedsS) : doT d t = emptyT ∨ InX A B p (doT d t) := by
  obtain ⟨m, s, k, j, b, w, c, g, mu, rfl, hm, hs, hk, h1, h4, hw, hc, hg⟩ := h
  have hsz := size_mk (A := A) (B := B) (p := p) (m := m) (k := k) (b := b) (w := w) (c := c) (g := g) (mu := mu) hs h1
  obtain ⟨l1, l4⟩ := ok.len4 hm
  have l1 : 1 ≤ ((allX A B s k).take j).length := l1
  have l4 : ((allX A B s k).take j).length + ((allX A B s k).drop j).reverse.length ≤ 4 := l4
  have same : InX A B p (mkX A B p m s k j b w c g mu) := ⟨m, s, k, j, b, w, c, g, mu, rfl, hm, hs, hk, h1, h4, hw, hc, hg⟩
  have mode : ∀ m', m'.loops = true → InX A B p (mkX A B p m' s k j b w c g mu) := fun m' h' => ⟨m', s, k, j, b, w, c, g, mu, rfl, h', hs, hk, h1, h4, hw, hc, hg⟩
  simp only [deedsS, List.mem_cons, List.not_mem_nil, or_false] at hd
  have lp : ∀ m', (mkX A B p m' s k j b w c g mu).mode = m' := fun _ => rfl
  have pace : ∀ c', (c' = 1 ∨ c' = 2 ∨ c' = 4) → InX A B p (doT (.pace c') (mkX A B p m s k j b w c g mu)) := fun c' h' => by
    have e : doT (.pace c') (mkX A B p m s k j b w c g mu) = mkX A B p m s k j b w c' g mu := by
      show (if m.loops = true then _ else _) = _
      rw [if_pos hm]; rfl
    rw [e]
    exact ⟨m, s, k, j, b, w, c', g, mu, rfl, hm, hs, hk, h1, h4, hw, h', hg⟩
  rcases hd with rfl | rfl | rfl | rfl | rfl | rfl | rfl | rfl | rfl | rfl | rfl | rfl
  · exact .inl rfl
  · -- flip
    refine .inr ?_
    have e : doT .flip (mkX A B p m s k j b w c g mu) = mkX A B p m s k j b w c (-g) mu := by
      show (if m.loops = true then _ else _) = _
      rw [if_pos hm]; rfl
    rw [e]
    exact ⟨m, s, k, j, b, w, c, -g, mu, rfl, hm, hs, hk, h1, h4, hw, hc, by omega⟩
  · -- join
    refine .inr ?_
    by_cases hj : (m = .play ∨ m = .stop) ∧ 2 ≤ ((allX A B s k).take j).length
    · obtain ⟨s', hs', e'⟩ := join_x (A := A) (B := B) (k := k) hs h1
      have e : doT .join (mkX A B p m s k j b w c g mu) = mkX A B p m s' 0 1 b w c g mu := by
        show (if (m = .play ∨ m = .stop) ∧ 2 ≤ ((allX A B s k).take j).length then ({ mkX A B p m s k j b w c g mu with layers := [joinL ((allX A B s k).take j) (mkX A B p m s k j b w c g mu).size], undone := [] } : Trk) else _) = _
        rw [if_pos hj, hsz, e']
        unfold mkX
        have q : (allX A B s' 0).length = 1 := by rw [← e']; rfl
        rw [List.take_of_length_le (by omega : (allX A B s' 0).length ≤ 1), List.drop_eq_nil_of_le (by omega : (allX A B s' 0).length ≤ 1)]
        rfl
      rw [e]
      exact ⟨m, s', 0, 1, b, w, c, g, mu, rfl, hm, hs', by omega, by omega, by omega, hw, hc, hg⟩
    · have e : doT .join (mkX A B p m s k j b w c g mu) = mkX A B p m s k j b w c g mu := if_neg hj
      rw [e]; exact same
  · -- mute
    refine .inr ?_
    have e : doT .mute (mkX A B p m s k j b w c g mu) = mkX A B p m s k j b w c g (!mu) := by
      show (if m.loops = true then _ else _) = _
      rw [if_pos hm]; rfl
    rw [e]
    exact ⟨m, s, k, j, b, w, c, g, !mu, rfl, hm, hs, hk, h1, h4, hw, hc, hg⟩
  · exact .inr (pace 1 (.inl rfl))
  · exact .inr (pace 2 (.inr (.inl rfl)))
  · exact .inr (pace 4 (.inr (.inr rfl)))
  · -- redo
    refine .inr ?_
    by_cases hj : (m = .play ∨ m = .stop) ∧ ((allX A B s k).drop j).reverse ≠ []
    · obtain ⟨e1, e2, e3⟩ := take_more _ hj.2
      have e : doT .redo (mkX A B p m s k j b w c g mu) = mkX A B p m s k (j + 1) b w c g mu := by
        show (if (m = .play ∨ m = .stop) ∧ ((allX A B s k).drop j).reverse ≠ [] then ({ mkX A B p m s k j b w c g mu with layers := (allX A B s k).take j ++ (((allX A B s k).drop j).reverse).drop ((((allX A B s k).drop j).reverse).length - 1), undone := (((allX A B s k).drop j).reverse).dropLast } : Trk) else _) = _
        rw [if_pos hj, e1, e2]
        rfl
      rw [e]
      refine ⟨m, s, k, j + 1, b, w, c, g, mu, rfl, hm, hs, hk, by omega, ?_, hw, hc, hg⟩
      simp at l4
      omega
    · have e : doT .redo (mkX A B p m s k j b w c g mu) = mkX A B p m s k j b w c g mu := if_neg hj
      rw [e]; exact same
  · -- stop
    refine .inr ?_
    have e : doT .stop (mkX A B p m s k j b w c g mu) = mkX A B p .stop s k j false w c g mu := by
      cases m <;> first | rfl | cases hm
    rw [e]
    exact ⟨.stop, s, k, j, false, w, c, g, mu, rfl, rfl, hs, hk, h1, h4, hw, hc, hg⟩
  · -- tap
    refine .inr ?_
    cases m with
    | play =>
      by_cases hl : ((allX A B s k).take j).length = 4
      · have e : doT .tap (mkX A B p .play s k j b w c g mu) = mkX A B p .play s k j b w c g mu := if_pos hl
        rw [e]; exact same
      · obtain ⟨s', k', hs', hk', e', hl'⟩ := tap_x (A := A) (B := B) (k := k) hs h1 (by omega)
        have e : doT .tap (mkX A B p .play s k j b w c g mu) = mkX A B p .dub s' k' 4 b w c g mu := by
          show (if ((allX A B s k).take j).length = 4 then _ else ({ mkX A B p .play s k j b w c g mu with mode := .dub, layers := (allX A B s k).take j ++ [List.replicate (mkX A B p .play s k j b w c g mu).size 0], undone := [] } : Trk)) = _
          rw [if_neg hl, hsz, e']
          unfold mkX
          rw [List.take_of_length_le hl', List.drop_eq_nil_of_le hl']
          rfl
        rw [e]
        exact ⟨.dub, s', k', 4, b, w, c, g, mu, rfl, rfl, hs', hk', by omega, by omega, hw, hc, hg⟩
    | dub => exact mode .play rfl
    | stop => exact mode .play rfl
    | record => cases hm
    | empty => cases hm
  · -- turn
    refine .inr ?_
    have e : doT .turn (mkX A B p m s k j b w c g mu) = mkX A B p m s k j b (-w) c g mu := by
      show (if m.loops = true then _ else _) = _
      rw [if_pos hm]; rfl
    rw [e]
    exact ⟨m, s, k, j, b, -w, c, g, mu, rfl, hm, hs, hk, h1, h4, by omega, hc, hg⟩
  · -- undo
    refine .inr ?_
    by_cases hj : m.loops = true ∧ 2 ≤ ((allX A B s k).take j).length
    · obtain ⟨e1, e2⟩ := take_last (allX A B s k) l1
      have e : doT .undo (mkX A B p m s k j b w c g mu) = mkX A B p (if m = .dub then .play else m) s k (((allX A B s k).take j).length - 1) b w c g mu := by
        show (if m.loops = true ∧ 2 ≤ ((allX A B s k).take j).length then ({ mkX A B p m s k j b w c g mu with mode := if m = .dub then .play else m, layers := ((allX A B s k).take j).dropLast, undone := ((allX A B s k).drop j).reverse ++ ((allX A B s k).take j).drop (((allX A B s k).take j).length - 1) } : Trk) else _) = _
        rw [if_pos hj, e1, e2]
        rfl
      rw [e]
      refine ⟨_, s, k, _, b, w, c, g, mu, rfl, ?_, hs, hk, by omega, by omega, hw, hc, hg⟩
      split
      · rfl
      · exact hm
    · have e : doT .undo (mkX A B p m s k j b w c g mu) = mkX A B p m s k j b w c g mu := if_neg hj
      rw [e]; exact same
end Mr
set_option maxRecDepth 100000
set_option maxHeartbeats 4000000
namespace Mr
open PySem L2 Dl
theorem rec_in {A B : List Int} {p : Int} {m : Mode} (hm : m.loops = true) : InX A B p { recT A with mode := m } :=
  ⟨m, 0, 0, 1, false, 1, 2, 1, false, by simp [mkX, allX, stemX, recT], hm, by omega, by omega, by omega, by omega, .inl rfl, .inr (.inl rfl), .inl rfl⟩
theorem emp_do {d : Deed} (hd : d ∈ deedsS) : doT d emptyT = emptyT ∨ doT d emptyT = recT [] := by
  simp only [deedsS, List.mem_cons, List.not_mem_nil, or_false] at hd
  rcases hd with rfl | rfl | rfl | rfl | rfl | rfl | rfl | rfl | rfl | rfl | rfl | rfl
  all_goals first | exact .inl rfl | exact .inr rfl | exact .inl (if_neg (by decide)) | exact .inl (if_neg (by simp [emptyT]))
theorem rec_do {l : List Int} {d : Deed} (hd : d ∈ deedsS) : doT d (recT l) = emptyT ∨ doT d (recT l) = recT l ∨ (l ≠ [] ∧ ∃ m : Mode, m.loops = true ∧ doT d (recT l) = { recT l with mode := m }) := by
  simp only [deedsS, List.mem_cons, List.not_mem_nil, or_false] at hd
  rcases hd with rfl | rfl | rfl | rfl | rfl | rfl | rfl | rfl | rfl | rfl | rfl | rfl
  · exact .inl rfl
  · exact .inr (.inl (by simp [doT, recT, Mode.loops]))
  · exact .inr (.inl (by simp [doT, recT, Mode.loops]))
  · exact .inr (.inl (by simp [doT, recT, Mode.loops]))
  · exact .inr (.inl (by simp [doT, recT, Mode.loops]))
  · exact .inr (.inl (by simp [doT, recT, Mode.loops]))
  · exact .inr (.inl (by simp [doT, recT, Mode.loops]))
  · exact .inr (.inl (by simp [doT, recT, Mode.loops]))
  · rw [doT_stop_rec]
    by_cases h : l = []
    · rw [if_pos h]; exact .inl rfl
    · rw [if_neg h]; exact .inr (.inr ⟨h, .stop, rfl, rfl⟩)
  · rw [doT_tap_rec]
    by_cases h : l = []
    · rw [if_pos h]; exact .inl rfl
    · rw [if_neg h]; exact .inr (.inr ⟨h, .play, rfl, rfl⟩)
  · exact .inr (.inl (by simp [doT, recT, Mode.loops]))
  · exact .inr (.inl (by simp [doT, recT, Mode.loops]))
theorem clos_X (A B : List Int) (p : Int) : Clos (setX A B p) := by
  refine ⟨fun x hx => (mem_set.mp hx).1, fun x hx d hd => ?_⟩
  obtain ⟨ok, hx⟩ := mem_set.mp hx
  refine mem_set.mpr ⟨doT_ok ok d (deed_ok hd), ?_⟩
  rcases hx with rfl | rfl | rfl | hx
  · rcases emp_do hd with h | h
    · exact .inl h
    · exact .inr (.inl h)
  · rcases rec_do (l := []) hd with h | h | ⟨h, _⟩
    · exact .inl h
    · exact .inr (.inl h)
    · exact absurd rfl h
  · rcases rec_do (l := A) hd with h | h | ⟨_, m, hm, h⟩
    · exact .inl h
    · exact .inr (.inr (.inl h))
    · exact .inr (.inr (.inr (by rw [h]; exact rec_in hm)))
  · rcases in_do ok hx hd with h | h
    · exact .inl h
    · exact .inr (.inr (.inr h))
/-- a track that stands in a set that no press leaves, and small -/
def Near (t : Trk) : Prop := ∃ X, Clos X ∧ X.length ≤ 50000 ∧ t ∈ X
theorem Near.ok {t : Trk} (h : Near t) : OkT t := by
  obtain ⟨X, c, _, h⟩ := h
  exact c.ok t h
theorem Near.do {t : Trk} (h : Near t) {d : Deed} (hd : d ∈ deedsS) : Near (doT d t) := by
  obtain ⟨X, c, l, h⟩ := h
  exact ⟨X, c, l, c.shut t h d hd⟩
theorem near_empty : Near emptyT := ⟨setX [] [] 0, clos_X _ _ _, set_len _ _ _, mem_set.mpr ⟨.empty, .inl rfl⟩⟩
theorem near_rec {l : List Int} (h : l.length ≤ 63) : Near (recT l) := ⟨setX l l 0, clos_X _ _ _, set_len _ _ _, mem_set.mpr ⟨.record l h, .inr (.inr (.inl rfl))⟩⟩
theorem near_two {m : Mode} {A B : List Int} {j : Nat} {p w c g : Int} {mu : Bool} (ok : OkT ⟨m, [A, B].take j, [A, B].drop j, p, w, c, g, mu⟩) (hm : m.loops = true) (h1 : 1 ≤ j) (h2 : j ≤ 2) : Near ⟨m, [A, B].take j, [A, B].drop j, p, w, c, g, mu⟩ := by
  have hl := ok.loop hm
  refine ⟨setX A B p, clos_X _ _ _, set_len _ _ _, mem_set.mpr ⟨ok, .inr (.inr (.inr ⟨m, 1, 0, j, true, w, c, g, mu, ?_, hm, by omega, by omega, h1, by omega, hl.way, hl.pace, hl.sign⟩))⟩⟩
  rcases (show j = 1 ∨ j = 2 by omega) with rfl | rfl <;> simp [mkX, allX, stemX]
end Mr
set_option maxRecDepth 100000
set_option maxHeartbeats 4000000
namespace Mr
open PySem L2 Dl
def tiny (t : Trk) : Prop := t.mode.loops = true ∧ t.size = 1
instance (t : Trk) : Decidable (tiny t) := inferInstanceAs (Decidable (_ ∧ _))
end Mr
set_option maxRecDepth 100000
set_option maxHeartbeats 4000000
namespace Mr
open PySem L2 Dl
end Mr
set_option maxRecDepth 100000
set_option maxHeartbeats 4000000
namespace Mr
open PySem L2 Dl
def rkD : Deed → Nat
  | .clear => 0 | .flip => 1 | .join => 2 | .mute => 3
  | .pace k => if k = 1 then 4 else if k = 2 then 5 else 6
  | .redo => 7 | .stop => 8 | .tap => 9 | .turn => 10 | .undo => 11
theorem rk_lt (d : Deed) : rkD d < 12 := by
  cases d <;> simp only [rkD] <;> first | omega | (split <;> first | omega | (split <;> omega))
theorem rk_inj : ∀ d ∈ deedsS, ∀ e ∈ deedsS, rkD d = rkD e → d = e := by
  intro d hd e he h
  simp only [deedsS, List.mem_cons, List.not_mem_nil, or_false] at hd he
  rcases hd with rfl | rfl | rfl | rfl | rfl | rfl | rfl | rfl | rfl | rfl | rfl | rfl <;> rcases he with rfl | rfl | rfl | rfl | rfl | rfl | rfl | rfl | rfl | rfl | rfl | rfl <;> first | rfl | exact absurd h (by decide)
theorem rk_asc : deedsS.Pairwise fun a b => rkD a < rkD b := by
  have : (deedsS.map rkD).Pairwise (· < ·) := by decide
  rwa [List.pairwise_map] at this
/-- words by their length, and then by their order -/
def cw : List Deed → Nat
  | [] => 0
  | d :: w => (rkD d + 1) * 16 ^ w.length + cw w
theorem cw_lt : ∀ w : List Deed, cw w < 16 ^ w.length
  | [] => by decide
  | d :: w => by
    have h := cw_lt w
    have r := rk_lt d
    show (rkD d + 1) * 16 ^ w.length + cw w < 16 ^ (w.length + 1)
    have h2 : (rkD d + 1) * 16 ^ w.length ≤ 12 * 16 ^ w.length := Nat.mul_le_mul_right _ (by omega)
    rw [Nat.pow_succ]
    omega
theorem cw_ge (d : Deed) (w : List Deed) : 16 ^ w.length ≤ cw (d :: w) := by
  have h2 : 1 * 16 ^ w.length ≤ (rkD d + 1) * 16 ^ w.length := Nat.mul_le_mul_right _ (by omega)
  show 16 ^ w.length ≤ (rkD d + 1) * 16 ^ w.length + cw w
  omega
theorem cw_snoc : ∀ (w : List Deed) (d : Deed), cw (w ++ [d]) = 16 * cw w + rkD d + 1
  | [], d => by simp [cw]
  | e :: w, d => by
    have h := cw_snoc w d
    show (rkD e + 1) * 16 ^ (w ++ [d]).length + cw (w ++ [d]) = 16 * ((rkD e + 1) * 16 ^ w.length + cw w) + rkD d + 1
    have e1 : (rkD e + 1) * 16 ^ (w ++ [d]).length = 16 * ((rkD e + 1) * 16 ^ w.length) := by
      rw [List.length_append, List.length_singleton, Nat.pow_succ, Nat.mul_comm 16, ← Nat.mul_assoc]
    rw [h, e1]
    omega
theorem cw_shorter {v w : List Deed} (h : w.length < v.length) : cw w < cw v := by
  cases v with
  | nil => simp at h
  | cons e v =>
    have h1 := cw_lt w
    have h2 := cw_ge e v
    have h3 : 16 ^ w.length ≤ 16 ^ v.length := Nat.pow_le_pow_right (by decide) (by simp at h; omega)
    omega
theorem cw_inj : ∀ (w v : List Deed), (∀ d ∈ w, d ∈ deedsS) → (∀ d ∈ v, d ∈ deedsS) → cw w = cw v → w = v := by
  intro w
  induction w with
  | nil =>
    intro v _ _ h
    cases v with
    | nil => rfl
    | cons e v =>
      have h1 := cw_ge e v
      have h2 := cw_lt v
      have h3 : cw (e :: v) = 0 := h.symm
      omega
  | cons d w ih =>
    intro v hw hv h
    cases v with
    | nil =>
      have h1 := cw_ge d w
      have h2 := cw_lt w
      have h3 : cw (d :: w) = 0 := h
      omega
    | cons e v =>
      have hl : w.length = v.length := by
        rcases Nat.lt_trichotomy w.length v.length with c | c | c
        · have := cw_shorter (w := d :: w) (v := e :: v) (by simp; omega)
          omega
        · exact c
        · have := cw_shorter (w := e :: v) (v := d :: w) (by simp; omega)
          omega
      have h : (rkD d + 1) * 16 ^ w.length + cw w = (rkD e + 1) * 16 ^ v.length + cw v := h
      rw [hl] at h
      have b1 := cw_lt w
      have b2 := cw_lt v
      rw [hl] at b1
      have hr : rkD d = rkD e := by
        rcases Nat.lt_trichotomy (rkD d) (rkD e) with c | c | c
        · have : (rkD d + 1 + 1) * 16 ^ v.length ≤ (rkD e + 1) * 16 ^ v.length := Nat.mul_le_mul_right _ (by omega)
          rw [Nat.add_mul, Nat.one_mul] at this
          omega
        · exact c
        · have : (rkD e + 1 + 1) * 16 ^ v.length ≤ (rkD d + 1) * 16 ^ v.length := Nat.mul_le_mul_right _ (by omega)
          rw [Nat.add_mul, Nat.one_mul] at this
          omega
      have hde := rk_inj d (hw d List.mem_cons_self) e (hv e List.mem_cons_self) hr
      subst hde
      rw [ih v (fun x hx => hw x (List.mem_cons_of_mem _ hx)) (fun x hx => hv x (List.mem_cons_of_mem _ hx)) (by omega)]
structure Srt (z : Rw × Rw) (b : Nat) : Prop where
  asc : z.1.Pairwise fun p q => cw p.2 < cw q.2
  lt : ∀ p ∈ z.1, cw p.2 < b
theorem Srt.mono {z : Rw × Rw} {b c : Nat} (h : Srt z b) (e : b ≤ c) : Srt z c := ⟨h.asc, fun p hp => Nat.lt_of_lt_of_le (h.lt p hp) e⟩
def Fnd (z : Rw × Rw) (b : Trk) (m : Nat) : Prop := ∃ v, findW z.1 (nkT b) = some v ∧ cw v ≤ m
theorem Srt.push {z : Rw × Rw} {b : Nat} (h : Srt z b) {way : List Deed} {here : Trk} {d : Deed} (hb : b ≤ cw (way ++ [d])) : Srt (pushE way here z d) (cw (way ++ [d]) + 1) ∧ Fnd (pushE way here z d) (doT d here) (cw (way ++ [d])) := by
  unfold pushE
  split
  · rename_i hk
    obtain ⟨v, hv⟩ := Option.isSome_iff_exists.mp hk
    have := h.lt _ (findW_mem hv)
    exact ⟨h.mono (by omega), v, hv, by show cw v ≤ _; have : cw v < b := this; omega⟩
  · rename_i hk
    refine ⟨⟨?_, fun p hp => ?_⟩, way ++ [d], ?_, Nat.le_refl _⟩
    · show (z.1 ++ [_]).Pairwise _
      rw [List.pairwise_append]
      refine ⟨h.asc, List.pairwise_singleton _ _, fun p hp q hq => ?_⟩
      rw [List.mem_singleton] at hq
      subst hq
      exact Nat.lt_of_lt_of_le (h.lt p hp) hb
    · rcases List.mem_append.mp hp with hp | hp
      · have := h.lt p hp
        omega
      · rw [List.mem_singleton] at hp
        subst hp
        show cw (way ++ [d]) < _
        omega
    · show findW (z.1 ++ [_]) _ = _
      have hn : findW z.1 (nkT (doT d here)) = none := by
        cases e : findW z.1 (nkT (doT d here)) with
        | none => rfl
        | some v => exact absurd (by unfold hasK; rw [e]; rfl) hk
      rw [findW_app, hn, findW_cons, if_pos rfl]
      rfl
theorem Fnd.keep {z z' : Rw × Rw} {b : Trk} {m : Nat} (h : Fnd z b m) (k : ∀ v, findW z.1 (nkT b) = some v → findW z'.1 (nkT b) = some v) : Fnd z' b m := by
  obtain ⟨v, h1, h2⟩ := h
  exact ⟨v, k v h1, h2⟩
theorem Srt.pushs {way : List Deed} {here : Trk} : ∀ (ds : List Deed) {z : Rw × Rw} {b : Nat}, Srt z b → ds.Pairwise (fun a b => rkD a < rkD b) → (∀ d ∈ ds, b ≤ cw (way ++ [d])) → b ≤ 16 * cw way + 13 → Srt (ds.foldl (pushE way here) z) (16 * cw way + 13) ∧ ∀ d ∈ ds, Fnd (ds.foldl (pushE way here) z) (doT d here) (cw (way ++ [d]))
  | [], _, _, h, _, _, hb => ⟨h.mono hb, fun _ h => nomatch h⟩
  | d :: ds, z, b, h, ha, hd, hb => by
    obtain ⟨a1, a2⟩ := List.pairwise_cons.mp ha
    obtain ⟨s1, f1⟩ := h.push (here := here) (hd d List.mem_cons_self)
    have hs := cw_snoc way d
    have hr := rk_lt d
    obtain ⟨s2, f2⟩ := Srt.pushs (way := way) (here := here) ds s1 a2 (fun e he => by
      have := a1 e he
      have := cw_snoc way e
      omega) (by omega)
    rw [List.foldl_cons]
    refine ⟨s2, fun e he => ?_⟩
    rcases List.mem_cons.mp he with rfl | he
    · exact f1.keep fun v hv => pushEs_keep ds hv
    · exact f2 e he
theorem Srt.all {z : Rw × Rw} {b : Nat} {p : Trk × List Deed} (h : Srt z b) (hb : b ≤ 16 * cw p.2 + 1) : Srt (allE z p) (16 * cw p.2 + 13) ∧ ∀ d ∈ deedsS, Fnd (allE z p) (doT d p.1) (cw (p.2 ++ [d])) :=
  h.pushs deedsS rk_asc (fun d _ => by have := cw_snoc p.2 d; omega) (by omega)
theorem Srt.lays : ∀ (M : Rw) {z : Rw × Rw} {b : Nat}, Srt z b → M.Pairwise (fun p q => cw p.2 < cw q.2) → (∀ p ∈ M, b ≤ 16 * cw p.2 + 1) → (∃ c, Srt (M.foldl allE z) c) ∧ ∀ p ∈ M, ∀ d ∈ deedsS, Fnd (M.foldl allE z) (doT d p.1) (cw (p.2 ++ [d]))
  | [], _, b, h, _, _ => ⟨⟨b, h⟩, fun _ h => nomatch h⟩
  | p :: M, z, b, h, ha, hb => by
    obtain ⟨a1, a2⟩ := List.pairwise_cons.mp ha
    obtain ⟨s1, f1⟩ := h.all (hb p List.mem_cons_self)
    obtain ⟨s2, f2⟩ := Srt.lays M s1 a2 fun q hq => by have := a1 q hq; omega
    rw [List.foldl_cons]
    refine ⟨s2, fun q hq d hd => ?_⟩
    rcases List.mem_cons.mp hq with rfl | hq
    · exact (f1 d hd).keep fun v hv => allE_keep M hv
    · exact f2 q hq d hd
theorem bfs_S (t : Trk) : ∀ n, (bfs t n).1.Pairwise (fun p q => cw p.2 < cw q.2) ∧ ∀ p ∈ (bfs t n).1, p.2.length < n → ∀ d ∈ deedsS, Fnd (bfs t n) (doT d p.1) (cw (p.2 ++ [d]))
  | 0 => ⟨List.pairwise_singleton _ _, fun p _ hl => absurd hl (by omega)⟩
  | n + 1 => by
    obtain ⟨h1, h2⟩ := bfs_S t n
    have I := bfs_I t n
    have hM : (bfs t n).2.Pairwise (fun p q => cw p.2 < cw q.2) := by
      cases n with
      | zero => exact List.pairwise_singleton _ _
      | succ n =>
        have L := lay_I (bfs_I t n)
        rw [L.app] at h1
        exact (List.pairwise_append.mp h1).2.1
    have hS : Srt ((bfs t n).1, []) (16 ^ n) := ⟨h1, fun p hp => Nat.lt_of_lt_of_le (cw_lt p.2) (Nat.pow_le_pow_right (by decide) (I.way p hp).1)⟩
    obtain ⟨⟨c, s⟩, f⟩ := Srt.lays (bfs t n).2 hS hM fun p hp => by
      have hl := ((I.last p).mp hp).2
      cases e : p.2 with
      | nil => rw [e] at hl; have : n = 0 := by simpa using hl.symm
               subst this; simp [cw]
      | cons d w =>
        rw [e] at hl
        have := cw_ge d w
        have hn : n = w.length + 1 := by simpa using hl.symm
        rw [hn, Nat.pow_succ]
        omega
    refine ⟨s.asc, fun p hp hl d hd => ?_⟩
    rcases (by rw [(lay_I I).app, List.mem_append] at hp; exact hp : p ∈ (bfs t n).1 ∨ p ∈ (bfs t (n + 1)).2) with hp | hp
    · by_cases hn : p.2.length = n
      · exact f p ((I.last p).mpr ⟨hp, hn⟩) d hd
      · exact (h2 p hp (by have := (I.way p hp).1; omega) d hd).keep fun v hv => bfs_keep hv
    · have := ((lay_I I).way p hp).1
      omega
theorem reachK {t : Trk} : ∀ (k n : Nat) (ds : List Deed), ds.length = k → ds.length ≤ n → (∀ d ∈ ds, d ∈ deedsS) → ∃ v, res t (runs ds t) n = some v ∧ cw v ≤ cw ds
  | 0, n, ds, h0, _, _ => by
    have : ds = [] := List.eq_nil_of_length_eq_zero h0
    subst this
    have h0 : res t t 0 = some [] := by show findW [(t, [])] (nkT t) = _; rw [findW_cons, if_pos rfl]
    exact ⟨[], res_le h0 (Nat.zero_le _), Nat.le_refl _⟩
  | k + 1, n, ds, h0, hl, hd => by
    rcases List.eq_nil_or_concat ds with rfl | ⟨es, e, rfl⟩
    · cases h0
    · rw [List.concat_eq_append] at *
      have h0 : es.length = k := by simpa using h0
      have hl : es.length + 1 ≤ n := by simpa using hl
      obtain ⟨u, hu, hc⟩ := reachK (t := t) k (n - 1) es h0 (by omega) fun d h => hd d (by simp [h])
      have hu' := res_le hu (show n - 1 ≤ n by omega)
      have hm := findW_mem hu'
      have hul : u.length < n := by have := ((bfs_I t (n - 1)).way _ (findW_mem hu)).1; have : u.length ≤ n - 1 := this; omega
      obtain ⟨v, hv, hc2⟩ := (bfs_S t n).2 _ hm hul e (hd e (by simp))
      refine ⟨v, ?_, ?_⟩
      · rw [runs_app]
        exact hv
      · have s1 := cw_snoc es e
        have s2 : cw ((runs es t, u).2 ++ [e]) = 16 * cw u + rkD e + 1 := cw_snoc u e
        omega
theorem reachS {t : Trk} (n : Nat) (ds : List Deed) (hl : ds.length ≤ n) (hd : ∀ d ∈ ds, d ∈ deedsS) : ∃ v, res t (runs ds t) n = some v ∧ cw v ≤ cw ds := reachK ds.length n ds rfl hl hd
/-- no way of so many presses -/
def NoWay (g : Trk) (k : Nat) (x : Trk) : Prop := ∀ v : List Deed, v.length ≤ k → (∀ d ∈ v, d ∈ deedsS) → runs v x ≠ g
def CondW (g : Trk) : Trk → List Deed → Prop
  | x, [] => x = g
  | x, d :: w => (∀ e ∈ deedsS, rkD e < rkD d → NoWay g w.length (doT e x)) ∧ NoWay g w.length x ∧ CondW g (doT d x) w
theorem cond_min {g : Trk} : ∀ (w : List Deed) {x : Trk}, (∀ d ∈ w, d ∈ deedsS) → CondW g x w → ∀ v : List Deed, (∀ d ∈ v, d ∈ deedsS) → runs v x = g → cw w ≤ cw v
  | [], x, _, _, v, _, _ => Nat.zero_le _
  | d :: w, x, hw, h, v, hv, hr => by
    obtain ⟨h1, h2, h3⟩ := h
    cases v with
    | nil => exact absurd hr (h2 [] (Nat.zero_le _) fun _ h => nomatch h)
    | cons e v =>
      have hl : w.length ≤ v.length := Nat.le_of_not_lt fun c => h2 (e :: v) (by simp; omega) hv hr
      by_cases c : w.length < v.length
      · exact Nat.le_of_lt (cw_shorter (by simp; omega))
      have hl : v.length = w.length := by omega
      have he := hv e List.mem_cons_self
      have hv' : ∀ d ∈ v, d ∈ deedsS := fun x hx => hv x (List.mem_cons_of_mem _ hx)
      have hr' : runs v (doT e x) = g := hr
      rcases Nat.lt_trichotomy (rkD e) (rkD d) with c | c | c
      · exact absurd hr' (h1 e he c v (by omega) hv')
      · have := rk_inj e he d (hw d List.mem_cons_self) c
        subst this
        have ih := cond_min w (fun x hx => hw x (List.mem_cons_of_mem _ hx)) h3 v hv' hr'
        show (rkD e + 1) * 16 ^ w.length + cw w ≤ (rkD e + 1) * 16 ^ v.length + cw v
        rw [hl]
        omega
      · have b1 := cw_lt w
        have : (rkD d + 1 + 1) * 16 ^ w.length ≤ (rkD e + 1) * 16 ^ w.length := Nat.mul_le_mul_right _ (by omega)
        rw [Nat.add_mul, Nat.one_mul] at this
        show (rkD d + 1) * 16 ^ w.length + cw w ≤ (rkD e + 1) * 16 ^ v.length + cw v
        rw [hl]
        omega
theorem cond_runs {g : Trk} : ∀ (w : List Deed) {x : Trk}, CondW g x w → runs w x = g
  | [], _, h => h
  | _ :: w, _, h => cond_runs w h.2.2
/-- the way that is told -/
theorem first_way {t g : Trk} {w : List Deed} (hw : ∀ d ∈ w, d ∈ deedsS) (h : CondW g t w) : res t g w.length = some w := by
  obtain ⟨v, hv, hc⟩ := reachS (t := t) w.length w (Nat.le_refl _) hw
  rw [cond_runs w h] at hv
  obtain ⟨r1, r2, _⟩ := res_runs hv
  have := cond_min w hw h v r2 r1
  have e := cw_inj w v hw r2 (by omega)
  subst e
  exact hv
def eqT (a b : Trk) : Bool := decide (a.mode.s = b.mode.s) && decide (a.layers = b.layers) && decide (a.undone = b.undone) && decide (a.point = b.point) && decide (a.way = b.way) && decide (a.pace = b.pace) && decide (a.sign = b.sign) && decide (a.muted = b.muted)
theorem eqT_self (a : Trk) : eqT a a = true := by simp [eqT]
def reachB (g : Trk) : Nat → Trk → Bool
  | 0, x => eqT x g
  | k + 1, x => eqT x g || deedsS.any fun d => reachB g k (doT d x)
theorem no_way {g : Trk} : ∀ (k : Nat) {x : Trk}, reachB g k x = false → NoWay g k x
  | k, x, h, [], _, _ => fun e => by
    have e : x = g := e
    subst e
    cases k with
    | zero => simp [reachB, eqT_self] at h
    | succ k => simp [reachB, eqT_self] at h
  | 0, x, h, d :: v, hl, _ => by simp at hl
  | k + 1, x, h, d :: v, hl, hd => by
    unfold reachB at h
    rw [Bool.or_eq_false_iff] at h
    have h2 := List.any_eq_false.mp h.2 d (hd d List.mem_cons_self)
    exact no_way k (by simpa using h2) v (by simpa using hl) fun e he => hd e (List.mem_cons_of_mem _ he)
def condB (g : Trk) : Trk → List Deed → Bool
  | x, [] => eqT x g
  | x, d :: w => (deedsS.all fun e => !decide (rkD e < rkD d) || !reachB g w.length (doT e x)) && !reachB g w.length x && condB g (doT d x) w
theorem eqT_of {a b : Trk} (h : eqT a b = true) : a = b := by
  obtain ⟨m, L, U, p, w, c, s, t⟩ := a
  obtain ⟨m', L', U', p', w', c', s', t'⟩ := b
  simp only [eqT, Bool.and_eq_true, decide_eq_true_eq] at h
  obtain ⟨⟨⟨⟨⟨⟨⟨h1, h2⟩, h3⟩, h4⟩, h5⟩, h6⟩, h7⟩, h8⟩ := h
  have hm : m = m' := by cases m <;> cases m' <;> first | rfl | exact absurd h1 (by decide)
  subst hm h2 h3 h4 h5 h6 h7 h8
  rfl
theorem cond_of {g : Trk} : ∀ (w : List Deed) {x : Trk}, condB g x w = true → CondW g x w
  | [], _, h => eqT_of h
  | d :: w, x, h => by
    unfold condB at h
    rw [Bool.and_eq_true, Bool.and_eq_true, List.all_eq_true] at h
    obtain ⟨⟨h1, h2⟩, h3⟩ := h
    refine ⟨fun e he hlt => no_way w.length ?_, no_way w.length (by simpa using h2), cond_of w h3⟩
    have := h1 e he
    rw [decide_eq_true hlt] at this
    simpa using this
/-- a way that is searched through -/
theorem way_of {t g : Trk} {r : Option (List Deed)} (h : WayTo t g r) {w : List Deed} (hw : ∀ d ∈ w, d ∈ deedsS) (hc : condB g t w = true) : r = some w := way_near h (first_way hw (cond_of w hc))
end Mr
set_option maxRecDepth 100000
set_option maxHeartbeats 4000000
namespace Mr
open PySem L2 Dl
def tab54 : List (Trk × Nat × List Nat) := [
(⟨.play, [[1], [2], [4], [8]], [], 1, 1, 2, 1, false⟩, 6, [0, 1, 2, 0, 3]),
(⟨.stop, [[1], [2], [4], [8]], [], 0, 1, 2, 1, false⟩, 100, [4, 1, 5, 1, 6]),
(⟨.play, [[1], [2], [4]], [[8]], 1, 1, 2, 1, false⟩, 5, [7, 5, 8, 0, 9]),
(⟨.play, [[15]], [], 1, 1, 2, 1, false⟩, 100, [10, 6, 3, 3, 3]),
(⟨.play, [[1], [2], [4], [8]], [], 0, 1, 2, 1, false⟩, 100, [4, 1, 11, 4, 12]),
(⟨.stop, [[1], [2], [4]], [[8]], 0, 1, 2, 1, false⟩, 100, [11, 5, 13, 1, 14]),
(⟨.stop, [[15]], [], 0, 1, 2, 1, false⟩, 100, [12, 6, 6, 6, 6]),
(⟨.dub, [[1], [2], [4], [0]], [], 1, 1, 2, 1, false⟩, 6, [15, 16, 17, 7, 7]),
(⟨.play, [[1], [2]], [[8], [4]], 1, 1, 2, 1, false⟩, 4, [18, 13, 19, 2, 20]),
(⟨.play, [[7]], [], 1, 1, 2, 1, false⟩, 100, [21, 14, 9, 9, 9]),
(⟨.dub, [[15], [0]], [], 1, 1, 2, 1, false⟩, 100, [22, 23, 24, 10, 10]),
(⟨.play, [[1], [2], [4]], [[8]], 0, 1, 2, 1, false⟩, 100, [25, 5, 26, 4, 27]),
(⟨.play, [[15]], [], 0, 1, 2, 1, false⟩, 100, [28, 6, 12, 12, 12]),
(⟨.stop, [[1], [2]], [[8], [4]], 0, 1, 2, 1, false⟩, 100, [26, 13, 29, 5, 30]),
(⟨.stop, [[7]], [], 0, 1, 2, 1, false⟩, 100, [27, 14, 14, 14, 14]),
(⟨.play, [[1], [2], [4], [0]], [], 1, 1, 2, 1, false⟩, 6, [15, 16, 17, 15, 9]),
(⟨.stop, [[1], [2], [4], [0]], [], 0, 1, 2, 1, false⟩, 100, [31, 16, 32, 16, 14]),
(⟨.play, [[1], [2], [4]], [[0]], 1, 1, 2, 1, false⟩, 5, [7, 32, 33, 15, 9]),
(⟨.dub, [[1], [2], [0]], [], 1, 1, 2, 1, false⟩, 5, [34, 35, 36, 18, 18]),
(⟨.play, [[1]], [[8], [4], [2]], 1, 1, 2, 1, false⟩, 3, [37, 29, 19, 8, 19]),
(⟨.play, [[3]], [], 1, 1, 2, 1, false⟩, 100, [38, 30, 20, 20, 20]),
(⟨.dub, [[7], [0]], [], 1, 1, 2, 1, false⟩, 100, [39, 40, 41, 21, 21]),
(⟨.play, [[15], [0]], [], 1, 1, 2, 1, false⟩, 100, [42, 23, 24, 22, 3]),
(⟨.stop, [[15], [0]], [], 0, 1, 2, 1, false⟩, 100, [43, 23, 44, 23, 6]),
(⟨.play, [[15]], [[0]], 1, 1, 2, 1, false⟩, 100, [10, 44, 24, 22, 24]),
(⟨.dub, [[1], [2], [4], [0]], [], 0, 1, 2, 1, false⟩, 100, [31, 16, 45, 25, 25]),
(⟨.play, [[1], [2]], [[8], [4]], 0, 1, 2, 1, false⟩, 100, [46, 13, 47, 11, 48]),
(⟨.play, [[7]], [], 0, 1, 2, 1, false⟩, 100, [49, 14, 27, 27, 27]),
(⟨.dub, [[15], [0]], [], 0, 1, 2, 1, false⟩, 100, [43, 23, 50, 28, 28]),
(⟨.stop, [[1]], [[8], [4], [2]], 0, 1, 2, 1, false⟩, 100, [47, 29, 29, 13, 29]),
(⟨.stop, [[3]], [], 0, 1, 2, 1, false⟩, 100, [48, 30, 30, 30, 30]),
(⟨.play, [[1], [2], [4], [0]], [], 0, 1, 2, 1, false⟩, 100, [31, 16, 45, 31, 27]),
(⟨.stop, [[1], [2], [4]], [[0]], 0, 1, 2, 1, false⟩, 100, [45, 32, 51, 16, 14]),
(⟨.play, [[1], [2]], [[0], [4]], 1, 1, 2, 1, false⟩, 4, [18, 51, 52, 17, 20]),
(⟨.play, [[1], [2], [0]], [], 1, 1, 2, 1, false⟩, 5, [53, 35, 36, 34, 20]),
(⟨.stop, [[1], [2], [0]], [], 0, 1, 2, 1, false⟩, 100, [54, 35, 55, 35, 30]),
(⟨.play, [[1], [2]], [[0]], 1, 1, 2, 1, false⟩, 4, [18, 55, 56, 34, 20]),
(⟨.dub, [[1], [0]], [], 1, 1, 2, 1, false⟩, 2, [57, 58, 59, 37, 37]),
(⟨.dub, [[3], [0]], [], 1, 1, 2, 1, false⟩, 100, [60, 61, 62, 38, 38]),
(⟨.play, [[7], [0]], [], 1, 1, 2, 1, false⟩, 100, [63, 40, 41, 39, 9]),
(⟨.stop, [[7], [0]], [], 0, 1, 2, 1, false⟩, 100, [64, 40, 65, 40, 14]),
(⟨.play, [[7]], [[0]], 1, 1, 2, 1, false⟩, 100, [21, 65, 41, 39, 41]),
(⟨.dub, [[15], [0], [0]], [], 1, 1, 2, 1, false⟩, 100, [66, 67, 68, 42, 42]),
(⟨.play, [[15], [0]], [], 0, 1, 2, 1, false⟩, 100, [69, 23, 50, 43, 12]),
(⟨.stop, [[15]], [[0]], 0, 1, 2, 1, false⟩, 100, [50, 44, 44, 23, 44]),
(⟨.play, [[1], [2], [4]], [[0]], 0, 1, 2, 1, false⟩, 100, [25, 32, 70, 31, 27]),
(⟨.dub, [[1], [2], [0]], [], 0, 1, 2, 1, false⟩, 100, [54, 35, 71, 46, 46]),
(⟨.play, [[1]], [[8], [4], [2]], 0, 1, 2, 1, false⟩, 100, [72, 29, 47, 26, 47]),
(⟨.play, [[3]], [], 0, 1, 2, 1, false⟩, 100, [73, 30, 48, 48, 48]),
(⟨.dub, [[7], [0]], [], 0, 1, 2, 1, false⟩, 100, [64, 40, 74, 49, 49]),
(⟨.play, [[15]], [[0]], 0, 1, 2, 1, false⟩, 100, [28, 44, 50, 43, 50]),
(⟨.stop, [[1], [2]], [[0], [4]], 0, 1, 2, 1, false⟩, 100, [70, 51, 75, 32, 30]),
(⟨.play, [[1]], [[0], [4], [2]], 1, 1, 2, 1, false⟩, 3, [37, 75, 52, 33, 52]),
(⟨.dub, [[1], [2], [0], [0]], [], 1, 1, 2, 1, false⟩, 6, [76, 77, 78, 53, 53]),
(⟨.play, [[1], [2], [0]], [], 0, 1, 2, 1, false⟩, 100, [79, 35, 71, 54, 48]),
(⟨.stop, [[1], [2]], [[0]], 0, 1, 2, 1, false⟩, 100, [71, 55, 80, 35, 30]),
(⟨.play, [[1]], [[0], [2]], 1, 1, 2, 1, false⟩, 3, [37, 80, 56, 36, 56]),
(⟨.play, [[1], [0]], [], 1, 1, 2, 1, false⟩, 1, [81, 58, 59, 57, 82]),
(⟨.stop, [[1], [0]], [], 0, 1, 2, 1, false⟩, 100, [83, 58, 84, 58, 85]),
(⟨.play, [[1]], [[0]], 1, 1, 2, 1, false⟩, 2, [37, 84, 59, 57, 59]),
(⟨.play, [[3], [0]], [], 1, 1, 2, 1, false⟩, 100, [86, 61, 62, 60, 20]),
(⟨.stop, [[3], [0]], [], 0, 1, 2, 1, false⟩, 100, [87, 61, 88, 61, 30]),
(⟨.play, [[3]], [[0]], 1, 1, 2, 1, false⟩, 100, [38, 88, 62, 60, 62]),
(⟨.dub, [[7], [0], [0]], [], 1, 1, 2, 1, false⟩, 100, [89, 90, 91, 63, 63]),
(⟨.play, [[7], [0]], [], 0, 1, 2, 1, false⟩, 100, [92, 40, 74, 64, 27]),
(⟨.stop, [[7]], [[0]], 0, 1, 2, 1, false⟩, 100, [74, 65, 65, 40, 65]),
(⟨.play, [[15], [0], [0]], [], 1, 1, 2, 1, false⟩, 100, [93, 67, 68, 66, 3]),
(⟨.stop, [[15], [0], [0]], [], 0, 1, 2, 1, false⟩, 100, [94, 67, 95, 67, 6]),
(⟨.play, [[15], [0]], [[0]], 1, 1, 2, 1, false⟩, 100, [42, 95, 96, 66, 3]),
(⟨.dub, [[15], [0], [0]], [], 0, 1, 2, 1, false⟩, 100, [94, 67, 97, 69, 69]),
(⟨.play, [[1], [2]], [[0], [4]], 0, 1, 2, 1, false⟩, 100, [46, 51, 98, 45, 48]),
(⟨.play, [[1], [2]], [[0]], 0, 1, 2, 1, false⟩, 100, [46, 55, 99, 54, 48]),
(⟨.dub, [[1], [0]], [], 0, 1, 2, 1, false⟩, 100, [83, 58, 100, 72, 72]),
(⟨.dub, [[3], [0]], [], 0, 1, 2, 1, false⟩, 100, [87, 61, 101, 73, 73]),
(⟨.play, [[7]], [[0]], 0, 1, 2, 1, false⟩, 100, [49, 65, 74, 64, 74]),
(⟨.stop, [[1]], [[0], [4], [2]], 0, 1, 2, 1, false⟩, 100, [98, 75, 75, 51, 75]),
(⟨.play, [[1], [2], [0], [0]], [], 1, 1, 2, 1, false⟩, 6, [76, 77, 78, 76, 20]),
(⟨.stop, [[1], [2], [0], [0]], [], 0, 1, 2, 1, false⟩, 100, [102, 77, 103, 77, 30]),
(⟨.play, [[1], [2], [0]], [[0]], 1, 1, 2, 1, false⟩, 5, [53, 103, 104, 76, 20]),
(⟨.dub, [[1], [2], [0], [0]], [], 0, 1, 2, 1, false⟩, 100, [102, 77, 105, 79, 79]),
(⟨.stop, [[1]], [[0], [2]], 0, 1, 2, 1, false⟩, 100, [99, 80, 80, 55, 80]),
(⟨.dub, [[1], [0], [0]], [], 1, 1, 2, 1, false⟩, 2, [106, 107, 108, 81, 81]),
(⟨.play, [[1]], [], 1, 1, 2, 1, false⟩, 0, [37, 85, 82, 82, 82]),
(⟨.play, [[1], [0]], [], 0, 1, 2, 1, false⟩, 100, [109, 58, 100, 83, 110]),
(⟨.stop, [[1]], [[0]], 0, 1, 2, 1, false⟩, 100, [100, 84, 84, 58, 84]),
(⟨.stop, [[1]], [], 0, 1, 2, 1, false⟩, 100, [110, 85, 85, 85, 85]),
(⟨.dub, [[3], [0], [0]], [], 1, 1, 2, 1, false⟩, 100, [111, 112, 113, 86, 86]),
(⟨.play, [[3], [0]], [], 0, 1, 2, 1, false⟩, 100, [114, 61, 101, 87, 48]),
(⟨.stop, [[3]], [[0]], 0, 1, 2, 1, false⟩, 100, [101, 88, 88, 61, 88]),
(⟨.play, [[7], [0], [0]], [], 1, 1, 2, 1, false⟩, 100, [115, 90, 91, 89, 9]),
(⟨.stop, [[7], [0], [0]], [], 0, 1, 2, 1, false⟩, 100, [116, 90, 117, 90, 14]),
(⟨.play, [[7], [0]], [[0]], 1, 1, 2, 1, false⟩, 100, [63, 117, 118, 89, 9]),
(⟨.dub, [[7], [0], [0]], [], 0, 1, 2, 1, false⟩, 100, [116, 90, 119, 92, 92]),
(⟨.dub, [[15], [0], [0], [0]], [], 1, 1, 2, 1, false⟩, 100, [120, 121, 122, 93, 93]),
(⟨.play, [[15], [0], [0]], [], 0, 1, 2, 1, false⟩, 100, [123, 67, 97, 94, 12]),
(⟨.stop, [[15], [0]], [[0]], 0, 1, 2, 1, false⟩, 100, [97, 95, 124, 67, 6]),
(⟨.play, [[15]], [[0], [0]], 1, 1, 2, 1, false⟩, 100, [10, 124, 96, 68, 96]),
(⟨.play, [[15], [0]], [[0]], 0, 1, 2, 1, false⟩, 100, [69, 95, 125, 94, 12]),
(⟨.play, [[1]], [[0], [4], [2]], 0, 1, 2, 1, false⟩, 100, [72, 75, 98, 70, 98]),
(⟨.play, [[1]], [[0], [2]], 0, 1, 2, 1, false⟩, 100, [72, 80, 99, 71, 99]),
(⟨.play, [[1]], [[0]], 0, 1, 2, 1, false⟩, 100, [72, 84, 100, 83, 100]),
(⟨.play, [[3]], [[0]], 0, 1, 2, 1, false⟩, 100, [73, 88, 101, 87, 101]),
(⟨.play, [[1], [2], [0], [0]], [], 0, 1, 2, 1, false⟩, 100, [102, 77, 105, 102, 48]),
(⟨.stop, [[1], [2], [0]], [[0]], 0, 1, 2, 1, false⟩, 100, [105, 103, 126, 77, 30]),
(⟨.play, [[1], [2]], [[0], [0]], 1, 1, 2, 1, false⟩, 4, [18, 126, 127, 78, 20]),
(⟨.play, [[1], [2], [0]], [[0]], 0, 1, 2, 1, false⟩, 100, [79, 103, 128, 102, 48]),
(⟨.play, [[1], [0], [0]], [], 1, 1, 2, 1, false⟩, 1, [129, 107, 108, 106, 82]),
(⟨.stop, [[1], [0], [0]], [], 0, 1, 2, 1, false⟩, 100, [130, 107, 131, 107, 85]),
(⟨.play, [[1], [0]], [[0]], 1, 1, 2, 1, false⟩, 1, [81, 131, 132, 106, 82]),
(⟨.dub, [[1], [0], [0]], [], 0, 1, 2, 1, false⟩, 100, [130, 107, 133, 109, 109]),
(⟨.play, [[1]], [], 0, 1, 2, 1, false⟩, 100, [72, 85, 110, 110, 110]),
(⟨.play, [[3], [0], [0]], [], 1, 1, 2, 1, false⟩, 100, [134, 112, 113, 111, 20]),
(⟨.stop, [[3], [0], [0]], [], 0, 1, 2, 1, false⟩, 100, [135, 112, 136, 112, 30]),
(⟨.play, [[3], [0]], [[0]], 1, 1, 2, 1, false⟩, 100, [86, 136, 137, 111, 20]),
(⟨.dub, [[3], [0], [0]], [], 0, 1, 2, 1, false⟩, 100, [135, 112, 138, 114, 114]),
(⟨.dub, [[7], [0], [0], [0]], [], 1, 1, 2, 1, false⟩, 100, [139, 140, 141, 115, 115]),
(⟨.play, [[7], [0], [0]], [], 0, 1, 2, 1, false⟩, 100, [142, 90, 119, 116, 27]),
(⟨.stop, [[7], [0]], [[0]], 0, 1, 2, 1, false⟩, 100, [119, 117, 143, 90, 14]),
(⟨.play, [[7]], [[0], [0]], 1, 1, 2, 1, false⟩, 100, [21, 143, 118, 91, 118]),
(⟨.play, [[7], [0]], [[0]], 0, 1, 2, 1, false⟩, 100, [92, 117, 144, 116, 27]),
(⟨.play, [[15], [0], [0], [0]], [], 1, 1, 2, 1, false⟩, 100, [120, 121, 122, 120, 3]),
(⟨.stop, [[15], [0], [0], [0]], [], 0, 1, 2, 1, false⟩, 100, [145, 121, 146, 121, 6]),
(⟨.play, [[15], [0], [0]], [[0]], 1, 1, 2, 1, false⟩, 100, [93, 146, 147, 120, 3]),
(⟨.dub, [[15], [0], [0], [0]], [], 0, 1, 2, 1, false⟩, 100, [145, 121, 148, 123, 123]),
(⟨.stop, [[15]], [[0], [0]], 0, 1, 2, 1, false⟩, 100, [125, 124, 124, 95, 124]),
(⟨.play, [[15]], [[0], [0]], 0, 1, 2, 1, false⟩, 100, [28, 124, 125, 97, 125]),
(⟨.stop, [[1], [2]], [[0], [0]], 0, 1, 2, 1, false⟩, 100, [128, 126, 149, 103, 30]),
(⟨.play, [[1]], [[0], [0], [2]], 1, 1, 2, 1, false⟩, 3, [37, 149, 127, 104, 127]),
(⟨.play, [[1], [2]], [[0], [0]], 0, 1, 2, 1, false⟩, 100, [46, 126, 150, 105, 48]),
(⟨.dub, [[1], [0], [0], [0]], [], 1, 1, 2, 1, false⟩, 2, [151, 152, 153, 129, 129]),
(⟨.play, [[1], [0], [0]], [], 0, 1, 2, 1, false⟩, 100, [154, 107, 133, 130, 110]),
(⟨.stop, [[1], [0]], [[0]], 0, 1, 2, 1, false⟩, 100, [133, 131, 155, 107, 85]),
(⟨.play, [[1]], [[0], [0]], 1, 1, 2, 1, false⟩, 2, [37, 155, 132, 108, 132]),
(⟨.play, [[1], [0]], [[0]], 0, 1, 2, 1, false⟩, 100, [109, 131, 156, 130, 110]),
(⟨.dub, [[3], [0], [0], [0]], [], 1, 1, 2, 1, false⟩, 100, [157, 158, 159, 134, 134]),
(⟨.play, [[3], [0], [0]], [], 0, 1, 2, 1, false⟩, 100, [160, 112, 138, 135, 48]),
(⟨.stop, [[3], [0]], [[0]], 0, 1, 2, 1, false⟩, 100, [138, 136, 161, 112, 30]),
(⟨.play, [[3]], [[0], [0]], 1, 1, 2, 1, false⟩, 100, [38, 161, 137, 113, 137]),
(⟨.play, [[3], [0]], [[0]], 0, 1, 2, 1, false⟩, 100, [114, 136, 162, 135, 48]),
(⟨.play, [[7], [0], [0], [0]], [], 1, 1, 2, 1, false⟩, 100, [139, 140, 141, 139, 9]),
(⟨.stop, [[7], [0], [0], [0]], [], 0, 1, 2, 1, false⟩, 100, [163, 140, 164, 140, 14]),
(⟨.play, [[7], [0], [0]], [[0]], 1, 1, 2, 1, false⟩, 100, [115, 164, 165, 139, 9]),
(⟨.dub, [[7], [0], [0], [0]], [], 0, 1, 2, 1, false⟩, 100, [163, 140, 166, 142, 142]),
(⟨.stop, [[7]], [[0], [0]], 0, 1, 2, 1, false⟩, 100, [144, 143, 143, 117, 143]),
(⟨.play, [[7]], [[0], [0]], 0, 1, 2, 1, false⟩, 100, [49, 143, 144, 119, 144]),
(⟨.play, [[15], [0], [0], [0]], [], 0, 1, 2, 1, false⟩, 100, [145, 121, 148, 145, 12]),
(⟨.stop, [[15], [0], [0]], [[0]], 0, 1, 2, 1, false⟩, 100, [148, 146, 167, 121, 6]),
(⟨.play, [[15], [0]], [[0], [0]], 1, 1, 2, 1, false⟩, 100, [42, 167, 168, 122, 3]),
(⟨.play, [[15], [0], [0]], [[0]], 0, 1, 2, 1, false⟩, 100, [123, 146, 169, 145, 12]),
(⟨.stop, [[1]], [[0], [0], [2]], 0, 1, 2, 1, false⟩, 100, [150, 149, 149, 126, 149]),
(⟨.play, [[1]], [[0], [0], [2]], 0, 1, 2, 1, false⟩, 100, [72, 149, 150, 128, 150]),
(⟨.play, [[1], [0], [0], [0]], [], 1, 1, 2, 1, false⟩, 1, [151, 152, 153, 151, 82]),
(⟨.stop, [[1], [0], [0], [0]], [], 0, 1, 2, 1, false⟩, 100, [170, 152, 171, 152, 85]),
(⟨.play, [[1], [0], [0]], [[0]], 1, 1, 2, 1, false⟩, 1, [129, 171, 172, 151, 82]),
(⟨.dub, [[1], [0], [0], [0]], [], 0, 1, 2, 1, false⟩, 100, [170, 152, 173, 154, 154]),
(⟨.stop, [[1]], [[0], [0]], 0, 1, 2, 1, false⟩, 100, [156, 155, 155, 131, 155]),
(⟨.play, [[1]], [[0], [0]], 0, 1, 2, 1, false⟩, 100, [72, 155, 156, 133, 156]),
(⟨.play, [[3], [0], [0], [0]], [], 1, 1, 2, 1, false⟩, 100, [157, 158, 159, 157, 20]),
(⟨.stop, [[3], [0], [0], [0]], [], 0, 1, 2, 1, false⟩, 100, [174, 158, 175, 158, 30]),
(⟨.play, [[3], [0], [0]], [[0]], 1, 1, 2, 1, false⟩, 100, [134, 175, 176, 157, 20]),
(⟨.dub, [[3], [0], [0], [0]], [], 0, 1, 2, 1, false⟩, 100, [174, 158, 177, 160, 160]),
(⟨.stop, [[3]], [[0], [0]], 0, 1, 2, 1, false⟩, 100, [162, 161, 161, 136, 161]),
(⟨.play, [[3]], [[0], [0]], 0, 1, 2, 1, false⟩, 100, [73, 161, 162, 138, 162]),
(⟨.play, [[7], [0], [0], [0]], [], 0, 1, 2, 1, false⟩, 100, [163, 140, 166, 163, 27]),
(⟨.stop, [[7], [0], [0]], [[0]], 0, 1, 2, 1, false⟩, 100, [166, 164, 178, 140, 14]),
(⟨.play, [[7], [0]], [[0], [0]], 1, 1, 2, 1, false⟩, 100, [63, 178, 179, 141, 9]),
(⟨.play, [[7], [0], [0]], [[0]], 0, 1, 2, 1, false⟩, 100, [142, 164, 180, 163, 27]),
(⟨.stop, [[15], [0]], [[0], [0]], 0, 1, 2, 1, false⟩, 100, [169, 167, 181, 146, 6]),
(⟨.play, [[15]], [[0], [0], [0]], 1, 1, 2, 1, false⟩, 100, [10, 181, 168, 147, 168]),
(⟨.play, [[15], [0]], [[0], [0]], 0, 1, 2, 1, false⟩, 100, [69, 167, 182, 148, 12]),
(⟨.play, [[1], [0], [0], [0]], [], 0, 1, 2, 1, false⟩, 100, [170, 152, 173, 170, 110]),
(⟨.stop, [[1], [0], [0]], [[0]], 0, 1, 2, 1, false⟩, 100, [173, 171, 183, 152, 85]),
(⟨.play, [[1], [0]], [[0], [0]], 1, 1, 2, 1, false⟩, 1, [81, 183, 184, 153, 82]),
(⟨.play, [[1], [0], [0]], [[0]], 0, 1, 2, 1, false⟩, 100, [154, 171, 185, 170, 110]),
(⟨.play, [[3], [0], [0], [0]], [], 0, 1, 2, 1, false⟩, 100, [174, 158, 177, 174, 48]),
(⟨.stop, [[3], [0], [0]], [[0]], 0, 1, 2, 1, false⟩, 100, [177, 175, 186, 158, 30]),
(⟨.play, [[3], [0]], [[0], [0]], 1, 1, 2, 1, false⟩, 100, [86, 186, 187, 159, 20]),
(⟨.play, [[3], [0], [0]], [[0]], 0, 1, 2, 1, false⟩, 100, [160, 175, 188, 174, 48]),
(⟨.stop, [[7], [0]], [[0], [0]], 0, 1, 2, 1, false⟩, 100, [180, 178, 189, 164, 14]),
(⟨.play, [[7]], [[0], [0], [0]], 1, 1, 2, 1, false⟩, 100, [21, 189, 179, 165, 179]),
(⟨.play, [[7], [0]], [[0], [0]], 0, 1, 2, 1, false⟩, 100, [92, 178, 190, 166, 27]),
(⟨.stop, [[15]], [[0], [0], [0]], 0, 1, 2, 1, false⟩, 100, [182, 181, 181, 167, 181]),
(⟨.play, [[15]], [[0], [0], [0]], 0, 1, 2, 1, false⟩, 100, [28, 181, 182, 169, 182]),
(⟨.stop, [[1], [0]], [[0], [0]], 0, 1, 2, 1, false⟩, 100, [185, 183, 191, 171, 85]),
(⟨.play, [[1]], [[0], [0], [0]], 1, 1, 2, 1, false⟩, 2, [37, 191, 184, 172, 184]),
(⟨.play, [[1], [0]], [[0], [0]], 0, 1, 2, 1, false⟩, 100, [109, 183, 192, 173, 110]),
(⟨.stop, [[3], [0]], [[0], [0]], 0, 1, 2, 1, false⟩, 100, [188, 186, 193, 175, 30]),
(⟨.play, [[3]], [[0], [0], [0]], 1, 1, 2, 1, false⟩, 100, [38, 193, 187, 176, 187]),
(⟨.play, [[3], [0]], [[0], [0]], 0, 1, 2, 1, false⟩, 100, [114, 186, 194, 177, 48]),
(⟨.stop, [[7]], [[0], [0], [0]], 0, 1, 2, 1, false⟩, 100, [190, 189, 189, 178, 189]),
(⟨.play, [[7]], [[0], [0], [0]], 0, 1, 2, 1, false⟩, 100, [49, 189, 190, 180, 190]),
(⟨.stop, [[1]], [[0], [0], [0]], 0, 1, 2, 1, false⟩, 100, [192, 191, 191, 183, 191]),
(⟨.play, [[1]], [[0], [0], [0]], 0, 1, 2, 1, false⟩, 100, [72, 191, 192, 185, 192]),
(⟨.stop, [[3]], [[0], [0], [0]], 0, 1, 2, 1, false⟩, 100, [194, 193, 193, 186, 193]),
(⟨.play, [[3]], [[0], [0], [0]], 0, 1, 2, 1, false⟩, 100, [73, 193, 194, 188, 194])
]
def mkF (b : Trk) (w c g : Int) (mu : Bool) : Trk := { b with way := w, pace := c, sign := g, muted := mu }
def five54 : List Deed := [.tap, .stop, .undo, .redo, .join]
def at54 (i : Nat) : Trk × Nat × List Nat := tab54.getD i (emptyT, 0, [])
def chk54 (p : Trk × Nat × List Nat) : Bool := p.1.mode.loops && eqT p.1 (mkF p.1 1 2 1 false) && (decide (p.2.2.length = 5)) && (five54.zip p.2.2).all fun z => eqT (at54 z.2).1 (doT z.1 p.1) && decide (p.2.1 ≤ (at54 z.2).2.1 + 1) && decide (z.2 < tab54.length)
theorem tab_ok : tab54.all chk54 = true := by decide +kernel
theorem tab_len : tab54.length = 195 := by decide +kernel
structure In54 (p : Trk × Nat × List Nat) : Prop where
  lp : p.1.mode.loops = true
  to : ∀ d ∈ five54, ∃ q ∈ tab54, q.1 = doT d p.1 ∧ p.2.1 ≤ q.2.1 + 1
theorem in54 {p : Trk × Nat × List Nat} (hp : p ∈ tab54) : In54 p := by
  have h := List.all_eq_true.mp tab_ok p hp
  unfold chk54 at h
  rw [Bool.and_eq_true, Bool.and_eq_true, Bool.and_eq_true, List.all_eq_true] at h
  obtain ⟨⟨⟨h1, _⟩, h3⟩, h4⟩ := h
  have h3 : p.2.2.length = 5 := of_decide_eq_true h3
  refine ⟨h1, fun d hd => ?_⟩
  obtain ⟨i, hi, rfl⟩ := List.getElem_of_mem hd
  have hi5 : i < 5 := hi
  have hz : (five54[i], p.2.2[i]'(by omega)) ∈ five54.zip p.2.2 := by
    refine List.mem_iff_getElem.mpr ⟨i, by rw [List.length_zip, h3]; exact hi, ?_⟩
    rw [List.getElem_zip]
    rfl
  have h := h4 _ hz
  rw [Bool.and_eq_true, Bool.and_eq_true] at h
  obtain ⟨⟨a, b⟩, c⟩ := h
  have c : p.2.2[i]'(by omega) < tab54.length := of_decide_eq_true c
  refine ⟨at54 (p.2.2[i]'(by omega)), ?_, eqT_of a, of_decide_eq_true b⟩
  unfold at54
  rw [List.getD_eq_getElem?_getD, List.getElem?_eq_getElem c]
  exact List.getElem_mem c
theorem do_mk {b : Trk} (h : b.mode.loops = true) (w c g : Int) (mu : Bool) {d : Deed} (hd : d ∈ five54) : doT d (mkF b w c g mu) = mkF (doT d b) w c g mu := by
  obtain ⟨m, L, U, p, w', c', g', mu'⟩ := b
  simp only [five54, List.mem_cons, List.not_mem_nil, or_false] at hd
  rcases hd with rfl | rfl | rfl | rfl | rfl
  · cases m with
    | empty => cases h
    | record => cases h
    | play =>
      by_cases o : L.length = 4
      · simp [doT, mkF, o]
      · simp [doT, mkF, o, Trk.size]
    | dub => rfl
    | stop => rfl
  · cases m with
    | empty => cases h
    | record => cases h
    | play => rfl
    | dub => rfl
    | stop => rfl
  · by_cases o : m.loops = true ∧ 2 ≤ L.length
    · simp only [doT, mkF, o, and_self, if_true]
      rfl
    · simp only [doT, mkF, o, if_false]
  · by_cases o : (m = .play ∨ m = .stop) ∧ U ≠ []
    · have c1 : ((m = .play ∨ m = .stop) ∧ U ≠ []) = True := eq_true o
      simp only [doT, mkF, c1, if_true]
    · have c1 : ((m = .play ∨ m = .stop) ∧ U ≠ []) = False := eq_false o
      simp only [doT, mkF, c1, if_false]
  · by_cases o : (m = .play ∨ m = .stop) ∧ 2 ≤ L.length
    · have c1 : ((m = .play ∨ m = .stop) ∧ 2 ≤ L.length) = True := eq_true o
      simp only [doT, mkF, c1, if_true, Trk.size]
    · have c1 : ((m = .play ∨ m = .stop) ∧ 2 ≤ L.length) = False := eq_false o
      simp only [doT, mkF, c1, if_false]
theorem deed5 {d : Deed} (hd : d ∈ deedsS) : d = .clear ∨ d = .flip ∨ d = .mute ∨ d = .turn ∨ (∃ k, d = .pace k ∧ (k = 1 ∨ k = 2 ∨ k = 4)) ∨ d ∈ five54 := by
  simp only [deedsS, List.mem_cons, List.not_mem_nil, or_false] at hd
  rcases hd with rfl | rfl | rfl | rfl | rfl | rfl | rfl | rfl | rfl | rfl | rfl | rfl <;> simp [five54]
theorem fl_mk {b : Trk} (h : b.mode.loops = true) (w c g : Int) (mu : Bool) : doT .flip (mkF b w c g mu) = mkF b w c (-g) mu ∧ doT .mute (mkF b w c g mu) = mkF b w c g (!mu) ∧ doT .turn (mkF b w c g mu) = mkF b (-w) c g mu ∧ ∀ k, doT (.pace k) (mkF b w c g mu) = mkF b w k g mu := by
  have h : (mkF b w c g mu).mode.loops = true := h
  exact ⟨(if_pos h).trans rfl, (if_pos h).trans rfl, (if_pos h).trans rfl, fun k => (if_pos h).trans rfl⟩
def fp54 (w c g : Int) (mu : Bool) : Nat := (if w = -1 then 0 else 1) + (if c = 4 then 0 else 1) + (if g = -1 then 0 else 1) + (if mu = true then 0 else 1)
/-- at least so many presses from the goal -/
inductive LB : Trk → Nat → Prop
  | empty (k : Nat) : LB emptyT k
  | record (k : Nat) : LB (recT []) k
  | at {p : Trk × Nat × List Nat} {w c g : Int} {mu : Bool} {k : Nat} : p ∈ tab54 → (w = 1 ∨ w = -1) → (g = 1 ∨ g = -1) → k ≤ p.2.1 + fp54 w c g mu → LB (mkF p.1 w c g mu) k
theorem LB.press {x : Trk} {k : Nat} (h : LB x (k + 1)) {d : Deed} (hd : d ∈ deedsS) : LB (doT d x) k := by
  cases h with
  | empty => rcases emp_do hd with e | e <;> rw [e]
             · exact .empty _
             · exact .record _
  | record =>
    rcases rec_do (l := []) hd with e | e | ⟨e, _⟩
    · rw [e]; exact .empty _
    · rw [e]; exact .record _
    · exact absurd rfl e
  | @«at» p w c g mu _ hp hw hg hk =>
    obtain ⟨lp, to⟩ := in54 hp
    obtain ⟨f1, f2, f3, f4⟩ := fl_mk lp w c g mu
    rcases deed5 hd with rfl | rfl | rfl | rfl | ⟨j, rfl, _⟩ | hd
    · exact .empty _
    · rw [f1]
      refine .at hp hw (by omega) (Nat.le_of_succ_le_succ (Nat.le_trans hk ?_))
      have : fp54 w c g mu ≤ fp54 w c (-g) mu + 1 := by
        unfold fp54
        rcases hg with rfl | rfl <;> simp <;> omega
      omega
    · rw [f2]
      refine .at hp hw hg (Nat.le_of_succ_le_succ (Nat.le_trans hk ?_))
      have : fp54 w c g mu ≤ fp54 w c g (!mu) + 1 := by
        unfold fp54
        cases mu <;> simp <;> omega
      omega
    · rw [f3]
      refine .at hp (by omega) hg (Nat.le_of_succ_le_succ (Nat.le_trans hk ?_))
      have : fp54 w c g mu ≤ fp54 (-w) c g mu + 1 := by
        unfold fp54
        rcases hw with rfl | rfl <;> simp <;> omega
      omega
    · rw [f4]
      refine .at hp hw hg (Nat.le_of_succ_le_succ (Nat.le_trans hk ?_))
      have : fp54 w c g mu ≤ fp54 w j g mu + 1 := by
        unfold fp54
        split <;> split <;> split <;> split <;> split <;> omega
      omega
    · rw [do_mk lp w c g mu hd]
      obtain ⟨q, hq, e, he⟩ := to d hd
      rw [← e]
      exact .at hq hw hg (by omega)
def goal54 : Trk := ⟨.play, [[1]], [], 1, -1, 4, -1, true⟩
def long54 : Trk := ⟨.play, [[1], [2], [4], [8]], [], 1, 1, 2, 1, false⟩
theorem tab_goal : (tab54.all fun p => !eqT (mkF p.1 (-1) 4 (-1) true) goal54 || decide (p.2.1 = 0)) = true := by decide +kernel
theorem LB.goal {k : Nat} (h : LB goal54 k) : k = 0 := by
  generalize hg : goal54 = x at h
  cases h with
  | empty => exact absurd hg (by simp [goal54, emptyT])
  | record => exact absurd hg (by simp [goal54, recT])
  | @«at» p w c g mu _ hp hw hgg hk =>
    have e := hg
    have hw' : (-1 : Int) = w := congrArg Trk.way hg
    have hc' : (4 : Int) = c := congrArg Trk.pace hg
    have hg' : (-1 : Int) = g := congrArg Trk.sign hg
    have hm' : true = mu := congrArg Trk.muted hg
    subst hw' hc' hg' hm'
    have h := List.all_eq_true.mp tab_goal p hp
    rw [← e, eqT_self] at h
    have h : p.2.1 = 0 := by simpa using h
    rw [h] at hk
    simpa [fp54] using hk
theorem LB.no : ∀ (k : Nat) {x : Trk}, LB x (k + 1) → NoWay goal54 k x
  | k, x, h, [], _, _ => fun e => by
    have e : x = goal54 := e
    subst e
    have := h.goal
    omega
  | 0, x, h, d :: v, hl, _ => by simp at hl
  | k + 1, x, h, d :: v, hl, hd => LB.no k (h.press (hd d List.mem_cons_self)) v (by simpa using hl) fun e he => hd e (List.mem_cons_of_mem _ he)
def lbB (x : Trk) (k : Nat) : Bool := eqT x emptyT || ((x.way == 1 || x.way == -1) && (x.sign == 1 || x.sign == -1) && tab54.any fun p => decide (p.1.layers = x.layers) && decide (p.1.undone = x.undone) && decide (k ≤ p.2.1 + fp54 x.way x.pace x.sign x.muted) && eqT (mkF p.1 x.way x.pace x.sign x.muted) x)
theorem lb_of {x : Trk} {k : Nat} (h : lbB x k = true) : LB x k := by
  unfold lbB at h
  rw [Bool.or_eq_true, Bool.and_eq_true, Bool.and_eq_true, Bool.or_eq_true, Bool.or_eq_true] at h
  rcases h with h | ⟨⟨h1, h2⟩, h3⟩
  · rw [eqT_of h]; exact .empty _
  · obtain ⟨p, hp, h4⟩ := List.any_eq_true.mp h3
    rw [Bool.and_eq_true, Bool.and_eq_true] at h4
    rw [← eqT_of h4.2]
    exact .at hp (by simpa using h1) (by simpa using h2) (of_decide_eq_true h4.1.2)
def condL : Trk → List Deed → Bool
  | x, [] => eqT x goal54
  | x, d :: w => (deedsS.all fun e => !decide (rkD e < rkD d) || lbB (doT e x) (w.length + 1)) && lbB x (w.length + 1) && condL (doT d x) w
theorem condL_of : ∀ (w : List Deed) {x : Trk}, condL x w = true → CondW goal54 x w
  | [], _, h => eqT_of h
  | d :: w, x, h => by
    unfold condL at h
    rw [Bool.and_eq_true, Bool.and_eq_true, List.all_eq_true] at h
    obtain ⟨⟨h1, h2⟩, h3⟩ := h
    refine ⟨fun e he hlt => LB.no w.length (lb_of ?_), LB.no w.length (lb_of h2), condL_of w h3⟩
    have := h1 e he
    rw [decide_eq_true hlt] at this
    simpa using this
def way54 : List Deed := [.flip, .mute, .pace 4, .turn, .undo, .undo, .undo, .tap, .tap, .join]
theorem cond54 : condL long54 way54 = true := by decide +kernel
def flds54 : List (Int × Int × Int × Bool) := [(1 : Int), -1].flatMap fun w => [(1 : Int), 2, 4].flatMap fun c => [(1 : Int), -1].flatMap fun g => [true, false].map fun mu => (w, c, g, mu)
theorem mem_flds {w c g : Int} {mu : Bool} (hw : w = 1 ∨ w = -1) (hc : c = 1 ∨ c = 2 ∨ c = 4) (hg : g = 1 ∨ g = -1) : (w, c, g, mu) ∈ flds54 := by
  rcases hw with rfl | rfl <;> rcases hc with rfl | rfl | rfl <;> rcases hg with rfl | rfl <;> cases mu <;> decide
theorem flds_mem {f : Int × Int × Int × Bool} (h : f ∈ flds54) : (f.1 = 1 ∨ f.1 = -1) ∧ (f.2.1 = 1 ∨ f.2.1 = 2 ∨ f.2.1 = 4) ∧ (f.2.2.1 = 1 ∨ f.2.2.1 = -1) := by
  have : ∀ f ∈ flds54, (f.1 = 1 ∨ f.1 = -1) ∧ (f.2.1 = 1 ∨ f.2.1 = 2 ∨ f.2.1 = 4) ∧ (f.2.2.1 = 1 ∨ f.2.2.1 = -1) := by decide
  exact this f h
noncomputable def setL : List Trk := (emptyT :: recT [] :: (tab54.flatMap fun p => flds54.map fun f => mkF p.1 f.1 f.2.1 f.2.2.1 f.2.2.2)).filter okTB
theorem setL_len : setL.length ≤ 50000 := by
  unfold setL
  refine Nat.le_trans (List.length_filter_le _ _) ?_
  have h : ∀ l : List (Trk × Nat × List Nat), (l.flatMap fun p => flds54.map fun f => mkF p.1 f.1 f.2.1 f.2.2.1 f.2.2.2).length = 24 * l.length := by
    intro l
    induction l with
    | nil => rfl
    | cons p l ih =>
      rw [List.flatMap_cons, List.length_append, ih, List.length_map, List.length_cons]
      have : flds54.length = 24 := by decide
      omega
  rw [List.length_cons, List.length_cons, h, tab_len]
  omega
theorem mem_setL {x : Trk} : x ∈ setL ↔ OkT x ∧ (x = emptyT ∨ x = recT [] ∨ ∃ p ∈ tab54, ∃ f ∈ flds54, x = mkF p.1 f.1 f.2.1 f.2.2.1 f.2.2.2) := by
  unfold setL
  rw [List.mem_filter, okTB_iff, and_comm]
  refine and_congr_right fun _ => ?_
  rw [List.mem_cons, List.mem_cons, List.mem_flatMap]
  refine or_congr_right (or_congr_right ?_)
  constructor
  · rintro ⟨p, hp, h⟩
    obtain ⟨f, hf, rfl⟩ := List.mem_map.mp h
    exact ⟨p, hp, f, hf, rfl⟩
  · rintro ⟨p, hp, f, hf, rfl⟩
    exact ⟨p, hp, List.mem_map.mpr ⟨f, hf, rfl⟩⟩
theorem clos_L : Clos setL := by
  refine ⟨fun x hx => (mem_setL.mp hx).1, fun x hx d hd => ?_⟩
  obtain ⟨ok, hx⟩ := mem_setL.mp hx
  refine mem_setL.mpr ⟨doT_ok ok d (deed_ok hd), ?_⟩
  rcases hx with rfl | rfl | ⟨p, hp, ⟨w, c, g, mu⟩, hf, rfl⟩
  · rcases emp_do hd with h | h
    · exact .inl h
    · exact .inr (.inl h)
  · rcases rec_do (l := []) hd with h | h | ⟨h, _⟩
    · exact .inl h
    · exact .inr (.inl h)
    · exact absurd rfl h
  · obtain ⟨hw, hc, hg⟩ := flds_mem hf
    obtain ⟨lp, to⟩ := in54 hp
    obtain ⟨f1, f2, f3, f4⟩ := fl_mk lp w c g mu
    have hw : w = 1 ∨ w = -1 := hw
    have hc : c = 1 ∨ c = 2 ∨ c = 4 := hc
    have hg : g = 1 ∨ g = -1 := hg
    rcases deed5 hd with rfl | rfl | rfl | rfl | ⟨j, rfl, hj⟩ | hd
    · exact .inl rfl
    · exact .inr (.inr ⟨p, hp, (w, c, -g, mu), mem_flds hw hc (by omega), f1⟩)
    · exact .inr (.inr ⟨p, hp, (w, c, g, !mu), mem_flds hw hc hg, f2⟩)
    · exact .inr (.inr ⟨p, hp, (-w, c, g, mu), mem_flds (by omega) hc hg, f3⟩)
    · exact .inr (.inr ⟨p, hp, (w, j, g, mu), mem_flds hw hj hg, f4 j⟩)
    · obtain ⟨q, hq, e, _⟩ := to d hd
      exact .inr (.inr ⟨q, hq, (w, c, g, mu), hf, by rw [e]; exact do_mk lp w c g mu hd⟩)
theorem ok_long : OkT long54 := .play rfl ⟨by decide, by decide, by decide, by decide, by decide, by decide, by decide, by decide, .inl rfl, .inr (.inl rfl), .inl rfl⟩
theorem ok_goal54 : OkT goal54 := .play rfl ⟨by decide, by decide, by decide, by decide, by decide, by decide, by decide, by decide, .inr rfl, .inr (.inr rfl), .inr rfl⟩
theorem long_in : long54 ∈ setL := mem_setL.mpr ⟨ok_long, .inr (.inr ⟨_, List.mem_cons_self, (1, 2, 1, false), by decide, rfl⟩)⟩
theorem way_long {r : Option (List Deed)} (h : WayTo long54 goal54 r) : r = some way54 := way_near h (first_way (by simp [way54, deedsS]) (condL_of way54 cond54))
end Mr
set_option maxRecDepth 100000
set_option maxHeartbeats 4000000
namespace Mr
open PySem L2 Dl
def lenD : PyData → Nat
  | .tuple xs => xs.length
  | _ => 0
def layB (a b : Int) : PyData → Bool
  | .tuple xs => decide (a ≤ (xs.length : Int)) && (decide ((xs.length : Int) ≤ b) && xs.all isNum)
  | _ => false
theorem num_comp (xs : List PyData) (hl : xs.length ≤ 1000000) (ρ : Rho) (i : Nat) (hi : i < ρ.length) (st : DS) : compL (.name i) tYes' (eApp F_is_number 1 (aCons (eVar i) aNil)) ρ xs [] st = .ok (xs.map fun x => PyData.bool (isNum x)) st := by
  refine compL_ok (fun x => .bool (isNum x)) xs hl fun x hx => ⟨ρ.set i (some (.d x)), rfl, ?_⟩
  have e : (ρ.set i (some (Val.d x)))[i]? = some (some (.d x)) := List.getElem?_set_self hi
  simp! [e, m_is_number]
theorem m_is_layer (x : PyData) (a b : Int) (hb : b ≤ 1000000) (st : DS) : F_is_layer [.d x, .d (.int a), .d (.int b)] st = .ok (.d (.bool (layB a b x))) st := by
  refine ok_of ?_
  cases x with
  | tuple xs =>
    by_cases h1 : a ≤ (xs.length : Int) <;> by_cases h2 : (xs.length : Int) ≤ b
    · have hc := num_comp xs (by omega) [some (.d (.tuple xs)), some (.d (.int a)), some (.d (.int b)), none] 3 (by simp) st
      have ha := allB isNum xs
      simp! [F_is_layer, w_fn, B_is_layer, layB, h1, h2, hc, ha]
    all_goals simp! [F_is_layer, w_fn, B_is_layer, layB, h1, h2]
  | _ => all_goals simp! [F_is_layer, w_fn, B_is_layer, layB]
def areB : PyData → PyData → Bool
  | .tuple (l :: L), .tuple U => decide (((l :: L) ++ U).length ≤ 4) && (layB 1 64 l && ((l :: L) ++ U).all (layB (lenD l) (lenD l)))
  | _, _ => false
theorem layB_len {a b : Int} {x : PyData} (h : layB a b x = true) : ∃ xs, x = .tuple xs ∧ a ≤ (xs.length : Int) ∧ (xs.length : Int) ≤ b ∧ xs.all isNum = true := by
  cases x with
  | tuple xs =>
    simp only [layB, Bool.and_eq_true, decide_eq_true_eq] at h
    exact ⟨xs, rfl, h.1, h.2.1, h.2.2⟩
  | _ => all_goals cases h
theorem lay_comp (n : Nat) (hn : n ≤ 1000000) (Ls : List PyData) (hl : Ls.length ≤ 1000000) (a b : Option Val) (st : DS) : compL (.name 3) tYes' (eApp F_is_layer 3 (aCons (eVar 3) (aCons (eVar 2) (aCons (eVar 2) aNil)))) [a, b, some (.d (.int (n : Nat))), none] Ls [] st = .ok (Ls.map fun x => PyData.bool (layB n n x)) st := by
  refine compL_ok (fun x => .bool (layB n n x)) Ls hl fun x hx => ⟨_, rfl, ?_⟩
  simp! [m_is_layer x n n (by omega)]
theorem m_are_layers (x y : PyData) (hs : lenD x + lenD y ≤ 1000000) (st : DS) : F_are_layers [.d x, .d y] st = .ok (.d (.bool (areB x y))) st := by
  refine ok_of ?_
  cases x with
  | tuple xs =>
    cases y with
    | tuple U =>
      cases xs with
      | nil => simp! [F_are_layers, w_fn, B_are_layers, eq_t0, areB]
      | cons l L =>
        simp only [lenD, List.length_cons] at hs
        have hs' : L.length + 1 + U.length ≤ 1000000 := hs
        have g4 : ((4 : Int) < (((L ++ U).length + 1 : Nat) : Int)) = ¬ (L.length + 1 + U.length ≤ 4) := by simp; omega
        have d4 : decide (((l :: L) ++ U).length ≤ 4) = decide (L.length + 1 + U.length ≤ 4) := by rw [decide_eq_decide]; simp; omega
        by_cases h4 : L.length + 1 + U.length ≤ 4
        · cases hb : layB 1 64 l with
          | false =>
            have e : areB (.tuple (l :: L)) (.tuple U) = false := by simp only [areB, hb, Bool.false_and, Bool.and_false]
            simp! [F_are_layers, w_fn, B_are_layers, eq_t0, e, q_addt, hs', g4, h4, m_is_layer l 1 64 (by omega), hb]
          | true =>
            obtain ⟨cs, rfl, c1, c2, _⟩ := layB_len hb
            have e : areB (.tuple (.tuple cs :: L)) (.tuple U) = ((.tuple cs :: L) ++ U).all (layB cs.length cs.length) := by simp only [areB, hb, d4, decide_eq_true h4, Bool.true_and, lenD]
            have hc := lay_comp cs.length (by omega) (.tuple cs :: (L ++ U)) (by simp; omega)
            have ha := allB (layB cs.length cs.length) (.tuple cs :: (L ++ U))
            simp only [List.map_append, List.map_cons] at hc ha
            simp! [F_are_layers, w_fn, B_are_layers, eq_t0, e, q_addt, hs', g4, h4, m_is_layer (.tuple cs) 1 64 (by omega), hb, hc, ha]
        · have e : areB (.tuple (l :: L)) (.tuple U) = false := by simp only [areB, d4, decide_eq_false h4, Bool.false_and]
          simp! [F_are_layers, w_fn, B_are_layers, eq_t0, e, q_addt, hs', g4, h4]
    | _ => all_goals (cases xs <;> simp! [F_are_layers, w_fn, B_are_layers, areB])
  | _ => all_goals simp! [F_are_layers, w_fn, B_are_layers, areB]
def signB (x : PyData) : Bool := match x with
  | .int i => (decide (-1 ≤ i) && decide (i ≤ 1)) && !decide (i = 0)
  | _ => false
def paceB (x : PyData) : Bool := match x with
  | .int i => (decide (1 ≤ i) && decide (i ≤ 4)) && (decide (1 = i) || (decide (2 = i) || decide (4 = i)))
  | _ => false
theorem m_is_sign_x (x : PyData) (st : DS) : F_is_sign [.d x] st = .ok (.d (.bool (signB x))) st := by
  refine ok_of ?_
  cases x with
  | int i => cases h : isWh (.int i) (-1) 1 <;> simp! [F_is_sign, w_fn, B_is_sign, m_is_whole, h] <;> (rw [isWh_i] at h; simp [signB, h])
  | _ => all_goals simp! [F_is_sign, w_fn, B_is_sign, m_is_whole, isWh, signB]
theorem m_is_pace_x (x : PyData) (st : DS) : F_is_pace [.d x] st = .ok (.d (.bool (paceB x))) st := by
  refine ok_of ?_
  cases x with
  | int i => cases h : isWh (.int i) 1 4 <;> simp! [F_is_pace, w_fn, B_is_pace, m_is_whole, h, d_PACES] <;> (rw [isWh_i] at h; simp [paceB, h])
  | _ => all_goals simp! [F_is_pace, w_fn, B_is_pace, m_is_whole, isWh, paceB]
def boolB : PyData → Bool
  | .bool _ => true
  | _ => false
def headLen : PyData → Nat
  | .tuple (l :: _) => lenD l
  | _ => 0
def shortD : PyData → Bool
  | .tuple [] => true
  | .tuple [_] => true
  | _ => false
def emptyB : PyData → Bool
  | .tuple [] => true
  | _ => false
def zeroB : PyData → Bool
  | .int 0 => true
  | _ => false
/-- eight things of which the first one is a mode of a track with a length -/
def lopB (m : Str) (l u p w c s q : PyData) : Bool :=
  (areB l u && isWh p 0 (2 * (headLen l : Int) - 1)) && (!((decide (m = "stop") && !zeroB p) || (decide (m = "dub") && (shortD l || !emptyB u))) && (signB w && (paceB c && (signB s && boolB q))))
theorem areB_form {l u : PyData} (h : areB l u = true) : ∃ cs L U, l = .tuple (.tuple cs :: L) ∧ u = .tuple U ∧ 1 ≤ cs.length ∧ cs.length ≤ 64 ∧ L.length + 1 + U.length ≤ 4 := by
  cases l with
  | tuple xs =>
    cases u with
    | tuple U =>
      cases xs with
      | nil => cases h
      | cons l L =>
        simp only [areB, Bool.and_eq_true, decide_eq_true_eq] at h
        obtain ⟨cs, rfl, c1, c2, _⟩ := layB_len h.2.1
        exact ⟨cs, L, U, rfl, rfl, by omega, by omega, by have := h.1; simp at this; omega⟩
    | _ => all_goals (cases xs <;> cases h)
  | _ => all_goals cases h
theorem tf (p : Prop) : p = True ∨ p = False := by
  by_cases h : p
  · exact .inl (eq_true h)
  · exact .inr (eq_false h)
theorem m_is_looping_x (m : Str) (l u p w c s q : PyData) (hs : lenD l + lenD u ≤ 1000000) (st : DS) : F_is_looping [.d (.tuple [.str m, l, u, p, w, c, s, q])] st = .ok (.d (.bool (lopB m l u p w c s q))) st := by
  refine ok_of ?_
  cases hA : areB l u with
  | false =>
    have e : lopB m l u p w c s q = false := by simp only [lopB, hA, Bool.false_and]
    simp! [F_is_looping, w_fn, B_is_looping, m_are_layers l u hs, hA, e]
  | true =>
    obtain ⟨cs, L, U, rfl, rfl, n1, n2, h4⟩ := areB_form hA
    have hmul : vMul (.d (.int 2)) (.d (.int (cs.length : Nat))) = some (.int (2 * (cs.length : Nat))) := q_mul _ _ (by
      have := log2_le (n := ((cs.length : Nat) : Int).natAbs) (k := 10) (by simp; omega) (by omega)
      have e : (2 : Int).natAbs.log2 = 1 := by decide
      omega)
    cases hW : isWh p 0 (2 * (cs.length : Nat) - 1) with
    | false =>
      have e : lopB m (.tuple (.tuple cs :: L)) (.tuple U) p w c s q = false := by simp only [lopB, hA, headLen, lenD, hW, Bool.false_and, Bool.and_false]
      simp! [F_is_looping, w_fn, B_is_looping, m_are_layers _ _ hs, hA, hmul, m_is_whole, hW, e]
    | true =>
      cases p with
      | int i =>
        have e : lopB m (.tuple (.tuple cs :: L)) (.tuple U) (.int i) w c s q = (!((decide (m = "stop") && !decide (i = 0)) || (decide (m = "dub") && (decide (L = []) || !decide (U = [])))) && (signB w && (paceB c && (signB s && boolB q)))) := by
          have e1 : zeroB (.int i) = decide (i = 0) := by
            by_cases h : i = 0
            · subst h; rfl
            · rw [decide_eq_false h]; unfold zeroB; split
              · rename_i z; cases z; exact absurd rfl h
              · rfl
          have e2 : shortD (.tuple (.tuple cs :: L)) = decide (L = []) := by cases L <;> rfl
          have e3 : emptyB (.tuple U) = decide (U = []) := by cases U <;> rfl
          simp only [lopB, hA, headLen, lenD, hW, Bool.true_and, e1, e2, e3]
        have e4 : (((L.length + 1 : Nat) : Int) < 2) = (L = []) := by cases L <;> simp; omega
        have hb : isTy .bool (.d q) = some (.bool (boolB q)) := by cases q <;> rfl
        rcases tf (m = "stop") with h1 | h1 <;> rcases tf (i = 0) with h2 | h2 <;> rcases tf (m = "dub") with h3 | h3 <;> rcases tf (L = []) with h5 | h5 <;> rcases tf (U = []) with h6 | h6 <;>
          simp! [F_is_looping, w_fn, B_is_looping, m_are_layers _ _ hs, hA, hmul, m_is_whole, hW, e, e4, h1, h2, h3, h5, h6, eq_t0, m_is_sign_x, m_is_pace_x, hb]
      | _ => all_goals (simp [isWh] at hW)
def defB (u p w c s q : PyData) : Bool := match u, p, w, c, s, q with
  | .tuple [], .int 0, .int 1, .int 2, .int 1, .bool false => true
  | _, _, _, _, _, _ => false
theorem m_are_default_x (a l u p w c s q : PyData) (st : DS) : F_are_default [.d (.tuple [a, l, u, p, w, c, s, q])] st = .ok (.d (.bool (defB u p w c s q))) st := by
  refine ok_of ?_
  cases u with
  | tuple U =>
    cases U with
    | cons x U => simp! [F_are_default, w_fn, B_are_default, eq_t0, defB]
    | nil =>
      cases q with
      | bool b =>
        cases b with
        | true => simp! [F_are_default, w_fn, B_are_default, eq_t0, defB]
        | false =>
          have hc := num_comp [p, w, c, s] (by simp) [some (.d (.tuple [a, l, .tuple [], p, w, c, s, .bool false])), none] 1 (by simp) st
          have ha := allB isNum [p, w, c, s]
          simp only [List.map_cons, List.map_nil] at hc ha
          cases hn : [p, w, c, s].all isNum with
          | false =>
            have e : defB (.tuple []) p w c s (.bool false) = false := by
              unfold defB
              split
              · simp [isNum] at hn
              · rfl
            simp! [F_are_default, w_fn, B_are_default, eq_t0, c8_37, hc, ha, hn, e]
          | true =>
            simp only [List.all_cons, List.all_nil, Bool.and_true, Bool.and_eq_true] at hn
            obtain ⟨h1, h2, h3, h4⟩ := hn
            match p, w, c, s, h1, h2, h3, h4 with
            | .int p, .int w, .int c, .int s, _, _, _, _ =>
              have e1 := vEq_rows [p, w, c, s] [0, 1, 2, 1]
              have hn : [PyData.int p, .int w, .int c, .int s].all isNum = true := rfl
              have e : defB (.tuple []) (.int p) (.int w) (.int c) (.int s) (.bool false) = decide ([p, w, c, s] = [0, 1, 2, 1]) := by
                unfold defB
                split
                · rename_i z1 z2 z3 z4 _
                  cases z1; cases z2; cases z3; cases z4
                  rfl
                · rename_i z
                  refine (decide_eq_false fun h => ?_).symm
                  simp only [List.cons.injEq, and_true] at h
                  obtain ⟨rfl, rfl, rfl, rfl⟩ := h
                  exact z rfl rfl rfl rfl rfl rfl
              simp only [List.map_cons, List.map_nil] at e1
              have c2 : cutD [PyData.str "empty", .tuple [], .tuple [], .int 0, .int 1, .int 2, .int 1, .bool false] (some 3) (some 7) = [.int 0, .int 1, .int 2, .int 1] := rfl
              simp! [F_are_default, w_fn, B_are_default, d_EMPTY, eq_t0, c8_37, hc, ha, hn, e, e1]
      | _ => all_goals simp! [F_are_default, w_fn, B_are_default, eq_t0, defB]
  | _ => all_goals simp! [F_are_default, w_fn, B_are_default, defB]
def oneB : PyData → Bool
  | .tuple [x] => layB 0 63 x
  | _ => false
/-- eight things -/
def octB (m : Str) (l u p w c s q : PyData) : Bool :=
  if m = "play" ∨ m = "dub" ∨ m = "stop" then lopB m l u p w c s q else defB u p w c s q && (if m = "empty" then emptyB l else decide (m = "record") && oneB l)
def trkB : PyData → Bool
  | .tuple [.str m, l, u, p, w, c, s, q] => octB m l u p w c s q
  | _ => false
/-- not too long to be looked at -/
def okSz : PyData → Bool
  | .tuple [_, l, u, _, _, _, _, _] => decide (lenD l + lenD u ≤ 1000000)
  | _ => true
theorem m_is_oct (m : Str) (l u p w c s q : PyData) (hs : lenD l + lenD u ≤ 1000000) (st : DS) : F_is_track [.d (.tuple [.str m, l, u, p, w, c, s, q])] st = .ok (.d (.bool (octB m l u p w c s q))) st := by
  refine ok_of ?_
  by_cases hm : m = "play" ∨ m = "dub" ∨ m = "stop"
  · have e : octB m l u p w c s q = lopB m l u p w c s q := if_pos hm
    have hv : (decide (Str.ofString "play" = m) || (decide (Str.ofString "dub" = m) || decide (Str.ofString "stop" = m))) = true := by
      rcases hm with rfl | rfl | rfl <;> simp
    simp! [F_is_track, w_fn, B_is_track, d_LOOPING, hv, m_is_looping_x m l u p w c s q hs, e]
  · have e : octB m l u p w c s q = (defB u p w c s q && (if m = "empty" then emptyB l else decide (m = "record") && oneB l)) := if_neg hm
    have hv : (decide (Str.ofString "play" = m) || (decide (Str.ofString "dub" = m) || decide (Str.ofString "stop" = m))) = false := by
      simp only [Bool.or_eq_false_iff, decide_eq_false_iff_not]
      exact ⟨fun h => hm (.inl h.symm), fun h => hm (.inr (.inl h.symm)), fun h => hm (.inr (.inr h.symm))⟩
    cases hd : defB u p w c s q with
    | false => simp! [F_is_track, w_fn, B_is_track, d_LOOPING, hv, m_are_default_x, hd, e]
    | true =>
      cases l with
      | tuple xs =>
        rcases tf (m = "empty") with h1 | h1
        · have e2 : emptyB (.tuple xs) = decide (xs = []) := by cases xs <;> rfl
          simp! [F_is_track, w_fn, B_is_track, d_LOOPING, hv, m_are_default_x, hd, e, h1, eq_t0, e2]
        · rcases tf (m = "record") with h2 | h2
          · match xs with
            | [] => simp! [F_is_track, w_fn, B_is_track, d_LOOPING, hv, m_are_default_x, hd, e, h1, h2, oneB]
            | [x] =>
              have hl := m_is_layer x 0 63 (by omega)
              simp! [F_is_track, w_fn, B_is_track, d_LOOPING, hv, m_are_default_x, hd, e, h1, h2, oneB, hl]
            | x :: y :: xs =>
              have hne : (((xs.length + 1 + 1 : Nat) : Int) = 1) = False := by simp; omega
              simp! [F_is_track, w_fn, B_is_track, d_LOOPING, hv, m_are_default_x, hd, e, h1, h2, oneB, hne]
          · simp! [F_is_track, w_fn, B_is_track, d_LOOPING, hv, m_are_default_x, hd, e, h1, h2]
      | _ => all_goals (rcases tf (m = "empty") with h1 | h1 <;> simp! [F_is_track, w_fn, B_is_track, d_LOOPING, hv, m_are_default_x, hd, e, h1, emptyB, oneB])
end Mr
set_option maxRecDepth 100000
set_option maxHeartbeats 4000000
namespace Dl
open PySem L2
end Dl
namespace Mr
open PySem L2 Dl
end Mr
set_option maxRecDepth 100000
set_option maxHeartbeats 4000000
namespace Mr
open PySem L2 Dl
theorem m_is_track (x : PyData) (hs : okSz x = true) (st : DS) : F_is_track [.d x] st = .ok (.d (.bool (trkB x))) st := by
  cases x with
  | tuple xs =>
    by_cases h8 : xs.length = 8
    · match xs, h8 with
      | [m, l, u, p, w, c, s, q], _ =>
        cases m with
        | str m => exact m_is_oct m l u p w c s q (of_decide_eq_true hs) st
        | _ => all_goals (refine ok_of ?_; simp! [F_is_track, w_fn, B_is_track, trkB])
    · have e : trkB (.tuple xs) = false := by
        unfold trkB
        split
        · rename_i z; cases z; exact absurd rfl h8
        · rfl
      have hn : (((xs.length : Nat) : Int) = 8) = False := eq_false (by omega)
      refine ok_of ?_
      simp! [F_is_track, w_fn, B_is_track, e, hn]
  | _ => all_goals (refine ok_of ?_; simp! [F_is_track, w_fn, B_is_track, trkB])
def fp (k : Nat) (x : PyData) : Option PyData := if trkB x = true then none else some (.tuple [.int k])
theorem ped_ix (A B : List Trk) (t : Trk) : vIx (.d (dPed (A ++ t :: B))) (.d (.int (A.length : Nat))) = some (dTrk t) := by
  have := at_mid (A.map dTrk) (B.map dTrk) (dTrk t)
  show atI ((A ++ t :: B).map dTrk) _ = _
  simpa using this
theorem OkP.left {A B : List Trk} {t : Trk} (h : OkP (A ++ t :: B)) : ∀ x ∈ A, OkT x := fun x hx => h.each x (by simp [hx])
end Mr
set_option maxRecDepth 100000
set_option maxHeartbeats 4000000
namespace Lw
open PySem L2 Dl PySem.Spec PyProof.Rows
def top (i : Nat) : Stmt := PySem.Challenge.pw_pedalrounds_k54_ways_by_hand.main.body.getD i (.Pass ⟨0, 0, 0, 0⟩)
abbrev s_begun : Stmt := top 42
abbrev s_next : Stmt := top 43
section
variable {P : Program} {w : World} {K : PySem.W.Frag} {mg : Str → Option Value} {base : Heap} {tb : List (Addr × Str)} {cl : Nat → Option (Addr × List Str)}
theorem sc_begun : FnScope ["script", "cell"] ["script"] (defScope s_begun) := ⟨rfl, rfl, rfl, by decide +kernel, rfl, by decide +kernel, by decide +kernel⟩
theorem ok_begun {f : Addr} {fd : FuncData} (Fn : Fun K "_law_begun" "_law_begun" s_begun f fd) (hlist : mg "list" = none) : FnG (UD K tb cl) P w K mg base 1 f fd ["script"] fBegun := by
  refine fn_h Fn sc_begun fun cdv A outer s H xs Q E vs t I M hr hgd hl ok rs hv hd h => ?_
  have rd : RD K tb t M := rs
  match vs, hv, h with
  | [.ref 1], .cons hx .nil, h =>
    have h : Post (UD K tb cl) K (VR K) (if t.on = false then .ok (.ref 0) { t with on := true, cells := t.ns, left := t.ns.filter (fun x => decide (10 ^ 18 ≤ x)), at_ := 0 } else .stuck) I M H Q E := h
    by_cases hon : t.on = false
    · rw [if_pos hon] at h
      obtain ⟨a, had, hS⟩ := rd.scr
      have hn63 := rd.len
      obtain ⟨b, e1, e2⟩ := hx
      rw [had] at e1
      cases e1
      subst e2
      have hoff := rd.off hon
      refine ⟨_, pss_one (ps_ret (pe_disp (pps_cons pe_str (pe_callTy call_list_of (by rfl) hlist (by decide +kernel) (pa_cons (pv 0) pa_nil))
        (pps_cons pe_str (pe_lc (own := [("cell", 1)]) (g := gName 1) (tt := tTest (tOp (rI0 fun i j => .bl (decide (j ≤ i))) (tVar 1) (tOp (rI CPow fun i j => .int (i ^ j.toNat)) (tC (.int 10)) (tC (.int 18))))) rfl sc_begun.nd (pi_list (pv 0))
            (blkOk_by (N := ["script", "cell"]) (sc := defScope s_begun) (by decide +kernel)) (fun _ _ _ _ _ => pg_name (i := 1) sc_begun.nd rfl (Or.inl rfl))
            (fun _ _ _ _ _ => pts_one (pt_cmpR op_ge (pv 1) (pe_op op_pow pe_int pe_int) (nomark _))) (fun _ _ _ _ _ => pv 1))
          (pps_cons pe_str pe_int pps_nil))) (by rfl) (by rfl) (fun z => by cases z) (by decide))), ?_⟩
      intro p hp
      have s1 : Same H (upd H p (.dK [])) := fun b o e => by rw [upd_ne (ne_of_none e hp)]; exact e
      refine ⟨_, rfl, a, _, rfl, .inl (sqL_mono (ok.mh.trans s1) hS.sq), fun c hc => ?_⟩
      have s2 : Same (upd H p (.dK [])) (upd (upd H p (.dK [])) c (.lst (t.ns.map V.int))) := fun b o e => by rw [upd_ne (ne_of_none e hc)]; exact e
      refine ⟨_, rfl, a, rfl, ⟨_, sqL_mono (ok.mh.trans (s1.trans s2)) hS.sq⟩, fun D hD => ?_⟩
      refine lc_list (K := K) (a := a) (xs := t.ns.map V.int) (fun i H' => Same (upd (upd H p (.dK [])) c (.lst (t.ns.map V.int))) H' ∧ H' D = some (.lst (((t.ns.take i).filter (fun x => decide (10 ^ 18 ≤ x))).map V.int)))
        ⟨fun b o e => by rw [upd_ne (ne_of_none e hD)]; exact e, upd_same⟩ (fun i H' _ hH => sqL_mono (ok.mh.trans (s1.trans (s2.trans hH.1))) hS.sq) ?_ ?_
      · rintro i y H' hi ⟨sH, dH⟩
        rw [List.getElem?_map] at hi
        cases hz : t.ns[i]? with
        | none => rw [hz] at hi; cases hi
        | some z =>
          rw [hz] at hi
          cases hi
          have htk : t.ns.take (i + 1) = t.ns.take i ++ [z] := by
            obtain ⟨hlt, hzz⟩ := List.getElem?_eq_some_iff.mp hz
            rw [← hzz, List.take_succ_eq_append_getElem hlt]
          refine ⟨rfl, _, rfl, 10, 18, rfl, rfl, ⟨by decide, by decide, by decide⟩, z, _, rfl, rfl, _, rfl, ?_⟩
          by_cases hge : (10 : Int) ^ (18 : Int).toNat ≤ z
          · rw [decide_eq_true hge]
            refine iteT ⟨_, rfl, _, dH, ?_, fun b o e => ?_, ?_⟩
            · rw [List.length_map]
              refine Nat.lt_of_le_of_lt (List.length_filter_le _ _) (Nat.lt_of_le_of_lt (List.length_take_le' _ _) (Nat.lt_of_le_of_lt hn63 (by decide)))
            · rw [upd_ne (ne_of_none e hD)]; exact sH b o e
            · rw [upd_same, htk, List.filter_append, List.map_append]
              have hge' : decide ((10 : Int) ^ 18 ≤ z) = true := decide_eq_true hge
              simp only [List.filter_cons, hge', List.filter_nil, if_true, List.map_cons, List.map_nil]
          · rw [decide_eq_false hge]
            refine iteF ⟨sH, ?_⟩
            rw [dH, htk, List.filter_append]
            have hge' : decide ((10 : Int) ^ 18 ≤ z) = false := decide_eq_false hge
            simp only [List.filter_cons, hge', List.filter_nil, List.append_nil, Bool.false_eq_true, if_false]
      · rintro H2 ⟨sH, dH⟩
        rw [List.length_map, List.take_length] at dH
        have pc : p ≠ c := ne_of_none upd_same hc
        have pD : p ≠ D := ne_of_none (H := upd (upd H p (.dK [])) c (.lst (t.ns.map V.int))) (by rw [upd_ne pc]; exact upd_same) hD
        have cD : c ≠ D := ne_of_none (H := upd (upd H p (.dK [])) c (.lst (t.ns.map V.int))) upd_same hD
        have hcH : H c = none := by rw [upd_ne pc.symm] at hc; exact hc
        have hDH : H D = none := by rw [upd_ne cD.symm, upd_ne pD.symm] at hD; exact hD
        refine ⟨sH _ _ (by rw [upd_ne pc]; exact upd_same), [(Sum.inr "cells", .ref c), (Sum.inr "left", .ref D), (Sum.inr "at", .int 0)], rfl, (by show 3 ≤ 15; decide), ?_⟩
        rw [merge_draw]
        have sA : Same H H2 := s1.trans (s2.trans sH)
        refine h (.ref p) I ⟨upd (upd (upd M.h c (.lst (t.ns.map V.int))) D (.lst ((t.ns.filter (fun x => decide (10 ^ 18 ≤ x))).map V.int))) p (.dK (drawKv c D 0)), fun n => if n = 0 then some p else M.ad n, M.i⟩ _ ?_ ?_ ?_ ⟨p, rfl, rfl⟩
        · refine ⟨Same.refl I, fun _ _ z => z, fun b hb z => ?_, fun b o e m => ?_, fun b hb => ?_, fun n b e => ?_⟩
          · have n1 : b ≠ p := fun w => hb (by rw [w]; exact hp)
            have n2 : b ≠ c := fun w => hb (by rw [w]; exact hcH)
            have n3 : b ≠ D := fun w => hb (by rw [w]; exact hDH)
            have z : upd (upd (upd M.h c (.lst (t.ns.map V.int))) D (.lst ((t.ns.filter (fun x => decide (10 ^ 18 ≤ x))).map V.int))) p (.dK (drawKv c D 0)) b ≠ none := z
            rw [upd_ne n1, upd_ne n3, upd_ne n2] at z
            exact z
          · rw [upd_ne (ne_of_none e hp)]
            exact sA b o e
          · rw [upd_ne (fun w => hb (by rw [w]; exact hp))]
            obtain ⟨o, ho⟩ := some_of_ne hb
            exact ne_none_of (sA b o ho)
          · show (if n = 0 then some p else M.ad n) = some b
            by_cases hn : n = 0
            · subst hn; rw [hoff] at e; cases e
            · rw [if_neg hn]; exact e
        · refine ⟨fun b o e => ?_, fun b o e => ?_, fun b hb => ?_, ok.mi⟩
          · have e' := ok.ih b o e
            rw [upd_ne (ne_of_none e' hp)]
            exact sA b o e'
          · have e : upd (upd (upd M.h c (.lst (t.ns.map V.int))) D (.lst ((t.ns.filter (fun x => decide (10 ^ 18 ≤ x))).map V.int))) p (.dK (drawKv c D 0)) b = some o := e
            by_cases h1 : b = p
            · subst h1
              rw [upd_same] at e ⊢
              exact e
            · rw [upd_ne h1] at e ⊢
              by_cases h2 : b = D
              · subst h2
                rw [upd_same] at e
                rw [dH]
                exact e
              · rw [upd_ne h2] at e
                by_cases h3 : b = c
                · subst h3
                  rw [upd_same] at e
                  rw [← e]
                  exact sH _ _ upd_same
                · rw [upd_ne h3] at e
                  exact sA b o (ok.mh b o e)
          · obtain ⟨o, ho⟩ := some_of_ne hb
            have e' := ok.ih b o ho
            show upd (upd (upd M.h c (.lst (t.ns.map V.int))) D (.lst ((t.ns.filter (fun x => decide (10 ^ 18 ≤ x))).map V.int))) p (.dK (drawKv c D 0)) b = none
            rw [upd_ne (ne_of_none e' hp), upd_ne (ne_of_none e' hDH), upd_ne (ne_of_none e' hcH)]
            exact ok.dj b hb
        · show RD K tb _ _
          refine ⟨⟨a, had, hS.mono fun o u e => ?_⟩, hn63, (fun e => by cases e), fun _ => ⟨p, c, D, rfl, ⟨upd_same, ?_, ?_, cD, ?_, ?_⟩⟩, rd.tab.ext fun b o e => ?_⟩
          · have e' := ok.mh a _ e
            show upd (upd (upd M.h c (.lst (t.ns.map V.int))) D (.lst ((t.ns.filter (fun x => decide (10 ^ 18 ≤ x))).map V.int))) p (.dK (drawKv c D 0)) a = _
            rw [upd_ne (ne_of_none e' hp), upd_ne (ne_of_none e' hDH), upd_ne (ne_of_none e' hcH)]
            exact e
          · show upd (upd (upd M.h c (.lst (t.ns.map V.int))) D (.lst ((t.ns.filter (fun x => decide (10 ^ 18 ≤ x))).map V.int))) p (.dK (drawKv c D 0)) c = _
            rw [upd_ne pc.symm, upd_ne cD, upd_same]
          · show upd (upd (upd M.h c (.lst (t.ns.map V.int))) D (.lst ((t.ns.filter (fun x => decide (10 ^ 18 ≤ x))).map V.int))) p (.dK (drawKv c D 0)) D = _
            rw [upd_ne pD.symm, upd_same]
          · exact Nat.le_trans hn63 (by decide)
          · exact Nat.le_trans (List.length_filter_le _ _) (Nat.le_trans hn63 (by decide))
          · have e' := ok.mh b _ e
            show upd (upd (upd M.h c (.lst (t.ns.map V.int))) D (.lst ((t.ns.filter (fun x => decide (10 ^ 18 ≤ x))).map V.int))) p (.dK (drawKv c D 0)) b = _
            rw [upd_ne (ne_of_none e' hp), upd_ne (ne_of_none e' hDH), upd_ne (ne_of_none e' hcH)]
            exact e
    · rw [if_neg hon] at h
      exact False.elim h
end
end Lw
namespace Lw
open PySem L2 Dl PySem.Spec PyProof.Rows
section
variable {P : Program} {w : World} {K : PySem.W.Frag} {mg : Str → Option Value} {base : Heap} {tb : List (Addr × Str)} {cl : Nat → Option (Addr × List Str)}
theorem sc_next : FnScope ["m", "total", "rest", "k", "cell", "mixed"] ["m", "total"] (defScope s_next) := ⟨rfl, rfl, rfl, by decide +kernel, rfl, by decide +kernel, by decide +kernel⟩
theorem ok_next {f : Addr} {fd : FuncData} (Fn : Fun K "_law_next" "_law_next" s_next f fd) (hint : mg "int" = none) (hlen : mg "len" = none) : FnG (UD K tb cl) P w K mg base 1 f fd ["m", "total"] fNext := by
  refine fn_h Fn sc_next fun cdv A outer s H xs Q E vs t I M hr hgd hl ok rs hv hd h => ?_
  have rd : RD K tb t M := rs
  have hu := hu_of hr
  match vs, hv, h with
  | [.ref 0, .d (.int many)], .cons hx (.cons hy .nil), h =>
    have h : Post (UD K tb cl) K (VR K) (if t.on = true ∧ 0 < many ∧ many.natAbs.log2 < 9000 ∧ 0 ≤ t.at_ ∧ t.at_ < 2 ^ 40 then .ok (.d (.int (drawn t many).1)) (drawn t many).2 else .stuck) I M H Q E := h
    by_cases hcond : t.on = true ∧ 0 < many ∧ many.natAbs.log2 < 9000 ∧ 0 ≤ t.at_ ∧ t.at_ < 2 ^ 40
    · rw [if_pos hcond] at h
      obtain ⟨hon, hpos, hlog, hk0, hk1⟩ := hcond
      obtain ⟨m, c, l0, had, don⟩ := rd.dr hon
      obtain ⟨b, e1, e2⟩ := hx
      rw [had] at e1
      cases e1
      subst e2
      cases Rp.int_inv hy
      refine ⟨_, pss_cons (ps_while (passes_of rfl)
          (PW.pt (pw_and (pt_cmpR (op_neD hr.units) (pe_dget hu (pv 0) pe_str (fun _ _ => rfl)) (pe_lst pa_nil) (nomark _))
            (pw_and1 (pt_cmpR op_eq (pe_ix ix_list (pe_dget hu (pv 0) pe_str (fun _ _ => rfl)) pe_int (fun _ _ => rfl)) pe_int (nomark _)))))
          (pss_one (ps_dput hu (pv 0) pe_str (pe_slice sl_list (pe_dget hu (pv 0) pe_str (fun _ _ => rfl)) (po_some pe_int) po_none) rfl)))
        (pss_cons (ps_if (pt_cmpR (op_neD hr.units) (pe_dget hu (pv 0) pe_str (fun _ _ => rfl)) (pe_lst pa_nil) (nomark _))
          (pss_cons (ps_set (i := 2) sc_next.nd rfl (Or.inl rfl) (pe_callTy call_int1 (by rfl) hint (by decide +kernel) (pa_cons (pe_ix ix_list (pe_dget hu (pv 0) pe_str (fun _ _ => rfl)) pe_int (fun _ _ => rfl)) pa_nil)))
          (pss_cons (ps_asg (pe_op op_fdivW (pv 2) (pv 1)) (pg_sub (pe_dget hu (pv 0) pe_str (fun _ _ => rfl)) pe_int set_list))
          (pss_one (ps_ret (pe_op op_mod (pv 2) (pv 1)))))) pss_nil)
        (pss_cons (ps_set (i := 3) sc_next.nd rfl (Or.inl rfl) (pe_op op_add (pe_dget hu (pv 0) pe_str (fun _ _ => rfl)) pe_int))
        (pss_cons (ps_dput hu (pv 0) pe_str (pv 3) rfl)
        (pss_cons (ps_set (i := 4) sc_next.nd rfl (Or.inl rfl) (pe_ifExp (pt_cmpR (op_neD hr.units) (pe_dget hu (pv 0) pe_str (fun _ _ => rfl)) (pe_lst pa_nil) (nomark _))
            (pe_ix ix_list (pe_dget hu (pv 0) pe_str (fun _ _ => rfl)) (pe_op op_mod (pe_callTy call_int1 (by rfl) hint (by decide +kernel) (pa_cons (pv 3) pa_nil)) (pe_callB call_len_seq (by rfl) hlen PySem.boot_len (pa_cons (pe_dget hu (pv 0) pe_str (fun _ _ => rfl)) pa_nil))) (fun _ _ => rfl))
            pe_int))
        (pss_cons (ps_set (i := 5) sc_next.nd rfl (Or.inl rfl) (pe_op op_mul (pe_callTy call_int1 (by rfl) hint (by decide +kernel) (pa_cons (pe_op op_add (pe_op op_add (pe_op op_mod (pe_callTy call_int1 (by rfl) hint (by decide +kernel) (pa_cons (pv 4) pa_nil)) pe_int) (pe_op op_mul pe_int (pv 3))) (pe_op op_mul (pe_op op_mul pe_int (pv 3)) (pv 3))) pa_nil)) pe_int))
        (pss_cons (ps_set (i := 5) sc_next.nd rfl (Or.inl rfl) (pe_op op_mul (pe_callTy call_int1 (by rfl) hint (by decide +kernel) (pa_cons (pe_op op_add (pe_op op_mod (pe_callTy call_int1 (by rfl) hint (by decide +kernel) (pa_cons (pv 5) pa_nil)) pe_int) (pe_op op_mul pe_int (pv 3))) pa_nil)) pe_int))
        (pss_one (ps_ret (pe_op op_mod (pe_callTy call_int1 (by rfl) hint (by decide +kernel) (pa_cons (pe_op op_fdiv (pe_op op_mod (pe_callTy call_int1 (by rfl) hint (by decide +kernel) (pa_cons (pv 5) pa_nil)) pe_int) pe_int) pa_nil)) (pv 1)))))))))), ?_⟩
      have mH := ok.mh _ _ don.hm
      have d0 : DrawH H H m c l0 l0 t.cells t.left t.at_ := ⟨mH, ok.mh _ _ don.hc, ok.mh _ _ don.hl, don.ncl, .inl rfl, fun b o e _ _ => e, ne_none_of (ok.mh _ _ don.hl)⟩
      -- the first statement: zeros go
      refine ⟨fun n σ H' => σ = [some (.ref m), some (.int many), none, none, none, none] ∧ ∃ l left, n = left.length ∧ dropZ left = dropZ t.left ∧ left.length ≤ 100 ∧ DrawH H H' m c l0 l t.cells left t.at_, ⟨_, rfl, l0, t.left, rfl, rfl, don.ll, d0⟩, ?_⟩
      rintro n σ H' ⟨rfl, l, left, rfl, hdz, hll, d⟩
      refine test_left rfl d fun H1 d1 => ?_
      cases hzh : zeroHead left with
      | true =>
        refine iteT ?_
        match left, hdz, hll, d1, hzh with
        | x :: r, hdz, hll, d1, hzh =>
          have hx0 : x = 0 := of_decide_eq_true hzh
          refine ⟨fun σ' H' => σ' = [some (.ref m), some (.int many), none, none, none, none] ∧ ∃ l left, left.length < (x :: r).length ∧ dropZ left = dropZ t.left ∧ left.length ≤ 100 ∧ DrawH H H' m c l0 l t.cells left t.at_,
            fun σ' H' ⟨h1, l', left', h2, h3, h4, h5⟩ => ⟨left'.length, h2, h1, l', left', rfl, h3, h4, h5⟩, ?_⟩
          refine rd_left rfl d1 ⟨1, rfl, l, _, rfl, SqL.of d1.hl, fun p hp => ?_⟩
          have hcut : cutV ((x :: r).map V.int) (some 1) none = r.map V.int := by
            unfold cutV
            simp [HT.sIx, List.take_of_length_le]
          rw [hcut]
          have d2 := d1.new (o := .lst (r.map V.int)) hp
          refine ⟨_, rfl, m, _, rfl, DPut.k (k := Sum.inr "left") d2.hm (by show 3 < sizeLine; decide), rfl, p, r, Nat.lt_succ_self _, by rw [← hdz, dropZ_zero hx0], Nat.le_of_succ_le hll, ?_⟩
          rw [put_left]
          exact d1.put hp (ne_none_of mH)
      | false =>
        refine iteF ?_
        have hleft : left = dropZ t.left := by rw [← hdz]; exact (dropZ_stop hzh).symm
        -- the draw itself
        refine ne_left rfl d1 fun H2 d2 => ?_
        unfold drawn at h
        rw [← hleft] at h
        match left, d2, hll, h with
        | x :: r, d2, hll, h =>
          refine iteT (rd_left rfl d2 ⟨l, _, 0, .int x, rfl, rfl, SqL.of d2.hl, atI_nat (j := 0) rfl, .inl ⟨x, rfl, ?_⟩⟩)
          refine ⟨_, rfl, _, rfl, x, many, rfl, rfl, ⟨hpos, hlog⟩, rd_left rfl d2 ⟨l, _, 0, 0, rfl, rfl, d2.hl, (by simp [ixN]), ?_⟩⟩
          have e : ((x :: r).map V.int).set 0 (.int (x / many)) = ((x / many) :: r).map V.int := rfl
          rw [e]
          have d3 := d2.set (left' := (x / many) :: r)
          obtain ⟨M', g, k', r'⟩ := d3.fin ok rd had don (by simpa using hll) hon
          exact ⟨_, rfl, _, rfl, x, many, rfl, rfl, hpos, h (.int (x % many)) I M' _ g k' r' (.int _)⟩
        | [], d2, hll, h =>
          refine iteF (rd_at rfl d2 ⟨t.at_, 1, rfl, rfl, ?_⟩)
          refine ⟨_, rfl, _, rfl, m, _, rfl, DPut.k (k := Sum.inr "at") d2.hm (by show 3 < sizeLine; decide), ?_⟩
          rw [put_at]
          have d3 := d2.count (k' := t.at_ + 1)
          have kk : 0 ≤ t.at_ + 1 ∧ t.at_ + 1 ≤ 2 ^ 40 := ⟨by omega, by omega⟩
          refine ne_cells rfl d3 fun H4 d4 => ?_
          obtain ⟨M4, g4, k4, r4⟩ := d4.fin ok rd had don (Nat.zero_le _) hon
          have fin : ∀ cell : Int, cell = cellAt t.cells (t.at_ + 1) → (gName 4) (.int cell) [some (.ref m), some (.int many), none, some (.int (t.at_ + 1)), none, none] H4 (fun σ5 H5 =>
              (tSeq (tAsg (tOp (rI CMul fun i j => .int (i * j)) (tCB (fun xs H Q => (∃ i, xs = [.int i] ∧ Q (.int i) H) ∨ ∃ k, xs = [.bl k] ∧ Q (.int (if k then 1 else 0)) H) (tCons (tOp (rI0 fun i j => .int (i + j)) (tOp (rI0 fun i j => .int (i + j)) (tOp (rI (fun _ j => 0 < j) fun i j => .int (i % j)) (tCB (fun xs H Q => (∃ i, xs = [.int i] ∧ Q (.int i) H) ∨ ∃ k, xs = [.bl k] ∧ Q (.int (if k then 1 else 0)) H) (tCons (tVar 4) tNil)) (tC (.int 2147483629))) (tOp (rI CMul fun i j => .int (i * j)) (tC (.int 7919)) (tVar 3))) (tOp (rI CMul fun i j => .int (i * j)) (tOp (rI CMul fun i j => .int (i * j)) (tC (.int 19)) (tVar 3)) (tVar 3))) tNil)) (tC (.int 48271))) (gName 5))
              (tSeq (tAsg (tOp (rI CMul fun i j => .int (i * j)) (tCB (fun xs H Q => (∃ i, xs = [.int i] ∧ Q (.int i) H) ∨ ∃ k, xs = [.bl k] ∧ Q (.int (if k then 1 else 0)) H) (tCons (tOp (rI0 fun i j => .int (i + j)) (tOp (rI (fun _ j => 0 < j) fun i j => .int (i % j)) (tCB (fun xs H Q => (∃ i, xs = [.int i] ∧ Q (.int i) H) ∨ ∃ k, xs = [.bl k] ∧ Q (.int (if k then 1 else 0)) H) (tCons (tVar 5) tNil)) (tC (.int 2147483647))) (tOp (rI CMul fun i j => .int (i * j)) (tC (.int 104729)) (tVar 3))) tNil)) (tC (.int 69621))) (gName 5))
              (tRet (tOp (rI (fun _ j => 0 < j) fun i j => .int (i % j)) (tCB (fun xs H Q => (∃ i, xs = [.int i] ∧ Q (.int i) H) ∨ ∃ k, xs = [.bl k] ∧ Q (.int (if k then 1 else 0)) H) (tCons (tOp (rI CDiv fun i j => .int (i / j)) (tOp (rI (fun _ j => 0 < j) fun i j => .int (i % j)) (tCB (fun xs H Q => (∃ i, xs = [.int i] ∧ Q (.int i) H) ∨ ∃ k, xs = [.bl k] ∧ Q (.int (if k then 1 else 0)) H) (tCons (tVar 5) tNil)) (tC (.int 2147483587))) (tC (.int 11))) tNil)) (tVar 1))))) { nx := fun _ H' => Q .non H', rt := Q } σ5 H5) := by
            intro cell hcell
            refine ⟨_, rfl, .inl ⟨cell, rfl, cell, 2147483629, rfl, rfl, (by show (0 : Int) < 2147483629; decide), _, rfl, 7919, (t.at_ + 1), rfl, rfl, .inl ⟨by decide, by decide⟩, _, _, rfl, rfl, _, rfl, 19, (t.at_ + 1), rfl, rfl, .inl ⟨by decide, by decide⟩, _, rfl, _, (t.at_ + 1), rfl, rfl, .inr ⟨by omega, by omega⟩, _, _, rfl, rfl, .inl ⟨_, rfl, _, 48271, rfl, rfl, .inr ⟨by decide, by decide⟩, ?_⟩⟩⟩
            refine ⟨_, rfl, .inl ⟨_, rfl, _, 2147483647, rfl, rfl, (by show (0 : Int) < 2147483647; decide), _, rfl, 104729, (t.at_ + 1), rfl, rfl, .inl ⟨by decide, by decide⟩, _, _, rfl, rfl, .inl ⟨_, rfl, _, 69621, rfl, rfl, .inr ⟨by decide, by decide⟩, ?_⟩⟩⟩
            refine ⟨_, rfl, .inl ⟨_, rfl, _, 2147483587, rfl, rfl, (by show (0 : Int) < 2147483587; decide), _, 11, rfl, rfl, ⟨by decide, by decide⟩, .inl ⟨_, rfl, _, rfl, _, many, rfl, rfl, hpos, ?_⟩⟩⟩
            have e : mix (cellAt t.cells (t.at_ + 1)) (t.at_ + 1) = ((cell % 2147483629 + 7919 * (t.at_ + 1) + 19 * (t.at_ + 1) * (t.at_ + 1)) * 48271 % 2147483647 + 104729 * (t.at_ + 1)) * 69621 % 2147483587 / 11 := by rw [← hcell]; rfl
            refine h (.int _) I M4 H4 g4 k4 r4 ?_
            show Rp K I _ _
            rw [e]
            exact .int _
          by_cases hce : t.cells = []
          · rw [decide_eq_false (fun z => z hce)]
            refine iteF (fin 3 ?_)
            unfold cellAt
            rw [if_pos hce]
          · rw [decide_eq_true hce]
            have hlc : 0 < t.cells.length := by
              cases hc0 : t.cells with
              | nil => exact absurd hc0 hce
              | cons a b => simp
            refine iteT (rd_cells rfl d4 ⟨_, rfl, .inl ⟨(t.at_ + 1), rfl, rd_cells rfl d4 ⟨c, _, rfl, .inl (SqL.of d4.hc), (t.at_ + 1), _, rfl, rfl, (by rw [List.length_map]; omega), c, _, _, .int (cellAt t.cells (t.at_ + 1)), rfl, rfl, SqL.of d4.hc, ?_, fin _ rfl⟩⟩⟩)
            rw [List.length_map]
            have h0 : 0 ≤ (t.at_ + 1) % (t.cells.length : Int) := Int.emod_nonneg _ (by omega)
            have h1 : (t.at_ + 1) % (t.cells.length : Int) < t.cells.length := Int.emod_lt_of_pos _ (by omega)
            have h2 : (((t.at_ + 1) % (t.cells.length : Int)).toNat : Int) = (t.at_ + 1) % (t.cells.length : Int) := Int.toNat_of_nonneg h0
            have h3 : ((t.at_ + 1) % (t.cells.length : Int)).toNat < t.cells.length := by omega
            rw [← h2]
            refine atI_nat ?_
            unfold cellAt
            rw [if_neg hce, List.getElem?_map, List.getElem?_eq_getElem h3]
            simp [List.getD, h3]
    · rw [if_neg hcond] at h
      exact False.elim h
end
end Lw
namespace Lw
open PySem L2 Dl PySem.Spec PyProof.Rows
abbrev s_fault : Stmt := top 44
abbrev s_out : Stmt := top 45
section
variable {P : Program} {w : World} {K : PySem.W.Frag} {mg : Str → Option Value} {base : Heap} {tb : List (Addr × Str)} {cl : Nat → Option (Addr × List Str)}
theorem sc_fault : FnScope ["e", "told"] ["e"] (defScope s_fault) := ⟨rfl, rfl, rfl, by decide +kernel, rfl, by decide +kernel, by decide +kernel⟩
theorem sc_out : FnScope ["deed", "caught", "found", "e"] ["deed"] (defScope s_out) := ⟨rfl, rfl, rfl, by decide +kernel, rfl, by decide +kernel, by decide +kernel⟩
theorem ok_fault {f : Addr} {fd : FuncData} (Fn : Fun K "_law_fault" "_law_fault" s_fault f fd) (T : FltT K mg cl) (hi : mg "isinstance" = none) (hlen : mg "len" = none) : FnOk P w K mg base CX0 1 f fd ["e"] (spFlt K cl) := by
  refine Fn.ok sc_fault (fun vs H Q E h => ?_) (fun cdv A outer s H vs Q E hr h => ⟨_, ?_, flt_read T h (t := tRet (tIf (tTest (tOp rEq (tCB (fun xs H Q => ∃ p ys, xs = [.ref p] ∧ (SqL K H p ys ∨ SqT K H p ys) ∧ Q (.int ys.length) H) (tCons (tVar 1) tNil)) (tC (.int 1)))) (tOp (rIxL K) (tVar 1) (tC (.int 0))) (tTup (tCons (tC (.str "other")) (tCons (tC .non) tNil))))) ?_⟩)
  · obtain ⟨a, I, M, c, fs, E', dd, nms, us, t, rfl, _⟩ := h
    rfl
  · exact pss_cons (ps_set (i := 1) sc_fault.nd rfl (Or.inl rfl) (pe_lst pa_nil))
      (pss_cons (ps_flt (C := T.C 0) rfl (Or.inl rfl) rfl (Or.inl rfl) (by rfl) hi (by rfl) (T.m 0 (by decide)) (pa_cons pe_str (pa_cons (pe_xk (pv 0)) pa_nil)))
      (pss_cons (ps_flt (C := T.C 1) rfl (Or.inl rfl) rfl (Or.inl rfl) (by rfl) hi (by rfl) (T.m 1 (by decide)) (pa_cons pe_str (pa_cons (pe_xk (pv 0)) pa_nil)))
      (pss_cons (ps_flt (C := T.C 2) rfl (Or.inl rfl) rfl (Or.inl rfl) (by rfl) hi (by rfl) (T.m 2 (by decide)) (pa_cons pe_str (pa_cons (pe_xk (pv 0)) pa_nil)))
      (pss_cons (ps_flt (C := T.C 3) rfl (Or.inl rfl) rfl (Or.inl rfl) (by rfl) hi (by rfl) (T.m 3 (by decide)) (pa_cons pe_str (pa_cons (pe_xk (pv 0)) pa_nil)))
      (pss_cons (ps_flt (C := T.C 4) rfl (Or.inl rfl) rfl (Or.inl rfl) (by rfl) hi (by rfl) (T.m 4 (by decide)) (pa_cons pe_str (pa_cons (pe_xk (pv 0)) pa_nil)))
      (pss_cons (ps_flt (C := T.C 5) rfl (Or.inl rfl) rfl (Or.inl rfl) (by rfl) hi (by rfl) (T.m 5 (by decide)) (pa_cons pe_str (pa_cons (pe_xk (pv 0)) (pa_cons (pe_xk (pv 0)) pa_nil))))
      (pss_cons (ps_flt (C := T.C 6) rfl (Or.inl rfl) rfl (Or.inl rfl) (by rfl) hi (by rfl) (T.m 6 (by decide)) (pa_cons pe_str (pa_cons pe_non pa_nil)))
      (pss_cons (ps_flt (C := T.C 7) rfl (Or.inl rfl) rfl (Or.inl rfl) (by rfl) hi (by rfl) (T.m 7 (by decide)) (pa_cons pe_str (pa_cons (pe_xk (pv 0)) pa_nil)))
      (pss_cons (ps_flt (C := T.C 8) rfl (Or.inl rfl) rfl (Or.inl rfl) (by rfl) hi (by rfl) (T.m 8 (by decide)) (pa_cons pe_str (pa_cons pe_non pa_nil)))
      (pss_one (ps_ret (pe_ifExp (pt_cmpR op_eq (pe_callB call_len_seq (by rfl) hlen PySem.boot_len (pa_cons (pv 1) pa_nil)) pe_int (nomark _)) (pe_ix ix_list (pv 1) pe_int (fun _ _ => rfl)) (pe_tup (pa_cons pe_str (pa_cons pe_non pa_nil)))))))))))))))
  · intro p b H' D hp hq
    exact ⟨.ref p, rfl, p, [.ref b], rfl, .inl (SqL.of hp), rfl, true, rfl, iteT ⟨_, rfl, p, [.ref b], 0, _, rfl, rfl, SqL.of hp, rfl, hq⟩⟩
theorem ok_out {U : Uni} {f fo : Addr} {fd fdo : FuncData} (Po : PF K mg "_law_outcome" s_out ["deed"] fo fdo) (Pf : PF K mg "_law_fault" s_fault ["e"] f fd) (T : FltT K mg U.cl) (hi : mg "isinstance" = none) (hlen : mg "len" = none) : OutF P w K mg base U "_law_outcome" := by
  have F1 := ok_fault (P := P) (w := w) (base := base) Pf.fn T hi hlen
  obtain ⟨oc, od, kV, doc, pm, an, cdv, ct, osl, efd, lk, hcd⟩ := Po.fn.ex
  have hbO := Po.b
  subst efd
  refine ⟨fo, _, _, _, _, _, _, _, _, _, _, _, _, _, ["deed", "caught", "found", "e"], "deed", Po.m, Po.fn.kp, lk, hcd, hbO, sc_out, rfl, Or.inl rfl, by decide, by decide, ?_⟩
  intro X q e1 e2 e3 e4 e5 hr hgd f' c' s H Q tl act hco h
  subst e1 e2 e3 e4 e5
  refine ⟨_, pss_cons (ps_asg (pe_tup (pa_cons pe_non (pa_cons pe_non pa_nil))) (pg_tup rfl (pgs_cons (pg_name (i := 1) sc_out.nd rfl (Or.inl rfl)) (pgs_cons (pg_name (i := 2) sc_out.nd rfl (Or.inl rfl)) pgs_nil)) rfl rfl))
    (pss_cons (ps_try_kept (i := 3) (j := 1) (cs := (List.range 9).map fun j => Value.ref (T.C j)) rfl rfl rfl sc_out.nd rfl rfl rfl (Or.inl rfl) ?te ?cs
      (tb := fun W D σ H => ∃ Ech : XK, (∀ cls d σ' H', Ech cls d H' → W cls d σ' H') ∧ σ[0]? = some (some (.ref f')) ∧ H c' = some (LamX.CodeO c' q) ∧ tl Ech H (fun v H' => D.nx (σ.set 2 (some v)) H')) ?body)
    (pss_one (ps_ret (pe_ifExp (pt_cmp (pc_isN (pv 1))) (pe_lst (pa_cons (pv 2) pa_nil)) (pe_call F1 ((hr.deeper _).mono (Nat.le_of_ble_eq_true rfl : 1 ≤ 3)) (by rfl) Pf.m Pf.fn.kp Pf.b .nil pass0 (pa_cons (pv 1) pa_nil)))))), ?main⟩
  case te =>
    intro a pn
    refine pe_imp (pe_tup (pa_cons (pe_glob (v := .ref (T.C 0)) (by rfl) (T.m 0 (by decide)) rfl) (pa_cons (pe_glob (v := .ref (T.C 1)) (by rfl) (T.m 1 (by decide)) rfl) (pa_cons (pe_glob (v := .ref (T.C 2)) (by rfl) (T.m 2 (by decide)) rfl)
      (pa_cons (pe_glob (v := .ref (T.C 3)) (by rfl) (T.m 3 (by decide)) rfl) (pa_cons (pe_glob (v := .ref (T.C 4)) (by rfl) (T.m 4 (by decide)) rfl) (pa_cons (pe_glob (v := .ref (T.C 5)) (by rfl) (T.m 5 (by decide)) rfl)
      (pa_cons (pe_glob (v := .ref (T.C 6)) (by rfl) (T.m 6 (by decide)) rfl) (pa_cons (pe_glob (v := .ref (T.C 7)) (by rfl) (T.m 7 (by decide)) rfl) (pa_cons (pe_glob (v := .ref (T.C 8)) (by rfl) (T.m 8 (by decide)) rfl) pa_nil)))))))))) fun σ H Q h => ⟨Nat.le_of_ble_eq_true rfl, fun p hp => h p hp⟩
  case cs =>
    intro c hc
    obtain ⟨j, _, rfl⟩ := List.mem_map.mp hc
    exact ⟨_, rfl⟩
  case body =>
    intro W pn xe tk hp
    refine ⟨fun pins s' σ H' D I ⟨Ech, hW, h1, h2, h3⟩ => ?_⟩
    exact (pss_one (ps_set (i := 2) sc_out.nd rfl (Or.inl rfl) (act W pn xe Ech _ _ tk hW))).run pins s' σ H' D I ⟨h1, h2, h3⟩
  case main =>
    refine ⟨Nat.le_of_ble_eq_true rfl, fun p hp => ⟨p, _, rfl, .inl (.inl upd_same), rfl, ?_⟩⟩
    refine ⟨_, _, rfl, _, _, rfl, rfl, OutX U X.K Q, fun cls d σ' H' ho => ?_, rfl, by rw [upd_ne (ne_of_none hco hp)]; exact hco, h p _ hp fun v H' hv => ?_⟩
    · exact out_kept (U := U) (K := X.K) (mg := X.mg) (σ := σ') T ho fun a H2 σ2 hσ hs => ⟨_, hσ, false, rfl, iteF ⟨_, hσ, hs⟩⟩
    · exact ⟨_, rfl, true, rfl, iteT ⟨_, rfl, Nat.le_of_ble_eq_true rfl, hv⟩⟩
end
end Lw
set_option maxRecDepth 100000
set_option maxHeartbeats 4000000
namespace Lw
open PySem L2 Dl Mr PySem.Spec PyProof.Rows

structure Prog (w : World) (K : PySem.W.Frag) (mg : Str → Option Value) where
  f_is_whole : Addr
  fd_is_whole : FuncData
  h_is_whole : PF K mg "is_whole" (top 12) ["thing", "least", "most"] f_is_whole fd_is_whole
  f_is_number : Addr
  fd_is_number : FuncData
  h_is_number : PF K mg "is_number" (top 13) ["thing"] f_is_number fd_is_number
  f_is_layer : Addr
  fd_is_layer : FuncData
  h_is_layer : PF K mg "is_layer" (top 19) ["thing", "least", "most"] f_is_layer fd_is_layer
  f_is_sign : Addr
  fd_is_sign : FuncData
  h_is_sign : PF K mg "is_sign" (top 20) ["thing"] f_is_sign fd_is_sign
  f_is_pace : Addr
  fd_is_pace : FuncData
  h_is_pace : PF K mg "is_pace" (top 21) ["thing"] f_is_pace fd_is_pace
  f_are_layers : Addr
  fd_are_layers : FuncData
  h_are_layers : PF K mg "are_layers" (top 22) ["layers", "undone"] f_are_layers fd_are_layers
  f_is_looping : Addr
  fd_is_looping : FuncData
  h_is_looping : PF K mg "is_looping" (top 23) ["track"] f_is_looping fd_is_looping
  f_are_default : Addr
  fd_are_default : FuncData
  h_are_default : PF K mg "are_default" (top 24) ["track"] f_are_default fd_are_default
  f_is_track : Addr
  fd_is_track : FuncData
  h_is_track : PF K mg "is_track" (top 25) ["thing"] f_is_track fd_is_track
  f_closed : Addr
  fd_closed : FuncData
  h_closed : PF K mg "closed" (top 26) ["track", "mode"] f_closed fd_closed
  f_tapped : Addr
  fd_tapped : FuncData
  h_tapped : PF K mg "tapped" (top 27) ["track"] f_tapped fd_tapped
  f_stopped : Addr
  fd_stopped : FuncData
  h_stopped : PF K mg "stopped" (top 28) ["track"] f_stopped fd_stopped
  f_cleared : Addr
  fd_cleared : FuncData
  h_cleared : PF K mg "cleared" (top 29) ["track"] f_cleared fd_cleared
  f_undone_by : Addr
  fd_undone_by : FuncData
  h_undone_by : PF K mg "undone_by" (top 30) ["track"] f_undone_by fd_undone_by
  f_redone_by : Addr
  fd_redone_by : FuncData
  h_redone_by : PF K mg "redone_by" (top 31) ["track"] f_redone_by fd_redone_by
  f_joined : Addr
  fd_joined : FuncData
  h_joined : PF K mg "joined" (top 32) ["track"] f_joined fd_joined
  f_other_way : Addr
  fd_other_way : FuncData
  h_other_way : PF K mg "other_way" (top 33) ["track"] f_other_way fd_other_way
  f_flipped : Addr
  fd_flipped : FuncData
  h_flipped : PF K mg "flipped" (top 34) ["track"] f_flipped fd_flipped
  f_hushed_or_not : Addr
  fd_hushed_or_not : FuncData
  h_hushed_or_not : PF K mg "hushed_or_not" (top 35) ["track"] f_hushed_or_not fd_hushed_or_not
  f_behind_press : Addr
  fd_behind_press : FuncData
  h_behind_press : PF K mg "behind_press" (top 37) ["pedal", "press"] f_behind_press fd_behind_press
  f_all_presses : Addr
  fd_all_presses : FuncData
  h_all_presses : PF K mg "all_presses" (top 39) [] f_all_presses fd_all_presses
  f_way_to : Addr
  fd_way_to : FuncData
  h_way_to : PF K mg "way_to" (top 40) ["track", "goal"] f_way_to fd_way_to
  f__law_begun : Addr
  fd__law_begun : FuncData
  h__law_begun : PF K mg "_law_begun" s_begun ["script"] f__law_begun fd__law_begun
  f__law_next : Addr
  fd__law_next : FuncData
  h__law_next : PF K mg "_law_next" s_next ["m", "total"] f__law_next fd__law_next
  f__law_fault : Addr
  fd__law_fault : FuncData
  h__law_fault : PF K mg "_law_fault" s_fault ["e"] f__law_fault fd__law_fault
  f__law_outcome : Addr
  fd__law_outcome : FuncData
  h__law_outcome : PF K mg "_law_outcome" s_out ["deed"] f__law_outcome fd__law_outcome
  f__law_way : Addr
  fd__law_way : FuncData
  h__law_way : PF K mg "_law_way" (top 46) ["one", "other"] f__law_way fd__law_way
  f__law_long_right : Addr
  fd__law_long_right : FuncData
  h__law_long_right : PF K mg "_law_long_right" (top 47) [] f__law_long_right fd__law_long_right
  f_law : Addr
  fd_law : FuncData
  h_law : PF K mg "law" (top 48) ["script"] f_law fd_law
  bi_all : mg "all" = none
  bi_bool : mg "bool" = none
  bi_int : mg "int" = none
  bi_isinstance : mg "isinstance" = none
  bi_len : mg "len" = none
  bi_list : mg "list" = none
  bi_sorted : mg "sorted" = none
  bi_str : mg "str" = none
  bi_sum : mg "sum" = none
  bi_tuple : mg "tuple" = none
  bi_zip : mg "zip" = none
  t_MOST_LAYERS : Tok
  c_MOST_LAYERS : mg "MOST_LAYERS" = some (.int 4 t_MOST_LAYERS)
  t_MOST_LENGTH : Tok
  c_MOST_LENGTH : mg "MOST_LENGTH" = some (.int 64 t_MOST_LENGTH)
  a_EMPTY : Addr
  c_EMPTY : mg "EMPTY" = some (.ref a_EMPTY)
  r_EMPTY : ∀ I, Rp K I (.ref a_EMPTY) d_EMPTY
  a_LOOPING : Addr
  c_LOOPING : mg "LOOPING" = some (.ref a_LOOPING)
  r_LOOPING : ∀ I, Rp K I (.ref a_LOOPING) d_LOOPING
  a_PACES : Addr
  c_PACES : mg "PACES" = some (.ref a_PACES)
  r_PACES : ∀ I, Rp K I (.ref a_PACES) d_PACES
  a_DEEDS : Addr
  tab_DEEDS : TabF w K mg "DEEDS" a_DEEDS [("tap", f_tapped), ("stop", f_stopped), ("clear", f_cleared), ("undo", f_undone_by), ("redo", f_redone_by), ("join", f_joined), ("turn", f_other_way), ("flip", f_flipped), ("mute", f_hushed_or_not)]
  cc_law : Addr
  P_law : Addr
  hc_law : FunC K "law" "law" (top 48) f_law fd_law (.ref cc_law)
  a_BadLoops : Addr
  m_BadLoops : mg "BadLoops" = some (.ref a_BadLoops)
  a_BadLengths : Addr
  m_BadLengths : mg "BadLengths" = some (.ref a_BadLengths)
  a_BadPedal : Addr
  m_BadPedal : mg "BadPedal" = some (.ref a_BadPedal)
  a_BadRow : Addr
  m_BadRow : mg "BadRow" = some (.ref a_BadRow)
  a_BadPaper : Addr
  m_BadPaper : mg "BadPaper" = some (.ref a_BadPaper)
  a_BadText : Addr
  m_BadText : mg "BadText" = some (.ref a_BadText)
  a_TooGreat : Addr
  m_TooGreat : mg "TooGreat" = some (.ref a_TooGreat)
  a_Nothing : Addr
  m_Nothing : mg "Nothing" = some (.ref a_Nothing)
  a_OutOfPlace : Addr
  i_OutOfPlace : Addr
  fi_OutOfPlace : FuncData
  e_OutOfPlace : EF K mg "OutOfPlace" "OutOfPlace.__init__" (initOf (top 7)) "text" a_OutOfPlace i_OutOfPlace fi_OutOfPlace
  ec_OutOfPlace : ExcC K a_OutOfPlace
  x_OutOfPlace_BadLengths : PySem.W.exmOne K (.ref a_OutOfPlace) (.ref a_BadLengths) = some false
  x_OutOfPlace_BadLoops : PySem.W.exmOne K (.ref a_OutOfPlace) (.ref a_BadLoops) = some false
  x_OutOfPlace_BadPaper : PySem.W.exmOne K (.ref a_OutOfPlace) (.ref a_BadPaper) = some false
  x_OutOfPlace_BadPedal : PySem.W.exmOne K (.ref a_OutOfPlace) (.ref a_BadPedal) = some false
  x_OutOfPlace_BadRow : PySem.W.exmOne K (.ref a_OutOfPlace) (.ref a_BadRow) = some false
  x_OutOfPlace_BadText : PySem.W.exmOne K (.ref a_OutOfPlace) (.ref a_BadText) = some false
  x_OutOfPlace_Nothing : PySem.W.exmOne K (.ref a_OutOfPlace) (.ref a_Nothing) = some false
  x_OutOfPlace_OutOfPlace : PySem.W.exmOne K (.ref a_OutOfPlace) (.ref a_OutOfPlace) = some true
  x_OutOfPlace_TooGreat : PySem.W.exmOne K (.ref a_OutOfPlace) (.ref a_TooGreat) = some false
  bl : ∀ (s : Shared) (u : Value), BindsTo s fd_law ⟨[u], []⟩ [("script", u)]
abbrev Prog.cs {w : World} {K : PySem.W.Frag} {mg : Str → Option Value} (T : Prog w K mg) : Tcs := [(T.cc_law, T.P_law, "law.<locals>.<lambda>")]
abbrev Prog.tb {w : World} {K : PySem.W.Frag} {mg : Str → Option Value} (T : Prog w K mg) : List (Addr × Str) := T.cs.tb
abbrev Prog.TB {w : World} {K : PySem.W.Frag} {mg : Str → Option Value} (T : Prog w K mg) (base : Heap) : Prop := ∀ p ∈ T.cs, LamX.TabB base mg p.1 p.2.1
section
variable {P : Program} {w : World} {K : PySem.W.Frag} {mg : Str → Option Value} {base : Heap}
def Prog.cl (T : Prog w K mg) : Nat → Option (Addr × List Str)
  | 6 => some (T.a_OutOfPlace, ["text"])
  | _ => none
def Prog.ci (T : Prog w K mg) : Nat → Option Addr := fun n => hashN w n
theorem Prog.hw (T : Prog w K mg) : HW w T.ci := hw_of fun j hj => by
  unfold Prog.ci
  first
  | rfl
  | (repeat (rw [if_neg (by omega)]))
theorem sci_OutOfPlace : FnScope ["self", "text"] ["self", "text"] (defScope (initOf (top 7))) := ⟨rfl, rfl, rfl, by decide +kernel, rfl, by decide +kernel, by decide +kernel⟩
theorem oki_OutOfPlace (T : Prog w K mg) : FnOk P w K mg base CX0 1 T.i_OutOfPlace T.fi_OutOfPlace ["self", "text"] (spX T.a_OutOfPlace 1 (fun ys => (["text"] : List Str).zip ys)) := by
  refine T.e_OutOfPlace.fn.ok sci_OutOfPlace (fun vs H Q E h => ?_) (fun cdv A outer s H vs Q E hr h => ⟨_, pss_one (ps_ost (pv 0) (pv 1)), init_read T.e_OutOfPlace.ox T.e_OutOfPlace.no vs H Q E h⟩)
  obtain ⟨a, ys, rfl, hl, _⟩ := h
  show ys.length + 1 = 2
  rw [hl]
theorem excL_OutOfPlace (T : Prog w K mg) : ExcT (UL K T.tb T.cl T.ci) P w K mg base "OutOfPlace" 6 1 ["text"] id := exc_of T.e_OutOfPlace rfl (oki_OutOfPlace T)
def Prog.flt (T : Prog w K mg) : FltT K mg T.cl where
  C := fun i => match i with
    | 0 => T.a_BadLoops
    | 1 => T.a_BadLengths
    | 2 => T.a_BadPedal
    | 3 => T.a_BadRow
    | 4 => T.a_BadPaper
    | 5 => T.a_BadText
    | 6 => T.a_OutOfPlace
    | 7 => T.a_TooGreat
    | _ => T.a_Nothing
  m := fun i hi => match i, hi with
    | 0, _ => T.m_BadLoops
    | 1, _ => T.m_BadLengths
    | 2, _ => T.m_BadPedal
    | 3, _ => T.m_BadRow
    | 4, _ => T.m_BadPaper
    | 5, _ => T.m_BadText
    | 6, _ => T.e_OutOfPlace.m
    | 7, _ => T.m_TooGreat
    | 8, _ => T.m_Nothing
    | _ + 9, h => absurd h (by omega)
  hcl := fun i D nms h => match i, h with
    | 0, h => by cases h
    | 1, h => by cases h
    | 2, h => by cases h
    | 3, h => by cases h
    | 4, h => by cases h
    | 5, h => by cases h
    | 6, h => by cases h; exact ⟨by decide, rfl, rfl⟩
    | 7, h => by cases h
    | 8, h => by cases h
    | _ + 9, h => by cases h
  ec := fun i D nms h => match i, h with
    | 0, h => by cases h
    | 1, h => by cases h
    | 2, h => by cases h
    | 3, h => by cases h
    | 4, h => by cases h
    | 5, h => by cases h
    | 6, h => by cases h; exact ⟨T.ec_OutOfPlace, T.e_OutOfPlace.xf, fun n hn => by cases List.mem_singleton.mp hn; exact T.e_OutOfPlace.no⟩
    | 7, h => by cases h
    | 8, h => by cases h
    | _ + 9, h => by cases h
  exm := fun i D nms h j hj => match i, h with
    | 0, h => by cases h
    | 1, h => by cases h
    | 2, h => by cases h
    | 3, h => by cases h
    | 4, h => by cases h
    | 5, h => by cases h
    | 6, h => by
      cases h
      exact (match j, hj with
        | 0, _ => T.x_OutOfPlace_BadLoops
        | 1, _ => T.x_OutOfPlace_BadLengths
        | 2, _ => T.x_OutOfPlace_BadPedal
        | 3, _ => T.x_OutOfPlace_BadRow
        | 4, _ => T.x_OutOfPlace_BadPaper
        | 5, _ => T.x_OutOfPlace_BadText
        | 6, _ => T.x_OutOfPlace_OutOfPlace
        | 7, _ => T.x_OutOfPlace_TooGreat
        | 8, _ => T.x_OutOfPlace_Nothing
        | _ + 9, h => absurd h (by omega))
    | 7, h => by cases h
    | 8, h => by cases h
    | _ + 9, h => by cases h
theorem out_ok (T : Prog w K mg) : OutF P w K mg base (UL K T.tb T.cl T.ci) "_law_outcome" := ok_out T.h__law_outcome T.h__law_fault T.flt T.bi_isinstance T.bi_len
theorem ok__law_begun (T : Prog w K mg) (B : T.TB base) : FnG (UD K T.tb T.cl) P w K mg base 1 T.f__law_begun T.fd__law_begun ["script"] fBegun := ok_begun T.h__law_begun.fn T.bi_list
theorem ok__law_next (T : Prog w K mg) (B : T.TB base) : FnG (UD K T.tb T.cl) P w K mg base 1 T.f__law_next T.fd__law_next ["m", "total"] fNext := ok_next T.h__law_next.fn T.bi_int T.bi_len
abbrev s_is_whole : Stmt := (top 12)
theorem sc_is_whole : FnScope ["thing", "least", "most"] ["thing", "least", "most"] (defScope s_is_whole) := ⟨rfl, rfl, rfl, by decide +kernel, rfl, by decide +kernel, by decide +kernel⟩
theorem ok_is_whole (T : Prog w K mg) (B : T.TB base) : FnG (UD K T.tb T.cl) P w K mg base 1 T.f_is_whole T.fd_is_whole ["thing", "least", "most"] F_is_whole :=
  fn_g T.h_is_whole.fn sc_is_whole fun cdv A outer s H E hr hgd =>
    (pbd_one (psd_ret (ped_and (ped_isi .int (by rfl) T.bi_isinstance (by rfl) T.bi_int (by decide +kernel) (ped_var 0)) (ped_and (ped_not (ped_isi .bool (by rfl) T.bi_isinstance (by rfl) T.bi_bool (by decide +kernel) (ped_var 0))) (ped_one (ped_chain op_le d_le op_le d_le (ped_var 1) (ped_var 0) (ped_var 2)))))))
abbrev s_is_number : Stmt := (top 13)
theorem sc_is_number : FnScope ["thing"] ["thing"] (defScope s_is_number) := ⟨rfl, rfl, rfl, by decide +kernel, rfl, by decide +kernel, by decide +kernel⟩
theorem ok_is_number (T : Prog w K mg) (B : T.TB base) : FnG (UD K T.tb T.cl) P w K mg base 1 T.f_is_number T.fd_is_number ["thing"] F_is_number :=
  fn_g T.h_is_number.fn sc_is_number fun cdv A outer s H E hr hgd =>
    (pbd_one (psd_ret (ped_and (ped_isi .int (by rfl) T.bi_isinstance (by rfl) T.bi_int (by decide +kernel) (ped_var 0)) (ped_one (ped_not (ped_isi .bool (by rfl) T.bi_isinstance (by rfl) T.bi_bool (by decide +kernel) (ped_var 0)))))))
abbrev s_is_layer : Stmt := (top 19)
theorem sc_is_layer : FnScope ["thing", "least", "most", "cell"] ["thing", "least", "most"] (defScope s_is_layer) := ⟨rfl, rfl, rfl, by decide +kernel, rfl, by decide +kernel, by decide +kernel⟩
theorem ok_is_layer (T : Prog w K mg) (B : T.TB base) : FnG (UD K T.tb T.cl) P w K mg base 2 T.f_is_layer T.fd_is_layer ["thing", "least", "most"] F_is_layer :=
  fn_g T.h_is_layer.fn sc_is_layer fun cdv A outer s H E hr hgd =>
    (pbd_one (psd_ret (ped_and (ped_isi .tuple (by rfl) T.bi_isinstance (by rfl) T.bi_tuple (by decide +kernel) (ped_var 0)) (ped_and (ped_chain op_le d_le op_le d_le (ped_var 1) (ped_callB Dl.call_lenD d_len (by rfl) T.bi_len (by decide +kernel) (pad_cons (ped_var 0) pad_nil)) (ped_var 2)) (ped_one (ped_callB (cr_all rfl) d_all (by rfl) T.bi_all (by decide +kernel) (pad_cons (ped_frz (pnd_comp rfl sc_is_layer.nd (own := [("cell", 3)]) (g := (.name 3)) (pid_seq (ped_var 0)) (blkOk_by (N := ["thing", "least", "most", "cell"]) (sc := defScope s_is_layer) (by decide +kernel)) (by decide) (fun _ _ _ _ _ => (pgd_name 3 sc_is_layer.nd rfl (by first | exact Or.inl rfl | exact Or.inr rfl))) (fun _ _ _ _ _ => ptsd_nil) (fun _ _ _ _ _ => (ped_callN (ok_is_number T B) (hr.mono (by decide)) hgd (by rfl) T.h_is_number.m T.h_is_number.fn.kp T.h_is_number.b takesF (pad_cons (ped_var 3) pad_nil))))) pad_nil)))))))
abbrev s_is_sign : Stmt := (top 20)
theorem sc_is_sign : FnScope ["thing"] ["thing"] (defScope s_is_sign) := ⟨rfl, rfl, rfl, by decide +kernel, rfl, by decide +kernel, by decide +kernel⟩
theorem ok_is_sign (T : Prog w K mg) (B : T.TB base) : FnG (UD K T.tb T.cl) P w K mg base 2 T.f_is_sign T.fd_is_sign ["thing"] F_is_sign :=
  fn_g T.h_is_sign.fn sc_is_sign fun cdv A outer s H E hr hgd =>
    (pbd_one (psd_ret (ped_and (ped_callN (ok_is_whole T B) (hr.mono (by decide)) hgd (by rfl) T.h_is_whole.m T.h_is_whole.fn.kp T.h_is_whole.b (takes_of rfl rfl rfl rfl) (pad_cons (ped_var 0) (pad_cons (ped_un un_neg d_neg (ped_c pe_int (fun _ => .int _))) (pad_cons (ped_c pe_int (fun _ => .int _)) pad_nil)))) (ped_one (ped_cmp (op_neE hr.units) d_ne (ped_var 0) (ped_c pe_int (fun _ => .int _)) (nomark _))))))
abbrev s_is_pace : Stmt := (top 21)
theorem sc_is_pace : FnScope ["thing"] ["thing"] (defScope s_is_pace) := ⟨rfl, rfl, rfl, by decide +kernel, rfl, by decide +kernel, by decide +kernel⟩
theorem ok_is_pace (T : Prog w K mg) (B : T.TB base) : FnG (UD K T.tb T.cl) P w K mg base 2 T.f_is_pace T.fd_is_pace ["thing"] F_is_pace :=
  fn_g T.h_is_pace.fn sc_is_pace fun cdv A outer s H E hr hgd =>
    (pbd_one (psd_ret (ped_and (ped_callN (ok_is_whole T B) (hr.mono (by decide)) hgd (by rfl) T.h_is_whole.m T.h_is_whole.fn.kp T.h_is_whole.b (takes_of rfl rfl rfl rfl) (pad_cons (ped_var 0) (pad_cons (ped_c pe_int (fun _ => .int _)) (pad_cons (ped_c pe_int (fun _ => .int _)) pad_nil)))) (ped_one (ped_cmp op_in_seq d_in (ped_var 0) (ped_c (pe_glob (v := .ref T.a_PACES) (by rfl) T.c_PACES rfl) (fun I => T.r_PACES I)) (by rfl))))))
abbrev s_are_layers : Stmt := (top 22)
theorem sc_are_layers : FnScope ["layers", "undone", "many", "layer"] ["layers", "undone"] (defScope s_are_layers) := ⟨rfl, rfl, rfl, by decide +kernel, rfl, by decide +kernel, by decide +kernel⟩
theorem ok_are_layers (T : Prog w K mg) (B : T.TB base) : FnG (UD K T.tb T.cl) P w K mg base 3 T.f_are_layers T.fd_are_layers ["layers", "undone"] F_are_layers :=
  fn_g T.h_are_layers.fn sc_are_layers fun cdv A outer s H E hr hgd =>
    (pbd_cons (psd_if (ptd_w (pwd_or (ptd_not (ptd_val (ped_isi .tuple (by rfl) T.bi_isinstance (by rfl) T.bi_tuple (by decide +kernel) (ped_var 0)))) (pwd_or (ptd_not (ptd_val (ped_isi .tuple (by rfl) T.bi_isinstance (by rfl) T.bi_tuple (by decide +kernel) (ped_var 1)))) (pwd_or1 (ptd_cmp (op_eqE hr.units) d_eq (ped_var 0) (ped_tup pad_nil) (nomark _))))))
    (pbd_one (psd_ret (ped_c pe_bl (fun _ => .bl _))))
    pbd_nil)
    (pbd_cons (psd_if (ptd_w (pwd_or (ptd_cmp op_gt d_gt (ped_callB Dl.call_lenD d_len (by rfl) T.bi_len (by decide +kernel) (pad_cons (ped_op op_addD d_add (ped_var 0) (ped_var 1)) pad_nil)) (ped_c (pe_glob (v := .int 4) (by rfl) T.c_MOST_LAYERS ⟨_, rfl⟩) (fun _ => .int _)) (nomark _)) (pwd_or1 (ptd_not (ptd_val (ped_callN (ok_is_layer T B) (hr.mono (by decide)) hgd (by rfl) T.h_is_layer.m T.h_is_layer.fn.kp T.h_is_layer.b (takes_of rfl rfl rfl rfl) (pad_cons (ped_ix (ped_var 0) (ped_c pe_int (fun _ => .int _)) (fun _ _ => rfl)) (pad_cons (ped_c pe_int (fun _ => .int _)) (pad_cons (ped_c (pe_glob (v := .int 64) (by rfl) T.c_MOST_LENGTH ⟨_, rfl⟩) (fun _ => .int _)) pad_nil)))))))))
    (pbd_one (psd_ret (ped_c pe_bl (fun _ => .bl _))))
    pbd_nil)
    (pbd_cons (psd_set (i := 2) sc_are_layers.nd rfl (by first | exact Or.inl rfl | exact Or.inr rfl) (ped_callB Dl.call_lenD d_len (by rfl) T.bi_len (by decide +kernel) (pad_cons (ped_ix (ped_var 0) (ped_c pe_int (fun _ => .int _)) (fun _ _ => rfl)) pad_nil)))
    (pbd_one (psd_ret (ped_callB (cr_all rfl) d_all (by rfl) T.bi_all (by decide +kernel) (pad_cons (ped_frz (pnd_comp rfl sc_are_layers.nd (own := [("layer", 3)]) (g := (.name 3)) (pid_seq (ped_op op_addD d_add (ped_var 0) (ped_var 1))) (blkOk_by (N := ["layers", "undone", "many", "layer"]) (sc := defScope s_are_layers) (by decide +kernel)) (by decide) (fun _ _ _ _ _ => (pgd_name 3 sc_are_layers.nd rfl (by first | exact Or.inl rfl | exact Or.inr rfl))) (fun _ _ _ _ _ => ptsd_nil) (fun _ _ _ _ _ => (ped_callN (ok_is_layer T B) (hr.mono (by decide)) hgd (by rfl) T.h_is_layer.m T.h_is_layer.fn.kp T.h_is_layer.b takesF (pad_cons (ped_var 3) (pad_cons (ped_var 2) (pad_cons (ped_var 2) pad_nil))))))) pad_nil)))))))
abbrev s_is_looping : Stmt := (top 23)
theorem sc_is_looping : FnScope ["track", "mode", "layers", "undone", "point", "way", "pace", "sign", "muted"] ["track"] (defScope s_is_looping) := ⟨rfl, rfl, rfl, by decide +kernel, rfl, by decide +kernel, by decide +kernel⟩
theorem ok_is_looping (T : Prog w K mg) (B : T.TB base) : FnG (UD K T.tb T.cl) P w K mg base 4 T.f_is_looping T.fd_is_looping ["track"] F_is_looping :=
  fn_g T.h_is_looping.fn sc_is_looping fun cdv A outer s H E hr hgd =>
    (pbd_cons (psd_unp (g := (.tup [1, 2, 3, 4, 5, 6, 7, 8])) (ped_var 0) (pgd_tup [1, 2, 3, 4, 5, 6, 7, 8] rfl (pgs_cons (pg_name (i := 1) sc_is_looping.nd rfl (by first | exact Or.inl rfl | exact Or.inr rfl)) (pgs_cons (pg_name (i := 2) sc_is_looping.nd rfl (by first | exact Or.inl rfl | exact Or.inr rfl)) (pgs_cons (pg_name (i := 3) sc_is_looping.nd rfl (by first | exact Or.inl rfl | exact Or.inr rfl)) (pgs_cons (pg_name (i := 4) sc_is_looping.nd rfl (by first | exact Or.inl rfl | exact Or.inr rfl)) (pgs_cons (pg_name (i := 5) sc_is_looping.nd rfl (by first | exact Or.inl rfl | exact Or.inr rfl)) (pgs_cons (pg_name (i := 6) sc_is_looping.nd rfl (by first | exact Or.inl rfl | exact Or.inr rfl)) (pgs_cons (pg_name (i := 7) sc_is_looping.nd rfl (by first | exact Or.inl rfl | exact Or.inr rfl)) (pgs_cons (pg_name (i := 8) sc_is_looping.nd rfl (by first | exact Or.inl rfl | exact Or.inr rfl)) pgs_nil))))))))))
    (pbd_cons (psd_if (ptd_w (pwd_or (ptd_not (ptd_val (ped_callN (ok_are_layers T B) (hr.mono (by decide)) hgd (by rfl) T.h_are_layers.m T.h_are_layers.fn.kp T.h_are_layers.b (takes_of rfl rfl rfl rfl) (pad_cons (ped_var 2) (pad_cons (ped_var 3) pad_nil))))) (pwd_or1 (ptd_not (ptd_val (ped_callN (ok_is_whole T B) (hr.mono (by decide)) hgd (by rfl) T.h_is_whole.m T.h_is_whole.fn.kp T.h_is_whole.b (takes_of rfl rfl rfl rfl) (pad_cons (ped_var 4) (pad_cons (ped_c pe_int (fun _ => .int _)) (pad_cons (ped_op op_sub d_sub (ped_op op_mulD d_mul (ped_c pe_int (fun _ => .int _)) (ped_callB Dl.call_lenD d_len (by rfl) T.bi_len (by decide +kernel) (pad_cons (ped_ix (ped_var 2) (ped_c pe_int (fun _ => .int _)) (fun _ _ => rfl)) pad_nil))) (ped_c pe_int (fun _ => .int _))) pad_nil)))))))))
    (pbd_one (psd_ret (ped_c pe_bl (fun _ => .bl _))))
    pbd_nil)
    (pbd_cons (psd_if (ptd_w (pwd_or (ptd_w (pwd_and (ptd_cmp (op_eqE hr.units) d_eq (ped_var 1) (ped_c pe_str (fun _ => .str _)) (nomark _)) (pwd_and1 (ptd_cmp (op_neE hr.units) d_ne (ped_var 4) (ped_c pe_int (fun _ => .int _)) (nomark _))))) (pwd_or1 (ptd_w (pwd_and (ptd_cmp (op_eqE hr.units) d_eq (ped_var 1) (ped_c pe_str (fun _ => .str _)) (nomark _)) (pwd_and1 (ptd_w (pwd_or (ptd_cmp op_lt d_lt (ped_callB Dl.call_lenD d_len (by rfl) T.bi_len (by decide +kernel) (pad_cons (ped_var 2) pad_nil)) (ped_c pe_int (fun _ => .int _)) (nomark _)) (pwd_or1 (ptd_cmp (op_neE hr.units) d_ne (ped_var 3) (ped_tup pad_nil) (nomark _)))))))))))
    (pbd_one (psd_ret (ped_c pe_bl (fun _ => .bl _))))
    pbd_nil)
    (pbd_one (psd_ret (ped_and (ped_callN (ok_is_sign T B) (hr.mono (by decide)) hgd (by rfl) T.h_is_sign.m T.h_is_sign.fn.kp T.h_is_sign.b (takes_of rfl rfl rfl rfl) (pad_cons (ped_var 5) pad_nil)) (ped_and (ped_callN (ok_is_pace T B) (hr.mono (by decide)) hgd (by rfl) T.h_is_pace.m T.h_is_pace.fn.kp T.h_is_pace.b (takes_of rfl rfl rfl rfl) (pad_cons (ped_var 6) pad_nil)) (ped_and (ped_callN (ok_is_sign T B) (hr.mono (by decide)) hgd (by rfl) T.h_is_sign.m T.h_is_sign.fn.kp T.h_is_sign.b (takes_of rfl rfl rfl rfl) (pad_cons (ped_var 7) pad_nil)) (ped_one (ped_isi .bool (by rfl) T.bi_isinstance (by rfl) T.bi_bool (by decide +kernel) (ped_var 8)))))))))))
abbrev s_are_default : Stmt := (top 24)
theorem sc_are_default : FnScope ["track", "thing"] ["track"] (defScope s_are_default) := ⟨rfl, rfl, rfl, by decide +kernel, rfl, by decide +kernel, by decide +kernel⟩
theorem ok_are_default (T : Prog w K mg) (B : T.TB base) : FnG (UD K T.tb T.cl) P w K mg base 2 T.f_are_default T.fd_are_default ["track"] F_are_default :=
  fn_g T.h_are_default.fn sc_are_default fun cdv A outer s H E hr hgd =>
    (pbd_cons (psd_if (ptd_w (pwd_or (ptd_not (ptd_val (ped_isi .tuple (by rfl) T.bi_isinstance (by rfl) T.bi_tuple (by decide +kernel) (ped_ix (ped_var 0) (ped_c pe_int (fun _ => .int _)) (fun _ _ => rfl))))) (pwd_or (ptd_cmp (op_neE hr.units) d_ne (ped_ix (ped_var 0) (ped_c pe_int (fun _ => .int _)) (fun _ _ => rfl)) (ped_tup pad_nil) (nomark _)) (pwd_or (ptd_not (ptd_val (ped_isi .bool (by rfl) T.bi_isinstance (by rfl) T.bi_bool (by decide +kernel) (ped_ix (ped_var 0) (ped_c pe_int (fun _ => .int _)) (fun _ _ => rfl))))) (pwd_or1 (ptd_val (ped_ix (ped_var 0) (ped_c pe_int (fun _ => .int _)) (fun _ _ => rfl))))))))
    (pbd_one (psd_ret (ped_c pe_bl (fun _ => .bl _))))
    pbd_nil)
    (pbd_one (psd_ret (ped_and (ped_callB (cr_all rfl) d_all (by rfl) T.bi_all (by decide +kernel) (pad_cons (ped_frz (pnd_comp rfl sc_are_default.nd (own := [("thing", 1)]) (g := (.name 1)) (pid_seq (ped_sl (ped_var 0) (pod_some (ped_c pe_int (fun _ => .int _))) (pod_some (ped_c pe_int (fun _ => .int _))))) (blkOk_by (N := ["track", "thing"]) (sc := defScope s_are_default) (by decide +kernel)) (by decide) (fun _ _ _ _ _ => (pgd_name 1 sc_are_default.nd rfl (by first | exact Or.inl rfl | exact Or.inr rfl))) (fun _ _ _ _ _ => ptsd_nil) (fun _ _ _ _ _ => (ped_callN (ok_is_number T B) (hr.mono (by decide)) hgd (by rfl) T.h_is_number.m T.h_is_number.fn.kp T.h_is_number.b takesF (pad_cons (ped_var 1) pad_nil))))) pad_nil)) (ped_one (ped_cmp (op_eqE hr.units) d_eq (ped_sl (ped_var 0) (pod_some (ped_c pe_int (fun _ => .int _))) (pod_some (ped_c pe_int (fun _ => .int _)))) (ped_sl (ped_c (pe_glob (v := .ref T.a_EMPTY) (by rfl) T.c_EMPTY rfl) (fun I => T.r_EMPTY I)) (pod_some (ped_c pe_int (fun _ => .int _))) (pod_some (ped_c pe_int (fun _ => .int _)))) (nomark _)))))))
abbrev s_is_track : Stmt := (top 25)
theorem sc_is_track : FnScope ["thing"] ["thing"] (defScope s_is_track) := ⟨rfl, rfl, rfl, by decide +kernel, rfl, by decide +kernel, by decide +kernel⟩
theorem ok_is_track (T : Prog w K mg) (B : T.TB base) : FnG (UD K T.tb T.cl) P w K mg base 5 T.f_is_track T.fd_is_track ["thing"] F_is_track :=
  fn_g T.h_is_track.fn sc_is_track fun cdv A outer s H E hr hgd =>
    (pbd_cons (psd_if (ptd_w (pwd_or (ptd_not (ptd_val (ped_isi .tuple (by rfl) T.bi_isinstance (by rfl) T.bi_tuple (by decide +kernel) (ped_var 0)))) (pwd_or (ptd_cmp (op_neE hr.units) d_ne (ped_callB Dl.call_lenD d_len (by rfl) T.bi_len (by decide +kernel) (pad_cons (ped_var 0) pad_nil)) (ped_c pe_int (fun _ => .int _)) (nomark _)) (pwd_or1 (ptd_not (ptd_val (ped_isi .str (by rfl) T.bi_isinstance (by rfl) T.bi_str (by decide +kernel) (ped_ix (ped_var 0) (ped_c pe_int (fun _ => .int _)) (fun _ _ => rfl)))))))))
    (pbd_one (psd_ret (ped_c pe_bl (fun _ => .bl _))))
    pbd_nil)
    (pbd_cons (psd_if (ptd_cmp op_in_seq d_in (ped_ix (ped_var 0) (ped_c pe_int (fun _ => .int _)) (fun _ _ => rfl)) (ped_c (pe_glob (v := .ref T.a_LOOPING) (by rfl) T.c_LOOPING rfl) (fun I => T.r_LOOPING I)) (by rfl))
    (pbd_one (psd_ret (ped_callN (ok_is_looping T B) (hr.mono (by decide)) hgd (by rfl) T.h_is_looping.m T.h_is_looping.fn.kp T.h_is_looping.b (takes_of rfl rfl rfl rfl) (pad_cons (ped_var 0) pad_nil))))
    pbd_nil)
    (pbd_cons (psd_if (ptd_w (pwd_or (ptd_not (ptd_val (ped_callN (ok_are_default T B) (hr.mono (by decide)) hgd (by rfl) T.h_are_default.m T.h_are_default.fn.kp T.h_are_default.b (takes_of rfl rfl rfl rfl) (pad_cons (ped_var 0) pad_nil)))) (pwd_or1 (ptd_not (ptd_val (ped_isi .tuple (by rfl) T.bi_isinstance (by rfl) T.bi_tuple (by decide +kernel) (ped_ix (ped_var 0) (ped_c pe_int (fun _ => .int _)) (fun _ _ => rfl))))))))
    (pbd_one (psd_ret (ped_c pe_bl (fun _ => .bl _))))
    pbd_nil)
    (pbd_cons (psd_if (ptd_cmp (op_eqE hr.units) d_eq (ped_ix (ped_var 0) (ped_c pe_int (fun _ => .int _)) (fun _ _ => rfl)) (ped_c pe_str (fun _ => .str _)) (nomark _))
    (pbd_one (psd_ret (ped_cmp (op_eqE hr.units) d_eq (ped_ix (ped_var 0) (ped_c pe_int (fun _ => .int _)) (fun _ _ => rfl)) (ped_tup pad_nil) (nomark _))))
    pbd_nil)
    (pbd_one (psd_ret (ped_and (ped_cmp (op_eqE hr.units) d_eq (ped_ix (ped_var 0) (ped_c pe_int (fun _ => .int _)) (fun _ _ => rfl)) (ped_c pe_str (fun _ => .str _)) (nomark _)) (ped_and (ped_cmp (op_eqE hr.units) d_eq (ped_callB Dl.call_lenD d_len (by rfl) T.bi_len (by decide +kernel) (pad_cons (ped_ix (ped_var 0) (ped_c pe_int (fun _ => .int _)) (fun _ _ => rfl)) pad_nil)) (ped_c pe_int (fun _ => .int _)) (nomark _)) (ped_one (ped_callN (ok_is_layer T B) (hr.mono (by decide)) hgd (by rfl) T.h_is_layer.m T.h_is_layer.fn.kp T.h_is_layer.b (takes_of rfl rfl rfl rfl) (pad_cons (ped_ix (ped_ix (ped_var 0) (ped_c pe_int (fun _ => .int _)) (fun _ _ => rfl)) (ped_c pe_int (fun _ => .int _)) (fun _ _ => rfl)) (pad_cons (ped_c pe_int (fun _ => .int _)) (pad_cons (ped_op op_sub d_sub (ped_c (pe_glob (v := .int 64) (by rfl) T.c_MOST_LENGTH ⟨_, rfl⟩) (fun _ => .int _)) (ped_c pe_int (fun _ => .int _))) pad_nil)))))))))))))
abbrev s_closed : Stmt := (top 26)
theorem sc_closed : FnScope ["track", "mode"] ["track", "mode"] (defScope s_closed) := ⟨rfl, rfl, rfl, by decide +kernel, rfl, by decide +kernel, by decide +kernel⟩
theorem ok_closed (T : Prog w K mg) (B : T.TB base) : FnG (UD K T.tb T.cl) P w K mg base 1 T.f_closed T.fd_closed ["track", "mode"] F_closed :=
  fn_g T.h_closed.fn sc_closed fun cdv A outer s H E hr hgd =>
    (pbd_one (psd_ret (ped_if (ptd_cmp (op_eqE hr.units) d_eq (ped_ix (ped_var 0) (ped_c pe_int (fun _ => .int _)) (fun _ _ => rfl)) (ped_tup (pad_cons (ped_tup pad_nil) pad_nil)) (nomark _)) (ped_c (pe_glob (v := .ref T.a_EMPTY) (by rfl) T.c_EMPTY rfl) (fun I => T.r_EMPTY I)) (ped_op op_addD d_add (ped_tup (pad_cons (ped_var 1) pad_nil)) (ped_sl (ped_var 0) (pod_some (ped_c pe_int (fun _ => .int _))) pod_none)))))
abbrev s_tapped : Stmt := (top 27)
theorem sc_tapped : FnScope ["track", "mode", "layers", "undone", "point", "way", "pace", "sign", "muted"] ["track"] (defScope s_tapped) := ⟨rfl, rfl, rfl, by decide +kernel, rfl, by decide +kernel, by decide +kernel⟩
theorem ok_tapped (T : Prog w K mg) (B : T.TB base) : FnG (UD K T.tb T.cl) P w K mg base 2 T.f_tapped T.fd_tapped ["track"] F_tapped :=
  fn_g T.h_tapped.fn sc_tapped fun cdv A outer s H E hr hgd =>
    (pbd_cons (psd_unp (g := (.tup [1, 2, 3, 4, 5, 6, 7, 8])) (ped_var 0) (pgd_tup [1, 2, 3, 4, 5, 6, 7, 8] rfl (pgs_cons (pg_name (i := 1) sc_tapped.nd rfl (by first | exact Or.inl rfl | exact Or.inr rfl)) (pgs_cons (pg_name (i := 2) sc_tapped.nd rfl (by first | exact Or.inl rfl | exact Or.inr rfl)) (pgs_cons (pg_name (i := 3) sc_tapped.nd rfl (by first | exact Or.inl rfl | exact Or.inr rfl)) (pgs_cons (pg_name (i := 4) sc_tapped.nd rfl (by first | exact Or.inl rfl | exact Or.inr rfl)) (pgs_cons (pg_name (i := 5) sc_tapped.nd rfl (by first | exact Or.inl rfl | exact Or.inr rfl)) (pgs_cons (pg_name (i := 6) sc_tapped.nd rfl (by first | exact Or.inl rfl | exact Or.inr rfl)) (pgs_cons (pg_name (i := 7) sc_tapped.nd rfl (by first | exact Or.inl rfl | exact Or.inr rfl)) (pgs_cons (pg_name (i := 8) sc_tapped.nd rfl (by first | exact Or.inl rfl | exact Or.inr rfl)) pgs_nil))))))))))
    (pbd_cons (psd_if (ptd_cmp (op_eqE hr.units) d_eq (ped_var 1) (ped_c pe_str (fun _ => .str _)) (nomark _))
    (pbd_one (psd_ret (ped_op op_addD d_add (ped_tup (pad_cons (ped_c pe_str (fun _ => .str _)) (pad_cons (ped_tup (pad_cons (ped_tup pad_nil) pad_nil)) pad_nil))) (ped_sl (ped_var 0) (pod_some (ped_c pe_int (fun _ => .int _))) pod_none))))
    pbd_nil)
    (pbd_cons (psd_if (ptd_cmp (op_eqE hr.units) d_eq (ped_var 1) (ped_c pe_str (fun _ => .str _)) (nomark _))
    (pbd_one (psd_ret (ped_callN (ok_closed T B) (hr.mono (by decide)) hgd (by rfl) T.h_closed.m T.h_closed.fn.kp T.h_closed.b (takes_of rfl rfl rfl rfl) (pad_cons (ped_var 0) (pad_cons (ped_c pe_str (fun _ => .str _)) pad_nil)))))
    pbd_nil)
    (pbd_cons (psd_if (ptd_cmp (op_eqE hr.units) d_eq (ped_var 1) (ped_c pe_str (fun _ => .str _)) (nomark _))
    (pbd_cons (psd_if (ptd_cmp (op_eqE hr.units) d_eq (ped_callB Dl.call_lenD d_len (by rfl) T.bi_len (by decide +kernel) (pad_cons (ped_var 2) pad_nil)) (ped_c (pe_glob (v := .int 4) (by rfl) T.c_MOST_LAYERS ⟨_, rfl⟩) (fun _ => .int _)) (nomark _))
    (pbd_one (psd_ret (ped_var 0)))
    pbd_nil)
    (pbd_one (psd_ret (ped_op op_addD d_add (ped_tup (pad_cons (ped_c pe_str (fun _ => .str _)) (pad_cons (ped_op op_addD d_add (ped_var 2) (ped_tup (pad_cons (ped_op op_mulD d_mul (ped_tup (pad_cons (ped_c pe_int (fun _ => .int _)) pad_nil)) (ped_callB Dl.call_lenD d_len (by rfl) T.bi_len (by decide +kernel) (pad_cons (ped_ix (ped_var 2) (ped_c pe_int (fun _ => .int _)) (fun _ _ => rfl)) pad_nil))) pad_nil))) (pad_cons (ped_tup pad_nil) pad_nil)))) (ped_sl (ped_var 0) (pod_some (ped_c pe_int (fun _ => .int _))) pod_none)))))
    pbd_nil)
    (pbd_one (psd_ret (ped_op op_addD d_add (ped_tup (pad_cons (ped_c pe_str (fun _ => .str _)) pad_nil)) (ped_sl (ped_var 0) (pod_some (ped_c pe_int (fun _ => .int _))) pod_none))))))))
abbrev s_stopped : Stmt := (top 28)
theorem sc_stopped : FnScope ["track"] ["track"] (defScope s_stopped) := ⟨rfl, rfl, rfl, by decide +kernel, rfl, by decide +kernel, by decide +kernel⟩
theorem ok_stopped (T : Prog w K mg) (B : T.TB base) : FnG (UD K T.tb T.cl) P w K mg base 2 T.f_stopped T.fd_stopped ["track"] F_stopped :=
  fn_g T.h_stopped.fn sc_stopped fun cdv A outer s H E hr hgd =>
    (pbd_cons (psd_if (ptd_cmp (op_eqE hr.units) d_eq (ped_ix (ped_var 0) (ped_c pe_int (fun _ => .int _)) (fun _ _ => rfl)) (ped_c pe_str (fun _ => .str _)) (nomark _))
    (pbd_one (psd_ret (ped_callN (ok_closed T B) (hr.mono (by decide)) hgd (by rfl) T.h_closed.m T.h_closed.fn.kp T.h_closed.b (takes_of rfl rfl rfl rfl) (pad_cons (ped_var 0) (pad_cons (ped_c pe_str (fun _ => .str _)) pad_nil)))))
    pbd_nil)
    (pbd_one (psd_ret (ped_if (ptd_cmp op_in_seq d_in (ped_ix (ped_var 0) (ped_c pe_int (fun _ => .int _)) (fun _ _ => rfl)) (ped_c (pe_glob (v := .ref T.a_LOOPING) (by rfl) T.c_LOOPING rfl) (fun I => T.r_LOOPING I)) (by rfl)) (ped_op op_addD d_add (ped_op op_addD d_add (ped_op op_addD d_add (ped_tup (pad_cons (ped_c pe_str (fun _ => .str _)) pad_nil)) (ped_sl (ped_var 0) (pod_some (ped_c pe_int (fun _ => .int _))) (pod_some (ped_c pe_int (fun _ => .int _))))) (ped_tup (pad_cons (ped_c pe_int (fun _ => .int _)) pad_nil))) (ped_sl (ped_var 0) (pod_some (ped_c pe_int (fun _ => .int _))) pod_none)) (ped_var 0)))))
abbrev s_cleared : Stmt := (top 29)
theorem sc_cleared : FnScope ["track"] ["track"] (defScope s_cleared) := ⟨rfl, rfl, rfl, by decide +kernel, rfl, by decide +kernel, by decide +kernel⟩
theorem ok_cleared (T : Prog w K mg) (B : T.TB base) : FnG (UD K T.tb T.cl) P w K mg base 1 T.f_cleared T.fd_cleared ["track"] F_cleared :=
  fn_g T.h_cleared.fn sc_cleared fun cdv A outer s H E hr hgd =>
    (pbd_one (psd_ret (ped_c (pe_glob (v := .ref T.a_EMPTY) (by rfl) T.c_EMPTY rfl) (fun I => T.r_EMPTY I))))
abbrev s_undone_by : Stmt := (top 30)
theorem sc_undone_by : FnScope ["track", "mode", "layers", "undone"] ["track"] (defScope s_undone_by) := ⟨rfl, rfl, rfl, by decide +kernel, rfl, by decide +kernel, by decide +kernel⟩
theorem ok_undone_by (T : Prog w K mg) (B : T.TB base) : FnG (UD K T.tb T.cl) P w K mg base 1 T.f_undone_by T.fd_undone_by ["track"] F_undone_by :=
  fn_g T.h_undone_by.fn sc_undone_by fun cdv A outer s H E hr hgd =>
    (pbd_cons (psd_unp (g := (.tup [1, 2, 3])) (ped_sl (ped_var 0) pod_none (pod_some (ped_c pe_int (fun _ => .int _)))) (pgd_tup [1, 2, 3] rfl (pgs_cons (pg_name (i := 1) sc_undone_by.nd rfl (by first | exact Or.inl rfl | exact Or.inr rfl)) (pgs_cons (pg_name (i := 2) sc_undone_by.nd rfl (by first | exact Or.inl rfl | exact Or.inr rfl)) (pgs_cons (pg_name (i := 3) sc_undone_by.nd rfl (by first | exact Or.inl rfl | exact Or.inr rfl)) pgs_nil)))))
    (pbd_cons (psd_if (ptd_w (pwd_or (ptd_cmp op_notIn_seq d_notIn (ped_var 1) (ped_c (pe_glob (v := .ref T.a_LOOPING) (by rfl) T.c_LOOPING rfl) (fun I => T.r_LOOPING I)) (by rfl)) (pwd_or1 (ptd_cmp op_lt d_lt (ped_callB Dl.call_lenD d_len (by rfl) T.bi_len (by decide +kernel) (pad_cons (ped_var 2) pad_nil)) (ped_c pe_int (fun _ => .int _)) (nomark _)))))
    (pbd_one (psd_ret (ped_var 0)))
    pbd_nil)
    (pbd_one (psd_ret (ped_op op_addD d_add (ped_tup (pad_cons (ped_if (ptd_cmp (op_eqE hr.units) d_eq (ped_var 1) (ped_c pe_str (fun _ => .str _)) (nomark _)) (ped_c pe_str (fun _ => .str _)) (ped_var 1)) (pad_cons (ped_sl (ped_var 2) pod_none (pod_some (ped_un un_neg d_neg (ped_c pe_int (fun _ => .int _))))) (pad_cons (ped_op op_addD d_add (ped_var 3) (ped_sl (ped_var 2) (pod_some (ped_un un_neg d_neg (ped_c pe_int (fun _ => .int _)))) pod_none)) pad_nil)))) (ped_sl (ped_var 0) (pod_some (ped_c pe_int (fun _ => .int _))) pod_none))))))
abbrev s_redone_by : Stmt := (top 31)
theorem sc_redone_by : FnScope ["track", "mode", "layers", "undone"] ["track"] (defScope s_redone_by) := ⟨rfl, rfl, rfl, by decide +kernel, rfl, by decide +kernel, by decide +kernel⟩
theorem ok_redone_by (T : Prog w K mg) (B : T.TB base) : FnG (UD K T.tb T.cl) P w K mg base 1 T.f_redone_by T.fd_redone_by ["track"] F_redone_by :=
  fn_g T.h_redone_by.fn sc_redone_by fun cdv A outer s H E hr hgd =>
    (pbd_cons (psd_unp (g := (.tup [1, 2, 3])) (ped_sl (ped_var 0) pod_none (pod_some (ped_c pe_int (fun _ => .int _)))) (pgd_tup [1, 2, 3] rfl (pgs_cons (pg_name (i := 1) sc_redone_by.nd rfl (by first | exact Or.inl rfl | exact Or.inr rfl)) (pgs_cons (pg_name (i := 2) sc_redone_by.nd rfl (by first | exact Or.inl rfl | exact Or.inr rfl)) (pgs_cons (pg_name (i := 3) sc_redone_by.nd rfl (by first | exact Or.inl rfl | exact Or.inr rfl)) pgs_nil)))))
    (pbd_cons (psd_if (ptd_w (pwd_or (ptd_cmp op_notIn_seq d_notIn (ped_var 1) (ped_tup (pad_cons (ped_c pe_str (fun _ => .str _)) (pad_cons (ped_c pe_str (fun _ => .str _)) pad_nil))) (by rfl)) (pwd_or1 (ptd_cmp (op_eqE hr.units) d_eq (ped_var 3) (ped_tup pad_nil) (nomark _)))))
    (pbd_one (psd_ret (ped_var 0)))
    pbd_nil)
    (pbd_one (psd_ret (ped_op op_addD d_add (ped_tup (pad_cons (ped_var 1) (pad_cons (ped_op op_addD d_add (ped_var 2) (ped_sl (ped_var 3) (pod_some (ped_un un_neg d_neg (ped_c pe_int (fun _ => .int _)))) pod_none)) (pad_cons (ped_sl (ped_var 3) pod_none (pod_some (ped_un un_neg d_neg (ped_c pe_int (fun _ => .int _))))) pad_nil)))) (ped_sl (ped_var 0) (pod_some (ped_c pe_int (fun _ => .int _))) pod_none))))))
abbrev s_joined : Stmt := (top 32)
theorem sc_joined : FnScope ["track", "mode", "layers", "cells"] ["track"] (defScope s_joined) := ⟨rfl, rfl, rfl, by decide +kernel, rfl, by decide +kernel, by decide +kernel⟩
theorem ok_joined (T : Prog w K mg) (B : T.TB base) : FnG (UD K T.tb T.cl) P w K mg base 1 T.f_joined T.fd_joined ["track"] F_joined :=
  fn_g T.h_joined.fn sc_joined fun cdv A outer s H E hr hgd =>
    (pbd_cons (psd_unp (g := (.tup [1, 2])) (ped_sl (ped_var 0) pod_none (pod_some (ped_c pe_int (fun _ => .int _)))) (pgd_tup [1, 2] rfl (pgs_cons (pg_name (i := 1) sc_joined.nd rfl (by first | exact Or.inl rfl | exact Or.inr rfl)) (pgs_cons (pg_name (i := 2) sc_joined.nd rfl (by first | exact Or.inl rfl | exact Or.inr rfl)) pgs_nil))))
    (pbd_cons (psd_if (ptd_w (pwd_or (ptd_cmp op_notIn_seq d_notIn (ped_var 1) (ped_tup (pad_cons (ped_c pe_str (fun _ => .str _)) (pad_cons (ped_c pe_str (fun _ => .str _)) pad_nil))) (by rfl)) (pwd_or1 (ptd_cmp op_lt d_lt (ped_callB Dl.call_lenD d_len (by rfl) T.bi_len (by decide +kernel) (pad_cons (ped_var 2) pad_nil)) (ped_c pe_int (fun _ => .int _)) (nomark _)))))
    (pbd_one (psd_ret (ped_var 0)))
    pbd_nil)
    (pbd_one (psd_ret (ped_op op_addD d_add (ped_tup (pad_cons (ped_var 1) (pad_cons (ped_tup (pad_cons (ped_callTy call_tuple_of d_tuple (by rfl) T.bi_tuple (by decide +kernel) (pad_cons (ped_frz (pnd_comp rfl sc_joined.nd (own := [("cells", 3)]) (g := (.name 3)) (pid_zipN (by rfl) T.bi_zip (ped_var 2)) (blkOk_by (N := ["track", "mode", "layers", "cells"]) (sc := defScope s_joined) (by decide +kernel)) (by decide) (fun _ _ _ _ _ => (pgd_name 3 sc_joined.nd rfl (by first | exact Or.inl rfl | exact Or.inr rfl))) (fun _ _ _ _ _ => ptsd_nil) (fun _ _ _ _ _ => (ped_callB (cr_sumT rfl) d_sumT (by rfl) T.bi_sum (by decide +kernel) (pad_cons (ped_var 3) pad_nil))))) pad_nil)) pad_nil)) (pad_cons (ped_tup pad_nil) pad_nil)))) (ped_sl (ped_var 0) (pod_some (ped_c pe_int (fun _ => .int _))) pod_none))))))
abbrev s_other_way : Stmt := (top 33)
theorem sc_other_way : FnScope ["track"] ["track"] (defScope s_other_way) := ⟨rfl, rfl, rfl, by decide +kernel, rfl, by decide +kernel, by decide +kernel⟩
theorem ok_other_way (T : Prog w K mg) (B : T.TB base) : FnG (UD K T.tb T.cl) P w K mg base 1 T.f_other_way T.fd_other_way ["track"] F_other_way :=
  fn_g T.h_other_way.fn sc_other_way fun cdv A outer s H E hr hgd =>
    (pbd_one (psd_ret (ped_if (ptd_cmp op_in_seq d_in (ped_ix (ped_var 0) (ped_c pe_int (fun _ => .int _)) (fun _ _ => rfl)) (ped_c (pe_glob (v := .ref T.a_LOOPING) (by rfl) T.c_LOOPING rfl) (fun I => T.r_LOOPING I)) (by rfl)) (ped_op op_addD d_add (ped_op op_addD d_add (ped_sl (ped_var 0) pod_none (pod_some (ped_c pe_int (fun _ => .int _)))) (ped_tup (pad_cons (ped_un un_neg d_neg (ped_ix (ped_var 0) (ped_c pe_int (fun _ => .int _)) (fun _ _ => rfl))) pad_nil))) (ped_sl (ped_var 0) (pod_some (ped_c pe_int (fun _ => .int _))) pod_none)) (ped_var 0))))
abbrev s_flipped : Stmt := (top 34)
theorem sc_flipped : FnScope ["track"] ["track"] (defScope s_flipped) := ⟨rfl, rfl, rfl, by decide +kernel, rfl, by decide +kernel, by decide +kernel⟩
theorem ok_flipped (T : Prog w K mg) (B : T.TB base) : FnG (UD K T.tb T.cl) P w K mg base 1 T.f_flipped T.fd_flipped ["track"] F_flipped :=
  fn_g T.h_flipped.fn sc_flipped fun cdv A outer s H E hr hgd =>
    (pbd_one (psd_ret (ped_if (ptd_cmp op_in_seq d_in (ped_ix (ped_var 0) (ped_c pe_int (fun _ => .int _)) (fun _ _ => rfl)) (ped_c (pe_glob (v := .ref T.a_LOOPING) (by rfl) T.c_LOOPING rfl) (fun I => T.r_LOOPING I)) (by rfl)) (ped_op op_addD d_add (ped_sl (ped_var 0) pod_none (pod_some (ped_c pe_int (fun _ => .int _)))) (ped_tup (pad_cons (ped_un un_neg d_neg (ped_ix (ped_var 0) (ped_c pe_int (fun _ => .int _)) (fun _ _ => rfl))) (pad_cons (ped_ix (ped_var 0) (ped_c pe_int (fun _ => .int _)) (fun _ _ => rfl)) pad_nil)))) (ped_var 0))))
abbrev s_hushed_or_not : Stmt := (top 35)
theorem sc_hushed_or_not : FnScope ["track"] ["track"] (defScope s_hushed_or_not) := ⟨rfl, rfl, rfl, by decide +kernel, rfl, by decide +kernel, by decide +kernel⟩
theorem ok_hushed_or_not (T : Prog w K mg) (B : T.TB base) : FnG (UD K T.tb T.cl) P w K mg base 1 T.f_hushed_or_not T.fd_hushed_or_not ["track"] F_hushed_or_not :=
  fn_g T.h_hushed_or_not.fn sc_hushed_or_not fun cdv A outer s H E hr hgd =>
    (pbd_one (psd_ret (ped_if (ptd_cmp op_in_seq d_in (ped_ix (ped_var 0) (ped_c pe_int (fun _ => .int _)) (fun _ _ => rfl)) (ped_c (pe_glob (v := .ref T.a_LOOPING) (by rfl) T.c_LOOPING rfl) (fun I => T.r_LOOPING I)) (by rfl)) (ped_op op_addD d_add (ped_sl (ped_var 0) pod_none (pod_some (ped_c pe_int (fun _ => .int _)))) (ped_tup (pad_cons (ped_not (ped_ix (ped_var 0) (ped_c pe_int (fun _ => .int _)) (fun _ _ => rfl))) pad_nil))) (ped_var 0))))
abbrev s_behind_press : Stmt := (top 37)
theorem sc_behind_press : FnScope ["pedal", "press", "track"] ["pedal", "press"] (defScope s_behind_press) := ⟨rfl, rfl, rfl, by decide +kernel, rfl, by decide +kernel, by decide +kernel⟩
theorem ok_behind_press (T : Prog w K mg) (B : T.TB base) : FnG (UD K T.tb T.cl) P w K mg base 3 T.f_behind_press T.fd_behind_press ["pedal", "press"] F_behind_press :=
  fn_g T.h_behind_press.fn sc_behind_press fun cdv A outer s H E hr hgd =>
    (pbd_cons (psd_set (i := 2) sc_behind_press.nd rfl (by first | exact Or.inl rfl | exact Or.inr rfl) (ped_ix (ped_var 0) (ped_ix (ped_var 1) (ped_c pe_int (fun _ => .int _)) (fun _ _ => rfl)) (fun _ _ => rfl)))
    (pbd_cons (psd_if (ptd_cmp (op_neE hr.units) d_ne (ped_ix (ped_var 1) (ped_c pe_int (fun _ => .int _)) (fun _ _ => rfl)) (ped_c pe_str (fun _ => .str _)) (nomark _))
    (pbd_one (psd_set (i := 2) sc_behind_press.nd rfl (by first | exact Or.inl rfl | exact Or.inr rfl) (ped_callT (k := 2) (n := 1) T.tab_DEEDS (.cons (x := "tap") ((ok_tapped T B).mono (by decide)) rfl T.h_tapped.fn.kp T.h_tapped.b (.cons (x := "stop") ((ok_stopped T B).mono (by decide)) rfl T.h_stopped.fn.kp T.h_stopped.b (.cons (x := "clear") ((ok_cleared T B).mono (by decide)) rfl T.h_cleared.fn.kp T.h_cleared.b (.cons (x := "undo") ((ok_undone_by T B).mono (by decide)) rfl T.h_undone_by.fn.kp T.h_undone_by.b (.cons (x := "redo") ((ok_redone_by T B).mono (by decide)) rfl T.h_redone_by.fn.kp T.h_redone_by.b (.cons (x := "join") ((ok_joined T B).mono (by decide)) rfl T.h_joined.fn.kp T.h_joined.b (.cons (x := "turn") ((ok_other_way T B).mono (by decide)) rfl T.h_other_way.fn.kp T.h_other_way.b (.cons (x := "flip") ((ok_flipped T B).mono (by decide)) rfl T.h_flipped.fn.kp T.h_flipped.b (.cons (x := "mute") ((ok_hushed_or_not T B).mono (by decide)) rfl T.h_hushed_or_not.fn.kp T.h_hushed_or_not.b .nil))))))))) (hr.mono (by decide)) hgd (by rfl) (takes_of rfl rfl rfl rfl) (ped_ix (ped_var 1) (ped_c pe_int (fun _ => .int _)) (fun _ _ => rfl)) (fun _ _ => rfl) (pad_cons (ped_var 2) pad_nil))))
    (pbd_one (psd_if (ptd_cmp op_in_seq d_in (ped_ix (ped_var 2) (ped_c pe_int (fun _ => .int _)) (fun _ _ => rfl)) (ped_c (pe_glob (v := .ref T.a_LOOPING) (by rfl) T.c_LOOPING rfl) (fun I => T.r_LOOPING I)) (by rfl))
    (pbd_one (psd_set (i := 2) sc_behind_press.nd rfl (by first | exact Or.inl rfl | exact Or.inr rfl) (ped_op op_addD d_add (ped_op op_addD d_add (ped_sl (ped_var 2) pod_none (pod_some (ped_c pe_int (fun _ => .int _)))) (ped_tup (pad_cons (ped_ix (ped_var 1) (ped_c pe_int (fun _ => .int _)) (fun _ _ => rfl)) pad_nil))) (ped_sl (ped_var 2) (pod_some (ped_c pe_int (fun _ => .int _))) pod_none))))
    pbd_nil)))
    (pbd_one (psd_ret (ped_op op_addD d_add (ped_op op_addD d_add (ped_sl (ped_var 0) pod_none (pod_some (ped_ix (ped_var 1) (ped_c pe_int (fun _ => .int _)) (fun _ _ => rfl)))) (ped_tup (pad_cons (ped_var 2) pad_nil))) (ped_sl (ped_var 0) (pod_some (ped_op op_addD d_add (ped_ix (ped_var 1) (ped_c pe_int (fun _ => .int _)) (fun _ _ => rfl)) (ped_c pe_int (fun _ => .int _)))) pod_none))))))
abbrev s_all_presses : Stmt := (top 39)
theorem sc_all_presses : FnScope ["word", "pace"] [] (defScope s_all_presses) := ⟨rfl, rfl, rfl, by decide +kernel, rfl, by decide +kernel, by decide +kernel⟩
theorem ok_all_presses (T : Prog w K mg) (B : T.TB base) : FnG (UD K T.tb T.cl) P w K mg base 1 T.f_all_presses T.fd_all_presses [] F_all_presses :=
  fn_g T.h_all_presses.fn sc_all_presses fun cdv A outer s H E hr hgd =>
    (pbd_one (psd_ret (ped_callB (cr_sortedDT (room65 hr)) d_sortD (by rfl) T.bi_sorted (by decide +kernel) (pad_cons (ped_op op_addD d_add (ped_frz (pnd_comp rfl sc_all_presses.nd (own := [("word", 0)]) (g := (.name 0)) (pid_tabK T.tab_DEEDS rfl (by rfl)) (blkOk_by (N := ["word", "pace"]) (sc := defScope s_all_presses) (by decide +kernel)) (by decide) (fun _ _ _ _ _ => (pgd_name 0 sc_all_presses.nd rfl (by first | exact Or.inl rfl | exact Or.inr rfl))) (fun _ _ _ _ _ => ptsd_nil) (fun _ _ _ _ _ => (ped_tup (pad_cons (ped_var 0) (pad_cons (ped_c pe_int (fun _ => .int _)) pad_nil)))))) (ped_frz (pnd_comp rfl sc_all_presses.nd (own := [("pace", 1)]) (g := (.name 1)) (pid_seq (ped_c (pe_glob (v := .ref T.a_PACES) (by rfl) T.c_PACES rfl) (fun I => T.r_PACES I))) (blkOk_by (N := ["word", "pace"]) (sc := defScope s_all_presses) (by decide +kernel)) (by decide) (fun _ _ _ _ _ => (pgd_name 1 sc_all_presses.nd rfl (by first | exact Or.inl rfl | exact Or.inr rfl))) (fun _ _ _ _ _ => ptsd_nil) (fun _ _ _ _ _ => (ped_tup (pad_cons (ped_c pe_str (fun _ => .str _)) (pad_cons (ped_c pe_int (fun _ => .int _)) (pad_cons (ped_var 1) pad_nil)))))))) pad_nil))))
abbrev s_way_to : Stmt := (top 40)
theorem sc_way_to : FnScope ["track", "goal", "thing", "rows", "layer", "presses", "further", "here", "press", "behind"] ["track", "goal"] (defScope s_way_to) := ⟨rfl, rfl, rfl, by decide +kernel, rfl, by decide +kernel, by decide +kernel⟩
theorem ok_way_to (T : Prog w K mg) (B : T.TB base) : FnG (UL K T.tb T.cl T.ci) P w K mg base 6 T.f_way_to T.fd_way_to ["track", "goal"] F_way_to :=
  fn_g T.h_way_to.fn sc_way_to fun cdv A outer s H E hr hgd =>
    (pbd_cons (psd_for (g := (.name 2)) (passes_of rfl) rfl (pid_seq (ped_tup (pad_cons (ped_var 0) (pad_cons (ped_var 1) pad_nil)))) (pgd_name 2 sc_way_to.nd rfl (by first | exact Or.inl rfl | exact Or.inr rfl))
    (pbd_one (psd_if (ptd_not (ptd_val (ped_callN (up_fn (ok_is_track T B)) (hr.mono (by decide)) hgd (by rfl) T.h_is_track.m T.h_is_track.fn.kp T.h_is_track.b (takes_of rfl rfl rfl rfl) (pad_cons (ped_var 2) pad_nil))))
    (pbd_one (psd_raise (excL_OutOfPlace T) rfl (takes_of rfl rfl rfl rfl) (hr.mono (by decide)) (by rfl) (pad_cons (ped_c pe_str (fun _ => .str _)) pad_nil)))
    pbd_nil)))
    (pbd_cons (psd_par3 (i := 3) (j := 4) (l := 5) rfl sc_way_to.nd rfl rfl rfl (by decide) (by decide) (by decide) rfl rfl rfl (pad_cons (ped_dctN (room9 hr) T.hw (ped_var 0) (ped_tup pad_nil)) (pad_cons (ped_lst (pad_cons (ped_var 0) pad_nil)) (pad_cons (ped_callN0 (up_fn (ok_all_presses T B)) (hr.mono (by decide)) hgd (by rfl) T.h_all_presses.m T.h_all_presses.fn.kp T.h_all_presses.b (takes_of rfl rfl rfl rfl)) pad_nil))))
    (pbd_cons (psd_while (passes_of rfl) (ptd_w (pwd_and (ptd_cmp (op_neE hr.units) d_ne (ped_var 4) (ped_lst pad_nil) (nomark _)) (pwd_and1 (ptd_notinNk (room9 hr) T.hw (ped_var 1) (ped_var 3) (by rfl)))))
    (pbd_cons (psd_new (i := 6) sc_way_to.nd rfl (by first | exact Or.inl rfl | exact Or.inr rfl) (pnd_lst pad_nil))
    (pbd_cons (psd_for (g := (.name 7)) (passes_of rfl) rfl (pid_seq (ped_var 4)) (pgd_name 7 sc_way_to.nd rfl (by first | exact Or.inl rfl | exact Or.inr rfl))
    (pbd_one (psd_for (g := (.name 8)) (passes_of rfl) rfl (pid_seq (ped_var 5)) (pgd_name 8 sc_way_to.nd rfl (by first | exact Or.inl rfl | exact Or.inr rfl))
    (pbd_cons (psd_set (i := 9) sc_way_to.nd rfl (by first | exact Or.inl rfl | exact Or.inr rfl) (ped_ix (ped_callN (up_fn (ok_behind_press T B)) (hr.mono (by decide)) hgd (by rfl) T.h_behind_press.m T.h_behind_press.fn.kp T.h_behind_press.b (takes_of rfl rfl rfl rfl) (pad_cons (ped_tup (pad_cons (ped_var 7) pad_nil)) (pad_cons (ped_var 8) pad_nil))) (ped_c pe_int (fun _ => .int _)) (fun _ _ => rfl)))
    (pbd_one (psd_if (ptd_notinNk (room9 hr) T.hw (ped_var 9) (ped_var 3) (by rfl))
    (pbd_cons (psd_putN (room9 hr) T.hw (ped_var 3) (ped_var 9) (ped_op op_addD d_add (ped_getN (room9 hr) T.hw (ped_var 3) (ped_var 7) (fun _ _ => rfl)) (ped_tup (pad_cons (ped_var 8) pad_nil))))
    (pbd_one (psd_app (i := 6) (ped_var 9))))
    pbd_nil))))))
    (pbd_one (psd_frzS (i := 6) (psd_set (i := 4) sc_way_to.nd rfl (by first | exact Or.inl rfl | exact Or.inr rfl) (ped_var 6)))))))
    (pbd_one (psd_ret (ped_get1N (room9 hr) T.hw (ped_var 3) (ped_var 1) ⟨rfl, rfl, rfl, rfl⟩))))))
abbrev s__law_way : Stmt := (top 46)
theorem sc__law_way : FnScope ["one", "other"] ["one", "other"] (defScope s__law_way) := ⟨rfl, rfl, rfl, by decide +kernel, rfl, by decide +kernel, by decide +kernel⟩
theorem ok__law_way (T : Prog w K mg) (B : T.TB base) : FnG (UL K T.tb T.cl T.ci) P w K mg base 7 T.f__law_way T.fd__law_way ["one", "other"] F__law_way_k54 :=
  fn_g T.h__law_way.fn sc__law_way fun cdv A outer s H E hr hgd =>
    (pbd_one (psd_ret (ped_callN (ok_way_to T B) (hr.mono (by decide)) hgd (by rfl) T.h_way_to.m T.h_way_to.fn.kp T.h_way_to.b (takes_of rfl rfl rfl rfl) (pad_cons (ped_op op_addD d_add (ped_var 0) (ped_tup (pad_cons (ped_c pe_int (fun _ => .int _)) (pad_cons (ped_c pe_int (fun _ => .int _)) (pad_cons (ped_c pe_int (fun _ => .int _)) (pad_cons (ped_c pe_int (fun _ => .int _)) (pad_cons (ped_c pe_bl (fun _ => .bl _)) pad_nil))))))) (pad_cons (ped_op op_addD d_add (ped_var 1) (ped_tup (pad_cons (ped_c pe_int (fun _ => .int _)) (pad_cons (ped_c pe_int (fun _ => .int _)) (pad_cons (ped_c pe_int (fun _ => .int _)) (pad_cons (ped_c pe_int (fun _ => .int _)) (pad_cons (ped_c pe_bl (fun _ => .bl _)) pad_nil))))))) pad_nil)))))
abbrev s__law_long_right : Stmt := (top 47)
theorem sc__law_long_right : FnScope ["due", "layers", "track", "goal"] [] (defScope s__law_long_right) := ⟨rfl, rfl, rfl, by decide +kernel, rfl, by decide +kernel, by decide +kernel⟩
theorem ok__law_long_right (T : Prog w K mg) (B : T.TB base) : FnG (UL K T.tb T.cl T.ci) P w K mg base 7 T.f__law_long_right T.fd__law_long_right [] F__law_long_right_k54 :=
  fn_g T.h__law_long_right.fn sc__law_long_right fun cdv A outer s H E hr hgd =>
    (pbd_cons (psd_set (i := 0) sc__law_long_right.nd rfl (by first | exact Or.inl rfl | exact Or.inr rfl) (ped_tup (pad_cons (ped_tup (pad_cons (ped_c pe_str (fun _ => .str _)) (pad_cons (ped_c pe_int (fun _ => .int _)) pad_nil))) (pad_cons (ped_tup (pad_cons (ped_c pe_str (fun _ => .str _)) (pad_cons (ped_c pe_int (fun _ => .int _)) pad_nil))) (pad_cons (ped_tup (pad_cons (ped_c pe_str (fun _ => .str _)) (pad_cons (ped_c pe_int (fun _ => .int _)) (pad_cons (ped_c pe_int (fun _ => .int _)) pad_nil)))) (pad_cons (ped_tup (pad_cons (ped_c pe_str (fun _ => .str _)) (pad_cons (ped_c pe_int (fun _ => .int _)) pad_nil))) (pad_cons (ped_tup (pad_cons (ped_c pe_str (fun _ => .str _)) (pad_cons (ped_c pe_int (fun _ => .int _)) pad_nil))) (pad_cons (ped_tup (pad_cons (ped_c pe_str (fun _ => .str _)) (pad_cons (ped_c pe_int (fun _ => .int _)) pad_nil))) (pad_cons (ped_tup (pad_cons (ped_c pe_str (fun _ => .str _)) (pad_cons (ped_c pe_int (fun _ => .int _)) pad_nil))) pad_nil)))))))))
    (pbd_cons (psd_set (i := 1) sc__law_long_right.nd rfl (by first | exact Or.inl rfl | exact Or.inr rfl) (ped_tup (pad_cons (ped_tup (pad_cons (ped_c pe_int (fun _ => .int _)) pad_nil)) (pad_cons (ped_tup (pad_cons (ped_c pe_int (fun _ => .int _)) pad_nil)) (pad_cons (ped_tup (pad_cons (ped_c pe_int (fun _ => .int _)) pad_nil)) (pad_cons (ped_tup (pad_cons (ped_c pe_int (fun _ => .int _)) pad_nil)) pad_nil))))))
    (pbd_cons (psd_par (i := 2) (j := 3) rfl sc__law_long_right.nd rfl rfl (by decide) rfl rfl (pad_cons (ped_tup (pad_cons (ped_c pe_str (fun _ => .str _)) (pad_cons (ped_var 1) (pad_cons (ped_tup pad_nil) (pad_cons (ped_c pe_int (fun _ => .int _)) (pad_cons (ped_c pe_int (fun _ => .int _)) (pad_cons (ped_c pe_int (fun _ => .int _)) (pad_cons (ped_c pe_int (fun _ => .int _)) (pad_cons (ped_c pe_bl (fun _ => .bl _)) pad_nil))))))))) (pad_cons (ped_tup (pad_cons (ped_c pe_str (fun _ => .str _)) (pad_cons (ped_tup (pad_cons (ped_tup (pad_cons (ped_c pe_int (fun _ => .int _)) pad_nil)) pad_nil)) (pad_cons (ped_tup pad_nil) (pad_cons (ped_c pe_int (fun _ => .int _)) (pad_cons (ped_un un_neg d_neg (ped_c pe_int (fun _ => .int _))) (pad_cons (ped_c pe_int (fun _ => .int _)) (pad_cons (ped_un un_neg d_neg (ped_c pe_int (fun _ => .int _))) (pad_cons (ped_c pe_bl (fun _ => .bl _)) pad_nil))))))))) pad_nil)))
    (pbd_one (psd_ret (ped_cmp (op_eqE hr.units) d_eq (ped_callN (ok_way_to T B) (hr.mono (by decide)) hgd (by rfl) T.h_way_to.m T.h_way_to.fn.kp T.h_way_to.b (takes_of rfl rfl rfl rfl) (pad_cons (ped_var 2) (pad_cons (ped_var 3) pad_nil))) (ped_op op_addD d_add (ped_var 0) (ped_tup (pad_cons (ped_tup (pad_cons (ped_c pe_str (fun _ => .str _)) (pad_cons (ped_c pe_int (fun _ => .int _)) pad_nil))) (pad_cons (ped_tup (pad_cons (ped_c pe_str (fun _ => .str _)) (pad_cons (ped_c pe_int (fun _ => .int _)) pad_nil))) (pad_cons (ped_tup (pad_cons (ped_c pe_str (fun _ => .str _)) (pad_cons (ped_c pe_int (fun _ => .int _)) pad_nil))) pad_nil))))) (nomark _)))))))
abbrev s_law : Stmt := (top 48)
theorem sc_law : FnScope ["script", "m", "empty", "cells", "two", "none", "sums", "track", "four", "odd"] ["script"] (defScope s_law) := ⟨rfl, rfl, rfl, by decide +kernel, rfl, by decide +kernel, by decide +kernel⟩
theorem ok_law (T : Prog w K mg) (B : T.TB base) : FnG (UD K T.tb T.cl) P w K mg base 9 T.f_law T.fd_law ["script"] F_law_k54 := dn_fn (ci := T.ci) <|
  fn_gc T.hc_law sc_law fun A outer s H E hr hgd =>
    (pbd_cons (psd_set (i := 1) sc_law.nd rfl (by first | exact Or.inl rfl | exact Or.inr rfl) (ped_callN (up_fn (ok__law_begun T B)) (hr.mono (by decide)) hgd (by rfl) T.h__law_begun.m T.h__law_begun.fn.kp T.h__law_begun.b (takes_of rfl rfl rfl rfl) (pad_cons (ped_var 0) pad_nil)))
    (pbd_cons (psd_par (i := 2) (j := 3) rfl sc_law.nd rfl rfl (by decide) rfl rfl (pad_cons (ped_tup (pad_cons (ped_c pe_str (fun _ => .str _)) (pad_cons (ped_tup pad_nil) (pad_cons (ped_tup pad_nil) pad_nil)))) (pad_cons (ped_tup (pad_cons (ped_tup (pad_cons (ped_op op_addD d_add (ped_callN (up_fn (ok__law_next T B)) (hr.mono (by decide)) hgd (by rfl) T.h__law_next.m T.h__law_next.fn.kp T.h__law_next.b (takes_of rfl rfl rfl rfl) (pad_cons (ped_var 1) (pad_cons (ped_c pe_int (fun _ => .int _)) pad_nil))) (ped_c pe_int (fun _ => .int _))) (pad_cons (ped_c pe_int (fun _ => .int _)) pad_nil))) pad_nil)) pad_nil)))
    (pbd_cons (psd_if (ptd_cmp (op_neE hr.units) d_ne (ped_callN (ok__law_way T B) (hr.mono (by decide)) hgd (by rfl) T.h__law_way.m T.h__law_way.fn.kp T.h__law_way.b (takes_of rfl rfl rfl rfl) (pad_cons (ped_var 2) (pad_cons (ped_tup (pad_cons (ped_c pe_str (fun _ => .str _)) (pad_cons (ped_tup (pad_cons (ped_tup pad_nil) pad_nil)) (pad_cons (ped_tup pad_nil) pad_nil)))) pad_nil))) (ped_tup (pad_cons (ped_tup (pad_cons (ped_c pe_str (fun _ => .str _)) (pad_cons (ped_c pe_int (fun _ => .int _)) pad_nil))) pad_nil)) (nomark _))
    (pbd_one (psd_ret (ped_c pe_bl (fun _ => .bl _))))
    pbd_nil)
    (pbd_cons (psd_if (ptd_cmp (op_neE hr.units) d_ne (ped_callN (ok__law_way T B) (hr.mono (by decide)) hgd (by rfl) T.h__law_way.m T.h__law_way.fn.kp T.h__law_way.b (takes_of rfl rfl rfl rfl) (pad_cons (ped_tup (pad_cons (ped_c pe_str (fun _ => .str _)) (pad_cons (ped_tup (pad_cons (ped_tup pad_nil) pad_nil)) (pad_cons (ped_tup pad_nil) pad_nil)))) (pad_cons (ped_var 2) pad_nil))) (ped_tup (pad_cons (ped_tup (pad_cons (ped_c pe_str (fun _ => .str _)) (pad_cons (ped_c pe_int (fun _ => .int _)) pad_nil))) pad_nil)) (nomark _))
    (pbd_one (psd_ret (ped_c pe_bl (fun _ => .bl _))))
    pbd_nil)
    (pbd_cons (psd_if (ptd_cmp (op_neE hr.units) d_ne (ped_callN (ok__law_way T B) (hr.mono (by decide)) hgd (by rfl) T.h__law_way.m T.h__law_way.fn.kp T.h__law_way.b (takes_of rfl rfl rfl rfl) (pad_cons (ped_tup (pad_cons (ped_c pe_str (fun _ => .str _)) (pad_cons (ped_var 3) (pad_cons (ped_tup pad_nil) pad_nil)))) (pad_cons (ped_var 2) pad_nil))) (ped_tup (pad_cons (ped_tup (pad_cons (ped_c pe_str (fun _ => .str _)) (pad_cons (ped_c pe_int (fun _ => .int _)) pad_nil))) pad_nil)) (nomark _))
    (pbd_one (psd_ret (ped_c pe_bl (fun _ => .bl _))))
    pbd_nil)
    (pbd_cons (psd_if (ptd_notN (ped_callN (ok__law_way T B) (hr.mono (by decide)) hgd (by rfl) T.h__law_way.m T.h__law_way.fn.kp T.h__law_way.b (takes_of rfl rfl rfl rfl) (pad_cons (ped_var 2) (pad_cons (ped_tup (pad_cons (ped_c pe_str (fun _ => .str _)) (pad_cons (ped_var 3) (pad_cons (ped_tup pad_nil) pad_nil)))) pad_nil))))
    (pbd_one (psd_ret (ped_c pe_bl (fun _ => .bl _))))
    pbd_nil)
    (pbd_cons (psd_if (ptd_cmp (op_neE hr.units) d_ne (ped_callN (ok__law_way T B) (hr.mono (by decide)) hgd (by rfl) T.h__law_way.m T.h__law_way.fn.kp T.h__law_way.b (takes_of rfl rfl rfl rfl) (pad_cons (ped_tup (pad_cons (ped_c pe_str (fun _ => .str _)) (pad_cons (ped_var 3) (pad_cons (ped_tup pad_nil) pad_nil)))) (pad_cons (ped_tup (pad_cons (ped_c pe_str (fun _ => .str _)) (pad_cons (ped_var 3) (pad_cons (ped_tup pad_nil) pad_nil)))) pad_nil))) (ped_tup (pad_cons (ped_tup (pad_cons (ped_c pe_str (fun _ => .str _)) (pad_cons (ped_c pe_int (fun _ => .int _)) pad_nil))) pad_nil)) (nomark _))
    (pbd_one (psd_ret (ped_c pe_bl (fun _ => .bl _))))
    pbd_nil)
    (pbd_cons (psd_par (i := 4) (j := 5) rfl sc_law.nd rfl rfl (by decide) rfl rfl (pad_cons (ped_op op_addD d_add (ped_var 3) (ped_tup (pad_cons (ped_tup (pad_cons (ped_c pe_int (fun _ => .int _)) (pad_cons (ped_c pe_int (fun _ => .int _)) pad_nil))) pad_nil))) (pad_cons (ped_tup (pad_cons (ped_tup (pad_cons (ped_c pe_int (fun _ => .int _)) (pad_cons (ped_c pe_int (fun _ => .int _)) pad_nil))) pad_nil)) pad_nil)))
    (pbd_cons (psd_if (ptd_cmp (op_neE hr.units) d_ne (ped_callN (ok__law_way T B) (hr.mono (by decide)) hgd (by rfl) T.h__law_way.m T.h__law_way.fn.kp T.h__law_way.b (takes_of rfl rfl rfl rfl) (pad_cons (ped_tup (pad_cons (ped_c pe_str (fun _ => .str _)) (pad_cons (ped_var 3) (pad_cons (ped_tup pad_nil) pad_nil)))) (pad_cons (ped_tup (pad_cons (ped_c pe_str (fun _ => .str _)) (pad_cons (ped_op op_addD d_add (ped_var 3) (ped_var 5)) (pad_cons (ped_tup pad_nil) pad_nil)))) pad_nil))) (ped_tup (pad_cons (ped_tup (pad_cons (ped_c pe_str (fun _ => .str _)) (pad_cons (ped_c pe_int (fun _ => .int _)) pad_nil))) (pad_cons (ped_tup (pad_cons (ped_c pe_str (fun _ => .str _)) (pad_cons (ped_c pe_int (fun _ => .int _)) pad_nil))) pad_nil))) (nomark _))
    (pbd_one (psd_ret (ped_c pe_bl (fun _ => .bl _))))
    pbd_nil)
    (pbd_cons (psd_if (ptd_cmp (op_neE hr.units) d_ne (ped_callN (ok__law_way T B) (hr.mono (by decide)) hgd (by rfl) T.h__law_way.m T.h__law_way.fn.kp T.h__law_way.b (takes_of rfl rfl rfl rfl) (pad_cons (ped_tup (pad_cons (ped_c pe_str (fun _ => .str _)) (pad_cons (ped_var 3) (pad_cons (ped_tup pad_nil) pad_nil)))) (pad_cons (ped_tup (pad_cons (ped_c pe_str (fun _ => .str _)) (pad_cons (ped_var 3) (pad_cons (ped_var 5) pad_nil)))) pad_nil))) (ped_tup (pad_cons (ped_tup (pad_cons (ped_c pe_str (fun _ => .str _)) (pad_cons (ped_c pe_int (fun _ => .int _)) pad_nil))) (pad_cons (ped_tup (pad_cons (ped_c pe_str (fun _ => .str _)) (pad_cons (ped_c pe_int (fun _ => .int _)) pad_nil))) pad_nil))) (nomark _))
    (pbd_one (psd_ret (ped_c pe_bl (fun _ => .bl _))))
    pbd_nil)
    (pbd_cons (psd_if (ptd_cmp (op_neE hr.units) d_ne (ped_callN (ok__law_way T B) (hr.mono (by decide)) hgd (by rfl) T.h__law_way.m T.h__law_way.fn.kp T.h__law_way.b (takes_of rfl rfl rfl rfl) (pad_cons (ped_tup (pad_cons (ped_c pe_str (fun _ => .str _)) (pad_cons (ped_var 4) (pad_cons (ped_tup pad_nil) pad_nil)))) (pad_cons (ped_tup (pad_cons (ped_c pe_str (fun _ => .str _)) (pad_cons (ped_var 4) (pad_cons (ped_tup pad_nil) pad_nil)))) pad_nil))) (ped_tup (pad_cons (ped_tup (pad_cons (ped_c pe_str (fun _ => .str _)) (pad_cons (ped_c pe_int (fun _ => .int _)) pad_nil))) pad_nil)) (nomark _))
    (pbd_one (psd_ret (ped_c pe_bl (fun _ => .bl _))))
    pbd_nil)
    (pbd_cons (psd_set (i := 6) sc_law.nd rfl (by first | exact Or.inl rfl | exact Or.inr rfl) (ped_tup (pad_cons (ped_tup (pad_cons (ped_op op_addD d_add (ped_ix (ped_ix (ped_var 3) (ped_c pe_int (fun _ => .int _)) (fun _ _ => rfl)) (ped_c pe_int (fun _ => .int _)) (fun _ _ => rfl)) (ped_c pe_int (fun _ => .int _))) (pad_cons (ped_c pe_int (fun _ => .int _)) pad_nil))) pad_nil)))
    (pbd_cons (psd_if (ptd_cmp (op_neE hr.units) d_ne (ped_callN (ok__law_way T B) (hr.mono (by decide)) hgd (by rfl) T.h__law_way.m T.h__law_way.fn.kp T.h__law_way.b (takes_of rfl rfl rfl rfl) (pad_cons (ped_tup (pad_cons (ped_c pe_str (fun _ => .str _)) (pad_cons (ped_var 4) (pad_cons (ped_tup pad_nil) pad_nil)))) (pad_cons (ped_tup (pad_cons (ped_c pe_str (fun _ => .str _)) (pad_cons (ped_var 6) (pad_cons (ped_tup pad_nil) pad_nil)))) pad_nil))) (ped_tup (pad_cons (ped_tup (pad_cons (ped_c pe_str (fun _ => .str _)) (pad_cons (ped_c pe_int (fun _ => .int _)) pad_nil))) pad_nil)) (nomark _))
    (pbd_one (psd_ret (ped_c pe_bl (fun _ => .bl _))))
    pbd_nil)
    (pbd_cons (psd_if (ptd_cmp (op_neE hr.units) d_ne (ped_callN (ok__law_way T B) (hr.mono (by decide)) hgd (by rfl) T.h__law_way.m T.h__law_way.fn.kp T.h__law_way.b (takes_of rfl rfl rfl rfl) (pad_cons (ped_tup (pad_cons (ped_c pe_str (fun _ => .str _)) (pad_cons (ped_var 3) (pad_cons (ped_tup (pad_cons (ped_tup (pad_cons (ped_c pe_int (fun _ => .int _)) (pad_cons (ped_c pe_int (fun _ => .int _)) pad_nil))) pad_nil)) pad_nil)))) (pad_cons (ped_tup (pad_cons (ped_c pe_str (fun _ => .str _)) (pad_cons (ped_var 6) (pad_cons (ped_tup pad_nil) pad_nil)))) pad_nil))) (ped_tup (pad_cons (ped_tup (pad_cons (ped_c pe_str (fun _ => .str _)) (pad_cons (ped_c pe_int (fun _ => .int _)) pad_nil))) (pad_cons (ped_tup (pad_cons (ped_c pe_str (fun _ => .str _)) (pad_cons (ped_c pe_int (fun _ => .int _)) pad_nil))) (pad_cons (ped_tup (pad_cons (ped_c pe_str (fun _ => .str _)) (pad_cons (ped_c pe_int (fun _ => .int _)) pad_nil))) pad_nil)))) (nomark _))
    (pbd_one (psd_ret (ped_c pe_bl (fun _ => .bl _))))
    pbd_nil)
    (pbd_cons (psd_if (ptd_notN (ped_callN (ok__law_way T B) (hr.mono (by decide)) hgd (by rfl) T.h__law_way.m T.h__law_way.fn.kp T.h__law_way.b (takes_of rfl rfl rfl rfl) (pad_cons (ped_tup (pad_cons (ped_c pe_str (fun _ => .str _)) (pad_cons (ped_var 6) (pad_cons (ped_tup pad_nil) pad_nil)))) (pad_cons (ped_tup (pad_cons (ped_c pe_str (fun _ => .str _)) (pad_cons (ped_var 4) (pad_cons (ped_tup pad_nil) pad_nil)))) pad_nil))))
    (pbd_one (psd_ret (ped_c pe_bl (fun _ => .bl _))))
    pbd_nil)
    (pbd_cons (psd_set (i := 7) sc_law.nd rfl (by first | exact Or.inl rfl | exact Or.inr rfl) (ped_tup (pad_cons (ped_c pe_str (fun _ => .str _)) (pad_cons (ped_var 3) (pad_cons (ped_tup pad_nil) (pad_cons (ped_c pe_int (fun _ => .int _)) (pad_cons (ped_c pe_int (fun _ => .int _)) (pad_cons (ped_c pe_int (fun _ => .int _)) (pad_cons (ped_c pe_int (fun _ => .int _)) (pad_cons (ped_c pe_bl (fun _ => .bl _)) pad_nil))))))))))
    (pbd_cons (psd_set (i := 8) sc_law.nd rfl (by first | exact Or.inl rfl | exact Or.inr rfl) (ped_tup (pad_cons (ped_tup (pad_cons (ped_c pe_str (fun _ => .str _)) (pad_cons (ped_c pe_int (fun _ => .int _)) pad_nil))) (pad_cons (ped_tup (pad_cons (ped_c pe_str (fun _ => .str _)) (pad_cons (ped_c pe_int (fun _ => .int _)) pad_nil))) (pad_cons (ped_tup (pad_cons (ped_c pe_str (fun _ => .str _)) (pad_cons (ped_c pe_int (fun _ => .int _)) (pad_cons (ped_c pe_int (fun _ => .int _)) pad_nil)))) (pad_cons (ped_tup (pad_cons (ped_c pe_str (fun _ => .str _)) (pad_cons (ped_c pe_int (fun _ => .int _)) pad_nil))) pad_nil))))))
    (pbd_cons (psd_if (ptd_cmp (op_neE hr.units) d_ne (ped_callN (ok_way_to T B) (hr.mono (by decide)) hgd (by rfl) T.h_way_to.m T.h_way_to.fn.kp T.h_way_to.b (takes_of rfl rfl rfl rfl) (pad_cons (ped_var 7) (pad_cons (ped_tup (pad_cons (ped_c pe_str (fun _ => .str _)) (pad_cons (ped_var 3) (pad_cons (ped_tup pad_nil) (pad_cons (ped_c pe_int (fun _ => .int _)) (pad_cons (ped_un un_neg d_neg (ped_c pe_int (fun _ => .int _))) (pad_cons (ped_c pe_int (fun _ => .int _)) (pad_cons (ped_un un_neg d_neg (ped_c pe_int (fun _ => .int _))) (pad_cons (ped_c pe_bl (fun _ => .bl _)) pad_nil))))))))) pad_nil))) (ped_var 8) (nomark _))
    (pbd_one (psd_ret (ped_c pe_bl (fun _ => .bl _))))
    pbd_nil)
    (pbd_cons (psd_if (ptd_cmp (op_neE hr.units) d_ne (ped_callN (ok_way_to T B) (hr.mono (by decide)) hgd (by rfl) T.h_way_to.m T.h_way_to.fn.kp T.h_way_to.b (takes_of rfl rfl rfl rfl) (pad_cons (ped_var 7) (pad_cons (ped_tup (pad_cons (ped_c pe_str (fun _ => .str _)) (pad_cons (ped_var 3) (pad_cons (ped_tup pad_nil) (pad_cons (ped_c pe_int (fun _ => .int _)) (pad_cons (ped_c pe_int (fun _ => .int _)) (pad_cons (ped_c pe_int (fun _ => .int _)) (pad_cons (ped_c pe_int (fun _ => .int _)) (pad_cons (ped_c pe_bl (fun _ => .bl _)) pad_nil))))))))) pad_nil))) (ped_tup (pad_cons (ped_tup (pad_cons (ped_c pe_str (fun _ => .str _)) (pad_cons (ped_c pe_int (fun _ => .int _)) pad_nil))) (pad_cons (ped_tup (pad_cons (ped_c pe_str (fun _ => .str _)) (pad_cons (ped_c pe_int (fun _ => .int _)) pad_nil))) pad_nil))) (nomark _))
    (pbd_one (psd_ret (ped_c pe_bl (fun _ => .bl _))))
    pbd_nil)
    (pbd_cons (psd_for (g := (.name 9)) (passes_of rfl) rfl (pid_seq (ped_tup (pad_cons (ped_c pe_non (fun _ => .non)) (pad_cons (ped_sl (ped_var 7) pod_none (pod_some (ped_c pe_int (fun _ => .int _)))) (pad_cons (ped_op op_addD d_add (ped_var 7) (ped_tup (pad_cons (ped_c pe_int (fun _ => .int _)) pad_nil))) (pad_cons (ped_callTy call_list_of d_list (by rfl) T.bi_list (by decide +kernel) (pad_cons (ped_var 7) pad_nil)) (pad_cons (ped_tup (pad_cons (ped_c pe_str (fun _ => .str _)) pad_nil)) (pad_cons (ped_tup (pad_cons (ped_var 7) pad_nil)) (pad_cons (ped_c pe_str (fun _ => .str _)) (pad_cons (ped_c pe_int (fun _ => .int _)) pad_nil)))))))))) (pgd_name 9 sc_law.nd rfl (by first | exact Or.inl rfl | exact Or.inr rfl))
    (pbd_cons (psd_if (ptd_cmp (op_neE hr.units) d_ne (ped_outL (k := 4) (out_ok T) (by rfl) (B _ List.mem_cons_self) rfl List.mem_cons_self (fun p hp _ => by cases List.mem_singleton.mp hp; rfl) (hr.mono (by decide)) hgd (LamX.lamS_by (sc := defScope s_law) (by decide +kernel)) rfl (fun _ _ _ _ _ => rfl) (fun A outer s H E f c' hr hgd =>
      (ped_callN (ok_way_to T B) (hr.mono (by decide)) hgd (by rfl) T.h_way_to.m T.h_way_to.fn.kp T.h_way_to.b (takes_of rfl rfl rfl rfl) (pad_cons (ped_var 9) (pad_cons (ped_var 7) pad_nil))))) (ped_tup (pad_cons (ped_c pe_str (fun _ => .str _)) (pad_cons (ped_c pe_non (fun _ => .non)) pad_nil))) (nomark _))
    (pbd_one (psd_ret (ped_c pe_bl (fun _ => .bl _))))
    pbd_nil)
    (pbd_one (psd_if (ptd_cmp (op_neE hr.units) d_ne (ped_outL (k := 4) (out_ok T) (by rfl) (B _ List.mem_cons_self) rfl List.mem_cons_self (fun p hp _ => by cases List.mem_singleton.mp hp; rfl) (hr.mono (by decide)) hgd (LamX.lamS_by (sc := defScope s_law) (by decide +kernel)) rfl (fun _ _ _ _ _ => rfl) (fun A outer s H E f c' hr hgd =>
      (ped_callN (ok_way_to T B) (hr.mono (by decide)) hgd (by rfl) T.h_way_to.m T.h_way_to.fn.kp T.h_way_to.b (takes_of rfl rfl rfl rfl) (pad_cons (ped_var 7) (pad_cons (ped_var 9) pad_nil))))) (ped_tup (pad_cons (ped_c pe_str (fun _ => .str _)) (pad_cons (ped_c pe_non (fun _ => .non)) pad_nil))) (nomark _))
    (pbd_one (psd_ret (ped_c pe_bl (fun _ => .bl _))))
    pbd_nil))))
    (pbd_one (psd_ret (ped_callN0 (ok__law_long_right T B) (hr.mono (by decide)) hgd (by rfl) T.h__law_long_right.m T.h__law_long_right.fn.kp T.h__law_long_right.b (takes_of rfl rfl rfl rfl))))))))))))))))))))))))
end
end Lw
set_option maxRecDepth 100000
set_option maxHeartbeats 4000000
namespace Mr
open PySem L2 Dl
theorem law_end54 {F : List Val → LS → Res LS Val} {d : DS} (h : @Wp _ _ (F [.ref 1] ⟨d, []⟩) (fun _ _ _ => False) fun v _ => v = .d (.bool true)) : ∃ st', dnF F [.ref 1] d = .ok (.d (.bool true)) st' := by
  unfold dnF
  rw [if_pos (show [Val.ref 1].all okU = true from rfl)]
  cases r : F [.ref 1] ⟨d, []⟩ with
  | ok v s => rw [r] at h; rw [show v = .d (.bool true) from h]; exact ⟨s.d, rfl⟩
  | exc c fs s => rw [r] at h; exact h.elim
  | stuck => rw [r] at h; exact h.elim
/-- a track of two cells -/
abbrev tk54 (m : Mode) (L U : List (List Int)) (p : Int) : Trk := ⟨m, L, U, p, 1, 2, 1, false⟩
theorem lp54 {m : Mode} {L U : List (List Int)} {p : Int} (hL : ∀ l ∈ L, l.length = 2) (hU : ∀ l ∈ U, l.length = 2) (h1 : 1 ≤ L.length) (h4 : L.length + U.length ≤ 4) (p0 : 0 ≤ p) (p1 : p < 4) {w c g : Int} {mu : Bool} (hw : w = 1 ∨ w = -1) (hc : c = 1 ∨ c = 2 ∨ c = 4) (hg : g = 1 ∨ g = -1) : OkLoop ⟨m, L, U, p, w, c, g, mu⟩ := by
  have hs : Trk.size ⟨m, L, U, p, w, c, g, mu⟩ = 2 := by
    cases L with
    | nil => simp at h1
    | cons l L => exact hL l List.mem_cons_self
  exact ⟨h1, h4, by rw [hs]; decide, by rw [hs]; decide, fun l hl => by rw [hs]; exact hL l hl, fun l hl => by rw [hs]; exact hU l hl, p0, by rw [hs]; exact p1, hw, hc, hg⟩
theorem near_one54 {m : Mode} {A : List Int} {p w c g : Int} {mu : Bool} (ok : OkT ⟨m, [A], [], p, w, c, g, mu⟩) (hm : m.loops = true) : Near ⟨m, [A], [], p, w, c, g, mu⟩ := by
  have hl := ok.loop hm
  exact ⟨setX A A p, clos_X _ _ _, set_len _ _ _, mem_set.mpr ⟨ok, .inr (.inr (.inr ⟨m, 0, 0, 1, true, w, c, g, mu, by simp [mkX, allX, stemX], hm, by omega, by omega, by omega, by omega, hl.way, hl.pace, hl.sign⟩))⟩⟩
theorem m_way54 {t g : Trk} (hn : Near t) (hg : OkT g) (s : LS) : ∃ r, WayTo t g r ∧ ∃ s', F_way_to [.d (dTrk t), .d (dTrk g)] s = .ok (.d (wayO r)) s' := by
  obtain ⟨X, hX, hl, ht⟩ := hn
  obtain ⟨r, hw, s', e, _, _⟩ := m_way hX hl ht hg s
  exact ⟨r, hw, s', e⟩
theorem m_lw54 (m m' : Mode) (L U L' U' : List (List Int)) (hn : Near (tk54 m L U 0)) (hg : OkT (tk54 m' L' U' 0)) (s : LS) : ∃ r, WayTo (tk54 m L U 0) (tk54 m' L' U' 0) r ∧ ∃ s', F__law_way_k54 [.d (.tuple [.str m.s, lpsD L, lpsD U]), .d (.tuple [.str m'.s, lpsD L', lpsD U'])] s = .ok (.d (wayO r)) s' := by
  obtain ⟨r, hw, s', e⟩ := m_way54 hn hg s
  refine ⟨r, hw, s', ?_⟩
  have key : ∃ v s2, F__law_way_k54 [.d (.tuple [.str m.s, lpsD L, lpsD U]), .d (.tuple [.str m'.s, lpsD L', lpsD U'])] s = .ok v s2 ∧ (v = .d (wayO r) ∧ s2 = s') := by
    refine wp_ex ?_
    have e : F_way_to [.d (.tuple [.str m.s, lpsD L, lpsD U, .int 0, .int 1, .int 2, .int 1, .bool false]), .d (.tuple [.str m'.s, lpsD L', lpsD U', .int 0, .int 1, .int 2, .int 1, .bool false])] s = .ok (.d (wayO r)) s' := e
    simp! [F__law_way_k54, w_fn, B__law_way_k54, q_addt, e]
  obtain ⟨v, s2, e2, rfl, rfl⟩ := key
  exact e2
theorem nine {P : Int → Prop} (h : P 1 ∧ P 2 ∧ P 3 ∧ P 4 ∧ P 5 ∧ P 6 ∧ P 7 ∧ P 8 ∧ P 9) {c : Int} (h1 : 1 ≤ c) (h9 : c ≤ 9) : P c := by
  obtain ⟨a1, a2, a3, a4, a5, a6, a7, a8, a9⟩ := h
  rcases (show c = 1 ∨ c = 2 ∨ c = 3 ∨ c = 4 ∨ c = 5 ∨ c = 6 ∨ c = 7 ∨ c = 8 ∨ c = 9 by omega) with rfl | rfl | rfl | rfl | rfl | rfl | rfl | rfl | rfl <;> assumption
theorem cd1 : condB (recT []) emptyT [.tap] = true := by decide +kernel
theorem cd2 : condB emptyT (recT []) [.clear] = true := by decide +kernel
theorem cd3 {c : Int} (h1 : 1 ≤ c) (h9 : c ≤ 9) : condB emptyT (tk54 .play [[c, 2]] [] 0) [.clear] = true := nine (P := fun c => condB emptyT (tk54 .play [[c, 2]] [] 0) [.clear] = true) (by decide +kernel) h1 h9
theorem cd5 {c : Int} (h1 : 1 ≤ c) (h9 : c ≤ 9) : condB (tk54 .stop [[c, 2]] [] 0) (recT [c, 2]) [.stop] = true := nine (P := fun c => condB (tk54 .stop [[c, 2]] [] 0) (recT [c, 2]) [.stop] = true) (by decide +kernel) h1 h9
theorem cd6 {c : Int} (h1 : 1 ≤ c) (h9 : c ≤ 9) : condB (tk54 .play [[c, 2], [0, 0]] [] 0) (tk54 .play [[c, 2]] [] 0) [.tap, .tap] = true := nine (P := fun c => condB (tk54 .play [[c, 2], [0, 0]] [] 0) (tk54 .play [[c, 2]] [] 0) [.tap, .tap] = true) (by decide +kernel) h1 h9
theorem cd7 {c : Int} (h1 : 1 ≤ c) (h9 : c ≤ 9) : condB (tk54 .play [[c, 2]] [[0, 0]] 0) (tk54 .play [[c, 2]] [] 0) [.tap, .undo] = true := nine (P := fun c => condB (tk54 .play [[c, 2]] [[0, 0]] 0) (tk54 .play [[c, 2]] [] 0) [.tap, .undo] = true) (by decide +kernel) h1 h9
theorem cd8 {c : Int} (h1 : 1 ≤ c) (h9 : c ≤ 9) : condB (tk54 .play [[c, 2], [3, 4]] [] 0) (tk54 .dub [[c, 2], [3, 4]] [] 0) [.tap] = true := nine (P := fun c => condB (tk54 .play [[c, 2], [3, 4]] [] 0) (tk54 .dub [[c, 2], [3, 4]] [] 0) [.tap] = true) (by decide +kernel) h1 h9
theorem cd9 {c : Int} (h1 : 1 ≤ c) (h9 : c ≤ 9) : condB (tk54 .play [[c + 3, 6]] [] 0) (tk54 .play [[c, 2], [3, 4]] [] 0) [.join] = true := nine (P := fun c => condB (tk54 .play [[c + 3, 6]] [] 0) (tk54 .play [[c, 2], [3, 4]] [] 0) [.join] = true) (by decide +kernel) h1 h9
theorem cd10 {c : Int} (h1 : 1 ≤ c) (h9 : c ≤ 9) : condB (tk54 .play [[c + 3, 6]] [] 0) (tk54 .stop [[c, 2]] [[3, 4]] 0) [.redo, .join, .tap] = true := nine (P := fun c => condB (tk54 .play [[c + 3, 6]] [] 0) (tk54 .stop [[c, 2]] [[3, 4]] 0) [.redo, .join, .tap] = true) (by decide +kernel) h1 h9
theorem cd12 {c : Int} (h1 : 1 ≤ c) (h9 : c ≤ 9) : condB ⟨.play, [[c, 2]], [], 1, -1, 4, -1, true⟩ (tk54 .play [[c, 2]] [] 1) [.flip, .mute, .pace 4, .turn] = true := nine (P := fun c => condB ⟨.play, [[c, 2]], [], 1, -1, 4, -1, true⟩ (tk54 .play [[c, 2]] [] 1) [.flip, .mute, .pace 4, .turn] = true) (by decide +kernel) h1 h9
theorem cd13 {c : Int} (h1 : 1 ≤ c) (h9 : c ≤ 9) : condB (tk54 .play [[c, 2]] [] 0) (tk54 .play [[c, 2]] [] 1) [.stop, .tap] = true := nine (P := fun c => condB (tk54 .play [[c, 2]] [] 0) (tk54 .play [[c, 2]] [] 1) [.stop, .tap] = true) (by decide +kernel) h1 h9
theorem none_of {X : List Trk} (hX : Clos X) {t g : Trk} (ht : t ∈ X) (hg : g ∉ X) {r : Option (List Deed)} (h : WayTo t g r) : r = none := by
  cases r with
  | none => rfl
  | some w =>
    obtain ⟨e, hd⟩ := way_runs h rfl
    exact absurd (e ▸ hX.runs w ht hd) hg
theorem none4 {c : Int} {r : Option (List Deed)} (h : WayTo emptyT (tk54 .play [[c, 2]] [] 0) r) : r = none := by
  refine none_of (clos_X [] [] 0) (mem_set.mpr ⟨.empty, .inl rfl⟩) (fun hm => ?_) h
  obtain ⟨_, hx⟩ := mem_set.mp hm
  rcases hx with e | e | e | ⟨m, s, k, j, b, w, c', g, mu, e, _, hs, _, h1, _⟩
  · cases e
  · cases e
  · cases e
  · have e2 : [[c, 2]] = (allX [] [] s k).take j := congrArg Trk.layers e
    have e3 := congrArg (fun L => (L.headD []).length) e2
    obtain ⟨j, rfl⟩ : ∃ i, j = i + 1 := ⟨j - 1, by omega⟩
    rcases (show s = 0 ∨ s = 1 ∨ s = 2 by omega) with rfl | rfl | rfl <;> simp [allX, stemX, joinL] at e3
theorem none11 {c : Int} {r : Option (List Deed)} (h : WayTo (tk54 .play [[c + 3, 6]] [] 0) (tk54 .play [[c, 2], [3, 4]] [] 0) r) : r = none := by
  have hin : tk54 .play [[c + 3, 6]] [] 0 ∈ setX [c + 3, 6] [c + 3, 6] 0 := mem_set.mpr ⟨.play rfl (lp54 (by simp) (by simp) (by simp) (by simp) (by omega) (by omega) (.inl rfl) (.inr (.inl rfl)) (.inl rfl)), .inr (.inr (.inr ⟨.play, 0, 0, 1, true, 1, 2, 1, false, by simp [mkX, allX, stemX], rfl, by omega, by omega, by omega, by omega, .inl rfl, .inr (.inl rfl), .inl rfl⟩))⟩
  refine none_of (clos_X [c + 3, 6] [c + 3, 6] 0) hin (fun hm => ?_) h
  obtain ⟨_, hx⟩ := mem_set.mp hm
  rcases hx with e | e | e | ⟨m, s, k, j, b, w, c', g, mu, e, _, hs, _, h1, _⟩
  · cases e
  · cases e
  · cases e
  · have e2 : [[c, 2], [3, 4]] = (allX [c + 3, 6] [c + 3, 6] s k).take j := congrArg Trk.layers e
    have e3 := congrArg (fun L => (L.headD []).getD 1 0) e2
    obtain ⟨j, rfl⟩ : ∃ i, j = i + 1 := ⟨j - 1, by omega⟩
    rcases (show s = 0 ∨ s = 1 ∨ s = 2 by omega) with rfl | rfl | rfl <;> simp [allX, stemX, joinL] at e3
theorem way_odd1 (x y : PyData) (h : trkB x = false) (hs : okSz x = true) (s : LS) : F_way_to [.d x, .d y] s = .exc 6 [.str "no track"] s := by
  refine exc_of_wp ?_
  have it : ∀ s, upF F_is_track [.d x] s = .ok (.d (.bool false)) s := up_ok fun st => by rw [m_is_track x hs st, h]
  rw [show F_way_to = fnF 10 B_way_to from rfl, way_eq]
  simp! [w_fn]
  refine ws_forP (fun z : PyData => z) (fun done ρ s2 => done = [] ∧ ρ = [some (.d x), some (.d y), none, none, none, none, none, none, none, none] ∧ s2 = s) [x, y] _ _ ⟨rfl, rfl, rfl⟩ ?_ ?_
  · rintro done z rest ρ s2 eg ⟨rfl, rfl, rfl⟩
    have hz : z = x := by
      injection eg with e1 e2
      exact e1.symm
    subst hz
    refine ⟨_, rfl, ?_⟩
    simp! [it, id]
  · rintro ρ s2 ⟨h, _⟩
    cases h
theorem way_odd2 {t : Trk} (ok : OkT t) (x : PyData) (h : trkB x = false) (hs : okSz x = true) (s : LS) : F_way_to [.d (dTrk t), .d x] s = .exc 6 [.str "no track"] s := by
  refine exc_of_wp ?_
  have i1 : ∀ s, upF F_is_track [.d (dTrk t)] s = .ok (.d (.bool true)) s := up_ok fun st => m_is_track_ok ok st
  have it : ∀ s, upF F_is_track [.d x] s = .ok (.d (.bool false)) s := up_ok fun st => by rw [m_is_track x hs st, h]
  rw [show F_way_to = fnF 10 B_way_to from rfl, way_eq]
  generalize dTrk t = T at *
  simp! [w_fn]
  refine ws_forP (fun z : PyData => z) (fun done ρ s2 => (done = [] ∨ done = [T]) ∧ (∃ c2, ρ = [some (.d T), some (.d x), c2, none, none, none, none, none, none, none]) ∧ s2 = s) [T, x] _ _ ⟨.inl rfl, ⟨_, rfl⟩, rfl⟩ ?_ ?_
  · rintro done z rest ρ s2 eg ⟨hd, ⟨c2, rfl⟩, rfl⟩
    rcases hd with rfl | rfl
    · have hz : z = T := by
        injection eg with e1 e2
        exact e1.symm
      subst hz
      refine ⟨_, rfl, ?_⟩
      simp! [i1]
      first | exact ⟨_, rfl⟩ | exact ⟨.inr rfl, ⟨_, rfl⟩, rfl⟩ | exact ⟨.inr rfl, ⟨_, rfl⟩⟩
    · have hz : z = x := by
        injection eg with e1 e2
        injection e2 with e3 e4
        exact e3.symm
      subst hz
      refine ⟨_, rfl, ?_⟩
      simp! [it, id]
  · rintro ρ s2 ⟨h, _⟩
    rcases h with h | h <;> cases h
def ouF54 (r : Res LS Val) : Res LS Val := match r with
  | .ok (.d x) st1 => .ok (.d (.list [x])) st1
  | .exc c fs st1 => (match tell c fs with
    | some t => .ok (.d t) st1
    | none => .stuck)
  | _ => .stuck
theorem x_outF54 (Fb : Rho → LS → Res LS Val) (ρ : Rho) (st : LS) : eOut Fb ρ st = ouF54 (Fb ρ st) := by
  unfold eOut ouF54
  cases Fb ρ st with
  | ok v s => cases v <;> rfl
  | exc c fs s => rfl
  | stuck => rfl
theorem m_long54 (s : LS) : ∃ s', F__law_long_right_k54 [] s = .ok (.d (.bool true)) s' := by
  obtain ⟨r, hw, s', e, _⟩ := m_way clos_L setL_len long_in ok_goal54 s
  have hr := way_long hw
  subst hr
  have key : ∃ v s2, F__law_long_right_k54 [] s = .ok v s2 ∧ (v = .d (.bool true)) := by
    refine wp_ex ?_
    have e : F_way_to [.d (.tuple [.str "play", .tuple [.tuple [.int 1], .tuple [.int 2], .tuple [.int 4], .tuple [.int 8]], .tuple [], .int 1, .int 1, .int 2, .int 1, .bool false]), .d (.tuple [.str "play", .tuple [.tuple [.int 1]], .tuple [], .int 1, .int (-1), .int 4, .int (-1), .bool true])] s = .ok (.d (.tuple [.tuple [.str "flip", .int 0], .tuple [.str "mute", .int 0], .tuple [.str "pace", .int 0, .int 4], .tuple [.str "turn", .int 0], .tuple [.str "undo", .int 0], .tuple [.str "undo", .int 0], .tuple [.str "undo", .int 0], .tuple [.str "tap", .int 0], .tuple [.str "tap", .int 0], .tuple [.str "join", .int 0]])) s' := e
    have q : vEq (.d (.tuple [.tuple [.str "flip", .int 0], .tuple [.str "mute", .int 0], .tuple [.str "pace", .int 0, .int 4], .tuple [.str "turn", .int 0], .tuple [.str "undo", .int 0], .tuple [.str "undo", .int 0], .tuple [.str "undo", .int 0], .tuple [.str "tap", .int 0], .tuple [.str "tap", .int 0], .tuple [.str "join", .int 0]])) (.d (.tuple [.tuple [.str "flip", .int 0], .tuple [.str "mute", .int 0], .tuple [.str "pace", .int 0, .int 4], .tuple [.str "turn", .int 0], .tuple [.str "undo", .int 0], .tuple [.str "undo", .int 0], .tuple [.str "undo", .int 0], .tuple [.str "tap", .int 0], .tuple [.str "tap", .int 0], .tuple [.str "join", .int 0]])) = some true := by decide +kernel
    simp! [F__law_long_right_k54, w_fn, B__law_long_right_k54, q_addt, e, q]
  obtain ⟨v, s2, e2, rfl⟩ := key
  exact ⟨s2, e2⟩
theorem ws_forD54 {S : Type} {tg : Tg} {B : Rho → S → SRes S} {E : En S} (P : List PyData → Rho → S → Prop) (bs : List PyData) (ρ : Rho) (s : S) (h : P [] ρ s)
    (t : ∀ done b rest ρ s, bs = done ++ b :: rest → P done ρ s → ∃ ρ1, setT tg b ρ = some ρ1 ∧ @Ws _ (B ρ1 s) { E with n := fun ρ s => @Hid (P (done ++ [b]) ρ s), c := fun ρ s => @Hid (P (done ++ [b]) ρ s), b := E.n }) (e : ∀ ρ s, P bs ρ s → E.n ρ s) : @Ws _ (forL tg B bs ρ s) E := by
  have := ws_forP (fun x : PyData => x) P bs ρ s h t e
  rwa [List.map_id'] at this
theorem law_math_k54 (ns : List Int) (hns : ns.length ≤ 63) (hb : ∀ z ∈ ns, Builtin.Int.intBits z ≤ 1048576) : ∃ st', F_law_k54 [.ref 1] ⟨ns, [], [], 0, false⟩ = .ok (.d (.bool true)) st' := by
  refine law_end54 ?_
  simp! [FL_law_k54, w_fn, B_law_k54]
  refine wp_up rfl (wp_begin hns fun st g => ⟨rfl, ?_⟩)
  simp! []
  refine wp_drawL g (by omega) (by omega) (by omega) fun x d1 a1 a2 g1 => ?_
  obtain ⟨c, hc⟩ : ∃ c : Int, x + 1 = c := ⟨_, rfl⟩
  have c1 : 1 ≤ c := by omega
  have c9 : c ≤ 9 := by omega
  have o2 : ∀ {m : Mode} {L U : List (List Int)} {p : Int}, (∀ l ∈ L, l.length = 2) → (∀ l ∈ U, l.length = 2) → 1 ≤ L.length → L.length + U.length ≤ 4 → 0 ≤ p → p < 4 → OkLoop (tk54 m L U p) := fun h1 h2 h3 h4 h5 h6 => lp54 h1 h2 h3 h4 h5 h6 (.inl rfl) (.inr (.inl rfl)) (.inl rfl)
  have okA : OkT (tk54 .play [[c, 2]] [] 0) := .play rfl (o2 (by simp) (by simp) (by simp) (by simp) (by omega) (by omega))
  have okA1 : OkT (tk54 .play [[c, 2]] [] 1) := .play rfl (o2 (by simp) (by simp) (by simp) (by simp) (by omega) (by omega))
  have okAB : OkT (tk54 .play [[c, 2], [3, 4]] [] 0) := .play rfl (o2 (by simp) (by simp) (by simp) (by simp) (by omega) (by omega))
  have okDB : OkT (tk54 .dub [[c, 2], [3, 4]] [] 0) := .dub rfl (o2 (by simp) (by simp) (by simp) (by simp) (by omega) (by omega)) (by simp) rfl
  have okSU : OkT (tk54 .stop [[c, 2]] [[3, 4]] 0) := .stop rfl (o2 (by simp) (by simp) (by simp) (by simp) (by omega) (by omega)) rfl
  have okS : OkT (tk54 .stop [[c, 2]] [] 0) := .stop rfl (o2 (by simp) (by simp) (by simp) (by simp) (by omega) (by omega)) rfl
  have okA0 : OkT (tk54 .play [[c, 2], [0, 0]] [] 0) := .play rfl (o2 (by simp) (by simp) (by simp) (by simp) (by omega) (by omega))
  have okU0 : OkT (tk54 .play [[c, 2]] [[0, 0]] 0) := .play rfl (o2 (by simp) (by simp) (by simp) (by simp) (by omega) (by omega))
  have okJ : OkT (tk54 .play [[c + 3, 6]] [] 0) := .play rfl (o2 (by simp) (by simp) (by simp) (by simp) (by omega) (by omega))
  have okG : OkT ⟨.play, [[c, 2]], [], 1, -1, 4, -1, true⟩ := .play rfl (lp54 (by simp) (by simp) (by simp) (by simp) (by omega) (by omega) (.inr rfl) (.inr (.inr rfl)) (.inr rfl))
  have nA := near_one54 okA rfl
  have nA1 := near_one54 okA1 rfl
  have nJ := near_one54 okJ rfl
  have nAB : Near (tk54 .play [[c, 2], [3, 4]] [] 0) := near_two (A := [c, 2]) (B := [3, 4]) (j := 2) okAB rfl (by omega) (by omega)
  have nDB : Near (tk54 .dub [[c, 2], [3, 4]] [] 0) := near_two (A := [c, 2]) (B := [3, 4]) (j := 2) okDB rfl (by omega) (by omega)
  have nSU : Near (tk54 .stop [[c, 2]] [[3, 4]] 0) := near_two (A := [c, 2]) (B := [3, 4]) (j := 1) okSU rfl (by omega) (by omega)
  have nR : Near (recT [c, 2]) := near_rec (by simp)
  have q0 : vEq (.d (.tuple [.tuple [.str "tap", .int 0]])) (.d (.tuple [.tuple [.str "tap", .int 0]])) = some true := by decide +kernel
  have q1 : vEq (.d (.tuple [.tuple [.str "clear", .int 0]])) (.d (.tuple [.tuple [.str "clear", .int 0]])) = some true := by decide +kernel
  have q2 : vEq (.d (.tuple [.tuple [.str "stop", .int 0]])) (.d (.tuple [.tuple [.str "stop", .int 0]])) = some true := by decide +kernel
  have q3 : vEq (.d (.tuple [.tuple [.str "tap", .int 0], .tuple [.str "tap", .int 0]])) (.d (.tuple [.tuple [.str "tap", .int 0], .tuple [.str "tap", .int 0]])) = some true := by decide +kernel
  have q4 : vEq (.d (.tuple [.tuple [.str "tap", .int 0], .tuple [.str "undo", .int 0]])) (.d (.tuple [.tuple [.str "tap", .int 0], .tuple [.str "undo", .int 0]])) = some true := by decide +kernel
  have q5 : vEq (.d (.tuple [.tuple [.str "join", .int 0]])) (.d (.tuple [.tuple [.str "join", .int 0]])) = some true := by decide +kernel
  have q6 : vEq (.d (.tuple [.tuple [.str "redo", .int 0], .tuple [.str "join", .int 0], .tuple [.str "tap", .int 0]])) (.d (.tuple [.tuple [.str "redo", .int 0], .tuple [.str "join", .int 0], .tuple [.str "tap", .int 0]])) = some true := by decide +kernel
  have q7 : vEq (.d (.tuple [.tuple [.str "flip", .int 0], .tuple [.str "mute", .int 0], .tuple [.str "pace", .int 0, .int 4], .tuple [.str "turn", .int 0]])) (.d (.tuple [.tuple [.str "flip", .int 0], .tuple [.str "mute", .int 0], .tuple [.str "pace", .int 0, .int 4], .tuple [.str "turn", .int 0]])) = some true := by decide +kernel
  have q8 : vEq (.d (.tuple [.tuple [.str "stop", .int 0], .tuple [.str "tap", .int 0]])) (.d (.tuple [.tuple [.str "stop", .int 0], .tuple [.str "tap", .int 0]])) = some true := by decide +kernel
  have i0 : vIsNot (.d PyData.none) = some false := rfl
  simp! [hc]
  generalize (⟨d1, []⟩ : LS) = s0
  obtain ⟨r1, w1, s1, e1⟩ := m_lw54 .empty .record [] [] [[]] [] near_empty (.record [] (by simp)) s0
  have h1 : r1 = some [.tap] := way_of w1 (by simp [deedsS]) cd1
  subst h1
  have e1 : F__law_way_k54 [.d (.tuple [.str "empty", .tuple [], .tuple []]), .d (.tuple [.str "record", .tuple [.tuple []], .tuple []])] s0 = .ok (.d (.tuple [.tuple [.str "tap", .int 0]])) s1 := e1
  simp! [e1, q0, q_addt]
  obtain ⟨r2, w2, s2, e2⟩ := m_lw54 .record .empty [[]] [] [] [] (near_rec (l := []) (by simp)) .empty s1
  have h2 : r2 = some [.clear] := way_of w2 (by simp [deedsS]) cd2
  subst h2
  have e2 : F__law_way_k54 [.d (.tuple [.str "record", .tuple [.tuple []], .tuple []]), .d (.tuple [.str "empty", .tuple [], .tuple []])] s1 = .ok (.d (.tuple [.tuple [.str "clear", .int 0]])) s2 := e2
  simp! [e2, q1, q_addt]
  obtain ⟨r3, w3, s3, e3⟩ := m_lw54 .play .empty [[c, 2]] [] [] [] nA .empty s2
  have h3 : r3 = some [.clear] := way_of w3 (by simp [deedsS]) (cd3 c1 c9)
  subst h3
  have e3 : F__law_way_k54 [.d (.tuple [.str "play", .tuple [.tuple [.int c, .int 2]], .tuple []]), .d (.tuple [.str "empty", .tuple [], .tuple []])] s2 = .ok (.d (.tuple [.tuple [.str "clear", .int 0]])) s3 := e3
  simp! [e3, q1, q_addt]
  obtain ⟨r4, w4, s4, e4⟩ := m_lw54 .empty .play [] [] [[c, 2]] [] near_empty okA s3
  have h4 : r4 = none := none4 w4
  subst h4
  have e4 : F__law_way_k54 [.d (.tuple [.str "empty", .tuple [], .tuple []]), .d (.tuple [.str "play", .tuple [.tuple [.int c, .int 2]], .tuple []])] s3 = .ok (.d (PyData.none)) s4 := e4
  simp! [e4, i0, q_addt]
  obtain ⟨r5, w5, s5, e5⟩ := m_lw54 .record .stop [[c, 2]] [] [[c, 2]] [] nR okS s4
  have h5 : r5 = some [.stop] := way_of w5 (by simp [deedsS]) (cd5 c1 c9)
  subst h5
  have e5 : F__law_way_k54 [.d (.tuple [.str "record", .tuple [.tuple [.int c, .int 2]], .tuple []]), .d (.tuple [.str "stop", .tuple [.tuple [.int c, .int 2]], .tuple []])] s4 = .ok (.d (.tuple [.tuple [.str "stop", .int 0]])) s5 := e5
  simp! [e5, q2, q_addt]
  obtain ⟨r6, w6, s6, e6⟩ := m_lw54 .play .play [[c, 2]] [] [[c, 2], [0, 0]] [] nA okA0 s5
  have h6 : r6 = some [.tap, .tap] := way_of w6 (by simp [deedsS]) (cd6 c1 c9)
  subst h6
  have e6 : F__law_way_k54 [.d (.tuple [.str "play", .tuple [.tuple [.int c, .int 2]], .tuple []]), .d (.tuple [.str "play", .tuple [.tuple [.int c, .int 2], .tuple [.int 0, .int 0]], .tuple []])] s5 = .ok (.d (.tuple [.tuple [.str "tap", .int 0], .tuple [.str "tap", .int 0]])) s6 := e6
  simp! [e6, q3, q_addt]
  obtain ⟨r7, w7, s7, e7⟩ := m_lw54 .play .play [[c, 2]] [] [[c, 2]] [[0, 0]] nA okU0 s6
  have h7 : r7 = some [.tap, .undo] := way_of w7 (by simp [deedsS]) (cd7 c1 c9)
  subst h7
  have e7 : F__law_way_k54 [.d (.tuple [.str "play", .tuple [.tuple [.int c, .int 2]], .tuple []]), .d (.tuple [.str "play", .tuple [.tuple [.int c, .int 2]], .tuple [.tuple [.int 0, .int 0]]])] s6 = .ok (.d (.tuple [.tuple [.str "tap", .int 0], .tuple [.str "undo", .int 0]])) s7 := e7
  simp! [e7, q4, q_addt]
  obtain ⟨r8, w8, s8, e8⟩ := m_lw54 .dub .play [[c, 2], [3, 4]] [] [[c, 2], [3, 4]] [] nDB okAB s7
  have h8 : r8 = some [.tap] := way_of w8 (by simp [deedsS]) (cd8 c1 c9)
  subst h8
  have e8 : F__law_way_k54 [.d (.tuple [.str "dub", .tuple [.tuple [.int c, .int 2], .tuple [.int 3, .int 4]], .tuple []]), .d (.tuple [.str "play", .tuple [.tuple [.int c, .int 2], .tuple [.int 3, .int 4]], .tuple []])] s7 = .ok (.d (.tuple [.tuple [.str "tap", .int 0]])) s8 := e8
  simp! [e8, q0, q_addt]
  obtain ⟨r9, w9, s9, e9⟩ := m_lw54 .play .play [[c, 2], [3, 4]] [] [[c + 3, 6]] [] nAB okJ s8
  have h9 : r9 = some [.join] := way_of w9 (by simp [deedsS]) (cd9 c1 c9)
  subst h9
  have e9 : F__law_way_k54 [.d (.tuple [.str "play", .tuple [.tuple [.int c, .int 2], .tuple [.int 3, .int 4]], .tuple []]), .d (.tuple [.str "play", .tuple [.tuple [.int (c + 3), .int 6]], .tuple []])] s8 = .ok (.d (.tuple [.tuple [.str "join", .int 0]])) s9 := e9
  simp! [e9, q5, q_addt]
  obtain ⟨r10, w10, s10, e10⟩ := m_lw54 .stop .play [[c, 2]] [[3, 4]] [[c + 3, 6]] [] nSU okJ s9
  have h10 : r10 = some [.redo, .join, .tap] := way_of w10 (by simp [deedsS]) (cd10 c1 c9)
  subst h10
  have e10 : F__law_way_k54 [.d (.tuple [.str "stop", .tuple [.tuple [.int c, .int 2]], .tuple [.tuple [.int 3, .int 4]]]), .d (.tuple [.str "play", .tuple [.tuple [.int (c + 3), .int 6]], .tuple []])] s9 = .ok (.d (.tuple [.tuple [.str "redo", .int 0], .tuple [.str "join", .int 0], .tuple [.str "tap", .int 0]])) s10 := e10
  simp! [e10, q6, q_addt]
  obtain ⟨r11, w11, s11, e11⟩ := m_lw54 .play .play [[c + 3, 6]] [] [[c, 2], [3, 4]] [] nJ okAB s10
  have h11 : r11 = none := none11 w11
  subst h11
  have e11 : F__law_way_k54 [.d (.tuple [.str "play", .tuple [.tuple [.int (c + 3), .int 6]], .tuple []]), .d (.tuple [.str "play", .tuple [.tuple [.int c, .int 2], .tuple [.int 3, .int 4]], .tuple []])] s10 = .ok (.d (PyData.none)) s11 := e11
  simp! [e11, i0, q_addt]
  obtain ⟨r12, w12, s12, e12⟩ := m_way54 nA1 okG s11
  have h12 : r12 = some [.flip, .mute, .pace 4, .turn] := way_of w12 (by simp [deedsS]) (cd12 c1 c9)
  subst h12
  have e12 : F_way_to [.d (.tuple [.str "play", .tuple [.tuple [.int c, .int 2]], .tuple [], .int 1, .int 1, .int 2, .int 1, .bool false]), .d (.tuple [.str "play", .tuple [.tuple [.int c, .int 2]], .tuple [], .int 1, .int (-1), .int 4, .int (-1), .bool true])] s11 = .ok (.d (.tuple [.tuple [.str "flip", .int 0], .tuple [.str "mute", .int 0], .tuple [.str "pace", .int 0, .int 4], .tuple [.str "turn", .int 0]])) s12 := e12
  have q12 : vEq (.d (.tuple [.tuple [.str "flip", .int 0], .tuple [.str "mute", .int 0], .tuple [.str "pace", .int 0, .int 4], .tuple [.str "turn", .int 0]])) (.d (.tuple [.tuple [.str "flip", .int 0], .tuple [.str "mute", .int 0], .tuple [.str "pace", .int 0, .int 4], .tuple [.str "turn", .int 0]])) = some true := by decide +kernel
  simp! [e12, q12, q_addt]
  obtain ⟨r13, w13, s13, e13⟩ := m_way54 nA1 okA s12
  have h13 : r13 = some [.stop, .tap] := way_of w13 (by simp [deedsS]) (cd13 c1 c9)
  subst h13
  have e13 : F_way_to [.d (.tuple [.str "play", .tuple [.tuple [.int c, .int 2]], .tuple [], .int 1, .int 1, .int 2, .int 1, .bool false]), .d (.tuple [.str "play", .tuple [.tuple [.int c, .int 2]], .tuple [], .int 0, .int 1, .int 2, .int 1, .bool false])] s12 = .ok (.d (.tuple [.tuple [.str "stop", .int 0], .tuple [.str "tap", .int 0]])) s13 := e13
  have q13 : vEq (.d (.tuple [.tuple [.str "stop", .int 0], .tuple [.str "tap", .int 0]])) (.d (.tuple [.tuple [.str "stop", .int 0], .tuple [.str "tap", .int 0]])) = some true := by decide +kernel
  have cT : cutD [PyData.str "play", .tuple [.tuple [.int c, .int 2]], .tuple [], .int 1, .int 1, .int 2, .int 1, .bool false] none (some 7) = [.str "play", .tuple [.tuple [.int c, .int 2]], .tuple [], .int 1, .int 1, .int 2, .int 1] := by
    rw [cut_to _ _ (by omega)]
    rfl
  have bl : bList [.d (.tuple [.str "play", .tuple [.tuple [.int c, .int 2]], .tuple [], .int 1, .int 1, .int 2, .int 1, .bool false])] = some (.list [.str "play", .tuple [.tuple [.int c, .int 2]], .tuple [], .int 1, .int 1, .int 2, .int 1, .bool false]) := rfl
  simp! [e13, q13, q_addt, cT, bl]
  generalize hL : [PyData.none, .tuple [.str "play", .tuple [.tuple [.int c, .int 2]], .tuple [], .int 1, .int 1, .int 2, .int 1], .tuple [.str "play", .tuple [.tuple [.int c, .int 2]], .tuple [], .int 1, .int 1, .int 2, .int 1, .bool false, .int 0], .list [.str "play", .tuple [.tuple [.int c, .int 2]], .tuple [], .int 1, .int 1, .int 2, .int 1, .bool false], .tuple [.str "play"], .tuple [.tuple [.str "play", .tuple [.tuple [.int c, .int 2]], .tuple [], .int 1, .int 1, .int 2, .int 1, .bool false]], .str "play", .int 5] = L
  have odd : ∀ d ∈ L, trkB d = false ∧ okSz d = true := by
    subst hL
    intro d hd
    simp only [List.mem_cons, List.not_mem_nil, or_false] at hd
    rcases hd with rfl | rfl | rfl | rfl | rfl | rfl | rfl | rfl <;> exact ⟨rfl, rfl⟩
  have eT : dTrk (tk54 .play [[c, 2]] [] 1) = .tuple [.str "play", .tuple [.tuple [.int c, .int 2]], .tuple [], .int 1, .int 1, .int 2, .int 1, .bool false] := rfl
  refine ws_forD54 (fun _ ρ s2 => s2 = s13 ∧ ∃ b2 b3 b4 b5 b6 b8 b9, ρ = [some (.ref 1), some (.ref 0), b2, b3, b4, b5, b6, some (.d (.tuple [.str "play", .tuple [.tuple [.int c, .int 2]], .tuple [], .int 1, .int 1, .int 2, .int 1, .bool false])), b8, b9]) L _ _ ⟨rfl, _, _, _, _, _, _, _, rfl⟩ ?_ ?_
  · rintro done d rest ρ s2 eg ⟨rfl, b2, b3, b4, b5, b6, b8, b9, rfl⟩
    refine ⟨_, rfl, ?_⟩
    obtain ⟨t1, t2⟩ := odd d (by rw [eg]; simp)
    have x1 : ∀ s, ouF54 (F_way_to [.d d, .d (.tuple [.str "play", .tuple [.tuple [.int c, .int 2]], .tuple [], .int 1, .int 1, .int 2, .int 1, .bool false])] s) = .ok (.d (.tuple [.str "place", .none])) s := fun s => by rw [way_odd1 d _ t1 t2 s]; rfl
    have x2 : ∀ s, ouF54 (F_way_to [.d (.tuple [.str "play", .tuple [.tuple [.int c, .int 2]], .tuple [], .int 1, .int 1, .int 2, .int 1, .bool false]), .d d] s) = .ok (.d (.tuple [.str "place", .none])) s := fun s => by
      have := way_odd2 okA1 d t1 t2 s
      rw [eT] at this
      rw [this]
      rfl
    have qp : vEq (.d (.tuple [.str "place", .none])) (.d (.tuple [.str "place", .none])) = some true := by decide +kernel
    simp! [x_outF54, x1, x2, qp]
    exact ⟨_, _, _, _, _, _, _, rfl⟩
  · rintro ρ s2 ⟨rfl, b2, b3, b4, b5, b6, b8, b9, rfl⟩
    obtain ⟨s14, e14⟩ := m_long54 s2
    simp! [e14]
end Mr
set_option maxRecDepth 100000
set_option maxHeartbeats 4000000
def PySem.W.Fast.tw3897898884483153722 : Unit := ()
def PySem.W.Fast.tw17409203697714274176 : Unit := ()
def PySem.W.Fast.tw4514627280267625111 : Unit := ()
def PySem.W.Fast.tw9361817614139509085 : Unit := ()
def PySem.W.Fast.tw14750093429833722954 : Unit := ()
def PySem.W.Fast.tw3014543776726539962 : Unit := ()
def PySem.W.Fast.tw4958590438713158307 : Unit := ()
def PySem.W.Fast.tw13335977549369141978 : Unit := ()
def PySem.W.Fast.tw2484170044052680157 : Unit := ()
def PySem.W.Fast.tw17021840812151408658 : Unit := ()
def PySem.W.Fast.tw8595061679997880412 : Unit := ()
def PySem.W.Fast.tw9246821270042478613 : Unit := ()
namespace Lw
open PySem L2 Dl Mr PySem.Spec PyProof.Rows

theorem told_of {qq : Program} {K : PySem.W.Frag} {h : Heap} {x : Str} {c P : Addr} {y : Str} (TT : TabTold qq K h) (hf : ((recsOf qq).find? (fun e => e.name == x)).isSome = true) (ht : PySem.W.tabIn K x = some (c, P)) (hn : K.lookup P = none) : TOld [(c, P, y)] K h := by
  obtain ⟨d, hd⟩ := Option.isSome_iff_exists.mp hf
  obtain ⟨h1, h2⟩ := TT d x c P hd ht
  exact ⟨fun p hp => (by cases List.mem_singleton.mp hp; exact h2), fun p hp => (by cases List.mem_singleton.mp hp; exact hn), fun p hp => (by cases List.mem_singleton.mp hp; exact h1)⟩
theorem all_mk {w : World} {K : PySem.W.Frag} {h : Heap} {mg : Str → Option Value} {fa : Addr} {qq : Program} (TT : TabTold qq K h) (X : K.In h) (G : h.Ns mainGlobals mg) (hfa : mg "law" = some (.ref fa)) (tf_law : ((recsOf qq).find? (fun e => e.name == ("law" : Str))).isSome = true)
    {f_is_whole : Addr} {od_is_whole an_is_whole : Option Addr} {sl_is_whole : Array (Option Value)} {oc_is_whole kV_is_whole dc_is_whole pm_is_whole cd_is_whole ct_is_whole : Value}
    {f_is_number : Addr} {od_is_number an_is_number : Option Addr} {sl_is_number : Array (Option Value)} {oc_is_number kV_is_number dc_is_number pm_is_number cd_is_number ct_is_number : Value}
    {f_is_layer : Addr} {od_is_layer an_is_layer : Option Addr} {sl_is_layer : Array (Option Value)} {oc_is_layer kV_is_layer dc_is_layer pm_is_layer cd_is_layer ct_is_layer : Value}
    {f_is_sign : Addr} {od_is_sign an_is_sign : Option Addr} {sl_is_sign : Array (Option Value)} {oc_is_sign kV_is_sign dc_is_sign pm_is_sign cd_is_sign ct_is_sign : Value}
    {f_is_pace : Addr} {od_is_pace an_is_pace : Option Addr} {sl_is_pace : Array (Option Value)} {oc_is_pace kV_is_pace dc_is_pace pm_is_pace cd_is_pace ct_is_pace : Value}
    {f_are_layers : Addr} {od_are_layers an_are_layers : Option Addr} {sl_are_layers : Array (Option Value)} {oc_are_layers kV_are_layers dc_are_layers pm_are_layers cd_are_layers ct_are_layers : Value}
    {f_is_looping : Addr} {od_is_looping an_is_looping : Option Addr} {sl_is_looping : Array (Option Value)} {oc_is_looping kV_is_looping dc_is_looping pm_is_looping cd_is_looping ct_is_looping : Value}
    {f_are_default : Addr} {od_are_default an_are_default : Option Addr} {sl_are_default : Array (Option Value)} {oc_are_default kV_are_default dc_are_default pm_are_default cd_are_default ct_are_default : Value}
    {f_is_track : Addr} {od_is_track an_is_track : Option Addr} {sl_is_track : Array (Option Value)} {oc_is_track kV_is_track dc_is_track pm_is_track cd_is_track ct_is_track : Value}
    {f_closed : Addr} {od_closed an_closed : Option Addr} {sl_closed : Array (Option Value)} {oc_closed kV_closed dc_closed pm_closed cd_closed ct_closed : Value}
    {f_tapped : Addr} {od_tapped an_tapped : Option Addr} {sl_tapped : Array (Option Value)} {oc_tapped kV_tapped dc_tapped pm_tapped cd_tapped ct_tapped : Value}
    {f_stopped : Addr} {od_stopped an_stopped : Option Addr} {sl_stopped : Array (Option Value)} {oc_stopped kV_stopped dc_stopped pm_stopped cd_stopped ct_stopped : Value}
    {f_cleared : Addr} {od_cleared an_cleared : Option Addr} {sl_cleared : Array (Option Value)} {oc_cleared kV_cleared dc_cleared pm_cleared cd_cleared ct_cleared : Value}
    {f_undone_by : Addr} {od_undone_by an_undone_by : Option Addr} {sl_undone_by : Array (Option Value)} {oc_undone_by kV_undone_by dc_undone_by pm_undone_by cd_undone_by ct_undone_by : Value}
    {f_redone_by : Addr} {od_redone_by an_redone_by : Option Addr} {sl_redone_by : Array (Option Value)} {oc_redone_by kV_redone_by dc_redone_by pm_redone_by cd_redone_by ct_redone_by : Value}
    {f_joined : Addr} {od_joined an_joined : Option Addr} {sl_joined : Array (Option Value)} {oc_joined kV_joined dc_joined pm_joined cd_joined ct_joined : Value}
    {f_other_way : Addr} {od_other_way an_other_way : Option Addr} {sl_other_way : Array (Option Value)} {oc_other_way kV_other_way dc_other_way pm_other_way cd_other_way ct_other_way : Value}
    {f_flipped : Addr} {od_flipped an_flipped : Option Addr} {sl_flipped : Array (Option Value)} {oc_flipped kV_flipped dc_flipped pm_flipped cd_flipped ct_flipped : Value}
    {f_hushed_or_not : Addr} {od_hushed_or_not an_hushed_or_not : Option Addr} {sl_hushed_or_not : Array (Option Value)} {oc_hushed_or_not kV_hushed_or_not dc_hushed_or_not pm_hushed_or_not cd_hushed_or_not ct_hushed_or_not : Value}
    {f_behind_press : Addr} {od_behind_press an_behind_press : Option Addr} {sl_behind_press : Array (Option Value)} {oc_behind_press kV_behind_press dc_behind_press pm_behind_press cd_behind_press ct_behind_press : Value}
    {f_all_presses : Addr} {od_all_presses an_all_presses : Option Addr} {sl_all_presses : Array (Option Value)} {oc_all_presses kV_all_presses dc_all_presses pm_all_presses cd_all_presses ct_all_presses : Value}
    {f_way_to : Addr} {od_way_to an_way_to : Option Addr} {sl_way_to : Array (Option Value)} {oc_way_to kV_way_to dc_way_to pm_way_to cd_way_to ct_way_to : Value}
    {f__law_begun : Addr} {od__law_begun an__law_begun : Option Addr} {sl__law_begun : Array (Option Value)} {oc__law_begun kV__law_begun dc__law_begun pm__law_begun cd__law_begun ct__law_begun : Value}
    {f__law_next : Addr} {od__law_next an__law_next : Option Addr} {sl__law_next : Array (Option Value)} {oc__law_next kV__law_next dc__law_next pm__law_next cd__law_next ct__law_next : Value}
    {f__law_fault : Addr} {od__law_fault an__law_fault : Option Addr} {sl__law_fault : Array (Option Value)} {oc__law_fault kV__law_fault dc__law_fault pm__law_fault cd__law_fault ct__law_fault : Value}
    {f__law_outcome : Addr} {od__law_outcome an__law_outcome : Option Addr} {sl__law_outcome : Array (Option Value)} {oc__law_outcome kV__law_outcome dc__law_outcome pm__law_outcome cd__law_outcome ct__law_outcome : Value}
    {f__law_way : Addr} {od__law_way an__law_way : Option Addr} {sl__law_way : Array (Option Value)} {oc__law_way kV__law_way dc__law_way pm__law_way cd__law_way ct__law_way : Value}
    {f__law_long_right : Addr} {od__law_long_right an__law_long_right : Option Addr} {sl__law_long_right : Array (Option Value)} {oc__law_long_right kV__law_long_right dc__law_long_right pm__law_long_right cd__law_long_right ct__law_long_right : Value}
    {f_law : Addr} {od_law an_law : Option Addr} {sl_law : Array (Option Value)} {oc_law kV_law dc_law pm_law ct_law : Value} {C0_law P0_law : Addr}
    {t_MOST_LAYERS : Tok}
    {t_MOST_LENGTH : Tok}
    {a_EMPTY : Addr}
    {a_LOOPING : Addr}
    {a_PACES : Addr}
    {A_DEEDS : Addr} {es_DEEDS : Array DictEntry} {n_DEEDS : Nat}
    {C_BadLoops : Addr}
    {C_BadLengths : Addr}
    {C_BadPedal : Addr}
    {C_BadRow : Addr}
    {C_BadPaper : Addr}
    {C_BadText : Addr}
    {C_TooGreat : Addr}
    {C_Nothing : Addr}
    {C_OutOfPlace i_OutOfPlace : Addr} {nm_OutOfPlace q_OutOfPlace : Str} {N_OutOfPlace : Addr} {bs_OutOfPlace : List Value} {sn_OutOfPlace : List Str} {sub_OutOfPlace : List Value} {ab_OutOfPlace : Bool} {col_OutOfPlace : Option Bool} {dd_OutOfPlace : Option Addr} {m0_OutOfPlace m1_OutOfPlace m2_OutOfPlace m3_OutOfPlace m5_OutOfPlace : Option Value}
    {od_OutOfPlace an_OutOfPlace : Option Addr} {sl_OutOfPlace : Array (Option Value)} {oc_OutOfPlace kV_OutOfPlace dc_OutOfPlace pm_OutOfPlace cd_OutOfPlace ct_OutOfPlace : Value}
    (a_is_whole : PySem.W.nsIn K mainGlobals "is_whole" = some (some (.ref f_is_whole)))
    (l_is_whole : K.lookup f_is_whole = some ⟨oc_is_whole, od_is_whole, .func (PySem.W.fnOf "is_whole" "is_whole" (defArgs (top 12)) (defBody (top 12)) (defScope (top 12)) .none kV_is_whole dc_is_whole pm_is_whole an_is_whole cd_is_whole ct_is_whole), sl_is_whole⟩)
    (c_is_whole : PySem.W.codeIn K cd_is_whole "is_whole" = true)
    (k_is_whole : PySem.W.keepIn K (.ref f_is_whole) = true)
    (a_is_number : PySem.W.nsIn K mainGlobals "is_number" = some (some (.ref f_is_number)))
    (l_is_number : K.lookup f_is_number = some ⟨oc_is_number, od_is_number, .func (PySem.W.fnOf "is_number" "is_number" (defArgs (top 13)) (defBody (top 13)) (defScope (top 13)) .none kV_is_number dc_is_number pm_is_number an_is_number cd_is_number ct_is_number), sl_is_number⟩)
    (c_is_number : PySem.W.codeIn K cd_is_number "is_number" = true)
    (k_is_number : PySem.W.keepIn K (.ref f_is_number) = true)
    (a_is_layer : PySem.W.nsIn K mainGlobals "is_layer" = some (some (.ref f_is_layer)))
    (l_is_layer : K.lookup f_is_layer = some ⟨oc_is_layer, od_is_layer, .func (PySem.W.fnOf "is_layer" "is_layer" (defArgs (top 19)) (defBody (top 19)) (defScope (top 19)) .none kV_is_layer dc_is_layer pm_is_layer an_is_layer cd_is_layer ct_is_layer), sl_is_layer⟩)
    (c_is_layer : PySem.W.codeIn K cd_is_layer "is_layer" = true)
    (k_is_layer : PySem.W.keepIn K (.ref f_is_layer) = true)
    (a_is_sign : PySem.W.nsIn K mainGlobals "is_sign" = some (some (.ref f_is_sign)))
    (l_is_sign : K.lookup f_is_sign = some ⟨oc_is_sign, od_is_sign, .func (PySem.W.fnOf "is_sign" "is_sign" (defArgs (top 20)) (defBody (top 20)) (defScope (top 20)) .none kV_is_sign dc_is_sign pm_is_sign an_is_sign cd_is_sign ct_is_sign), sl_is_sign⟩)
    (c_is_sign : PySem.W.codeIn K cd_is_sign "is_sign" = true)
    (k_is_sign : PySem.W.keepIn K (.ref f_is_sign) = true)
    (a_is_pace : PySem.W.nsIn K mainGlobals "is_pace" = some (some (.ref f_is_pace)))
    (l_is_pace : K.lookup f_is_pace = some ⟨oc_is_pace, od_is_pace, .func (PySem.W.fnOf "is_pace" "is_pace" (defArgs (top 21)) (defBody (top 21)) (defScope (top 21)) .none kV_is_pace dc_is_pace pm_is_pace an_is_pace cd_is_pace ct_is_pace), sl_is_pace⟩)
    (c_is_pace : PySem.W.codeIn K cd_is_pace "is_pace" = true)
    (k_is_pace : PySem.W.keepIn K (.ref f_is_pace) = true)
    (a_are_layers : PySem.W.nsIn K mainGlobals "are_layers" = some (some (.ref f_are_layers)))
    (l_are_layers : K.lookup f_are_layers = some ⟨oc_are_layers, od_are_layers, .func (PySem.W.fnOf "are_layers" "are_layers" (defArgs (top 22)) (defBody (top 22)) (defScope (top 22)) .none kV_are_layers dc_are_layers pm_are_layers an_are_layers cd_are_layers ct_are_layers), sl_are_layers⟩)
    (c_are_layers : PySem.W.codeIn K cd_are_layers "are_layers" = true)
    (k_are_layers : PySem.W.keepIn K (.ref f_are_layers) = true)
    (a_is_looping : PySem.W.nsIn K mainGlobals "is_looping" = some (some (.ref f_is_looping)))
    (l_is_looping : K.lookup f_is_looping = some ⟨oc_is_looping, od_is_looping, .func (PySem.W.fnOf "is_looping" "is_looping" (defArgs (top 23)) (defBody (top 23)) (defScope (top 23)) .none kV_is_looping dc_is_looping pm_is_looping an_is_looping cd_is_looping ct_is_looping), sl_is_looping⟩)
    (c_is_looping : PySem.W.codeIn K cd_is_looping "is_looping" = true)
    (k_is_looping : PySem.W.keepIn K (.ref f_is_looping) = true)
    (a_are_default : PySem.W.nsIn K mainGlobals "are_default" = some (some (.ref f_are_default)))
    (l_are_default : K.lookup f_are_default = some ⟨oc_are_default, od_are_default, .func (PySem.W.fnOf "are_default" "are_default" (defArgs (top 24)) (defBody (top 24)) (defScope (top 24)) .none kV_are_default dc_are_default pm_are_default an_are_default cd_are_default ct_are_default), sl_are_default⟩)
    (c_are_default : PySem.W.codeIn K cd_are_default "are_default" = true)
    (k_are_default : PySem.W.keepIn K (.ref f_are_default) = true)
    (a_is_track : PySem.W.nsIn K mainGlobals "is_track" = some (some (.ref f_is_track)))
    (l_is_track : K.lookup f_is_track = some ⟨oc_is_track, od_is_track, .func (PySem.W.fnOf "is_track" "is_track" (defArgs (top 25)) (defBody (top 25)) (defScope (top 25)) .none kV_is_track dc_is_track pm_is_track an_is_track cd_is_track ct_is_track), sl_is_track⟩)
    (c_is_track : PySem.W.codeIn K cd_is_track "is_track" = true)
    (k_is_track : PySem.W.keepIn K (.ref f_is_track) = true)
    (a_closed : PySem.W.nsIn K mainGlobals "closed" = some (some (.ref f_closed)))
    (l_closed : K.lookup f_closed = some ⟨oc_closed, od_closed, .func (PySem.W.fnOf "closed" "closed" (defArgs (top 26)) (defBody (top 26)) (defScope (top 26)) .none kV_closed dc_closed pm_closed an_closed cd_closed ct_closed), sl_closed⟩)
    (c_closed : PySem.W.codeIn K cd_closed "closed" = true)
    (k_closed : PySem.W.keepIn K (.ref f_closed) = true)
    (a_tapped : PySem.W.nsIn K mainGlobals "tapped" = some (some (.ref f_tapped)))
    (l_tapped : K.lookup f_tapped = some ⟨oc_tapped, od_tapped, .func (PySem.W.fnOf "tapped" "tapped" (defArgs (top 27)) (defBody (top 27)) (defScope (top 27)) .none kV_tapped dc_tapped pm_tapped an_tapped cd_tapped ct_tapped), sl_tapped⟩)
    (c_tapped : PySem.W.codeIn K cd_tapped "tapped" = true)
    (k_tapped : PySem.W.keepIn K (.ref f_tapped) = true)
    (a_stopped : PySem.W.nsIn K mainGlobals "stopped" = some (some (.ref f_stopped)))
    (l_stopped : K.lookup f_stopped = some ⟨oc_stopped, od_stopped, .func (PySem.W.fnOf "stopped" "stopped" (defArgs (top 28)) (defBody (top 28)) (defScope (top 28)) .none kV_stopped dc_stopped pm_stopped an_stopped cd_stopped ct_stopped), sl_stopped⟩)
    (c_stopped : PySem.W.codeIn K cd_stopped "stopped" = true)
    (k_stopped : PySem.W.keepIn K (.ref f_stopped) = true)
    (a_cleared : PySem.W.nsIn K mainGlobals "cleared" = some (some (.ref f_cleared)))
    (l_cleared : K.lookup f_cleared = some ⟨oc_cleared, od_cleared, .func (PySem.W.fnOf "cleared" "cleared" (defArgs (top 29)) (defBody (top 29)) (defScope (top 29)) .none kV_cleared dc_cleared pm_cleared an_cleared cd_cleared ct_cleared), sl_cleared⟩)
    (c_cleared : PySem.W.codeIn K cd_cleared "cleared" = true)
    (k_cleared : PySem.W.keepIn K (.ref f_cleared) = true)
    (a_undone_by : PySem.W.nsIn K mainGlobals "undone_by" = some (some (.ref f_undone_by)))
    (l_undone_by : K.lookup f_undone_by = some ⟨oc_undone_by, od_undone_by, .func (PySem.W.fnOf "undone_by" "undone_by" (defArgs (top 30)) (defBody (top 30)) (defScope (top 30)) .none kV_undone_by dc_undone_by pm_undone_by an_undone_by cd_undone_by ct_undone_by), sl_undone_by⟩)
    (c_undone_by : PySem.W.codeIn K cd_undone_by "undone_by" = true)
    (k_undone_by : PySem.W.keepIn K (.ref f_undone_by) = true)
    (a_redone_by : PySem.W.nsIn K mainGlobals "redone_by" = some (some (.ref f_redone_by)))
    (l_redone_by : K.lookup f_redone_by = some ⟨oc_redone_by, od_redone_by, .func (PySem.W.fnOf "redone_by" "redone_by" (defArgs (top 31)) (defBody (top 31)) (defScope (top 31)) .none kV_redone_by dc_redone_by pm_redone_by an_redone_by cd_redone_by ct_redone_by), sl_redone_by⟩)
    (c_redone_by : PySem.W.codeIn K cd_redone_by "redone_by" = true)
    (k_redone_by : PySem.W.keepIn K (.ref f_redone_by) = true)
    (a_joined : PySem.W.nsIn K mainGlobals "joined" = some (some (.ref f_joined)))
    (l_joined : K.lookup f_joined = some ⟨oc_joined, od_joined, .func (PySem.W.fnOf "joined" "joined" (defArgs (top 32)) (defBody (top 32)) (defScope (top 32)) .none kV_joined dc_joined pm_joined an_joined cd_joined ct_joined), sl_joined⟩)
    (c_joined : PySem.W.codeIn K cd_joined "joined" = true)
    (k_joined : PySem.W.keepIn K (.ref f_joined) = true)
    (a_other_way : PySem.W.nsIn K mainGlobals "other_way" = some (some (.ref f_other_way)))
    (l_other_way : K.lookup f_other_way = some ⟨oc_other_way, od_other_way, .func (PySem.W.fnOf "other_way" "other_way" (defArgs (top 33)) (defBody (top 33)) (defScope (top 33)) .none kV_other_way dc_other_way pm_other_way an_other_way cd_other_way ct_other_way), sl_other_way⟩)
    (c_other_way : PySem.W.codeIn K cd_other_way "other_way" = true)
    (k_other_way : PySem.W.keepIn K (.ref f_other_way) = true)
    (a_flipped : PySem.W.nsIn K mainGlobals "flipped" = some (some (.ref f_flipped)))
    (l_flipped : K.lookup f_flipped = some ⟨oc_flipped, od_flipped, .func (PySem.W.fnOf "flipped" "flipped" (defArgs (top 34)) (defBody (top 34)) (defScope (top 34)) .none kV_flipped dc_flipped pm_flipped an_flipped cd_flipped ct_flipped), sl_flipped⟩)
    (c_flipped : PySem.W.codeIn K cd_flipped "flipped" = true)
    (k_flipped : PySem.W.keepIn K (.ref f_flipped) = true)
    (a_hushed_or_not : PySem.W.nsIn K mainGlobals "hushed_or_not" = some (some (.ref f_hushed_or_not)))
    (l_hushed_or_not : K.lookup f_hushed_or_not = some ⟨oc_hushed_or_not, od_hushed_or_not, .func (PySem.W.fnOf "hushed_or_not" "hushed_or_not" (defArgs (top 35)) (defBody (top 35)) (defScope (top 35)) .none kV_hushed_or_not dc_hushed_or_not pm_hushed_or_not an_hushed_or_not cd_hushed_or_not ct_hushed_or_not), sl_hushed_or_not⟩)
    (c_hushed_or_not : PySem.W.codeIn K cd_hushed_or_not "hushed_or_not" = true)
    (k_hushed_or_not : PySem.W.keepIn K (.ref f_hushed_or_not) = true)
    (a_behind_press : PySem.W.nsIn K mainGlobals "behind_press" = some (some (.ref f_behind_press)))
    (l_behind_press : K.lookup f_behind_press = some ⟨oc_behind_press, od_behind_press, .func (PySem.W.fnOf "behind_press" "behind_press" (defArgs (top 37)) (defBody (top 37)) (defScope (top 37)) .none kV_behind_press dc_behind_press pm_behind_press an_behind_press cd_behind_press ct_behind_press), sl_behind_press⟩)
    (c_behind_press : PySem.W.codeIn K cd_behind_press "behind_press" = true)
    (k_behind_press : PySem.W.keepIn K (.ref f_behind_press) = true)
    (a_all_presses : PySem.W.nsIn K mainGlobals "all_presses" = some (some (.ref f_all_presses)))
    (l_all_presses : K.lookup f_all_presses = some ⟨oc_all_presses, od_all_presses, .func (PySem.W.fnOf "all_presses" "all_presses" (defArgs (top 39)) (defBody (top 39)) (defScope (top 39)) .none kV_all_presses dc_all_presses pm_all_presses an_all_presses cd_all_presses ct_all_presses), sl_all_presses⟩)
    (c_all_presses : PySem.W.codeIn K cd_all_presses "all_presses" = true)
    (k_all_presses : PySem.W.keepIn K (.ref f_all_presses) = true)
    (a_way_to : PySem.W.nsIn K mainGlobals "way_to" = some (some (.ref f_way_to)))
    (l_way_to : K.lookup f_way_to = some ⟨oc_way_to, od_way_to, .func (PySem.W.fnOf "way_to" "way_to" (defArgs (top 40)) (defBody (top 40)) (defScope (top 40)) .none kV_way_to dc_way_to pm_way_to an_way_to cd_way_to ct_way_to), sl_way_to⟩)
    (c_way_to : PySem.W.codeIn K cd_way_to "way_to" = true)
    (k_way_to : PySem.W.keepIn K (.ref f_way_to) = true)
    (a__law_begun : PySem.W.nsIn K mainGlobals "_law_begun" = some (some (.ref f__law_begun)))
    (l__law_begun : K.lookup f__law_begun = some ⟨oc__law_begun, od__law_begun, .func (PySem.W.fnOf "_law_begun" "_law_begun" (defArgs s_begun) (defBody s_begun) (defScope s_begun) .none kV__law_begun dc__law_begun pm__law_begun an__law_begun cd__law_begun ct__law_begun), sl__law_begun⟩)
    (c__law_begun : PySem.W.codeIn K cd__law_begun "_law_begun" = true)
    (k__law_begun : PySem.W.keepIn K (.ref f__law_begun) = true)
    (a__law_next : PySem.W.nsIn K mainGlobals "_law_next" = some (some (.ref f__law_next)))
    (l__law_next : K.lookup f__law_next = some ⟨oc__law_next, od__law_next, .func (PySem.W.fnOf "_law_next" "_law_next" (defArgs s_next) (defBody s_next) (defScope s_next) .none kV__law_next dc__law_next pm__law_next an__law_next cd__law_next ct__law_next), sl__law_next⟩)
    (c__law_next : PySem.W.codeIn K cd__law_next "_law_next" = true)
    (k__law_next : PySem.W.keepIn K (.ref f__law_next) = true)
    (a__law_fault : PySem.W.nsIn K mainGlobals "_law_fault" = some (some (.ref f__law_fault)))
    (l__law_fault : K.lookup f__law_fault = some ⟨oc__law_fault, od__law_fault, .func (PySem.W.fnOf "_law_fault" "_law_fault" (defArgs s_fault) (defBody s_fault) (defScope s_fault) .none kV__law_fault dc__law_fault pm__law_fault an__law_fault cd__law_fault ct__law_fault), sl__law_fault⟩)
    (c__law_fault : PySem.W.codeIn K cd__law_fault "_law_fault" = true)
    (k__law_fault : PySem.W.keepIn K (.ref f__law_fault) = true)
    (a__law_outcome : PySem.W.nsIn K mainGlobals "_law_outcome" = some (some (.ref f__law_outcome)))
    (l__law_outcome : K.lookup f__law_outcome = some ⟨oc__law_outcome, od__law_outcome, .func (PySem.W.fnOf "_law_outcome" "_law_outcome" (defArgs s_out) (defBody s_out) (defScope s_out) .none kV__law_outcome dc__law_outcome pm__law_outcome an__law_outcome cd__law_outcome ct__law_outcome), sl__law_outcome⟩)
    (c__law_outcome : PySem.W.codeIn K cd__law_outcome "_law_outcome" = true)
    (k__law_outcome : PySem.W.keepIn K (.ref f__law_outcome) = true)
    (a__law_way : PySem.W.nsIn K mainGlobals "_law_way" = some (some (.ref f__law_way)))
    (l__law_way : K.lookup f__law_way = some ⟨oc__law_way, od__law_way, .func (PySem.W.fnOf "_law_way" "_law_way" (defArgs (top 46)) (defBody (top 46)) (defScope (top 46)) .none kV__law_way dc__law_way pm__law_way an__law_way cd__law_way ct__law_way), sl__law_way⟩)
    (c__law_way : PySem.W.codeIn K cd__law_way "_law_way" = true)
    (k__law_way : PySem.W.keepIn K (.ref f__law_way) = true)
    (a__law_long_right : PySem.W.nsIn K mainGlobals "_law_long_right" = some (some (.ref f__law_long_right)))
    (l__law_long_right : K.lookup f__law_long_right = some ⟨oc__law_long_right, od__law_long_right, .func (PySem.W.fnOf "_law_long_right" "_law_long_right" (defArgs (top 47)) (defBody (top 47)) (defScope (top 47)) .none kV__law_long_right dc__law_long_right pm__law_long_right an__law_long_right cd__law_long_right ct__law_long_right), sl__law_long_right⟩)
    (c__law_long_right : PySem.W.codeIn K cd__law_long_right "_law_long_right" = true)
    (k__law_long_right : PySem.W.keepIn K (.ref f__law_long_right) = true)
    (a_law : PySem.W.nsIn K mainGlobals "law" = some (some (.ref f_law)))
    (l_law : K.lookup f_law = some ⟨oc_law, od_law, .func (PySem.W.fnOf "law" "law" (defArgs (top 48)) (defBody (top 48)) (defScope (top 48)) .none kV_law dc_law pm_law an_law (.ref C0_law) ct_law), sl_law⟩)
    (c_law : PySem.W.codeIn K (.ref C0_law) "law" = true)
    (k_law : PySem.W.keepIn K (.ref f_law) = true)
    (tb_law : PySem.W.tabIn K "law" = some (C0_law, P0_law))
    (np_law : K.lookup P0_law = none)
    (z_all : PySem.W.nsIn K mainGlobals "all" = some none)
    (z_bool : PySem.W.nsIn K mainGlobals "bool" = some none)
    (z_int : PySem.W.nsIn K mainGlobals "int" = some none)
    (z_isinstance : PySem.W.nsIn K mainGlobals "isinstance" = some none)
    (z_len : PySem.W.nsIn K mainGlobals "len" = some none)
    (z_list : PySem.W.nsIn K mainGlobals "list" = some none)
    (z_sorted : PySem.W.nsIn K mainGlobals "sorted" = some none)
    (z_str : PySem.W.nsIn K mainGlobals "str" = some none)
    (z_sum : PySem.W.nsIn K mainGlobals "sum" = some none)
    (z_tuple : PySem.W.nsIn K mainGlobals "tuple" = some none)
    (z_zip : PySem.W.nsIn K mainGlobals "zip" = some none)
    (v_MOST_LAYERS : PySem.W.nsIn K mainGlobals "MOST_LAYERS" = some (some (.int 4 t_MOST_LAYERS)))
    (v_MOST_LENGTH : PySem.W.nsIn K mainGlobals "MOST_LENGTH" = some (some (.int 64 t_MOST_LENGTH)))
    (v_EMPTY : PySem.W.nsIn K mainGlobals "EMPTY" = some (some (.ref a_EMPTY)))
    (u_EMPTY : conIn K 6 (.ref a_EMPTY) d_EMPTY = true)
    (v_LOOPING : PySem.W.nsIn K mainGlobals "LOOPING" = some (some (.ref a_LOOPING)))
    (u_LOOPING : conIn K 6 (.ref a_LOOPING) d_LOOPING = true)
    (v_PACES : PySem.W.nsIn K mainGlobals "PACES" = some (some (.ref a_PACES)))
    (u_PACES : conIn K 6 (.ref a_PACES) d_PACES = true)
    (v_DEEDS : PySem.W.nsIn K mainGlobals "DEEDS" = some (some (.ref A_DEEDS)))
    (tl_DEEDS : K.lookup A_DEEDS = some ⟨.type "dict", none, .dict es_DEEDS n_DEEDS, #[]⟩)
    (tk_DEEDS : PySem.W.KeysLit w.params es_DEEDS.toList)
    (te_DEEDS : TabE es_DEEDS.toList [("tap", f_tapped), ("stop", f_stopped), ("clear", f_cleared), ("undo", f_undone_by), ("redo", f_redone_by), ("join", f_joined), ("turn", f_other_way), ("flip", f_flipped), ("mute", f_hushed_or_not)])
    (tn_DEEDS : (A_DEEDS == sysModules) = false)
    (a_BadLoops : PySem.W.nsIn K mainGlobals "BadLoops" = some (some (.ref C_BadLoops)))
    (ex_BadLoops : PySem.W.subIn K (.ref C_BadLoops) (.type "BaseException") = some true)
    (ty_BadLoops : PySem.W.typeIn K (.ref C_BadLoops) = some (.type "type"))
    (hd_BadLoops : PySem.W.hasDictIn K C_BadLoops = true)
    (a_BadLengths : PySem.W.nsIn K mainGlobals "BadLengths" = some (some (.ref C_BadLengths)))
    (ex_BadLengths : PySem.W.subIn K (.ref C_BadLengths) (.type "BaseException") = some true)
    (ty_BadLengths : PySem.W.typeIn K (.ref C_BadLengths) = some (.type "type"))
    (hd_BadLengths : PySem.W.hasDictIn K C_BadLengths = true)
    (a_BadPedal : PySem.W.nsIn K mainGlobals "BadPedal" = some (some (.ref C_BadPedal)))
    (ex_BadPedal : PySem.W.subIn K (.ref C_BadPedal) (.type "BaseException") = some true)
    (ty_BadPedal : PySem.W.typeIn K (.ref C_BadPedal) = some (.type "type"))
    (hd_BadPedal : PySem.W.hasDictIn K C_BadPedal = true)
    (a_BadRow : PySem.W.nsIn K mainGlobals "BadRow" = some (some (.ref C_BadRow)))
    (ex_BadRow : PySem.W.subIn K (.ref C_BadRow) (.type "BaseException") = some true)
    (ty_BadRow : PySem.W.typeIn K (.ref C_BadRow) = some (.type "type"))
    (hd_BadRow : PySem.W.hasDictIn K C_BadRow = true)
    (a_BadPaper : PySem.W.nsIn K mainGlobals "BadPaper" = some (some (.ref C_BadPaper)))
    (ex_BadPaper : PySem.W.subIn K (.ref C_BadPaper) (.type "BaseException") = some true)
    (ty_BadPaper : PySem.W.typeIn K (.ref C_BadPaper) = some (.type "type"))
    (hd_BadPaper : PySem.W.hasDictIn K C_BadPaper = true)
    (a_BadText : PySem.W.nsIn K mainGlobals "BadText" = some (some (.ref C_BadText)))
    (ex_BadText : PySem.W.subIn K (.ref C_BadText) (.type "BaseException") = some true)
    (ty_BadText : PySem.W.typeIn K (.ref C_BadText) = some (.type "type"))
    (hd_BadText : PySem.W.hasDictIn K C_BadText = true)
    (a_TooGreat : PySem.W.nsIn K mainGlobals "TooGreat" = some (some (.ref C_TooGreat)))
    (ex_TooGreat : PySem.W.subIn K (.ref C_TooGreat) (.type "BaseException") = some true)
    (ty_TooGreat : PySem.W.typeIn K (.ref C_TooGreat) = some (.type "type"))
    (hd_TooGreat : PySem.W.hasDictIn K C_TooGreat = true)
    (a_Nothing : PySem.W.nsIn K mainGlobals "Nothing" = some (some (.ref C_Nothing)))
    (ex_Nothing : PySem.W.subIn K (.ref C_Nothing) (.type "BaseException") = some true)
    (ty_Nothing : PySem.W.typeIn K (.ref C_Nothing) = some (.type "type"))
    (hd_Nothing : PySem.W.hasDictIn K C_Nothing = true)
    (gn_ : PySem.W.specialIn K (.builtin "object.__class__") "__get__" = some (some (.builtin "getset_descriptor.__get__")))
    (gt_ : PySem.W.takesIn K (.builtin "object.__class__") = some true)
    (a_OutOfPlace : PySem.W.nsIn K mainGlobals "OutOfPlace" = some (some (.ref C_OutOfPlace)))
    (o_OutOfPlace : K.lookup C_OutOfPlace = some (excClassObj nm_OutOfPlace q_OutOfPlace C_OutOfPlace N_OutOfPlace bs_OutOfPlace [.type "ValueError", .type "Exception", .type "BaseException", .type "object"] true sn_OutOfPlace sub_OutOfPlace ab_OutOfPlace col_OutOfPlace dd_OutOfPlace m0_OutOfPlace m1_OutOfPlace m2_OutOfPlace m3_OutOfPlace m5_OutOfPlace "ValueError.__new__"))
    (sa_OutOfPlace : PySem.W.findIn K (.ref C_OutOfPlace) "__setattr__" = some (some (.builtin "object.__setattr__")))
    (ga_OutOfPlace : PySem.W.findIn K (.ref C_OutOfPlace) "__getattribute__" = some (some (.builtin "BaseException.__getattribute__")))
    (gg_OutOfPlace : PySem.W.findIn K (.ref C_OutOfPlace) "__getattr__" = some none)
    (no_OutOfPlace : PySem.W.findIn K (.ref C_OutOfPlace) "text" = some none)
    (in_OutOfPlace : PySem.W.findIn K (.ref C_OutOfPlace) "__init__" = some (some (.ref i_OutOfPlace)))
    (ti_OutOfPlace : PySem.W.typeIn K (.ref i_OutOfPlace) = some (.type "function"))
    (l_OutOfPlace : K.lookup i_OutOfPlace = some ⟨oc_OutOfPlace, od_OutOfPlace, .func (PySem.W.fnOf "__init__" "OutOfPlace.__init__" (defArgs (initOf (top 7))) (defBody (initOf (top 7))) (defScope (initOf (top 7))) .none kV_OutOfPlace dc_OutOfPlace pm_OutOfPlace an_OutOfPlace cd_OutOfPlace ct_OutOfPlace), sl_OutOfPlace⟩)
    (c_OutOfPlace : PySem.W.codeIn K cd_OutOfPlace "OutOfPlace.__init__" = true)
    (k_OutOfPlace : PySem.W.keepIn K (.ref i_OutOfPlace) = true)
    (kc_OutOfPlace : PySem.W.keepIn K (.ref C_OutOfPlace) = true)
    (ex_OutOfPlace : PySem.W.subIn K (.ref C_OutOfPlace) (.type "BaseException") = some true)
    (ty_OutOfPlace : PySem.W.typeIn K (.ref C_OutOfPlace) = some (.type "type"))
    (hd_OutOfPlace : PySem.W.hasDictIn K C_OutOfPlace = true)
    (cl_OutOfPlace : PySem.W.findIn K (.ref C_OutOfPlace) "__class__" = some (some (.builtin "object.__class__")))
    (mo_OutOfPlace : PySem.W.mroIn K C_OutOfPlace (.type "object") = some true)
    (s_OutOfPlace_BadLengths : PySem.W.subIn K (.ref C_OutOfPlace) (.ref C_BadLengths) = some false)
    (s_OutOfPlace_BadLoops : PySem.W.subIn K (.ref C_OutOfPlace) (.ref C_BadLoops) = some false)
    (s_OutOfPlace_BadPaper : PySem.W.subIn K (.ref C_OutOfPlace) (.ref C_BadPaper) = some false)
    (s_OutOfPlace_BadPedal : PySem.W.subIn K (.ref C_OutOfPlace) (.ref C_BadPedal) = some false)
    (s_OutOfPlace_BadRow : PySem.W.subIn K (.ref C_OutOfPlace) (.ref C_BadRow) = some false)
    (s_OutOfPlace_BadText : PySem.W.subIn K (.ref C_OutOfPlace) (.ref C_BadText) = some false)
    (s_OutOfPlace_Nothing : PySem.W.subIn K (.ref C_OutOfPlace) (.ref C_Nothing) = some false)
    (s_OutOfPlace_OutOfPlace : PySem.W.subIn K (.ref C_OutOfPlace) (.ref C_OutOfPlace) = some true)
    (s_OutOfPlace_TooGreat : PySem.W.subIn K (.ref C_OutOfPlace) (.ref C_TooGreat) = some false) :
    ∃ T : Prog w K mg, T.f_law = fa ∧ TOld T.cs K h := by
  have e : f_law = fa := by
    have z := hfa.symm.trans (PySem.W.mg_of X G a_law)
    cases z
    rfl
  exact ⟨{
    f_is_whole := f_is_whole, fd_is_whole := _, h_is_whole := ⟨fun_mk (st := (top 12)) l_is_whole c_is_whole k_is_whole, PySem.W.mg_of X G a_is_whole, (fun_mk (st := (top 12)) l_is_whole c_is_whole k_is_whole).binds (fun _ _ _ _ _ _ us hl => match us, hl with | [_, _, _], _ => rfl)⟩,
    f_is_number := f_is_number, fd_is_number := _, h_is_number := ⟨fun_mk (st := (top 13)) l_is_number c_is_number k_is_number, PySem.W.mg_of X G a_is_number, (fun_mk (st := (top 13)) l_is_number c_is_number k_is_number).binds (fun _ _ _ _ _ _ us hl => match us, hl with | [_], _ => rfl)⟩,
    f_is_layer := f_is_layer, fd_is_layer := _, h_is_layer := ⟨fun_mk (st := (top 19)) l_is_layer c_is_layer k_is_layer, PySem.W.mg_of X G a_is_layer, (fun_mk (st := (top 19)) l_is_layer c_is_layer k_is_layer).binds (fun _ _ _ _ _ _ us hl => match us, hl with | [_, _, _], _ => rfl)⟩,
    f_is_sign := f_is_sign, fd_is_sign := _, h_is_sign := ⟨fun_mk (st := (top 20)) l_is_sign c_is_sign k_is_sign, PySem.W.mg_of X G a_is_sign, (fun_mk (st := (top 20)) l_is_sign c_is_sign k_is_sign).binds (fun _ _ _ _ _ _ us hl => match us, hl with | [_], _ => rfl)⟩,
    f_is_pace := f_is_pace, fd_is_pace := _, h_is_pace := ⟨fun_mk (st := (top 21)) l_is_pace c_is_pace k_is_pace, PySem.W.mg_of X G a_is_pace, (fun_mk (st := (top 21)) l_is_pace c_is_pace k_is_pace).binds (fun _ _ _ _ _ _ us hl => match us, hl with | [_], _ => rfl)⟩,
    f_are_layers := f_are_layers, fd_are_layers := _, h_are_layers := ⟨fun_mk (st := (top 22)) l_are_layers c_are_layers k_are_layers, PySem.W.mg_of X G a_are_layers, (fun_mk (st := (top 22)) l_are_layers c_are_layers k_are_layers).binds (fun _ _ _ _ _ _ us hl => match us, hl with | [_, _], _ => rfl)⟩,
    f_is_looping := f_is_looping, fd_is_looping := _, h_is_looping := ⟨fun_mk (st := (top 23)) l_is_looping c_is_looping k_is_looping, PySem.W.mg_of X G a_is_looping, (fun_mk (st := (top 23)) l_is_looping c_is_looping k_is_looping).binds (fun _ _ _ _ _ _ us hl => match us, hl with | [_], _ => rfl)⟩,
    f_are_default := f_are_default, fd_are_default := _, h_are_default := ⟨fun_mk (st := (top 24)) l_are_default c_are_default k_are_default, PySem.W.mg_of X G a_are_default, (fun_mk (st := (top 24)) l_are_default c_are_default k_are_default).binds (fun _ _ _ _ _ _ us hl => match us, hl with | [_], _ => rfl)⟩,
    f_is_track := f_is_track, fd_is_track := _, h_is_track := ⟨fun_mk (st := (top 25)) l_is_track c_is_track k_is_track, PySem.W.mg_of X G a_is_track, (fun_mk (st := (top 25)) l_is_track c_is_track k_is_track).binds (fun _ _ _ _ _ _ us hl => match us, hl with | [_], _ => rfl)⟩,
    f_closed := f_closed, fd_closed := _, h_closed := ⟨fun_mk (st := (top 26)) l_closed c_closed k_closed, PySem.W.mg_of X G a_closed, (fun_mk (st := (top 26)) l_closed c_closed k_closed).binds (fun _ _ _ _ _ _ us hl => match us, hl with | [_, _], _ => rfl)⟩,
    f_tapped := f_tapped, fd_tapped := _, h_tapped := ⟨fun_mk (st := (top 27)) l_tapped c_tapped k_tapped, PySem.W.mg_of X G a_tapped, (fun_mk (st := (top 27)) l_tapped c_tapped k_tapped).binds (fun _ _ _ _ _ _ us hl => match us, hl with | [_], _ => rfl)⟩,
    f_stopped := f_stopped, fd_stopped := _, h_stopped := ⟨fun_mk (st := (top 28)) l_stopped c_stopped k_stopped, PySem.W.mg_of X G a_stopped, (fun_mk (st := (top 28)) l_stopped c_stopped k_stopped).binds (fun _ _ _ _ _ _ us hl => match us, hl with | [_], _ => rfl)⟩,
    f_cleared := f_cleared, fd_cleared := _, h_cleared := ⟨fun_mk (st := (top 29)) l_cleared c_cleared k_cleared, PySem.W.mg_of X G a_cleared, (fun_mk (st := (top 29)) l_cleared c_cleared k_cleared).binds (fun _ _ _ _ _ _ us hl => match us, hl with | [_], _ => rfl)⟩,
    f_undone_by := f_undone_by, fd_undone_by := _, h_undone_by := ⟨fun_mk (st := (top 30)) l_undone_by c_undone_by k_undone_by, PySem.W.mg_of X G a_undone_by, (fun_mk (st := (top 30)) l_undone_by c_undone_by k_undone_by).binds (fun _ _ _ _ _ _ us hl => match us, hl with | [_], _ => rfl)⟩,
    f_redone_by := f_redone_by, fd_redone_by := _, h_redone_by := ⟨fun_mk (st := (top 31)) l_redone_by c_redone_by k_redone_by, PySem.W.mg_of X G a_redone_by, (fun_mk (st := (top 31)) l_redone_by c_redone_by k_redone_by).binds (fun _ _ _ _ _ _ us hl => match us, hl with | [_], _ => rfl)⟩,
    f_joined := f_joined, fd_joined := _, h_joined := ⟨fun_mk (st := (top 32)) l_joined c_joined k_joined, PySem.W.mg_of X G a_joined, (fun_mk (st := (top 32)) l_joined c_joined k_joined).binds (fun _ _ _ _ _ _ us hl => match us, hl with | [_], _ => rfl)⟩,
    f_other_way := f_other_way, fd_other_way := _, h_other_way := ⟨fun_mk (st := (top 33)) l_other_way c_other_way k_other_way, PySem.W.mg_of X G a_other_way, (fun_mk (st := (top 33)) l_other_way c_other_way k_other_way).binds (fun _ _ _ _ _ _ us hl => match us, hl with | [_], _ => rfl)⟩,
    f_flipped := f_flipped, fd_flipped := _, h_flipped := ⟨fun_mk (st := (top 34)) l_flipped c_flipped k_flipped, PySem.W.mg_of X G a_flipped, (fun_mk (st := (top 34)) l_flipped c_flipped k_flipped).binds (fun _ _ _ _ _ _ us hl => match us, hl with | [_], _ => rfl)⟩,
    f_hushed_or_not := f_hushed_or_not, fd_hushed_or_not := _, h_hushed_or_not := ⟨fun_mk (st := (top 35)) l_hushed_or_not c_hushed_or_not k_hushed_or_not, PySem.W.mg_of X G a_hushed_or_not, (fun_mk (st := (top 35)) l_hushed_or_not c_hushed_or_not k_hushed_or_not).binds (fun _ _ _ _ _ _ us hl => match us, hl with | [_], _ => rfl)⟩,
    f_behind_press := f_behind_press, fd_behind_press := _, h_behind_press := ⟨fun_mk (st := (top 37)) l_behind_press c_behind_press k_behind_press, PySem.W.mg_of X G a_behind_press, (fun_mk (st := (top 37)) l_behind_press c_behind_press k_behind_press).binds (fun _ _ _ _ _ _ us hl => match us, hl with | [_, _], _ => rfl)⟩,
    f_all_presses := f_all_presses, fd_all_presses := _, h_all_presses := ⟨fun_mk (st := (top 39)) l_all_presses c_all_presses k_all_presses, PySem.W.mg_of X G a_all_presses, (fun_mk (st := (top 39)) l_all_presses c_all_presses k_all_presses).binds (fun _ _ _ _ _ _ us hl => match us, hl with | [], _ => rfl)⟩,
    f_way_to := f_way_to, fd_way_to := _, h_way_to := ⟨fun_mk (st := (top 40)) l_way_to c_way_to k_way_to, PySem.W.mg_of X G a_way_to, (fun_mk (st := (top 40)) l_way_to c_way_to k_way_to).binds (fun _ _ _ _ _ _ us hl => match us, hl with | [_, _], _ => rfl)⟩,
    f__law_begun := f__law_begun, fd__law_begun := _, h__law_begun := ⟨fun_mk (st := s_begun) l__law_begun c__law_begun k__law_begun, PySem.W.mg_of X G a__law_begun, (fun_mk (st := s_begun) l__law_begun c__law_begun k__law_begun).binds (fun _ _ _ _ _ _ us hl => match us, hl with | [_], _ => rfl)⟩,
    f__law_next := f__law_next, fd__law_next := _, h__law_next := ⟨fun_mk (st := s_next) l__law_next c__law_next k__law_next, PySem.W.mg_of X G a__law_next, (fun_mk (st := s_next) l__law_next c__law_next k__law_next).binds (fun _ _ _ _ _ _ us hl => match us, hl with | [_, _], _ => rfl)⟩,
    f__law_fault := f__law_fault, fd__law_fault := _, h__law_fault := ⟨fun_mk (st := s_fault) l__law_fault c__law_fault k__law_fault, PySem.W.mg_of X G a__law_fault, (fun_mk (st := s_fault) l__law_fault c__law_fault k__law_fault).binds (fun _ _ _ _ _ _ us hl => match us, hl with | [_], _ => rfl)⟩,
    f__law_outcome := f__law_outcome, fd__law_outcome := _, h__law_outcome := ⟨fun_mk (st := s_out) l__law_outcome c__law_outcome k__law_outcome, PySem.W.mg_of X G a__law_outcome, (fun_mk (st := s_out) l__law_outcome c__law_outcome k__law_outcome).binds (fun _ _ _ _ _ _ us hl => match us, hl with | [_], _ => rfl)⟩,
    f__law_way := f__law_way, fd__law_way := _, h__law_way := ⟨fun_mk (st := (top 46)) l__law_way c__law_way k__law_way, PySem.W.mg_of X G a__law_way, (fun_mk (st := (top 46)) l__law_way c__law_way k__law_way).binds (fun _ _ _ _ _ _ us hl => match us, hl with | [_, _], _ => rfl)⟩,
    f__law_long_right := f__law_long_right, fd__law_long_right := _, h__law_long_right := ⟨fun_mk (st := (top 47)) l__law_long_right c__law_long_right k__law_long_right, PySem.W.mg_of X G a__law_long_right, (fun_mk (st := (top 47)) l__law_long_right c__law_long_right k__law_long_right).binds (fun _ _ _ _ _ _ us hl => match us, hl with | [], _ => rfl)⟩,
    cc_law := C0_law, P_law := P0_law, hc_law := ⟨⟨_, _, _, _, _, _, _, _, rfl, l_law, c_law⟩⟩,
    f_law := f_law, fd_law := _, h_law := ⟨fun_mk (st := (top 48)) l_law c_law k_law, PySem.W.mg_of X G a_law, (fun_mk (st := (top 48)) l_law c_law k_law).binds (fun _ _ _ _ _ _ us hl => match us, hl with | [_], _ => rfl)⟩,
    bi_all := PySem.W.mg_none_of X G z_all,
    bi_bool := PySem.W.mg_none_of X G z_bool,
    bi_int := PySem.W.mg_none_of X G z_int,
    bi_isinstance := PySem.W.mg_none_of X G z_isinstance,
    bi_len := PySem.W.mg_none_of X G z_len,
    bi_list := PySem.W.mg_none_of X G z_list,
    bi_sorted := PySem.W.mg_none_of X G z_sorted,
    bi_str := PySem.W.mg_none_of X G z_str,
    bi_sum := PySem.W.mg_none_of X G z_sum,
    bi_tuple := PySem.W.mg_none_of X G z_tuple,
    bi_zip := PySem.W.mg_none_of X G z_zip,
    t_MOST_LAYERS := t_MOST_LAYERS, c_MOST_LAYERS := PySem.W.mg_of X G v_MOST_LAYERS,
    t_MOST_LENGTH := t_MOST_LENGTH, c_MOST_LENGTH := PySem.W.mg_of X G v_MOST_LENGTH,
    a_EMPTY := a_EMPTY, c_EMPTY := PySem.W.mg_of X G v_EMPTY, r_EMPTY := conIn_ref u_EMPTY,
    a_LOOPING := a_LOOPING, c_LOOPING := PySem.W.mg_of X G v_LOOPING, r_LOOPING := conIn_ref u_LOOPING,
    a_PACES := a_PACES, c_PACES := PySem.W.mg_of X G v_PACES, r_PACES := conIn_ref u_PACES,
    a_DEEDS := A_DEEDS, tab_DEEDS := ⟨PySem.W.mg_of X G v_DEEDS, tn_DEEDS, _, _, tl_DEEDS, tk_DEEDS, te_DEEDS⟩,
    a_BadLoops := C_BadLoops, m_BadLoops := PySem.W.mg_of X G a_BadLoops,
    a_BadLengths := C_BadLengths, m_BadLengths := PySem.W.mg_of X G a_BadLengths,
    a_BadPedal := C_BadPedal, m_BadPedal := PySem.W.mg_of X G a_BadPedal,
    a_BadRow := C_BadRow, m_BadRow := PySem.W.mg_of X G a_BadRow,
    a_BadPaper := C_BadPaper, m_BadPaper := PySem.W.mg_of X G a_BadPaper,
    a_BadText := C_BadText, m_BadText := PySem.W.mg_of X G a_BadText,
    a_TooGreat := C_TooGreat, m_TooGreat := PySem.W.mg_of X G a_TooGreat,
    a_Nothing := C_Nothing, m_Nothing := PySem.W.mg_of X G a_Nothing,
    a_OutOfPlace := C_OutOfPlace, i_OutOfPlace := i_OutOfPlace, fi_OutOfPlace := _, e_OutOfPlace := ⟨PySem.W.mg_of X G a_OutOfPlace, ⟨⟨_, _, _, _, _, _, _, _, _, _, _, _, _, _, _, o_OutOfPlace, by decide +kernel⟩, sa_OutOfPlace, ex_OutOfPlace, ty_OutOfPlace, kc_OutOfPlace⟩, ⟨ga_OutOfPlace, gg_OutOfPlace, ex_OutOfPlace, hd_OutOfPlace⟩, in_OutOfPlace, ti_OutOfPlace, fun_mk (st := (initOf (top 7))) l_OutOfPlace c_OutOfPlace k_OutOfPlace, (fun_mk (st := (initOf (top 7))) l_OutOfPlace c_OutOfPlace k_OutOfPlace).binds (fun _ _ _ _ _ _ us hl => match us, hl with | [_, _], _ => rfl), no_OutOfPlace⟩,
    ec_OutOfPlace := ⟨ga_OutOfPlace, gg_OutOfPlace, ex_OutOfPlace, hd_OutOfPlace, cl_OutOfPlace, gn_, gt_, mo_OutOfPlace⟩,
    x_OutOfPlace_BadLengths := PySem.W.exm_ref ex_BadLengths hd_BadLengths ty_BadLengths s_OutOfPlace_BadLengths,
    x_OutOfPlace_BadLoops := PySem.W.exm_ref ex_BadLoops hd_BadLoops ty_BadLoops s_OutOfPlace_BadLoops,
    x_OutOfPlace_BadPaper := PySem.W.exm_ref ex_BadPaper hd_BadPaper ty_BadPaper s_OutOfPlace_BadPaper,
    x_OutOfPlace_BadPedal := PySem.W.exm_ref ex_BadPedal hd_BadPedal ty_BadPedal s_OutOfPlace_BadPedal,
    x_OutOfPlace_BadRow := PySem.W.exm_ref ex_BadRow hd_BadRow ty_BadRow s_OutOfPlace_BadRow,
    x_OutOfPlace_BadText := PySem.W.exm_ref ex_BadText hd_BadText ty_BadText s_OutOfPlace_BadText,
    x_OutOfPlace_Nothing := PySem.W.exm_ref ex_Nothing hd_Nothing ty_Nothing s_OutOfPlace_Nothing,
    x_OutOfPlace_OutOfPlace := PySem.W.exm_ref ex_OutOfPlace hd_OutOfPlace ty_OutOfPlace s_OutOfPlace_OutOfPlace,
    x_OutOfPlace_TooGreat := PySem.W.exm_ref ex_TooGreat hd_TooGreat ty_TooGreat s_OutOfPlace_TooGreat,
    bl := fun s u => .of_eq rfl }, ⟨e, told_of TT tf_law tb_law np_law⟩⟩
theorem law_of {P : Program} {w : World} {K : PySem.W.Frag} {h : Heap} {mg : Str → Option Value} {fa : Addr} (X : K.In h) : (∃ T : Prog w K mg, T.f_law = fa ∧ TOld T.cs K h) →
    ∃ (fd : FuncData) (cl : Nat → Option (Addr × List Str)) (cs : Tcs), TOld cs K h ∧ (∀ (s : Shared) (u : Value), BindsTo s fd ⟨[u], []⟩ [("script", u)]) ∧ ∀ base : Heap, K.In base → base.Ns mainGlobals mg → (∀ p ∈ cs, LamX.TabB base mg p.1 p.2.1) → FnG (UD K cs.tb cl) P w K mg base 9 fa fd ["script"] F_law_k54 := by
  rintro ⟨T, rfl, TO⟩
  exact ⟨T.fd_law, T.cl, T.cs, TO, T.bl, fun base _ _ B => ok_law T B⟩
end Lw
open PySem PySem.W PyProof.Rows
set_option maxRecDepth 100000 in
set_option maxHeartbeats 0 in
theorem PySem.Challenge.cw_pedalrounds_k54_ways_by_hand_holds : PySem.Challenge.rw_pedalrounds_k54_ways_by_hand.Holds := by
  w_on; o_law; k_head; (case hw => w_witness2)
  k_fill
  refine Dl.walk_g (l := PySem.Challenge.rw_pedalrounds_k54_ways_by_hand) (k := 9) (x := "script") (F := Mr.F_law_k54) rfl rfl ⟨rfl, by decide, by decide⟩ (fun w h Y => PySem.W.km_in_of Y) ?F Mr.law_math_k54
  case F =>
    intro w mg fa h KX G hmg TT
    refine Lw.law_of KX ?_
    refine' Lw.all_mk TT KX G hmg ?tf_law ?a_is_whole ?l_is_whole ?c_is_whole ?k_is_whole ?a_is_number ?l_is_number ?c_is_number ?k_is_number ?a_is_layer ?l_is_layer ?c_is_layer ?k_is_layer ?a_is_sign ?l_is_sign ?c_is_sign ?k_is_sign ?a_is_pace ?l_is_pace ?c_is_pace ?k_is_pace ?a_are_layers ?l_are_layers ?c_are_layers ?k_are_layers ?a_is_looping ?l_is_looping ?c_is_looping ?k_is_looping ?a_are_default ?l_are_default ?c_are_default ?k_are_default ?a_is_track ?l_is_track ?c_is_track ?k_is_track ?a_closed ?l_closed ?c_closed ?k_closed ?a_tapped ?l_tapped ?c_tapped ?k_tapped ?a_stopped ?l_stopped ?c_stopped ?k_stopped ?a_cleared ?l_cleared ?c_cleared ?k_cleared ?a_undone_by ?l_undone_by ?c_undone_by ?k_undone_by ?a_redone_by ?l_redone_by ?c_redone_by ?k_redone_by ?a_joined ?l_joined ?c_joined ?k_joined ?a_other_way ?l_other_way ?c_other_way ?k_other_way ?a_flipped ?l_flipped ?c_flipped ?k_flipped ?a_hushed_or_not ?l_hushed_or_not ?c_hushed_or_not ?k_hushed_or_not ?a_behind_press ?l_behind_press ?c_behind_press ?k_behind_press ?a_all_presses ?l_all_presses ?c_all_presses ?k_all_presses ?a_way_to ?l_way_to ?c_way_to ?k_way_to ?a__law_begun ?l__law_begun ?c__law_begun ?k__law_begun ?a__law_next ?l__law_next ?c__law_next ?k__law_next ?a__law_fault ?l__law_fault ?c__law_fault ?k__law_fault ?a__law_outcome ?l__law_outcome ?c__law_outcome ?k__law_outcome ?a__law_way ?l__law_way ?c__law_way ?k__law_way ?a__law_long_right ?l__law_long_right ?c__law_long_right ?k__law_long_right ?a_law ?l_law ?c_law ?k_law ?tb_law ?np_law ?z_all ?z_bool ?z_int ?z_isinstance ?z_len ?z_list ?z_sorted ?z_str ?z_sum ?z_tuple ?z_zip ?v_MOST_LAYERS ?v_MOST_LENGTH ?v_EMPTY ?u_EMPTY ?v_LOOPING ?u_LOOPING ?v_PACES ?u_PACES ?v_DEEDS ?tl_DEEDS ?tk_DEEDS ?te_DEEDS ?tn_DEEDS ?a_BadLoops ?ex_BadLoops ?ty_BadLoops ?hd_BadLoops ?a_BadLengths ?ex_BadLengths ?ty_BadLengths ?hd_BadLengths ?a_BadPedal ?ex_BadPedal ?ty_BadPedal ?hd_BadPedal ?a_BadRow ?ex_BadRow ?ty_BadRow ?hd_BadRow ?a_BadPaper ?ex_BadPaper ?ty_BadPaper ?hd_BadPaper ?a_BadText ?ex_BadText ?ty_BadText ?hd_BadText ?a_TooGreat ?ex_TooGreat ?ty_TooGreat ?hd_TooGreat ?a_Nothing ?ex_Nothing ?ty_Nothing ?hd_Nothing ?gn_ ?gt_ ?a_OutOfPlace ?o_OutOfPlace ?sa_OutOfPlace ?ga_OutOfPlace ?gg_OutOfPlace ?no_OutOfPlace ?in_OutOfPlace ?ti_OutOfPlace ?l_OutOfPlace ?c_OutOfPlace ?k_OutOfPlace ?kc_OutOfPlace ?ex_OutOfPlace ?ty_OutOfPlace ?hd_OutOfPlace ?cl_OutOfPlace ?mo_OutOfPlace ?s_OutOfPlace_BadLengths ?s_OutOfPlace_BadLoops ?s_OutOfPlace_BadPaper ?s_OutOfPlace_BadPedal ?s_OutOfPlace_BadRow ?s_OutOfPlace_BadText ?s_OutOfPlace_Nothing ?s_OutOfPlace_OutOfPlace ?s_OutOfPlace_TooGreat
    (case tf_law => decide +kernel)
    (case a_is_whole => k_is)
    (case l_is_whole => k_is)
    (case c_is_whole => k_is)
    (case k_is_whole => k_is)
    (case a_is_number => k_is)
    (case l_is_number => k_is)
    (case c_is_number => k_is)
    (case k_is_number => k_is)
    (case a_is_layer => k_is)
    (case l_is_layer => k_is)
    (case c_is_layer => k_is)
    (case k_is_layer => k_is)
    (case a_is_sign => k_is)
    (case l_is_sign => k_is)
    (case c_is_sign => k_is)
    (case k_is_sign => k_is)
    (case a_is_pace => k_is)
    (case l_is_pace => k_is)
    (case c_is_pace => k_is)
    (case k_is_pace => k_is)
    (case a_are_layers => k_is)
    (case l_are_layers => k_is)
    (case c_are_layers => k_is)
    (case k_are_layers => k_is)
    (case a_is_looping => k_is)
    (case l_is_looping => k_is)
    (case c_is_looping => k_is)
    (case k_is_looping => k_is)
    (case a_are_default => k_is)
    (case l_are_default => k_is)
    (case c_are_default => k_is)
    (case k_are_default => k_is)
    (case a_is_track => k_is)
    (case l_is_track => k_is)
    (case c_is_track => k_is)
    (case k_is_track => k_is)
    (case a_closed => k_is)
    (case l_closed => k_is)
    (case c_closed => k_is)
    (case k_closed => k_is)
    (case a_tapped => k_is)
    (case l_tapped => k_is)
    (case c_tapped => k_is)
    (case k_tapped => k_is)
    (case a_stopped => k_is)
    (case l_stopped => k_is)
    (case c_stopped => k_is)
    (case k_stopped => k_is)
    (case a_cleared => k_is)
    (case l_cleared => k_is)
    (case c_cleared => k_is)
    (case k_cleared => k_is)
    (case a_undone_by => k_is)
    (case l_undone_by => k_is)
    (case c_undone_by => k_is)
    (case k_undone_by => k_is)
    (case a_redone_by => k_is)
    (case l_redone_by => k_is)
    (case c_redone_by => k_is)
    (case k_redone_by => k_is)
    (case a_joined => k_is)
    (case l_joined => k_is)
    (case c_joined => k_is)
    (case k_joined => k_is)
    (case a_other_way => k_is)
    (case l_other_way => k_is)
    (case c_other_way => k_is)
    (case k_other_way => k_is)
    (case a_flipped => k_is)
    (case l_flipped => k_is)
    (case c_flipped => k_is)
    (case k_flipped => k_is)
    (case a_hushed_or_not => k_is)
    (case l_hushed_or_not => k_is)
    (case c_hushed_or_not => k_is)
    (case k_hushed_or_not => k_is)
    (case a_behind_press => k_is)
    (case l_behind_press => k_is)
    (case c_behind_press => k_is)
    (case k_behind_press => k_is)
    (case a_all_presses => k_is)
    (case l_all_presses => k_is)
    (case c_all_presses => k_is)
    (case k_all_presses => k_is)
    (case a_way_to => k_is)
    (case l_way_to => k_is)
    (case c_way_to => k_is)
    (case k_way_to => k_is)
    (case a__law_begun => k_is)
    (case l__law_begun => k_is)
    (case c__law_begun => k_is)
    (case k__law_begun => k_is)
    (case a__law_next => k_is)
    (case l__law_next => k_is)
    (case c__law_next => k_is)
    (case k__law_next => k_is)
    (case a__law_fault => k_is)
    (case l__law_fault => k_is)
    (case c__law_fault => k_is)
    (case k__law_fault => k_is)
    (case a__law_outcome => k_is)
    (case l__law_outcome => k_is)
    (case c__law_outcome => k_is)
    (case k__law_outcome => k_is)
    (case a__law_way => k_is)
    (case l__law_way => k_is)
    (case c__law_way => k_is)
    (case k__law_way => k_is)
    (case a__law_long_right => k_is)
    (case l__law_long_right => k_is)
    (case c__law_long_right => k_is)
    (case k__law_long_right => k_is)
    (case a_law => k_is)
    (case l_law => k_is)
    (case c_law => k_is)
    (case k_law => k_is)
    (case tb_law => first | k_is | rfl)
    (case np_law => kernel_rfl)
    (case z_all => k_is)
    (case z_bool => k_is)
    (case z_int => k_is)
    (case z_isinstance => k_is)
    (case z_len => k_is)
    (case z_list => k_is)
    (case z_sorted => k_is)
    (case z_str => k_is)
    (case z_sum => k_is)
    (case z_tuple => k_is)
    (case z_zip => k_is)
    (case v_MOST_LAYERS => k_is)
    (case v_MOST_LENGTH => k_is)
    (case v_EMPTY => k_is)
    (case u_EMPTY => kernel_rfl)
    (case v_LOOPING => k_is)
    (case u_LOOPING => kernel_rfl)
    (case v_PACES => k_is)
    (case u_PACES => kernel_rfl)
    (case v_DEEDS => k_is)
    (case tl_DEEDS => k_is)
    (case tk_DEEDS => k_keys)
    (case te_DEEDS => repeat (first | exact True.intro | refine And.intro ⟨⟨_, rfl⟩, ⟨_, rfl⟩⟩ ?_ | refine And.intro ⟨⟨_, rfl⟩, rfl⟩ ?_))
    (case tn_DEEDS => decide)
    (case a_BadLoops => k_is)
    (case ex_BadLoops => k_is)
    (case ty_BadLoops => k_is)
    (case hd_BadLoops => k_is)
    (case a_BadLengths => k_is)
    (case ex_BadLengths => k_is)
    (case ty_BadLengths => k_is)
    (case hd_BadLengths => k_is)
    (case a_BadPedal => k_is)
    (case ex_BadPedal => k_is)
    (case ty_BadPedal => k_is)
    (case hd_BadPedal => k_is)
    (case a_BadRow => k_is)
    (case ex_BadRow => k_is)
    (case ty_BadRow => k_is)
    (case hd_BadRow => k_is)
    (case a_BadPaper => k_is)
    (case ex_BadPaper => k_is)
    (case ty_BadPaper => k_is)
    (case hd_BadPaper => k_is)
    (case a_BadText => k_is)
    (case ex_BadText => k_is)
    (case ty_BadText => k_is)
    (case hd_BadText => k_is)
    (case a_TooGreat => k_is)
    (case ex_TooGreat => k_is)
    (case ty_TooGreat => k_is)
    (case hd_TooGreat => k_is)
    (case a_Nothing => k_is)
    (case ex_Nothing => k_is)
    (case ty_Nothing => k_is)
    (case hd_Nothing => k_is)
    (case gn_ => k_is)
    (case gt_ => k_is)
    (case a_OutOfPlace => k_is)
    (case o_OutOfPlace => k_is)
    (case sa_OutOfPlace => k_is)
    (case ga_OutOfPlace => k_is)
    (case gg_OutOfPlace => k_is)
    (case no_OutOfPlace => k_is)
    (case in_OutOfPlace => k_is)
    (case ti_OutOfPlace => k_is)
    (case l_OutOfPlace => k_is)
    (case c_OutOfPlace => k_is)
    (case k_OutOfPlace => k_is)
    (case kc_OutOfPlace => k_is)
    (case ex_OutOfPlace => k_is)
    (case ty_OutOfPlace => k_is)
    (case hd_OutOfPlace => k_is)
    (case cl_OutOfPlace => k_is)
    (case mo_OutOfPlace => k_is)
    (case s_OutOfPlace_BadLengths => first | rfl | k_is)
    (case s_OutOfPlace_BadLoops => first | rfl | k_is)
    (case s_OutOfPlace_BadPaper => first | rfl | k_is)
    (case s_OutOfPlace_BadPedal => first | rfl | k_is)
    (case s_OutOfPlace_BadRow => first | rfl | k_is)
    (case s_OutOfPlace_BadText => first | rfl | k_is)
    (case s_OutOfPlace_Nothing => first | rfl | k_is)
    (case s_OutOfPlace_OutOfPlace => first | rfl | k_is)
    (case s_OutOfPlace_TooGreat => first | rfl | k_is)
