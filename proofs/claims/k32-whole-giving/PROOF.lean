import PyProof.Rows.All
import Wide.All
import OpenK.AllK
import Wide.FinOn
import HandS.ForMost
import HandS.Exc
import HandS.TryOnly
import HandS.ExcOwn
import HandS.WordsExc
import HandS.Walk
import HandS.HeadHook2
import HandS.Deep
import HandS.TupAny
import HandS.TupMul
import HandS.TupLe
import HandS.Wide
import HandS.Codes
import HandS.IsInst
import HandS.StrMore
import KE.SortData
import PyProof.P3In
import HandS.Zip
import HandS.Replace
import HandS.Style
import HandS.RaiseMore
import HandS.Defaults
import HandS.Head0
import HandS.Head1
import HandS.Head2
import HandS.HeadEnd
import HandS.HeadHook1
import HandS.ExcIs
import KE.GoesMore
import PyProof.EnumMake
import HandS.HotCalls
import PyProof.StrOps2
import HandS.TupSets
import HandS.ReplaceLit
import HandS.Text
import KE.DataCmp
import HandS.Remove
import HandS.Conv
import HandS.More
import HandS.Flow
import PySem.Challenge.RW_notejar_k32_whole_giving
set_option Elab.async false
set_option linter.all false
set_option maxRecDepth 100000
set_option maxHeartbeats 0
namespace ND
open PySem PySem.Spec L2

abbrev D := PyData

/-- what a run of plain code comes to -/
inductive R (α : Type) where
  | ok (a : α)
  | exc (c : Str)
  | bad
def R.bind {α β : Type} : R α → (α → R β) → R β
  | .ok a, f => f a
  | .exc c, _ => .exc c
  | .bad, _ => .bad
@[simp] theorem R.bind_ok {α β : Type} (a : α) (f : α → R β) : (R.ok a).bind f = f a := rfl
@[simp] theorem R.bind_exc {α β : Type} (c : Str) (f : α → R β) : (R.exc c).bind f = .exc c := rfl
@[simp] theorem R.bind_bad {α β : Type} (f : α → R β) : (R.bad : R α).bind f = .bad := rfl

/-- a thing of one's own that is no list: a dict by texts, an instance of a class of the program's -/
inductive Cel where
  | dct (kvs : List (Str × D))
  | ins (c : Str) (fs : List (Str × D))
/-- what a slot holds: nothing told, data, a list of its own that may still grow, another thing of its own -/
inductive Sv where
  | un
  | dat (d : D)
  | own (ds : List D)
  | exn (a : Addr)
  | cel (k : Cel)
abbrev G := List Sv

section
variable (K : PySem.W.Frag) (mg : Str → Option Value)

structure Ext (F H F' H' : Hp) : Prop where
  f : Same F F'
  h : Same H H'
  fh : Same F' H'
  no : ∀ p, F p = none → H p ≠ none → F' p = none

theorem Ext.refl {F H : Hp} (s : Same F H) : Ext F H F H := ⟨Same.refl _, Same.refl _, s, fun _ h _ => h⟩
theorem Ext.trans {F H F1 H1 F2 H2 : Hp} (a : Ext F H F1 H1) (b : Ext F1 H1 F2 H2) : Ext F H F2 H2 :=
  ⟨a.f.trans b.f, a.h.trans b.h, b.fh, fun p h1 h2 => b.no p (a.no p h1 h2) (by
    cases q : H p with
    | none => exact absurd q h2
    | some o => rw [a.h p o q]; simp)⟩

theorem same_seqT {K : PySem.W.Frag} {H H' : Hp} {a : Addr} {xs : List V} (e : Same H H') (h : SqT K H a xs) : SqT K H' a xs := by
  rcases h with (h | ⟨o, h⟩) | h
  · exact .inl (.inl (e _ _ h))
  · exact .inl (.inr ⟨o, e _ _ h⟩)
  · exact .inr h
end
mutual
theorem dp_mono {K : PySem.W.Frag} {F F' : Hp} (s : Same F F') : ∀ {d : D} {v : V}, Dp K F v d → Dp K F' v d
  | .none, _, h => by cases h; exact .non
  | .bool _, _, h => by cases h; exact .bl _
  | .int _, _, h => by cases h; exact .int _
  | .str _, _, h => by cases h; exact .str _
  | .list ds, _, h => by
    cases h with
    | lst h1 h2 => exact .lst (s.seq h1) (dpa_mono s h2)
  | .tuple ds, _, h => by
    cases h with
    | tup h1 h2 => exact .tup (same_seqT s h1) (dpa_mono s h2)
  | .dict _, _, h => by cases h
theorem dpa_mono {K : PySem.W.Frag} {F F' : Hp} (s : Same F F') : ∀ {ds : List D} {vs : List V}, DpAll K F vs ds → DpAll K F' vs ds
  | [], _, h => by cases h; exact .nil
  | d :: ds, _, h => by
    cases h with
    | cons h1 h2 => exact .cons (dp_mono s h1) (dpa_mono s h2)
end
theorem dpa_length {K : PySem.W.Frag} {F : Hp} : ∀ {ds : List D} {vs : List V}, DpAll K F vs ds → vs.length = ds.length
  | [], _, h => by cases h; rfl
  | d :: ds, _, h => by
    cases h with
    | cons h1 h2 => simp [dpa_length h2]
theorem dpa_get {K : PySem.W.Frag} {F : Hp} : ∀ {ds : List D} {vs : List V} {i : Nat} {d : D}, DpAll K F vs ds → ds[i]? = some d → ∃ v, vs[i]? = some v ∧ Dp K F v d
  | [], _, _, _, h, e => by simp at e
  | d :: ds, _, 0, _, h, e => by
    cases h with
    | cons h1 h2 => simp at e; subst e; exact ⟨_, rfl, h1⟩
  | d :: ds, _, i + 1, _, h, e => by
    cases h with
    | cons h1 h2 =>
      obtain ⟨v, a, b⟩ := dpa_get (i := i) h2 (by simpa using e)
      exact ⟨v, by simpa using a, b⟩
theorem dpa_getv {K : PySem.W.Frag} {F : Hp} {ds : List D} {vs : List V} {i : Nat} {v : V} (h : DpAll K F vs ds) (e : vs[i]? = some v) : ∃ d, ds[i]? = some d ∧ Dp K F v d := by
  have hl := dpa_length h
  have hi : i < ds.length := by rw [← hl]; exact (List.getElem?_eq_some_iff.mp e).1
  obtain ⟨w, a, b⟩ := dpa_get h (i := i) (d := ds[i]) (by simp [hi])
  rw [e] at a; cases a
  exact ⟨_, by simp [hi], b⟩
theorem dpa_append {K : PySem.W.Frag} {F : Hp} : ∀ {ds : List D} {vs : List V} {es : List D} {ws : List V}, DpAll K F vs ds → DpAll K F ws es → DpAll K F (vs ++ ws) (ds ++ es)
  | [], _, _, _, h, k => by cases h; exact k
  | d :: ds, _, _, _, h, k => by
    cases h with
    | cons h1 h2 => exact .cons h1 (dpa_append h2 k)
theorem dpa_drop {K : PySem.W.Frag} {F : Hp} : ∀ (n : Nat) {ds : List D} {vs : List V}, DpAll K F vs ds → DpAll K F (vs.drop n) (ds.drop n)
  | 0, _, _, h => h
  | n + 1, [], _, h => by cases h; exact .nil
  | n + 1, d :: ds, _, h => by
    cases h with
    | cons h1 h2 => exact dpa_drop n h2
theorem dpa_take {K : PySem.W.Frag} {F : Hp} : ∀ (n : Nat) {ds : List D} {vs : List V}, DpAll K F vs ds → DpAll K F (vs.take n) (ds.take n)
  | 0, _, _, h => by simpa using DpAll.nil
  | n + 1, [], _, h => by cases h; exact .nil
  | n + 1, d :: ds, _, h => by
    cases h with
    | cons h1 h2 => exact .cons h1 (dpa_take n h2)
theorem dpa_reverse {K : PySem.W.Frag} {F : Hp} : ∀ {ds : List D} {vs : List V}, DpAll K F vs ds → DpAll K F vs.reverse ds.reverse
  | [], _, h => by cases h; exact .nil
  | d :: ds, _, h => by
    cases h with
    | cons h1 h2 => simp only [List.reverse_cons]; exact dpa_append (dpa_reverse h2) (.cons h1 .nil)

section
variable (K : PySem.W.Frag) (mg : Str → Option Value)
/-- what is wanted of an outcome -/
def Out (F H : Hp) (E : XK) (r : R D) (Q : VK) : Prop := match r with
  | .ok d => ∀ v F' H', Ext F H F' H' → Dp K F' v d → Q v H'
  | .exc c => ∀ C F' H', mg c = some (.ref C) → Ext F H F' H' → E (.ref C) none H'
  | .bad => False

/-- entries, one by one -/
inductive KvOk : Hp → List (Key × V) → List (Str × D) → Prop
  | nil {F : Hp} : KvOk F [] []
  | cons {F : Hp} {k : Str} {v : V} {d : D} {r : List (Key × V)} {l : List (Str × D)} (h : Dp K F v d) (t : KvOk F r l) : KvOk F ((Sum.inr k, v) :: r) ((k, d) :: l)
inductive FsOk : Hp → List (Str × V) → List (Str × D) → Prop
  | nil {F : Hp} : FsOk F [] []
  | cons {F : Hp} {k : Str} {v : V} {d : D} {r : List (Str × V)} {l : List (Str × D)} (h : Dp K F v d) (t : FsOk F r l) : FsOk F ((k, v) :: r) ((k, d) :: l)
def CelOk (F : Hp) : HO → Cel → Prop
  | .dK raw, .dct kvs => KvOk K F raw kvs
  | .ins C _ raw, .ins c fs => C = He.ga K c ∧ FsOk K F raw fs
  | _, _ => False
/-- one slot -/
def SvOk (B F H : Hp) (σ : St) (i : Nat) : Sv → Prop
  | .un => True
  | .dat d => ∃ v, σ[i]? = some (some v) ∧ Dp K F v d
  | .exn a => σ[i]? = some (some (.ref a))
  | .own ds => ∃ p vs, σ[i]? = some (some (.ref p)) ∧ B p = none ∧ F p = none ∧ H p = some (.lst vs) ∧ DpAll K F vs ds
  | .cel k => ∃ p u, σ[i]? = some (some (.ref p)) ∧ B p = none ∧ F p = none ∧ H p = some u ∧ CelOk K F u k
/-- the slots -/
structure ER (B F H : Hp) (σ : St) (Γ : G) : Prop where
  len : σ.length = Γ.length
  ok : ∀ (i : Nat) (s : Sv), Γ[i]? = some s → SvOk K B F H σ i s
  apart : ∀ (i j : Nat) (ds es : List D) (p : Addr), Γ[i]? = some (.own ds) → Γ[j]? = some (.own es) → σ[i]? = some (some (.ref p)) → σ[j]? = some (some (.ref p)) → i = j
  apartC : ∀ (i j : Nat) (k l : Cel) (p : Addr), Γ[i]? = some (.cel k) → Γ[j]? = some (.cel l) → σ[i]? = some (some (.ref p)) → σ[j]? = some (some (.ref p)) → i = j

theorem KvOk.mono {K : PySem.W.Frag} {F F' : Hp} (s : Same F F') : ∀ {r : List (Key × V)} {l : List (Str × D)}, KvOk K F r l → KvOk K F' r l
  | _, _, .nil => .nil
  | _, _, .cons h t => .cons (dp_mono s h) (KvOk.mono s t)
theorem FsOk.mono {K : PySem.W.Frag} {F F' : Hp} (s : Same F F') : ∀ {r : List (Str × V)} {l : List (Str × D)}, FsOk K F r l → FsOk K F' r l
  | _, _, .nil => .nil
  | _, _, .cons h t => .cons (dp_mono s h) (FsOk.mono s t)
theorem CelOk.mono {K : PySem.W.Frag} {F F' : Hp} (s : Same F F') : ∀ {u : HO} {k : Cel}, CelOk K F u k → CelOk K F' u k
  | u, k, h => by
    unfold CelOk at *
    split at h
    · exact KvOk.mono s h
    · exact ⟨h.1, FsOk.mono s h.2⟩
    · exact h.elim
theorem CelOk.nolst {K : PySem.W.Frag} {F : Hp} {xs : List V} {k : Cel} (h : CelOk K F (.lst xs) k) : False := by
  cases k <;> exact h
theorem ER.ext {K : PySem.W.Frag} {B F H F' H' : Hp} {σ : St} {Γ : G} (e : ER K B F H σ Γ) (x : Ext F H F' H') : ER K B F' H' σ Γ := by
  refine ⟨e.len, fun i s h => ?_, e.apart, e.apartC⟩
  have := e.ok i s h
  cases s with
  | un => trivial
  | exn a => exact this
  | cel k =>
    obtain ⟨p, u, a, b0, b, c, d⟩ := this
    exact ⟨p, u, a, b0, x.no p b (by rw [c]; simp), x.h _ _ c, d.mono x.f⟩
  | dat d =>
    obtain ⟨v, a, b⟩ := this
    exact ⟨v, a, dp_mono x.f b⟩
  | own ds =>
    obtain ⟨p, vs, a, b0, b, c, d⟩ := this
    exact ⟨p, vs, a, b0, x.no p b (by rw [c]; simp), x.h _ _ c, dpa_mono x.f d⟩

/-- an expression's reading: what it comes to by the slots' data -/
def tD (B : Hp) (E : St → XK) (g : G → R D) : TE := fun σ H Q => ∃ Γ F, Same F H ∧ ER K B F H σ Γ ∧ Out K mg F H (E σ) (g Γ) Q
def OutB (F H : Hp) (E : XK) (r : R Bool) (Q : Bool → Hp → Prop) : Prop := match r with
  | .ok b => ∀ F' H', Ext F H F' H' → Q b H'
  | .exc c => ∀ C F' H', mg c = some (.ref C) → Ext F H F' H' → E (.ref C) none H'
  | .bad => False
def tDT (B : Hp) (E : St → XK) (g : G → R Bool) : TT := fun σ H Q => ∃ Γ F, Same F H ∧ ER K B F H σ Γ ∧ OutB mg F H (E σ) (g Γ) Q
def OutA (F H : Hp) (E : XK) (r : R (List D)) (Q : List V → Hp → Prop) : Prop := match r with
  | .ok ds => ∀ vs F' H', Ext F H F' H' → DpAll K F' vs ds → Q vs H'
  | .exc c => ∀ C F' H', mg c = some (.ref C) → Ext F H F' H' → E (.ref C) none H'
  | .bad => False
def tDA (B : Hp) (E : St → XK) (g : G → R (List D)) : TA := fun σ H Q => ∃ Γ F, Same F H ∧ ER K B F H σ Γ ∧ OutA K mg F H (E σ) (g Γ) Q
end

abbrev Cx.E (X : Cx) (B : Hp) (E : St → XK) (e : Expr) (g : G → R D) : Prop := PE X e (tD X.K X.mg B E g)

section
variable {X : Cx} {B : Hp} {E : St → XK}
theorem pe_imp {e : Expr} {t t' : TE} (h : PE X e t) (i : ∀ σ H Q, t' σ H Q → t σ H Q) : PE X e t' := ⟨fun pins s σ H Q I w => h.run pins s σ H Q I (i _ _ _ w)⟩
theorem pt_imp {e : Expr} {t t' : TT} (h : PT X e t) (i : ∀ σ H Q, t' σ H Q → t σ H Q) : PT X e t' := ⟨fun pins s σ H Q I w => h.run pins s σ H Q I (i _ _ _ w)⟩
theorem pa_imp {e : List Expr} {t t' : TA} (h : PA X e t) (i : ∀ σ H Q, t' σ H Q → t σ H Q) : PA X e t' := ⟨fun pos pins s σ H Q I w => h.run pos pins s σ H Q I (i _ _ _ w)⟩
theorem ps_imp {e : Stmt} {t t' : TS} (h : PS X e t) (i : ∀ Dd σ H, t' Dd σ H → t Dd σ H) : PS X e t' := ⟨fun pins s σ H Q I w => h.run pins s σ H Q I (i _ _ _ w)⟩
theorem pss_imp {e : List Stmt} {t t' : TS} (h : PSs X e t) (i : ∀ Dd σ H, t' Dd σ H → t Dd σ H) : PSs X e t' := ⟨fun pins s σ H Q I w => h.run pins s σ H Q I (i _ _ _ w)⟩

/-- outcomes one behind another -/
theorem Out.bind {K : PySem.W.Frag} {mg : Str → Option Value} {F H : Hp} {E : XK} {r : R D} {f : D → R D} {Q : VK} (h : Out K mg F H E (r.bind f) Q) :
    Out K mg F H E r (fun v H' => ∃ d F', r = .ok d ∧ Ext F H F' H' ∧ Dp K F' v d ∧ Out K mg F' H' E (f d) Q) := by
  cases r with
  | ok d =>
    intro v F' H' x dp
    refine ⟨d, F', rfl, x, dp, ?_⟩
    have h2 : Out K mg F H E (f d) Q := h
    revert h2
    cases f d with
    | ok e => exact fun h2 v2 F2 H2 x2 d2 => h2 v2 F2 H2 (x.trans x2) d2
    | exc c => exact fun h2 C F2 H2 m x2 => h2 C F2 H2 m (x.trans x2)
    | bad => exact fun h2 => h2
  | exc c => exact h
  | bad => exact h
/-- the same for any continuation -/
theorem Out.ext {K : PySem.W.Frag} {mg : Str → Option Value} {F H F1 H1 : Hp} {E : XK} {r : R D} {Q : VK} (h : Out K mg F H E r Q) (x : Ext F H F1 H1) : Out K mg F1 H1 E r Q := by
  cases r with
  | ok e => exact fun v2 F2 H2 x2 d2 => h v2 F2 H2 (x.trans x2) d2
  | exc c => exact fun C F2 H2 m x2 => h C F2 H2 m (x.trans x2)
  | bad => exact h
theorem OutB.ext {mg : Str → Option Value} {F H F1 H1 : Hp} {E : XK} {r : R Bool} {Q : Bool → Hp → Prop} (h : OutB mg F H E r Q) (x : Ext F H F1 H1) : OutB mg F1 H1 E r Q := by
  cases r with
  | ok e => exact fun F2 H2 x2 => h F2 H2 (x.trans x2)
  | exc c => exact fun C F2 H2 m x2 => h C F2 H2 m (x.trans x2)
  | bad => exact h
theorem OutA.ext {K : PySem.W.Frag} {mg : Str → Option Value} {F H F1 H1 : Hp} {E : XK} {r : R (List D)} {Q : List V → Hp → Prop} (h : OutA K mg F H E r Q) (x : Ext F H F1 H1) : OutA K mg F1 H1 E r Q := by
  cases r with
  | ok e => exact fun v2 F2 H2 x2 d2 => h v2 F2 H2 (x.trans x2) d2
  | exc c => exact fun C F2 H2 m x2 => h C F2 H2 m (x.trans x2)
  | bad => exact h

/-- first a, then what k makes of it -/
theorem tD.seq {K : PySem.W.Frag} {mg : Str → Option Value} {g : G → R D} {σ : St} {H : Hp} {Γ : G} {F : Hp} {Q : VK} (s : Same F H) (er : ER K B F H σ Γ)
    (hok : ∀ d, g Γ = .ok d → ∀ v F' H', Ext F H F' H' → Dp K F' v d → Q v H') (hex : ∀ c, g Γ = .exc c → ∀ C F' H', mg c = some (.ref C) → Ext F H F' H' → E σ (.ref C) none H') (hbad : g Γ ≠ .bad) :
    tD K mg B E g σ H Q := by
  refine ⟨Γ, F, s, er, ?_⟩
  cases e : g Γ with
  | ok d => exact hok d e
  | exc c => exact hex c e
  | bad => exact (hbad e).elim
/-- the reading of (g Γ).bind .. gives the reading of g, its answer handed on -/
theorem tD.bind {K : PySem.W.Frag} {mg : Str → Option Value} {g : G → R D} {f : G → D → R D} {σ : St} {H : Hp} {Q : VK} (h : tD K mg B E (fun Γ => (g Γ).bind (f Γ)) σ H Q) :
    tD K mg B E g σ H (fun v H' => ∃ Γ d F', Same F' H' ∧ ER K B F' H' σ Γ ∧ Dp K F' v d ∧ Out K mg F' H' (E σ) (f Γ d) Q) := by
  obtain ⟨Γ, F, s, er, o⟩ := h
  refine ⟨Γ, F, s, er, ?_⟩
  have := Out.bind o
  cases e : g Γ with
  | ok d =>
    rw [e] at this
    intro v F' H' x dp
    obtain ⟨d', F2, e2, x2, dp2, o2⟩ := this v F' H' x dp
    cases e2
    exact ⟨Γ, d, F2, x2.fh, er.ext x2, dp2, o2⟩
  | exc c =>
    rw [e] at this
    exact this
  | bad =>
    rw [e] at this
    exact this

/-! ### expressions -/
def gv (i : Nat) (Γ : G) : R D := match Γ[i]? with
  | some (.dat d) => .ok d
  | _ => .bad
theorem d_var {x : Str} {pos : Pos} (i : Nat) (hN : X.N[i]? = some x := by rfl) (hv : Vis X.env.scope x := by first | exact Or.inl rfl | exact Or.inr (Or.inl rfl) | exact Or.inr (Or.inr rfl)) (hd : (x == ("__debug__" : Str)) = false := by decide)
    (hcd : (x == ("__classdict__" : Str)) = false := by decide) : PE X (.Name x pos) (tD X.K X.mg B E (gv i)) :=
  pe_imp (pe_var hN hv hd hcd) fun σ H Q ⟨Γ, F, s, er, o⟩ => by
    unfold gv at o
    cases e : Γ[i]? with
    | none => rw [e] at o; exact o.elim
    | some sv =>
      rw [e] at o
      have k := er.ok i sv e
      cases sv with
      | un => exact o.elim
      | own _ => exact o.elim
      | exn _ => exact o.elim
      | cel _ => exact o.elim
      | dat d =>
        obtain ⟨v, a, b⟩ := k
        exact ⟨v, a, o v F H (Ext.refl s) b⟩
def gc (d : D) (_ : G) : R D := .ok d
theorem d_const {e : Expr} {v : V} {d : D} (h : PE X e (tC v)) (r : ∀ F, Dp X.K F v d) : PE X e (tD X.K X.mg B E (gc d)) :=
  pe_imp h fun σ H Q ⟨Γ, F, s, er, o⟩ => o v F H (Ext.refl s) (r F)
theorem d_int {i j pos} : PE X (.Constant (.int i) j pos) (tD X.K X.mg B E (gc (.int i))) := d_const pe_int fun _ => .int _
theorem d_bl {i j pos} : PE X (.Constant (.bool i) j pos) (tD X.K X.mg B E (gc (.bool i))) := d_const pe_bl fun _ => .bl _
theorem d_non {j pos} : PE X (.Constant .none j pos) (tD X.K X.mg B E (gc .none)) := d_const pe_non fun _ => .non
theorem d_str {i j pos} : PE X (.Constant (.str i) j pos) (tD X.K X.mg B E (gc (.str i))) := d_const pe_str fun _ => .str _

/-- an operation of two by data -/
def rD2 (K : PySem.W.Frag) (f : D → D → R D) : R2 := fun x y H Q => ∃ d e F r, Same F H ∧ Dp K F x d ∧ Dp K F y e ∧ f d e = .ok r ∧ ∀ v F' H', Ext F H F' H' → Dp K F' v r → Q v H'
def g2 (f : D → D → R D) (a b : G → R D) (Γ : G) : R D := (a Γ).bind fun x => (b Γ).bind fun y => f x y
/-- f raises nothing of its own -/
def Calm2 (f : D → D → R D) : Prop := ∀ d e c, f d e ≠ .exc c
theorem d_op2 {f : D → D → R D} {a b : G → R D} {ta tb : TE} {r : R2} (hf : Calm2 f) (hr : ∀ x y H Q, rD2 X.K f x y H Q → r x y H Q) (σ : St) (H : Hp) (Q : VK) (h : tD X.K X.mg B E (g2 f a b) σ H Q) :
    tOp r (tD X.K X.mg B E a) (tD X.K X.mg B E b) σ H Q := by
  have h1 : tD X.K X.mg B E (fun Γ => (a Γ).bind fun x => (b Γ).bind fun y => f x y) σ H Q := h
  have h2 := tD.bind (f := fun Γ x => (b Γ).bind fun y => f x y) h1
  obtain ⟨Γ, F, s, er, o⟩ := h2
  refine ⟨Γ, F, s, er, ?_⟩
  cases ea : a Γ with
  | bad => rw [ea] at o; exact o
  | exc c => rw [ea] at o; exact o
  | ok d =>
    rw [ea] at o
    intro v F1 H1 x1 dp1
    obtain ⟨Γ1, d1, F1', s1, er1, dp1', o1⟩ := o v F1 H1 x1 dp1
    refine ⟨Γ1, F1', s1, er1, ?_⟩
    have o2 := Out.bind o1
    cases eb : b Γ1 with
    | bad => rw [eb] at o2; exact o2
    | exc c => rw [eb] at o2; exact o2
    | ok e =>
      rw [eb] at o2
      intro v2 F2 H2 x2 dp2
      obtain ⟨e', F2', ee, x2', dp2', o3⟩ := o2 v2 F2 H2 x2 dp2
      refine hr _ _ _ _ ?_
      cases ef : f d1 e' with
      | bad => rw [ef] at o3; exact o3.elim
      | exc c => exact (hf _ _ _ ef).elim
      | ok r' =>
        rw [ef] at o3
        exact ⟨d1, e', F2', r', x2'.fh, dp_mono x2'.f dp1', dp2', ef, o3⟩
end
end ND
namespace ND
open PySem PySem.Spec L2

theorem Ext.new {F H : Hp} {p : Addr} (s : Same F H) (hp : H p = none) (o : HO) : Ext F H (upd F p o) (upd H p o) := by
  have hf : F p = none := s.free hp
  refine ⟨fun b u e => ?_, fun b u e => ?_, fun b u e => ?_, fun b h1 h2 => ?_⟩
  · rw [upd_ne (ne_of_none e hf)]; exact e
  · rw [upd_ne (ne_of_none e hp)]; exact e
  · by_cases hb : b = p
    · subst hb; rw [upd_same] at e ⊢; exact e
    · rw [upd_ne hb] at e ⊢; exact s _ _ e
  · rw [upd_ne (fun e => h2 (by rw [e]; exact hp))]; exact h1

theorem dp_newL {K : PySem.W.Frag} {F H : Hp} {p : Addr} {xs : List V} {ds : List D} (s : Same F H) (hp : H p = none) (h : DpAll K F xs ds) : Dp K (upd F p (.lst xs)) (.ref p) (.list ds) :=
  .lst (.inl (.inl upd_same)) (dpa_mono (Ext.new s hp _).f h)
theorem dp_newT {K : PySem.W.Frag} {F H : Hp} {p : Addr} {xs : List V} {ds : List D} (s : Same F H) (hp : H p = none) (h : DpAll K F xs ds) : Dp K (upd F p (.tup xs)) (.ref p) (.tuple ds) :=
  .tup (.inl (.inl upd_same)) (dpa_mono (Ext.new s hp _).f h)

/-- what is wanted of data, at once -/
def Fin (K : PySem.W.Frag) (F H : Hp) (r : D) (Q : VK) : Prop := ∀ v F' H', Ext F H F' H' → Dp K F' v r → Q v H'
theorem Fin.here {K : PySem.W.Frag} {F H : Hp} {r : D} {Q : VK} {v : V} (q : Fin K F H r Q) (s : Same F H) (d : Dp K F v r) : Q v H := q v F H (Ext.refl s) d
theorem Fin.newL {K : PySem.W.Frag} {F H : Hp} {ds : List D} {xs : List V} {Q : VK} (q : Fin K F H (.list ds) Q) (s : Same F H) (d : DpAll K F xs ds) : ∀ p, H p = none → Q (.ref p) (upd H p (.lst xs)) :=
  fun p hp => q _ _ _ (Ext.new s hp _) (dp_newL s hp d)
theorem Fin.newT {K : PySem.W.Frag} {F H : Hp} {ds : List D} {xs : List V} {Q : VK} (q : Fin K F H (.tuple ds) Q) (s : Same F H) (d : DpAll K F xs ds) : ∀ p, H p = none → Q (.ref p) (upd H p (.tup xs)) :=
  fun p hp => q _ _ _ (Ext.new s hp _) (dp_newT s hp d)
theorem dpa_strs {K : PySem.W.Frag} {F : Hp} : ∀ (ys : List Str), DpAll K F (ys.map V.str) (ys.map PyData.str)
  | [] => .nil
  | y :: ys => .cons (.str y) (dpa_strs ys)
theorem dpa_bls {K : PySem.W.Frag} {F : Hp} : ∀ {vs : List V} (bs : List Bool), DpAll K F vs (bs.map PyData.bool) → vs = bs.map V.bl
  | _, [], h => by cases h; rfl
  | _, b :: bs, h => by
    cases h with
    | cons h1 h2 => cases h1; rw [dpa_bls bs h2]; rfl
theorem dpa_ints {K : PySem.W.Frag} {F : Hp} : ∀ {vs : List V} (bs : List Int), DpAll K F vs (bs.map PyData.int) → vs = bs.map V.int
  | _, [], h => by cases h; rfl
  | _, b :: bs, h => by
    cases h with
    | cons h1 h2 => cases h1; rw [dpa_ints bs h2]; rfl
theorem dpa_strs' {K : PySem.W.Frag} {F : Hp} : ∀ {vs : List V} (bs : List Str), DpAll K F vs (bs.map PyData.str) → vs = bs.map V.str
  | _, [], h => by cases h; rfl
  | _, b :: bs, h => by
    cases h with
    | cons h1 h2 => cases h1; rw [dpa_strs' bs h2]; rfl

/-- the items as bools, ints, texts -/
def boolsOf : List D → Option (List Bool)
  | [] => some []
  | .bool b :: ds => (boolsOf ds).map (b :: ·)
  | _ :: _ => none
def intsOf : List D → Option (List Int)
  | [] => some []
  | .int b :: ds => (intsOf ds).map (b :: ·)
  | _ :: _ => none
def strsOf : List D → Option (List Str)
  | [] => some []
  | .str b :: ds => (strsOf ds).map (b :: ·)
  | _ :: _ => none
theorem boolsOf_eq : ∀ {ds : List D} {bs : List Bool}, boolsOf ds = some bs → ds = bs.map .bool
  | [], _, h => by cases h; rfl
  | .bool b :: ds, _, h => by
    simp only [boolsOf, Option.map_eq_some_iff] at h
    obtain ⟨c, h1, rfl⟩ := h
    rw [boolsOf_eq h1]; rfl
  | .none :: _, _, h => by cases h
  | .int _ :: _, _, h => by cases h
  | .str _ :: _, _, h => by cases h
  | .list _ :: _, _, h => by cases h
  | .tuple _ :: _, _, h => by cases h
  | .dict _ :: _, _, h => by cases h
theorem intsOf_eq : ∀ {ds : List D} {bs : List Int}, intsOf ds = some bs → ds = bs.map .int
  | [], _, h => by cases h; rfl
  | .int b :: ds, _, h => by
    simp only [intsOf, Option.map_eq_some_iff] at h
    obtain ⟨c, h1, rfl⟩ := h
    rw [intsOf_eq h1]; rfl
  | .none :: _, _, h => by cases h
  | .bool _ :: _, _, h => by cases h
  | .str _ :: _, _, h => by cases h
  | .list _ :: _, _, h => by cases h
  | .tuple _ :: _, _, h => by cases h
  | .dict _ :: _, _, h => by cases h
theorem strsOf_eq : ∀ {ds : List D} {bs : List Str}, strsOf ds = some bs → ds = bs.map .str
  | [], _, h => by cases h; rfl
  | .str b :: ds, _, h => by
    simp only [strsOf, Option.map_eq_some_iff] at h
    obtain ⟨c, h1, rfl⟩ := h
    rw [strsOf_eq h1]; rfl
  | .none :: _, _, h => by cases h
  | .bool _ :: _, _, h => by cases h
  | .int _ :: _, _, h => by cases h
  | .list _ :: _, _, h => by cases h
  | .tuple _ :: _, _, h => by cases h
  | .dict _ :: _, _, h => by cases h
@[simp] theorem boolsOf_map (bs : List Bool) : boolsOf (bs.map .bool) = some bs := by
  induction bs with
  | nil => rfl
  | cons b bs ih => simp [boolsOf, ih]
@[simp] theorem intsOf_map (bs : List Int) : intsOf (bs.map .int) = some bs := by
  induction bs with
  | nil => rfl
  | cons b bs ih => simp [intsOf, ih]
@[simp] theorem strsOf_map (bs : List Str) : strsOf (bs.map .str) = some bs := by
  induction bs with
  | nil => rfl
  | cons b bs ih => simp [strsOf, ih]

/-! ### the operations by data -/
/-- room for comparisons -/
structure RU (A : Around) : Prop where
  un : A.units + 200 < cLine
def fAdd : D → D → R D
  | .int i, .int j => .ok (.int (i + j))
  | .str x, .str y => if x.length + y.length ≤ sizeLine then .ok (.str (x ++ y)) else .bad
  | .list xs, .list ys => if xs.length + ys.length ≤ sizeLine then .ok (.list (xs ++ ys)) else .bad
  | .tuple xs, .tuple ys => if xs.length + ys.length ≤ sizeLine then .ok (.tuple (xs ++ ys)) else .bad
  | _, _ => .bad
def fSub : D → D → R D
  | .int i, .int j => .ok (.int (i - j))
  | _, _ => .bad
def fMul : D → D → R D
  | .int i, .int j => if i.natAbs.log2 + j.natAbs.log2 < 1000000 then .ok (.int (i * j)) else .bad
  | _, _ => .bad
def fMod : D → D → R D
  | .int i, .int j => if 0 < j then .ok (.int (i % j)) else .bad
  | _, _ => .bad
def fDiv : D → D → R D
  | .int i, .int j => if 0 < j ∧ j.natAbs.log2 < 9000 then .ok (.int (i / j)) else .bad
  | _, _ => .bad
def scalD : D → D → Bool
  | .none, .none => true | .none, .int _ => true | .int _, .none => true | .none, .bool _ => true | .bool _, .none => true | .none, .str _ => true | .str _, .none => true
  | .int _, .int _ => true | .bool _, .bool _ => true | .str _, .str _ => true
  | .int _, .str _ => true | .str _, .int _ => true | .bool _, .str _ => true | .str _, .bool _ => true
  | _, _ => false
def fEq (d e : D) : R D := if scalD d e = true ∨ (SeqAt.shaped d = true ∧ SeqAt.shaped e = true) then .ok (.bool (PyData.eqv d e)) else .bad
def fNe (d e : D) : R D := if scalD d e = true ∨ (SeqAt.shaped d = true ∧ SeqAt.shaped e = true) then .ok (.bool (!PyData.eqv d e)) else .bad
def fLt : D → D → R D
  | .int i, .int j => .ok (.bool (decide (i < j)))
  | .str x, .str y => .ok (.bool (decide (x.cps.toList < y.cps.toList)))
  | _, _ => .bad
def fLe : D → D → R D
  | .int i, .int j => .ok (.bool (decide (i ≤ j)))
  | .str x, .str y => .ok (.bool (!decide (y.cps.toList < x.cps.toList)))
  | _, _ => .bad
def fGt : D → D → R D
  | .int i, .int j => .ok (.bool (decide (j < i)))
  | .str x, .str y => .ok (.bool (decide (y.cps.toList < x.cps.toList)))
  | _, _ => .bad
def fGe : D → D → R D
  | .int i, .int j => .ok (.bool (decide (j ≤ i)))
  | .str x, .str y => .ok (.bool (!decide (x.cps.toList < y.cps.toList)))
  | _, _ => .bad
def isNone : D → Bool
  | .none => true
  | _ => false
def fIs (d e : D) : R D := if isNone e = true then .ok (.bool (isNone d)) else .bad
def fIsNot (d e : D) : R D := if isNone e = true then .ok (.bool (!isNone d)) else .bad
def flatD : D → Bool
  | .none => true | .bool _ => true | .int _ => true | .str _ => true | _ => false
def inD (d : D) (ds : List D) : Bool := ds.any fun z => PyData.eqv z d
def inStr (x y : Str) : Bool := !(Builtin.Str.occurrences y x 0 y.length 1).isEmpty
def inOk (d : D) (ds : List D) : Prop := (flatD d = true ∧ ds.all flatD = true)
instance (d : D) (ds : List D) : Decidable (inOk d ds) := inferInstanceAs (Decidable (_ ∧ _))
def fIn : D → D → R D
  | .str x, .str y => .ok (.bool (inStr x y))
  | d, .list ds => if inOk d ds ∨ (SeqAt.shaped d = true ∧ SeqAt.shaped (.list ds) = true) then .ok (.bool (inD d ds)) else .bad
  | d, .tuple ds => if inOk d ds ∨ (SeqAt.shaped d = true ∧ SeqAt.shaped (.tuple ds) = true) then .ok (.bool (inD d ds)) else .bad
  | _, _ => .bad
def fNotIn : D → D → R D
  | .str x, .str y => .ok (.bool (!inStr x y))
  | d, .list ds => if inOk d ds ∨ (SeqAt.shaped d = true ∧ SeqAt.shaped (.list ds) = true) then .ok (.bool (!inD d ds)) else .bad
  | d, .tuple ds => if inOk d ds ∨ (SeqAt.shaped d = true ∧ SeqAt.shaped (.tuple ds) = true) then .ok (.bool (!inD d ds)) else .bad
  | _, _ => .bad
def fIx : D → D → R D
  | .str x, .int i => if x.length ≤ sizeLine then (match atI x.cps.toList i with | some c => .ok (.str ⟨#[c]⟩) | none => .bad) else .bad
  | .list xs, .int i => (match atI xs i with | some d => .ok d | none => .bad)
  | .tuple xs, .int i => (match atI xs i with | some d => .ok d | none => .bad)
  | _, _ => .bad

theorem atI_dp {K : PySem.W.Frag} {F : Hp} {xs : List V} {ds : List D} {i : Int} {d : D} (h : DpAll K F xs ds) (e : atI ds i = some d) : ∃ v, atI xs i = some v ∧ Dp K F v d := by
  unfold atI at e ⊢
  rw [dpa_length h]
  cases q : ixN ds.length i with
  | none => rw [q] at e; cases e
  | some j =>
    rw [q] at e
    exact dpa_get h e

theorem eqV_flat {K : PySem.W.Frag} {F : Hp} {x y : V} {d e : D} (h : Dp K F x d) (k : Dp K F y e) (f : flatD d = true) (g : flatD e = true) : flatV x = true ∧ flatV y = true ∧ eqV x y = PyData.eqv d e := by
  cases h <;> first | exact absurd f Bool.false_ne_true | (cases k <;> first | exact absurd g Bool.false_ne_true | simp [flatV, eqV, PyData.eqv])
theorem inV_flat {K : PySem.W.Frag} {F : Hp} {x : V} {d : D} (h : Dp K F x d) (f : flatD d = true) : ∀ {ds : List D} {xs : List V}, DpAll K F xs ds → ds.all flatD = true → xs.all flatV = true ∧ inV x xs = inD d ds
  | [], _, k, _ => by cases k; exact ⟨rfl, rfl⟩
  | e :: ds, _, k, g => by
    cases k with
    | cons k1 k2 =>
      rw [List.all_cons, Bool.and_eq_true] at g
      obtain ⟨a, b⟩ := inV_flat h f k2 g.2
      obtain ⟨c1, c2, c3⟩ := eqV_flat k1 h g.1 f
      refine ⟨by rw [List.all_cons, c1, a]; rfl, ?_⟩
      unfold inV inD at b ⊢
      rw [List.any_cons, List.any_cons, c3, b]
theorem flat_of {K : PySem.W.Frag} {F : Hp} {x : V} {d : D} (h : Dp K F x d) (f : flatD d = true) : flatV x = true := by
  cases h <;> first | exact absurd f Bool.false_ne_true | rfl

section
variable {X : Cx} {B : Hp} {E : L2.St → XK}

/-- an operation of two keeps its word by data -/
structure OpD (X : Cx) (f : Value → Value → Sem Value) (g : D → D → R D) : Prop where
  op : OpR X f (rD2 X.K g)
  calm : Calm2 g
theorem OpD.mk' {f : Value → Value → Sem Value} {g : D → D → R D} {r : R2} (ho : OpR X f r) (hf : Calm2 g) (hr : ∀ x y H Q, rD2 X.K g x y H Q → r x y H Q) : OpD X f g :=
  ⟨fun pins s σ H x y v u Q I rx ry h => ho pins s σ H x y v u Q I rx ry (hr _ _ _ _ h), hf⟩
theorem d_bin {f : D → D → R D} {a b : G → R D} {ea eb : Expr} {op : Operator} {pos : Pos} (o : OpD X (binaryOp op) f)
    (ha : PE X ea (tD X.K X.mg B E a)) (hb : PE X eb (tD X.K X.mg B E b)) : PE X (.BinOp ea op eb pos) (tD X.K X.mg B E (g2 f a b)) :=
  pe_imp (pe_op o.op ha hb) (d_op2 (ta := tD X.K X.mg B E a) (tb := tD X.K X.mg B E b) o.calm fun _ _ _ _ h => h)
theorem d_cmp {f : D → D → R D} {a b : G → R D} {ea eb : Expr} {op : CmpOp} {pos : Pos} (o : OpD X (compareOp op) f)
    (ha : PE X ea (tD X.K X.mg B E a)) (hb : PE X eb (tD X.K X.mg B E b)) (hm : behindInMarks op eb = false := by first | exact nobehind _ (by decide) (by decide) | rfl) : PE X (.Compare ea [op] [eb] pos) (tD X.K X.mg B E (g2 f a b)) :=
  pe_imp (pe_cmpR o.op ha hb hm) (d_op2 (ta := tD X.K X.mg B E a) (tb := tD X.K X.mg B E b) o.calm fun _ _ _ _ h => h)

/-! ### list + list, any lists -/
def rCatL (K : PySem.W.Frag) : R2 := fun x y H Q => ∃ l b xs zs, x = .ref l ∧ y = .ref b ∧ SqL K H l xs ∧ SqL K H b zs ∧ xs.length + zs.length ≤ sizeLine ∧ ∀ p, H p = none → Q (.ref p) (upd H p (.lst (xs ++ zs)))
theorem op_catL : OpR X (binaryOp .Add) (rCatL X.K) := by
  intro pins s σ H x y v u Q I rx ry h
  obtain ⟨l, b, xs, zs, rfl, rfl, hH, hB, hz, q⟩ := h
  cases rx
  cases ry
  obtain ⟨its, r, ⟨o1, n, e, hc, hd, hs⟩, hl⟩ := I.list hH
  obtain ⟨its2, r2, ⟨o2, n2, e2, hc2, hd2, hs2⟩, hl2⟩ := I.list hB
  obtain ⟨c1, d1, dt1, sl1⟩ := o1
  obtain ⟨c2, d2, dt2, sl2⟩ := o2
  simp only at hc hd hs hc2 hd2 hs2
  subst hc hd hs hc2 hd2 hs2
  have hla := r.length
  have hlb := r2.length
  refine concat_meets ⟨_, e, rfl⟩ ⟨_, e2, rfl⟩ noFill_list_add seq_list_add PySem.F.slot_list_add PySem.F.entry_list_add (PySem.F.args_list_add_2 _ _) (PyProof.Rows.list_addW l b its.toArray its2.toArray n n2 none none sl1 sl2 (by rw [List.size_toArray, List.size_toArray]; omega)) ⟨e, e2, ?_⟩
  have ea : its.toArray ++ its2.toArray = (its ++ its2).toArray := by simp
  rw [ea]
  exact ⟨.ref _, _, I.lnew (t' := s.toks) (r.append r2) (by rw [List.length_append]; omega), rfl, q _ I.fresh⟩

/-! ### each operation keeps its word -/
def rAddA (K : PySem.W.Frag) : R2 := fun x y H Q => rI0 (fun i j => .int (i + j)) x y H Q ∨ (∃ i j, x = .str i ∧ y = .str j ∧ i.length + j.length ≤ sizeLine ∧ Q (.str (i ++ j)) H) ∨ rCatL K x y H Q ∨ rCatA K x y H Q
theorem op_addA : OpR X (binaryOp .Add) (rAddA X.K) := op_add.or (op_add_str.or (op_catL.or op_catA))
theorem calmAdd : Calm2 fAdd := by intro d e c h; unfold fAdd at h; split at h <;> first | cases h | (split at h <;> cases h)
theorem fAdd_ok {K : PySem.W.Frag} (x y : V) (H : Hp) (Q : VK) (h : rD2 K fAdd x y H Q) : rAddA K x y H Q := by
  obtain ⟨d, e, F, r, s, hx, hy, hf, q⟩ := h
  have q : Fin K F H r Q := q
  unfold fAdd at hf
  split at hf
  · cases hx; cases hy; cases hf
    exact .inl ⟨_, _, rfl, rfl, q.here s (.int _)⟩
  · split at hf
    · rename_i hz
      cases hx; cases hy; cases hf
      exact .inr (.inl ⟨_, _, rfl, rfl, hz, q.here s (.str _)⟩)
    · cases hf
  · split at hf
    · rename_i hz
      cases hx with
      | lst h1 h2 =>
        cases hy with
        | lst k1 k2 =>
          cases hf
          exact .inr (.inr (.inl ⟨_, _, _, _, rfl, rfl, s.seq h1, s.seq k1, by rw [dpa_length h2, dpa_length k2]; exact hz, q.newL s (dpa_append h2 k2)⟩))
    · cases hf
  · split at hf
    · rename_i hz
      cases hx with
      | tup h1 h2 =>
        cases hy with
        | tup k1 k2 =>
          cases hf
          refine .inr (.inr (.inr ⟨_, _, _, _, rfl, rfl, same_seqT s h1, same_seqT s k1, by rw [dpa_length h2, dpa_length k2]; exact hz, fun e => ?_, fun _ e => ?_, fun _ _ => q.newT s (dpa_append h2 k2)⟩))
          · subst e
            cases h2
            exact q.here s (.tup k1 k2)
          · subst e
            cases k2
            exact q.here s (by rw [List.append_nil]; exact .tup h1 h2)
    · cases hf
  · cases hf
theorem o_add : OpD X (binaryOp .Add) fAdd :=
  OpD.mk' op_addA calmAdd fAdd_ok

theorem calmSub : Calm2 fSub := by intro d e c h; unfold fSub at h; split at h <;> cases h
theorem o_sub : OpD X (binaryOp .Sub) fSub :=
  OpD.mk' op_sub calmSub (fun x y H Q ⟨d, e, F, r, s, hx, hy, hf, q⟩ => by
    unfold fSub at hf
    split at hf
    · cases hx; cases hy; cases hf
      exact ⟨_, _, rfl, rfl, Fin.here q s (.int _)⟩
    · cases hf)
theorem calmMul : Calm2 fMul := by intro d e c h; unfold fMul at h; split at h <;> first | cases h | (split at h <;> cases h)
theorem o_mul : OpD X (binaryOp .Mult) fMul :=
  OpD.mk' op_mulW calmMul (fun x y H Q ⟨d, e, F, r, s, hx, hy, hf, q⟩ => by
    unfold fMul at hf
    split at hf
    · split at hf
      · rename_i hz
        cases hx; cases hy; cases hf
        exact ⟨_, _, rfl, rfl, hz, Fin.here q s (.int _)⟩
      · cases hf
    · cases hf)
theorem calmMod : Calm2 fMod := by intro d e c h; unfold fMod at h; split at h <;> first | cases h | (split at h <;> cases h)
theorem o_mod : OpD X (binaryOp .Mod) fMod :=
  OpD.mk' op_mod calmMod (fun x y H Q ⟨d, e, F, r, s, hx, hy, hf, q⟩ => by
    unfold fMod at hf
    split at hf
    · split at hf
      · rename_i hz
        cases hx; cases hy; cases hf
        exact ⟨_, _, rfl, rfl, hz, Fin.here q s (.int _)⟩
      · cases hf
    · cases hf)
theorem calmDiv : Calm2 fDiv := by intro d e c h; unfold fDiv at h; split at h <;> first | cases h | (split at h <;> cases h)
theorem o_div : OpD X (binaryOp .FloorDiv) fDiv :=
  OpD.mk' op_fdivW calmDiv (fun x y H Q ⟨d, e, F, r, s, hx, hy, hf, q⟩ => by
    unfold fDiv at hf
    split at hf
    · split at hf
      · rename_i hz
        cases hx; cases hy; cases hf
        exact ⟨_, _, rfl, rfl, hz, Fin.here q s (.int _)⟩
      · cases hf
    · cases hf)

/-! ### in a tuple, any data -/
def rInT (K : PySem.W.Frag) (b : Bool → Bool) : R2 := fun x y H Q => ∃ d ds, Dp K H x d ∧ Dp K H y (.tuple ds) ∧ SeqAt.shaped d = true ∧ SeqAt.shaped (.tuple ds) = true ∧ Q (.bl (b (ds.any fun z => PyData.eqv z d))) H
theorem op_inT (hu : X.A.units + 65 < cLine) : OpR X (compareOp .In) (rInT X.K fun b => b) := by
  intro pins s σ H x y v u Q I rx ry h
  obtain ⟨d, ds, hd, he, sd, se, q⟩ := h
  obtain ⟨as, r1⟩ := Dp.reads I d x v hd rx
  obtain ⟨bs, r2⟩ := Dp.reads I (.tuple ds) y u he ry
  exact SeqAt.in_tuple_reads r2 r1 (SeqAt.canLay_of_shaped se) (SeqAt.canLay_of_shaped sd) (PyProof.Rows.room_in_shaped sd hu) ⟨.bl _, H, I, rfl, q⟩
theorem op_notInT (hu : X.A.units + 65 < cLine) : OpR X (compareOp .NotIn) (rInT X.K fun b => !b) := by
  intro pins s σ H x y v u Q I rx ry h
  obtain ⟨d, ds, hd, he, sd, se, q⟩ := h
  obtain ⟨as, r1⟩ := Dp.reads I d x v hd rx
  obtain ⟨bs, r2⟩ := Dp.reads I (.tuple ds) y u he ry
  exact SeqAt.notIn_tuple_reads r2 r1 (SeqAt.canLay_of_shaped se) (SeqAt.canLay_of_shaped sd) (PyProof.Rows.room_in_shaped sd hu) ⟨.bl _, H, I, rfl, q⟩

/-! comparisons -/
theorem scal_dp {K : PySem.W.Frag} {F : Hp} {x y : V} {d e : D} (hx : Dp K F x d) (hy : Dp K F y e) (h : scalD d e = true) : scal x y = true ∧ decide (x = y) = PyData.eqv d e := by
  cases hx <;> cases hy <;> first | exact absurd h Bool.false_ne_true | exact ⟨rfl, dec_int⟩ | exact ⟨rfl, dec_bl⟩ | exact ⟨rfl, dec_str⟩ | exact ⟨rfl, by simp [PyData.eqv]⟩
theorem o_eq (hr : RU X.A) : OpD X (compareOp .Eq) fEq :=
  OpD.mk' (op_eq.or (op_eqD (by have := hr.un; omega))) (fun d e c h => by unfold fEq at h; split at h <;> cases h) (fun x y H Q ⟨d, e, F, r, s, hx, hy, hf, q⟩ => by
    unfold fEq at hf
    split at hf
    · rename_i hz
      cases hf
      rcases hz with hz | ⟨h1, h2⟩
      · obtain ⟨s1, s2⟩ := scal_dp hx hy hz
        exact .inl ⟨s1, by rw [s2]; exact Fin.here q s (.bl _)⟩
      · exact .inr ⟨d, e, dp_mono s hx, dp_mono s hy, h1, h2, Fin.here q s (.bl _)⟩
    · cases hf)
theorem o_ne (hr : RU X.A) : OpD X (compareOp .NotEq) fNe :=
  OpD.mk' (op_ne.or (op_neD (by have := hr.un; omega))) (fun d e c h => by unfold fNe at h; split at h <;> cases h) (fun x y H Q ⟨d, e, F, r, s, hx, hy, hf, q⟩ => by
    unfold fNe at hf
    split at hf
    · rename_i hz
      cases hf
      rcases hz with hz | ⟨h1, h2⟩
      · obtain ⟨s1, s2⟩ := scal_dp hx hy hz
        exact .inl ⟨s1, by rw [s2]; exact Fin.here q s (.bl _)⟩
      · exact .inr ⟨d, e, dp_mono s hx, dp_mono s hy, h1, h2, Fin.here q s (.bl _)⟩
    · cases hf)
theorem calmLt : Calm2 fLt := by intro d e c h; unfold fLt at h; split at h <;> cases h
theorem calmLe : Calm2 fLe := by intro d e c h; unfold fLe at h; split at h <;> cases h
theorem calmGt : Calm2 fGt := by intro d e c h; unfold fGt at h; split at h <;> cases h
theorem calmGe : Calm2 fGe := by intro d e c h; unfold fGe at h; split at h <;> cases h
theorem fLt_ok {K : PySem.W.Frag} (x y : V) (H : Hp) (Q : VK) (h : rD2 K fLt x y H Q) : (rI0 (fun i j => .bl (decide (i < j))) x y H Q ∨ (∃ i j, x = .str i ∧ y = .str j ∧ Q (.bl (decide (i.cps.toList < j.cps.toList))) H)) := by
  obtain ⟨d, e, F, r, s, hx, hy, hf, q⟩ := h
  unfold fLt at hf
  split at hf
  · cases hx; cases hy; cases hf; exact .inl ⟨_, _, rfl, rfl, Fin.here q s (.bl _)⟩
  · cases hx; cases hy; cases hf; exact .inr ⟨_, _, rfl, rfl, Fin.here q s (.bl _)⟩
  · cases hf
theorem fLe_ok {K : PySem.W.Frag} (x y : V) (H : Hp) (Q : VK) (h : rD2 K fLe x y H Q) : (rI0 (fun i j => .bl (decide (i ≤ j))) x y H Q ∨ (∃ i j, x = .str i ∧ y = .str j ∧ Q (.bl (!decide (j.cps.toList < i.cps.toList))) H)) := by
  obtain ⟨d, e, F, r, s, hx, hy, hf, q⟩ := h
  unfold fLe at hf
  split at hf
  · cases hx; cases hy; cases hf; exact .inl ⟨_, _, rfl, rfl, Fin.here q s (.bl _)⟩
  · cases hx; cases hy; cases hf; exact .inr ⟨_, _, rfl, rfl, Fin.here q s (.bl _)⟩
  · cases hf
theorem fGt_ok {K : PySem.W.Frag} (x y : V) (H : Hp) (Q : VK) (h : rD2 K fGt x y H Q) : (rI0 (fun i j => .bl (decide (j < i))) x y H Q ∨ (∃ i j, x = .str i ∧ y = .str j ∧ Q (.bl (decide (j.cps.toList < i.cps.toList))) H)) := by
  obtain ⟨d, e, F, r, s, hx, hy, hf, q⟩ := h
  unfold fGt at hf
  split at hf
  · cases hx; cases hy; cases hf; exact .inl ⟨_, _, rfl, rfl, Fin.here q s (.bl _)⟩
  · cases hx; cases hy; cases hf; exact .inr ⟨_, _, rfl, rfl, Fin.here q s (.bl _)⟩
  · cases hf
theorem fGe_ok {K : PySem.W.Frag} (x y : V) (H : Hp) (Q : VK) (h : rD2 K fGe x y H Q) : (rI0 (fun i j => .bl (decide (j ≤ i))) x y H Q ∨ (∃ i j, x = .str i ∧ y = .str j ∧ Q (.bl (!decide (i.cps.toList < j.cps.toList))) H)) := by
  obtain ⟨d, e, F, r, s, hx, hy, hf, q⟩ := h
  unfold fGe at hf
  split at hf
  · cases hx; cases hy; cases hf; exact .inl ⟨_, _, rfl, rfl, Fin.here q s (.bl _)⟩
  · cases hx; cases hy; cases hf; exact .inr ⟨_, _, rfl, rfl, Fin.here q s (.bl _)⟩
  · cases hf
theorem o_lt : OpD X (compareOp .Lt) fLt :=
  OpD.mk' (op_lt.or op_lt_str) calmLt fLt_ok
theorem o_le : OpD X (compareOp .LtE) fLe :=
  OpD.mk' (op_le.or op_le_str) calmLe fLe_ok
theorem o_gt : OpD X (compareOp .Gt) fGt :=
  OpD.mk' (op_gt.or op_gt_str) calmGt fGt_ok
theorem o_ge : OpD X (compareOp .GtE) fGe :=
  OpD.mk' (op_ge.or op_ge_str) calmGe fGe_ok
theorem isNone_dp {K : PySem.W.Frag} {F : Hp} {x : V} {d : D} (h : Dp K F x d) : decide (x = .non) = isNone d := by
  cases h <;> first | rfl | exact decide_eq_false (fun q => nomatch q)
theorem non_dp {K : PySem.W.Frag} {F : Hp} {x : V} {d : D} (h : Dp K F x d) (n : isNone d = true) : x = .non := by
  cases h <;> first | rfl | exact absurd n Bool.false_ne_true
theorem o_is : OpD X (compareOp .Is) fIs :=
  OpD.mk' op_isN (fun d e c h => by unfold fIs at h; split at h <;> cases h) (fun x y H Q ⟨d, e, F, r, s, hx, hy, hf, q⟩ => by
    unfold fIs at hf
    split at hf
    · rename_i hz
      cases hf
      exact ⟨non_dp hy hz, by rw [isNone_dp hx]; exact Fin.here q s (.bl _)⟩
    · cases hf)
theorem o_isnot : OpD X (compareOp .IsNot) fIsNot :=
  OpD.mk' op_notN (fun d e c h => by unfold fIsNot at h; split at h <;> cases h) (fun x y H Q ⟨d, e, F, r, s, hx, hy, hf, q⟩ => by
    unfold fIsNot at hf
    split at hf
    · rename_i hz
      cases hf
      exact ⟨non_dp hy hz, by rw [isNone_dp hx]; exact Fin.here q s (.bl _)⟩
    · cases hf)
theorem calmIn : Calm2 fIn := by intro d e c h; unfold fIn at h; split at h <;> first | cases h | (split at h <;> cases h)
theorem calmNotIn : Calm2 fNotIn := by intro d e c h; unfold fNotIn at h; split at h <;> first | cases h | (split at h <;> cases h)
theorem o_in (hr : RU X.A) : OpD X (compareOp .In) fIn :=
  OpD.mk' (op_in_str.or (op_in_seq.or ((op_inD (by have := hr.un; omega)).or (op_inT (by have := hr.un; omega))))) calmIn (fun x y H Q ⟨d, e, F, r, s, hx, hy, hf, q⟩ => by
    unfold fIn at hf
    split at hf
    · cases hx; cases hy; cases hf
      exact .inl ⟨_, _, rfl, rfl, Fin.here q s (.bl _)⟩
    · split at hf
      · rename_i hz
        cases hf
        rcases hz with ⟨h1, h2⟩ | ⟨h1, h2⟩
        · cases hy with
          | lst k1 k2 =>
            obtain ⟨c1, c2⟩ := inV_flat hx h1 k2 h2
            exact .inr (.inl ⟨_, _, rfl, .inl (s.seq k1), flat_of hx h1, c1, by
              show Q (.bl (inV x _)) H
              rw [c2]; exact Fin.here q s (.bl _)⟩)
        · exact .inr (.inr (.inl ⟨_, _, dp_mono s hx, dp_mono s hy, h1, h2, Fin.here q s (.bl _)⟩))
      · cases hf
    · split at hf
      · rename_i hz
        cases hf
        rcases hz with ⟨h1, h2⟩ | ⟨h1, h2⟩
        · cases hy with
          | tup k1 k2 =>
            obtain ⟨c1, c2⟩ := inV_flat hx h1 k2 h2
            exact .inr (.inl ⟨_, _, rfl, .inr (same_seqT s k1), flat_of hx h1, c1, by
              show Q (.bl (inV x _)) H
              rw [c2]; exact Fin.here q s (.bl _)⟩)
        · exact .inr (.inr (.inr ⟨_, _, dp_mono s hx, dp_mono s hy, h1, h2, Fin.here q s (.bl _)⟩))
      · cases hf
    · cases hf)
theorem o_notin (hr : RU X.A) : OpD X (compareOp .NotIn) fNotIn :=
  OpD.mk' (op_notIn_str.or (op_notIn_seq.or ((op_notInD (by have := hr.un; omega)).or (op_notInT (by have := hr.un; omega))))) calmNotIn (fun x y H Q ⟨d, e, F, r, s, hx, hy, hf, q⟩ => by
    unfold fNotIn at hf
    split at hf
    · cases hx; cases hy; cases hf
      exact .inl ⟨_, _, rfl, rfl, Fin.here q s (.bl _)⟩
    · split at hf
      · rename_i hz
        cases hf
        rcases hz with ⟨h1, h2⟩ | ⟨h1, h2⟩
        · cases hy with
          | lst k1 k2 =>
            obtain ⟨c1, c2⟩ := inV_flat hx h1 k2 h2
            exact .inr (.inl ⟨_, _, rfl, .inl (s.seq k1), flat_of hx h1, c1, by
              show Q (.bl (!inV x _)) H
              rw [c2]; exact Fin.here q s (.bl _)⟩)
        · exact .inr (.inr (.inl ⟨_, _, dp_mono s hx, dp_mono s hy, h1, h2, Fin.here q s (.bl _)⟩))
      · cases hf
    · split at hf
      · rename_i hz
        cases hf
        rcases hz with ⟨h1, h2⟩ | ⟨h1, h2⟩
        · cases hy with
          | tup k1 k2 =>
            obtain ⟨c1, c2⟩ := inV_flat hx h1 k2 h2
            exact .inr (.inl ⟨_, _, rfl, .inr (same_seqT s k1), flat_of hx h1, c1, by
              show Q (.bl (!inV x _)) H
              rw [c2]; exact Fin.here q s (.bl _)⟩)
        · exact .inr (.inr (.inr ⟨_, _, dp_mono s hx, dp_mono s hy, h1, h2, Fin.here q s (.bl _)⟩))
      · cases hf
    · cases hf)

/-! subscripts -/
theorem calmIx : Calm2 fIx := by intro d e c h; unfold fIx at h; split at h <;> first | cases h | (split at h <;> first | cases h | (split at h <;> cases h))
theorem d_ix {a b : G → R D} {ea eb : Expr} {pos : Pos} (ha : PE X ea (tD X.K X.mg B E a)) (hb : PE X eb (tD X.K X.mg B E b)) (hs : PlainIx eb := by exact fun _ _ => rfl) : PE X (.Subscript ea eb pos) (tD X.K X.mg B E (g2 fIx a b)) :=
  pe_imp (pe_ix ix_seq ha hb hs) (d_op2 (ta := tD X.K X.mg B E a) (tb := tD X.K X.mg B E b) calmIx (fun x y H Q ⟨d, e, F, r, s, hx, hy, hf, q⟩ => by
    unfold fIx at hf
    split at hf
    · split at hf
      · rename_i hz
        split at hf
        · rename_i c hc
          cases hx; cases hy; cases hf
          exact .inr (.inr ⟨_, _, _, rfl, rfl, hz, hc, Fin.here q s (.str _)⟩)
        · cases hf
      · cases hf
    · split at hf
      · rename_i c hc
        cases hx with
        | lst h1 h2 =>
          cases hy; cases hf
          obtain ⟨v, e1, e2⟩ := atI_dp h2 hc
          exact .inl ⟨_, _, _, _, rfl, rfl, s.seq h1, e1, Fin.here q s e2⟩
      · cases hf
    · split at hf
      · rename_i c hc
        cases hx with
        | tup h1 h2 =>
          cases hy; cases hf
          obtain ⟨v, e1, e2⟩ := atI_dp h2 hc
          exact .inr (.inl ⟨_, _, _, _, rfl, rfl, same_seqT s h1, e1, Fin.here q s e2⟩)
      · cases hf
    · cases hf))
end
end ND
namespace ND
open PySem PySem.Spec L2

def asB : D → R Bool
  | .bool b => .ok b
  | _ => .bad
/-- an expression as a test -/
def bv (g : G → R D) (Γ : G) : R Bool := (g Γ).bind asB
def gAnd (a b : G → R D) (Γ : G) : R D := (a Γ).bind fun x => (asB x).bind fun c => if c = true then b Γ else .ok (.bool false)
def gOr (a b : G → R D) (Γ : G) : R D := (a Γ).bind fun x => (asB x).bind fun c => if c = true then .ok (.bool true) else b Γ
def gNot (a : G → R D) (Γ : G) : R D := (a Γ).bind fun x => (asB x).bind fun c => .ok (.bool (!c))
def gIf (t : G → R Bool) (a b : G → R D) (Γ : G) : R D := (t Γ).bind fun c => if c = true then a Γ else b Γ
def bAnd (a b : G → R Bool) (Γ : G) : R Bool := (a Γ).bind fun c => if c = true then b Γ else .ok false
def bOr (a b : G → R Bool) (Γ : G) : R Bool := (a Γ).bind fun c => if c = true then .ok true else b Γ
def bNot (a : G → R Bool) (Γ : G) : R Bool := (a Γ).bind fun c => .ok (!c)
def gChain (f f' : D → D → R D) (a b c : G → R D) (Γ : G) : R D := (a Γ).bind fun x => (b Γ).bind fun y => (f x y).bind fun z => (asB z).bind fun k => if k = true then (c Γ).bind fun w => f' y w else .ok (.bool false)

section
variable {X : Cx} {B : Hp} {E : L2.St → XK}
abbrev DE (X : Cx) (B : Hp) (E : L2.St → XK) (e : Expr) (g : G → R D) : Prop := PE X e (tD X.K X.mg B E g)
abbrev DT (X : Cx) (B : Hp) (E : L2.St → XK) (e : Expr) (g : G → R Bool) : Prop := PT X e (tDT X.K X.mg B E g)
abbrev DW (X : Cx) (B : Hp) (E : L2.St → XK) (e : Expr) (g : G → R Bool) : Prop := PW X e (tDT X.K X.mg B E g)
abbrev DA (X : Cx) (B : Hp) (E : L2.St → XK) (e : List Expr) (g : G → R (List D)) : Prop := PA X e (tDA X.K X.mg B E g)
theorem pw_imp {e : Expr} {t t' : TT} (h : PW X e t) (i : ∀ σ H Q, t' σ H Q → t σ H Q) : PW X e t' := ⟨fun wh pins s σ H Q I w => h.run wh pins s σ H Q I (i _ _ _ w)⟩

/-- a state of the slots, for the proofs -/
theorem tD.at {K : PySem.W.Frag} {mg : Str → Option Value} {g : G → R D} {σ : L2.St} {H : Hp} {Γ : G} {F : Hp} {Q : VK} (s : Same F H) (er : ER K B F H σ Γ) (o : Out K mg F H (E σ) (g Γ) Q) : tD K mg B E g σ H Q := ⟨Γ, F, s, er, o⟩

theorem outB_asB {K : PySem.W.Frag} {mg : Str → Option Value} {F H : Hp} {e : XK} {r : R D} {Q : Bool → Hp → Prop} (h : OutB mg F H e (r.bind asB) Q) : Out K mg F H e r (fun x H1 => ∃ c, x = .bl c ∧ Q c H1) := by
  cases r with
  | bad => exact h
  | exc c => exact h
  | ok d =>
    cases d <;> first | exact h.elim | skip
    intro v F' H' x dp
    cases dp
    exact ⟨_, rfl, h F' H' x⟩
theorem t_val {e : Expr} {g : G → R D} (h : DE X B E e g) (he : ∀ whole, isTrue e X.env whole = (do let v ← whole; standAt e.pos; holding [v] (truthy v)) := by intro _; rfl) : DT X B E e (bv g) :=
  pt_imp (pt_val h he) fun σ H Q ⟨Γ, F, s, er, o⟩ => ⟨Γ, F, s, er, outB_asB o⟩

theorem tDT_bind {K : PySem.W.Frag} {mg : Str → Option Value} {g : G → R Bool} {f : G → Bool → R Bool} {σ : L2.St} {H : Hp} {Q : Bool → Hp → Prop} (h : tDT K mg B E (fun Γ => (g Γ).bind (f Γ)) σ H Q) :
    tDT K mg B E g σ H (fun b H' => ∃ Γ F', Same F' H' ∧ ER K B F' H' σ Γ ∧ OutB mg F' H' (E σ) (f Γ b) Q) := by
  obtain ⟨Γ, F, s, er, o⟩ := h
  refine ⟨Γ, F, s, er, ?_⟩
  dsimp only at o
  revert o
  cases g Γ with
  | ok b => exact fun o F' H' x => ⟨Γ, F', x.fh, er.ext x, OutB.ext o x⟩
  | exc c => exact fun o => o
  | bad => exact fun o => o
theorem tDT_bindD {K : PySem.W.Frag} {mg : Str → Option Value} {g : G → R Bool} {f : G → Bool → R D} {σ : L2.St} {H : Hp} {Q : VK} (h : tD K mg B E (fun Γ => (g Γ).bind (f Γ)) σ H Q) :
    tDT K mg B E g σ H (fun b H' => ∃ Γ F', Same F' H' ∧ ER K B F' H' σ Γ ∧ Out K mg F' H' (E σ) (f Γ b) Q) := by
  obtain ⟨Γ, F, s, er, o⟩ := h
  refine ⟨Γ, F, s, er, ?_⟩
  dsimp only at o
  revert o
  cases g Γ with
  | ok b => exact fun o F' H' x => ⟨Γ, F', x.fh, er.ext x, Out.ext o x⟩
  | exc c => exact fun o => o
  | bad => exact fun o => o
theorem t_and1 {a : Expr} {pos : Pos} {g : G → R Bool} (h : DT X B E a g) : DW X B E (.BoolOp .And [a] pos) g := pw_and1 h
theorem t_or1 {a : Expr} {pos : Pos} {g : G → R Bool} (h : DT X B E a g) : DW X B E (.BoolOp .Or [a] pos) g := pw_or1 h
theorem t_and {a b : Expr} {rest : List Expr} {pos : Pos} {g g' : G → R Bool} (ha : DT X B E a g) (hb : DW X B E (.BoolOp .And (b :: rest) pos) g') : DW X B E (.BoolOp .And (a :: b :: rest) pos) (bAnd g g') :=
  pw_imp (pw_and ha hb) fun σ H Q h => by
    obtain ⟨Γ, F, s, er, o⟩ := tDT_bind (f := fun Γ c => if c = true then g' Γ else .ok false) h
    refine ⟨Γ, F, s, er, ?_⟩
    revert o
    cases g Γ with
    | exc c => exact fun o => o
    | bad => exact fun o => o
    | ok b =>
      intro o F' H' x
      obtain ⟨Γ2, F2, s2, er2, o2⟩ := o F' H' x
      cases b with
      | true => exact iteT ⟨Γ2, F2, s2, er2, o2⟩
      | false => exact iteF (o2 F2 H' (Ext.refl s2))
theorem t_or {a b : Expr} {rest : List Expr} {pos : Pos} {g g' : G → R Bool} (ha : DT X B E a g) (hb : DW X B E (.BoolOp .Or (b :: rest) pos) g') : DW X B E (.BoolOp .Or (a :: b :: rest) pos) (bOr g g') :=
  pw_imp (pw_or ha hb) fun σ H Q h => by
    obtain ⟨Γ, F, s, er, o⟩ := tDT_bind (f := fun Γ c => if c = true then .ok true else g' Γ) h
    refine ⟨Γ, F, s, er, ?_⟩
    revert o
    cases g Γ with
    | exc c => exact fun o => o
    | bad => exact fun o => o
    | ok b =>
      intro o F' H' x
      obtain ⟨Γ2, F2, s2, er2, o2⟩ := o F' H' x
      cases b with
      | true => exact iteT (o2 F2 H' (Ext.refl s2))
      | false => exact iteF ⟨Γ2, F2, s2, er2, o2⟩
theorem t_not {a : Expr} {pos : Pos} {g : G → R Bool} (ha : DT X B E a g) : DT X B E (.UnaryOp .Not a pos) (bNot g) :=
  pt_imp (pt_not ha) fun σ H Q h => by
    obtain ⟨Γ, F, s, er, o⟩ := tDT_bind (f := fun Γ c => .ok (!c)) h
    refine ⟨Γ, F, s, er, ?_⟩
    revert o
    cases g Γ with
    | exc c => exact fun o => o
    | bad => exact fun o => o
    | ok b =>
      intro o F' H' x
      obtain ⟨Γ2, F2, s2, er2, o2⟩ := o F' H' x
      exact o2 F2 H' (Ext.refl s2)
/-- a single comparison as a test -/
theorem t_cmp {f : D → D → R D} {a b : G → R D} {ea eb : Expr} {op : CmpOp} {pos : Pos} (o : OpD X (compareOp op) f)
    (ha : DE X B E ea a) (hb : DE X B E eb b) (hm : behindInMarks op eb = false := by first | exact nobehind _ (by decide) (by decide) | rfl) : DT X B E (.Compare ea [op] [eb] pos) (bv (g2 f a b)) :=
  pt_imp (pt_cmpR o.op ha hb hm) fun σ H Q ⟨Γ, F, s, er, w⟩ => by
    have h : tD X.K X.mg B E (g2 f a b) σ H (fun x H1 => ∃ c, x = .bl c ∧ Q c H1) := ⟨Γ, F, s, er, outB_asB w⟩
    exact d_op2 (ta := tD X.K X.mg B E a) (tb := tD X.K X.mg B E b) o.calm (fun _ _ _ _ h => h) σ H _ h

/-! ### values -/
theorem d_and1 {a : Expr} {op : BoolOp} {pos : Pos} {g : G → R D} (h : DE X B E a g) : DE X B E (.BoolOp op [a] pos) g := pe_one h
theorem asB_bl {K : PySem.W.Frag} {F : Hp} {v : V} {d : D} {c : Bool} (h : Dp K F v d) (e : asB d = .ok c) : v = .bl c := by
  cases h <;> first | cases e; rfl | cases e
theorem tD_bool {K : PySem.W.Frag} {mg : Str → Option Value} {g : G → R D} {f : G → Bool → R D} {σ : L2.St} {H : Hp} {Q : VK} (h : tD K mg B E (fun Γ => (g Γ).bind fun x => (asB x).bind (f Γ)) σ H Q) :
    tD K mg B E g σ H (fun x H' => ∃ c, x = .bl c ∧ ∃ Γ F', Same F' H' ∧ ER K B F' H' σ Γ ∧ Out K mg F' H' (E σ) (f Γ c) Q) := by
  obtain ⟨Γ, F, s, er, o⟩ := tD.bind (f := fun Γ x => (asB x).bind (f Γ)) h
  refine ⟨Γ, F, s, er, ?_⟩
  revert o
  cases g Γ with
  | exc c => exact fun o => o
  | bad => exact fun o => o
  | ok d =>
    intro o v F' H' x dp
    obtain ⟨Γ2, d2, F2, s2, er2, dp2, o2⟩ := o v F' H' x dp
    cases e : asB d2 with
    | bad => rw [e] at o2; exact o2.elim
    | exc c => exact absurd e (by cases d2 <;> simp [asB])
    | ok c =>
      rw [e] at o2
      exact ⟨c, asB_bl dp2 e, Γ2, F2, s2, er2, o2⟩
theorem d_and {a b : Expr} {rest : List Expr} {pos : Pos} {g g' : G → R D} (ha : DE X B E a g) (hb : DE X B E (.BoolOp .And (b :: rest) pos) g') : DE X B E (.BoolOp .And (a :: b :: rest) pos) (gAnd g g') :=
  pe_imp (pe_and ha hb) fun σ H Q h => by
    obtain ⟨Γ, F, s, er, o⟩ := tD_bool (f := fun Γ c => if c = true then g' Γ else .ok (.bool false)) h
    refine ⟨Γ, F, s, er, ?_⟩
    revert o
    cases g Γ with
    | exc c => exact fun o => o
    | bad => exact fun o => o
    | ok b =>
      intro o v F' H' x dp
      obtain ⟨c, e, Γ2, F2, s2, er2, o2⟩ := o v F' H' x dp
      refine ⟨c, e, ?_⟩
      cases c with
      | true => exact iteT ⟨Γ2, F2, s2, er2, o2⟩
      | false => exact iteF (o2 _ F2 H' (Ext.refl s2) (.bl _))
theorem d_or {a b : Expr} {rest : List Expr} {pos : Pos} {g g' : G → R D} (ha : DE X B E a g) (hb : DE X B E (.BoolOp .Or (b :: rest) pos) g') : DE X B E (.BoolOp .Or (a :: b :: rest) pos) (gOr g g') :=
  pe_imp (pe_or ha hb) fun σ H Q h => by
    obtain ⟨Γ, F, s, er, o⟩ := tD_bool (f := fun Γ c => if c = true then .ok (.bool true) else g' Γ) h
    refine ⟨Γ, F, s, er, ?_⟩
    revert o
    cases g Γ with
    | exc c => exact fun o => o
    | bad => exact fun o => o
    | ok b =>
      intro o v F' H' x dp
      obtain ⟨c, e, Γ2, F2, s2, er2, o2⟩ := o v F' H' x dp
      refine ⟨c, e, ?_⟩
      cases c with
      | false => exact iteF ⟨Γ2, F2, s2, er2, o2⟩
      | true => exact iteT (o2 _ F2 H' (Ext.refl s2) (.bl _))
theorem d_not {a : Expr} {pos : Pos} {g : G → R D} (ha : DE X B E a g) : DE X B E (.UnaryOp .Not a pos) (gNot g) :=
  pe_imp (pe_not ha) fun σ H Q h => by
    obtain ⟨Γ, F, s, er, o⟩ := tD_bool (f := fun Γ c => .ok (.bool (!c))) h
    refine ⟨Γ, F, s, er, ?_⟩
    revert o
    cases g Γ with
    | exc c => exact fun o => o
    | bad => exact fun o => o
    | ok b =>
      intro o v F' H' x dp
      obtain ⟨c, e, Γ2, F2, s2, er2, o2⟩ := o v F' H' x dp
      exact ⟨c, e, o2 _ F2 H' (Ext.refl s2) (.bl _)⟩
theorem d_if {c a b : Expr} {pos : Pos} {t : G → R Bool} {g g' : G → R D} (hc : DT X B E c t) (ha : DE X B E a g) (hb : DE X B E b g') : DE X B E (.IfExp c a b pos) (gIf t g g') :=
  pe_imp (pe_ifExp hc ha hb) fun σ H Q h => by
    obtain ⟨Γ, F, s, er, o⟩ := tDT_bindD (f := fun Γ c => if c = true then g Γ else g' Γ) h
    refine ⟨Γ, F, s, er, ?_⟩
    revert o
    cases t Γ with
    | exc c => exact fun o => o
    | bad => exact fun o => o
    | ok b =>
      intro o F' H' x
      obtain ⟨Γ2, F2, s2, er2, o2⟩ := o F' H' x
      cases b with
      | true => exact iteT ⟨Γ2, F2, s2, er2, o2⟩
      | false => exact iteF ⟨Γ2, F2, s2, er2, o2⟩

/-! chains -/
theorem tD_op2 {K : PySem.W.Frag} {mg : Str → Option Value} {f : D → D → R D} {k : G → D → D → D → R D} {a b : G → R D} (hf : Calm2 f) {σ : L2.St} {H : Hp} {Q : VK} (h : tD K mg B E (fun Γ => (a Γ).bind fun x => (b Γ).bind fun y => (f x y).bind fun z => k Γ x y z) σ H Q) :
    tD K mg B E a σ H (fun x H1 => tD K mg B E b σ H1 (fun y H2 => rD2 K f x y H2 (fun z H3 => ∃ Γ dx dy dz F', Same F' H3 ∧ ER K B F' H3 σ Γ ∧ Dp K F' x dx ∧ Dp K F' y dy ∧ Dp K F' z dz ∧ Out K mg F' H3 (E σ) (k Γ dx dy dz) Q))) := by
  obtain ⟨Γ, F, s, er, o⟩ := tD.bind (f := fun Γ x => (b Γ).bind fun y => (f x y).bind fun z => k Γ x y z) h
  refine ⟨Γ, F, s, er, ?_⟩
  revert o
  cases a Γ with
  | exc c => exact fun o => o
  | bad => exact fun o => o
  | ok d0 =>
    intro o x F1 H1 x1 dp1
    obtain ⟨Γ1, dx, F1', s1, er1, dpx, o1⟩ := o x F1 H1 x1 dp1
    obtain ⟨Γ2, F2, s2, er2, o2⟩ := tD.bind (E := E) (f := fun Γ y => (f dx y).bind fun z => k Γ dx y z) (g := b) (Q := Q) ⟨Γ1, F1', s1, er1, o1⟩
    -- the same slots: take Γ1 itself
    refine ⟨Γ1, F1', s1, er1, ?_⟩
    have o3 := Out.bind (r := b Γ1) (f := fun y => (f dx y).bind fun z => k Γ1 dx y z) o1
    revert o3
    cases b Γ1 with
    | exc c => exact fun o => o
    | bad => exact fun o => o
    | ok d1 =>
      intro o3 y F3 H3 x3 dp3
      obtain ⟨dy, F4, e4, x4, dp4, o4⟩ := o3 y F3 H3 x3 dp3
      cases e4
      cases ef : f dx d1 with
      | bad => rw [ef] at o4; exact o4.elim
      | exc c => exact (hf _ _ _ ef).elim
      | ok z0 =>
        rw [ef] at o4
        refine ⟨dx, d1, F4, z0, x4.fh, dp_mono x4.f dpx, dp4, ef, fun z F5 H5 x5 dp5 => ?_⟩
        exact ⟨Γ1, dx, d1, z0, F5, x5.fh, (er1.ext x4).ext x5, dp_mono x5.f (dp_mono x4.f dpx), dp_mono x5.f dp4, dp5, Out.ext o4 x5⟩
theorem chain_in {K : PySem.W.Frag} {mg : Str → Option Value} {f f' : D → D → R D} {a b c : G → R D} (hf : Calm2 f) (hf' : Calm2 f') {σ : L2.St} {H : Hp} {Q : VK} (h : tD K mg B E (gChain f f' a b c) σ H Q) :
    tChain (rD2 K f) (rD2 K f') (tD K mg B E a) (tD K mg B E b) (tD K mg B E c) σ H Q := by
  have h1 := tD_op2 (k := fun Γ x y z => (asB z).bind fun k => if k = true then (c Γ).bind fun w => f' y w else .ok (.bool false)) hf h
  obtain ⟨Γ, F, s, er, o⟩ := h1
  refine ⟨Γ, F, s, er, ?_⟩
  revert o
  cases a Γ with
  | exc c => exact fun o => o
  | bad => exact fun o => o
  | ok d0 =>
    intro o x F1 H1 x1 dp1
    obtain ⟨Γ1, F1', s1, er1, o1⟩ := o x F1 H1 x1 dp1
    refine ⟨Γ1, F1', s1, er1, ?_⟩
    revert o1
    cases b Γ1 with
    | exc c => exact fun o => o
    | bad => exact fun o => o
    | ok d1 =>
      intro o1 y F2 H2 x2 dp2
      obtain ⟨dx, dy, F3, r, s3, px, py, ef, q⟩ := o1 y F2 H2 x2 dp2
      refine ⟨dx, dy, F3, r, s3, px, py, ef, fun z F5 H5 x5 dp5 => ?_⟩
      obtain ⟨Γ6, dx6, dy6, dz6, F6, s6, er6, px6, py6, pz6, o6⟩ := q z F5 H5 x5 dp5
      cases e : asB dz6 with
      | bad => rw [e] at o6; exact o6.elim
      | exc c => exact absurd e (by cases dz6 <;> simp [asB])
      | ok k =>
        rw [e] at o6
        refine ⟨k, asB_bl pz6 e, ?_⟩
        cases k with
        | false => exact iteF (o6 _ F6 H5 (Ext.refl s6) (.bl _))
        | true =>
          refine iteT ⟨Γ6, F6, s6, er6, ?_⟩
          have o7 := Out.bind (r := c Γ6) (f := fun w => f' dy6 w) o6
          revert o7
          cases c Γ6 with
          | exc c => exact fun o => o
          | bad => exact fun o => o
          | ok dw =>
            intro o7 w F8 H8 x8 dp8
            obtain ⟨dw', F9, e9, x9, dp9, o9⟩ := o7 w F8 H8 x8 dp8
            cases e9
            cases ef' : f' dy6 dw with
            | bad => rw [ef'] at o9; exact o9.elim
            | exc c => exact (hf' _ _ _ ef').elim
            | ok r' =>
              rw [ef'] at o9
              exact ⟨dy6, dw, F9, r', x9.fh, dp_mono x9.f py6, dp9, ef', o9⟩
theorem d_chain {f f' : D → D → R D} {a b c : G → R D} {ea eb ec : Expr} {op op' : CmpOp} {pos : Pos} (o : OpD X (compareOp op) f) (o' : OpD X (compareOp op') f') (ha : DE X B E ea a) (hb : DE X B E eb b) (hc : DE X B E ec c)
    (hm : lastMarks [op, op'] [eb, ec] = false := by with_unfolding_all rfl) : DE X B E (.Compare ea [op, op'] [eb, ec] pos) (gChain f f' a b c) :=
  pe_imp (pe_chain o.op o'.op ha hb hc hm) fun σ H Q h => chain_in o.calm o'.calm h
theorem t_chain {f f' : D → D → R D} {a b c : G → R D} {ea eb ec : Expr} {op op' : CmpOp} {pos : Pos} (o : OpD X (compareOp op) f) (o' : OpD X (compareOp op') f') (ha : DE X B E ea a) (hb : DE X B E eb b) (hc : DE X B E ec c)
    (hm : lastMarks [op, op'] [eb, ec] = false := by with_unfolding_all rfl) : DT X B E (.Compare ea [op, op'] [eb, ec] pos) (bv (gChain f f' a b c)) :=
  pt_imp (pt_chain o.op o'.op ha hb hc hm) fun σ H Q ⟨Γ, F, s, er, w⟩ => chain_in o.calm o'.calm (Q := fun x H1 => ∃ c, x = .bl c ∧ Q c H1) ⟨Γ, F, s, er, outB_asB w⟩

/-! ### arguments, displays -/
def aNil (_ : G) : R (List D) := .ok []
def aCons (g : G → R D) (gs : G → R (List D)) (Γ : G) : R (List D) := (g Γ).bind fun d => (gs Γ).bind fun ds => .ok (d :: ds)
theorem a_nil : DA X B E [] aNil := pa_imp pa_nil fun σ H Q ⟨Γ, F, s, er, o⟩ => o [] F H (Ext.refl s) .nil
theorem tD_bindA {K : PySem.W.Frag} {mg : Str → Option Value} {g : G → R D} {f : G → D → R (List D)} {σ : L2.St} {H : Hp} {Q : List V → Hp → Prop} (h : tDA K mg B E (fun Γ => (g Γ).bind (f Γ)) σ H Q) :
    tD K mg B E g σ H (fun v H' => ∃ Γ d F', Same F' H' ∧ ER K B F' H' σ Γ ∧ Dp K F' v d ∧ OutA K mg F' H' (E σ) (f Γ d) Q) := by
  obtain ⟨Γ, F, s, er, o⟩ := h
  refine ⟨Γ, F, s, er, ?_⟩
  dsimp only at o
  revert o
  cases g Γ with
  | ok b => exact fun o v F' H' x dp => ⟨Γ, b, F', x.fh, er.ext x, dp, OutA.ext o x⟩
  | exc c => exact fun o => o
  | bad => exact fun o => o
theorem a_cons {e : Expr} {es : List Expr} {g : G → R D} {gs : G → R (List D)} (h : DE X B E e g) (hs : DA X B E es gs) (he : starEach (e :: es) X.env = (false, eval e X.env) :: starEach es X.env := by rfl) : DA X B E (e :: es) (aCons g gs) :=
  pa_imp (pa_cons h hs he) fun σ H Q h => by
    obtain ⟨Γ, F, s, er, o⟩ := tD_bindA (f := fun Γ d => (gs Γ).bind fun ds => .ok (d :: ds)) h
    refine ⟨Γ, F, s, er, ?_⟩
    revert o
    cases g Γ with
    | exc c => exact fun o => o
    | bad => exact fun o => o
    | ok b =>
      intro o v F' H' x dp
      obtain ⟨Γ2, d2, F2, s2, er2, dp2, o2⟩ := o v F' H' x dp
      refine ⟨Γ2, F2, s2, er2, ?_⟩
      revert o2
      cases gs Γ2 with
      | exc c => exact fun o => o
      | bad => exact fun o => o
      | ok ds => exact fun o2 vs F3 H3 x3 dp3 => o2 (v :: vs) F3 H3 x3 (.cons (dp_mono x3.f dp2) dp3)
def mkT (ds : List D) : R D := if ds.length ≤ sizeLine then .ok (.tuple ds) else .bad
def mkL (ds : List D) : R D := if ds.length ≤ sizeLine then .ok (.list ds) else .bad
def gTup (gs : G → R (List D)) (Γ : G) : R D := (gs Γ).bind mkT
def gLst (gs : G → R (List D)) (Γ : G) : R D := (gs Γ).bind mkL
theorem d_tup {es : List Expr} {pos : Pos} {x1} {gs : G → R (List D)} (h : DA X B E es gs) : DE X B E (.Tuple es x1 pos) (gTup gs) :=
  pe_imp (pe_tup h) fun σ H Q ⟨Γ, F, s, er, o⟩ => by
    refine ⟨Γ, F, s, er, ?_⟩
    unfold gTup at o
    revert o
    cases gs Γ with
    | exc c => exact fun o => o
    | bad => exact fun o => o
    | ok ds =>
      intro o vs F' H' x dp
      simp only [R.bind_ok, mkT] at o
      by_cases hz : ds.length ≤ sizeLine
      · rw [if_pos hz] at o
        exact ⟨by rw [dpa_length dp]; exact hz, fun p hp => o _ _ _ (x.trans (Ext.new x.fh hp _)) (dp_newT x.fh hp dp)⟩
      · rw [if_neg hz] at o; exact o.elim
theorem d_lst {es : List Expr} {pos : Pos} {gs : G → R (List D)} (h : DA X B E es gs) : DE X B E (.List es pos) (gLst gs) :=
  pe_imp (pe_lst h) fun σ H Q ⟨Γ, F, s, er, o⟩ => by
    refine ⟨Γ, F, s, er, ?_⟩
    unfold gLst at o
    revert o
    cases gs Γ with
    | exc c => exact fun o => o
    | bad => exact fun o => o
    | ok ds =>
      intro o vs F' H' x dp
      simp only [R.bind_ok, mkL] at o
      by_cases hz : ds.length ≤ sizeLine
      · rw [if_pos hz] at o
        exact ⟨by rw [dpa_length dp]; exact hz, fun p hp => o _ _ _ (x.trans (Ext.new x.fh hp _)) (dp_newL x.fh hp dp)⟩
      · rw [if_neg hz] at o; exact o.elim

/-! ### calls of built-ins by data -/
def rDA (K : PySem.W.Frag) (f : List D → R D) : List V → Hp → VK → Prop := fun xs H Q => ∃ ds F r, Same F H ∧ DpAll K F xs ds ∧ f ds = .ok r ∧ Fin K F H r Q
def Calm1 (f : List D → R D) : Prop := ∀ ds c, f ds ≠ .exc c
structure CallD (X : Cx) (v : Value) (f : List D → R D) : Prop where
  call : CallR X v (rDA X.K f)
  calm : Calm1 f
theorem CallD.mk' {v : Value} {f : List D → R D} {r : List V → Hp → VK → Prop} (h : CallR X v r) (hf : Calm1 f) (hr : ∀ xs H Q, rDA X.K f xs H Q → r xs H Q) : CallD X v f :=
  ⟨fun pins s σ H xs us Q I rr w => h pins s σ H xs us Q I rr (hr _ _ _ w), hf⟩
def gCall (f : List D → R D) (gs : G → R (List D)) (Γ : G) : R D := (gs Γ).bind f
theorem call_in {K : PySem.W.Frag} {mg : Str → Option Value} {f : List D → R D} {gs : G → R (List D)} (hf : Calm1 f) {σ : L2.St} {H : Hp} {Q : VK} (h : tD K mg B E (gCall f gs) σ H Q) :
    tDA K mg B E gs σ H fun vs H1 => rDA K f vs H1 Q := by
  obtain ⟨Γ, F, s, er, o⟩ := h
  refine ⟨Γ, F, s, er, ?_⟩
  unfold gCall at o
  revert o
  cases gs Γ with
  | exc c => exact fun o => o
  | bad => exact fun o => o
  | ok ds =>
    intro o vs F' H' x dp
    simp only [R.bind_ok] at o
    cases e : f ds with
    | exc c => exact (hf _ _ e).elim
    | bad => rw [e] at o; exact o.elim
    | ok r =>
      rw [e] at o
      exact ⟨ds, F', r, x.fh, dp, e, fun v F2 H2 x2 d2 => o v F2 H2 (x.trans x2) d2⟩
theorem d_callB {id : String} {x : Str} {p pos : Pos} {e : Expr} {es : List Expr} {f : List D → R D} {gs : G → R (List D)} (c : CallD X (.builtin id) f) (hg : Gl X x) (hm : X.mg x = none) (hv : bootBuiltins x = some (.builtin id)) (ha : DA X B E (e :: es) gs)
    (hn : x ≠ "__name__" := by decide) (hdb : (x == ("__debug__" : Str)) = false := by decide) (he : starEach (e :: es) X.env = (false, eval e X.env) :: starEach es X.env := by rfl) (hpl : (backTo pos (starEach es X.env)).any (·.1) = false := by rfl) :
    DE X B E (.Call (.Name x p) (e :: es) [] pos) (gCall f gs) := pe_imp (pe_callB c.call hg hm hv ha hn hdb he hpl) fun σ H Q h => call_in c.calm h
theorem d_callTy {id : String} {x : Str} {p pos : Pos} {e : Expr} {es : List Expr} {f : List D → R D} {gs : G → R (List D)} (c : CallD X (.type id) f) (hg : Gl X x) (hm : X.mg x = none) (hv : bootBuiltins x = some (.type id)) (ha : DA X B E (e :: es) gs)
    (hn : x ≠ "__name__" := by decide) (hdb : (x == ("__debug__" : Str)) = false := by decide) (he : starEach (e :: es) X.env = (false, eval e X.env) :: starEach es X.env := by rfl) (hpl : (backTo pos (starEach es X.env)).any (·.1) = false := by rfl) :
    DE X B E (.Call (.Name x p) (e :: es) [] pos) (gCall f gs) := pe_imp (pe_callTy c.call hg hm hv ha hn hdb he hpl) fun σ H Q h => call_in c.calm h
end
end ND
namespace ND
open PySem PySem.Spec L2
section
variable {X : Cx} {B : Hp} {E : L2.St → XK}

/-! ### len -/
def fLen : List D → R D
  | [.str x] => if x.length ≤ sizeLine then .ok (.int x.length) else .bad
  | [.list xs] => .ok (.int xs.length)
  | [.tuple xs] => .ok (.int xs.length)
  | _ => .bad
theorem c_len : CallD X (.builtin "len") fLen := .mk' call_len (fun ds c h => by unfold fLen at h; split at h <;> first | cases h | (split at h <;> cases h)) fun xs H Q ⟨ds, F, r, s, hd, hf, q⟩ => by
  unfold fLen at hf
  split at hf
  · split at hf
    · rename_i hz
      cases hd with
      | cons h1 h2 => cases h1; cases h2; cases hf; exact ⟨_, _, rfl, ⟨hz, rfl⟩, q.here s (.int _)⟩
    · cases hf
  · cases hd with
    | cons h1 h2 =>
      cases h2; cases hf
      cases h1 with
      | lst k1 k2 => exact ⟨_, _, rfl, .inl ⟨_, s.seq k1, rfl⟩, by rw [dpa_length k2]; exact q.here s (.int _)⟩
  · cases hd with
    | cons h1 h2 =>
      cases h2; cases hf
      cases h1 with
      | tup k1 k2 => exact ⟨_, _, rfl, .inr ⟨_, same_seqT s k1, rfl⟩, by rw [dpa_length k2]; exact q.here s (.int _)⟩
  · cases hf

/-! ### all, any -/
def fAll : List D → R D
  | [.list xs] => (match boolsOf xs with | some bs => .ok (.bool (bs.all id)) | none => .bad)
  | _ => .bad
def fAny : List D → R D
  | [.list xs] => (match boolsOf xs with | some bs => .ok (.bool (bs.any id)) | none => .bad)
  | _ => .bad
theorem c_all (hc : X.calm = true) : CallD X (.builtin "all") fAll := .mk' (cr_all hc) (fun ds c h => by unfold fAll at h; split at h <;> first | cases h | (split at h <;> cases h)) fun xs H Q ⟨ds, F, r, s, hd, hf, q⟩ => by
  unfold fAll at hf
  split at hf
  · split at hf
    · rename_i bs hb
      cases hd with
      | cons h1 h2 =>
        cases h2; cases hf
        cases h1 with
        | lst k1 k2 =>
          rw [boolsOf_eq hb] at k2
          have := dpa_bls bs k2
          subst this
          exact ⟨_, bs, rfl, s.seq k1, q.here s (.bl _)⟩
    · cases hf
  · cases hf
theorem c_any (hc : X.calm = true) : CallD X (.builtin "any") fAny := .mk' (cr_any hc) (fun ds c h => by unfold fAny at h; split at h <;> first | cases h | (split at h <;> cases h)) fun xs H Q ⟨ds, F, r, s, hd, hf, q⟩ => by
  unfold fAny at hf
  split at hf
  · split at hf
    · rename_i bs hb
      cases hd with
      | cons h1 h2 =>
        cases h2; cases hf
        cases h1 with
        | lst k1 k2 =>
          rw [boolsOf_eq hb] at k2
          have := dpa_bls bs k2
          subst this
          exact ⟨_, bs, rfl, s.seq k1, q.here s (.bl _)⟩
    · cases hf
  · cases hf

/-! ### sum, max, min of ints -/
def fSum : List D → R D
  | [.list xs] => (match intsOf xs with | some bs => .ok (.int bs.sum) | none => .bad)
  | _ => .bad
theorem c_sum (hc : X.calm = true) : CallD X (.builtin "sum") fSum := .mk' (cr_sum hc) (fun ds c h => by unfold fSum at h; split at h <;> first | cases h | (split at h <;> cases h)) fun xs H Q ⟨ds, F, r, s, hd, hf, q⟩ => by
  unfold fSum at hf
  split at hf
  · split at hf
    · rename_i bs hb
      cases hd with
      | cons h1 h2 =>
        cases h2; cases hf
        cases h1 with
        | lst k1 k2 =>
          rw [intsOf_eq hb] at k2
          have := dpa_ints bs k2
          subst this
          exact ⟨_, bs, rfl, s.seq k1, q.here s (.int _)⟩
    · cases hf
  · cases hf
def maxI : List Int → Int
  | [] => 0
  | x :: xs => xs.foldl max x
theorem maxI_mem : ∀ (x : Int) (xs : List Int), xs.foldl max x = x ∨ xs.foldl max x ∈ xs
  | x, [] => .inl rfl
  | x, y :: ys => by
    rcases maxI_mem (max x y) ys with h | h
    · rw [List.foldl_cons]
      rcases Int.le_total x y with e | e
      · right; rw [h, Int.max_eq_right e]; exact List.mem_cons_self
      · left; rw [h, Int.max_eq_left e]
    · right; rw [List.foldl_cons]; exact List.mem_cons_of_mem _ h
theorem maxI_ge : ∀ (x : Int) (xs : List Int), x ≤ xs.foldl max x ∧ ∀ y ∈ xs, y ≤ xs.foldl max x
  | x, [] => ⟨Int.le_refl _, fun _ h => absurd h (by simp)⟩
  | x, y :: ys => by
    obtain ⟨h1, h2⟩ := maxI_ge (max x y) ys
    rw [List.foldl_cons]
    refine ⟨by omega, fun z hz => ?_⟩
    rcases List.mem_cons.mp hz with rfl | hz
    · omega
    · exact h2 z hz
def fMax : List D → R D
  | [.list xs] => (match intsOf xs with | some (b :: bs) => .ok (.int (maxI (b :: bs))) | _ => .bad)
  | [.int i, .int j] => .ok (.int (if j > i then j else i))
  | _ => .bad
theorem c_max (hc : X.calm = true) : CallD X (.builtin "max") fMax := .mk' ((cr_max hc).or (call_max2 hc)) (fun ds c h => by unfold fMax at h; split at h <;> first | cases h | (split at h <;> cases h)) fun xs H Q ⟨ds, F, r, s, hd, hf, q⟩ => by
  unfold fMax at hf
  split at hf
  · split at hf
    · rename_i b bs hb
      cases hd with
      | cons h1 h2 =>
        cases h2; cases hf
        cases h1 with
        | lst k1 k2 =>
          rw [intsOf_eq hb] at k2
          have := dpa_ints (b :: bs) k2
          subst this
          refine .inl ⟨_, b :: bs, rfl, s.seq k1, by simp, fun m hm hge => ?_⟩
          have e : maxI (b :: bs) = m := by
            have h3 : maxI (b :: bs) ∈ b :: bs := by
              show bs.foldl max b ∈ b :: bs
              rcases maxI_mem b bs with h | h
              · rw [h]; exact List.mem_cons_self
              · exact List.mem_cons_of_mem _ h
            have h4 := hge _ h3
            have h5 : m ≤ maxI (b :: bs) := by
              rcases List.mem_cons.mp hm with rfl | h
              · exact (maxI_ge m bs).1
              · exact (maxI_ge b bs).2 m h
            omega
          rw [← e]
          exact q.here s (.int _)
    · cases hf
  · cases hd with
    | cons h1 h2 =>
      cases h2 with
      | cons h3 h4 => cases h1; cases h3; cases h4; cases hf; exact .inr ⟨_, _, rfl, q.here s (.int _)⟩
  · cases hf
def fMin : List D → R D
  | [.int i, .int j] => .ok (.int (if j < i then j else i))
  | _ => .bad
theorem c_min (hc : X.calm = true) : CallD X (.builtin "min") fMin := .mk' (call_min2 hc) (fun ds c h => by unfold fMin at h; split at h <;> cases h) fun xs H Q ⟨ds, F, r, s, hd, hf, q⟩ => by
  unfold fMin at hf
  split at hf
  · cases hd with
    | cons h1 h2 =>
      cases h2 with
      | cons h3 h4 => cases h1; cases h3; cases h4; cases hf; exact ⟨_, _, rfl, q.here s (.int _)⟩
  · cases hf

/-! ### int, str, tuple, list -/
def fInt : List D → R D
  | [.int i] => .ok (.int i)
  | [.bool b] => .ok (.int (if b then 1 else 0))
  | [.str x] => if x.length ≤ 640 then (match PySem.intText? x with | some n => .ok (.int n) | none => .bad) else .bad
  | _ => .bad
theorem c_int : CallD X (.type "int") fInt := .mk' (call_int1.or call_int_str) (fun ds c h => by unfold fInt at h; split at h <;> first | cases h | (split at h <;> first | cases h | (split at h <;> cases h))) fun xs H Q ⟨ds, F, r, s, hd, hf, q⟩ => by
  unfold fInt at hf
  split at hf
  · cases hd with
    | cons h1 h2 => cases h1; cases h2; cases hf; exact .inl (.inl ⟨_, rfl, q.here s (.int _)⟩)
  · cases hd with
    | cons h1 h2 => cases h1; cases h2; cases hf; exact .inl (.inr ⟨_, rfl, q.here s (.int _)⟩)
  · split at hf
    · rename_i hz
      split at hf
      · rename_i n hn
        cases hd with
        | cons h1 h2 => cases h1; cases h2; cases hf; exact .inr ⟨_, _, rfl, hn, hz, q.here s (.int _)⟩
      · cases hf
    · cases hf
  · cases hf
def fStr : List D → R D
  | [.int i] => if i.natAbs.log2 < 1920 then .ok (.str (toString i)) else .bad
  | [.str x] => .ok (.str x)
  | _ => .bad
theorem c_str : CallD X (.type "str") fStr := .mk' (call_str_int.or SkE.call_str_str) (fun ds c h => by unfold fStr at h; split at h <;> first | cases h | (split at h <;> cases h)) fun xs H Q ⟨ds, F, r, s, hd, hf, q⟩ => by
  unfold fStr at hf
  split at hf
  · split at hf
    · rename_i hz
      cases hd with
      | cons h1 h2 => cases h1; cases h2; cases hf; exact .inl ⟨_, rfl, hz, q.here s (.str _)⟩
    · cases hf
  · cases hd with
    | cons h1 h2 => cases h1; cases h2; cases hf; exact .inr ⟨_, rfl, q.here s (.str _)⟩
  · cases hf
def fTuple : List D → R D
  | [.list xs] => .ok (.tuple xs)
  | [.tuple xs] => .ok (.tuple xs)
  | _ => .bad
theorem c_tuple : CallD X (.type "tuple") fTuple := .mk' call_tuple_of (fun ds c h => by unfold fTuple at h; split at h <;> cases h) fun xs H Q ⟨ds, F, r, s, hd, hf, q⟩ => by
  unfold fTuple at hf
  split at hf
  · cases hd with
    | cons h1 h2 =>
      cases h2; cases hf
      cases h1 with
      | lst k1 k2 => exact ⟨_, _, rfl, .inl ⟨s.seq k1, q.newT s k2⟩⟩
  · cases hd with
    | cons h1 h2 =>
      cases h2; cases hf
      cases h1 with
      | tup k1 k2 => exact ⟨_, _, rfl, .inr ⟨same_seqT s k1, q.here s (.tup k1 k2)⟩⟩
  · cases hf
def fList : List D → R D
  | [.list xs] => .ok (.list xs)
  | [.tuple xs] => .ok (.list xs)
  | _ => .bad
theorem c_list : CallD X (.type "list") fList := .mk' call_list_of (fun ds c h => by unfold fList at h; split at h <;> cases h) fun xs H Q ⟨ds, F, r, s, hd, hf, q⟩ => by
  unfold fList at hf
  split at hf
  · cases hd with
    | cons h1 h2 =>
      cases h2; cases hf
      cases h1 with
      | lst k1 k2 => exact ⟨_, _, rfl, .inl (s.seq k1), q.newL s k2⟩
  · cases hd with
    | cons h1 h2 =>
      cases h2; cases hf
      cases h1 with
      | tup k1 k2 => exact ⟨_, _, rfl, .inr (same_seqT s k1), q.newL s k2⟩
  · cases hf

/-! ### sorted -/
theorem each_of {K : PySem.W.Frag} {F : Hp} : ∀ {ds : List D} {vs : List V} {us : List Value}, DpAll K F vs ds → Vals vs us → PySem.W.EachIs (fun u (d : D) => ∃ v, RelV v u ∧ Dp K F v d) us ds
  | [], _, _, h, r => by cases h; cases r; exact .nil
  | d :: ds, _, _, h, r => by
    cases h with
    | cons h1 h2 =>
      cases r with
      | cons r1 r2 => exact .cons ⟨_, r1, h1⟩ (each_of h2 r2)
theorem of_each {K : PySem.W.Frag} {F : Hp} : ∀ {ds : List D} {us : List Value}, PySem.W.EachIs (fun u (d : D) => ∃ v, RelV v u ∧ Dp K F v d) us ds → ∃ vs, Vals vs us ∧ DpAll K F vs ds
  | [], _, h => by cases h; exact ⟨[], .nil, .nil⟩
  | d :: ds, _, h => by
    cases h with
    | cons h1 h2 =>
      obtain ⟨v, r, k⟩ := h1
      obtain ⟨vs, rs, ks⟩ := of_each h2
      exact ⟨v :: vs, .cons r rs, .cons k ks⟩
theorem each_mono {α β : Type} {R R' : α → β → Prop} {us : List α} {ds : List β} (h : PySem.W.EachIs R us ds) (f : ∀ u d, R u d → R' u d) : PySem.W.EachIs R' us ds := by
  induction h with
  | nil => exact .nil
  | cons h1 _ ih => exact .cons (f _ _ h1) ih
noncomputable def sortD (ds : List D) : List D := ds.mergeSort (PySem.W.dataLe false fun d => d)
def depthOk (ds : List D) : Bool := ds.all fun d => decide (d.depth ≤ 64)
/-- which lists may be sorted -/
def sortOk (ds : List D) : Prop := PySem.W.AllAlike ds ∧ PySem.W.Sortable ds ∧ depthOk ds = true
open Classical in
noncomputable def fSorted : List D → R D
  | [.list xs] => if sortOk xs then .ok (.list (sortD xs)) else .bad
  | _ => .bad
theorem sorted_run {k : Nat} (hr : Room k X.A) {pins : List (Addr × Obj)} {s : Shared} {σ : L2.St} {H F : Hp} {a : Addr} {xs : List V} {zs : List D} {Q : VK} (I : Inv X pins σ H s) (sm : Same F H) (hs : SqL X.K H a xs) (ha : DpAll X.K F xs zs) (ok : sortOk zs)
    (q : Fin X.K F H (.list (sortD zs)) Q) : wpAny (model X.prog X.w) X.A (call (.builtin "sorted") [.ref a]) (EP X pins σ Q) X.xe s := by
  obtain ⟨hal, hso, hdp⟩ := ok
  obtain ⟨its, rv, hl, hlen⟩ := I.list hs
  have e := each_of ha rv
  have hL : zs.length ≤ sizeLine := by rw [← dpa_length ha]; exact hlen
  refine PySem.W.sorted_data (enc := fun d => d) (bs := zs) hl.isList e (each_mono e fun u d ⟨v, r, k⟩ => Dp.reads I d v u (dp_mono sm k) r) (by simpa using hal) (by simpa using hso) hL (fun d hd => ?_) fun out ho eo => ?_
  · have h1 := List.all_eq_true.mp hdp d hd
    have h2 : d.depth ≤ 64 := of_decide_eq_true h1
    have := hr.un
    show X.A.units + 2 + d.depth < cLine
    omega
  · obtain ⟨vs, rvs, dvs⟩ := of_each eo
    obtain ⟨ep, he'⟩ := PyProof.Rows.sortedAll_at s.heap its out.toArray
    have hp : H (s.heap.objs.size + 1) = none := I.hok.fresh (Nat.le_succ _)
    have hz : vs.length ≤ sizeLine := by rw [dpa_length dvs]; unfold sortD at *; rw [List.length_mergeSort]; exact hL
    refine ⟨.ref (s.heap.objs.size + 1), _, I.laid (t' := s.toks) (a := s.heap.objs.size + 1) (o := .lst vs) (fun b o eo => PyProof.Rows.sortedAll_old eo) (Nat.le_succ _) ⟨hz, out, ep, rvs, he'⟩, rfl, q.newL sm dvs _ hp⟩
theorem c_sorted {k : Nat} (hr : Room k X.A) : CallD X (.builtin "sorted") fSorted := by
  refine ⟨?_, fun ds c h => by unfold fSorted at h; split at h <;> first | cases h | (split at h <;> cases h)⟩
  intro pins s σ H xs us Q I rr ⟨ds, F, r, sm, hd, hf, q⟩
  unfold fSorted at hf
  split at hf
  · rename_i zs
    split at hf
    · rename_i hz
      cases hf
      cases hd with
      | cons h1 h2 =>
        cases h2
        cases h1 with
        | @lst a vs _ k1 k2 =>
          cases rr with
          | cons r1 r2 =>
            cases r2
            cases r1
            exact sorted_run hr I sm (sm.seq k1) k2 hz q
    · cases hf
  · cases hf
end
end ND
namespace ND
open PySem PySem.Spec L2

/-! ### isinstance of data, one built-in type -/
def tyName : D → String
  | .none => "NoneType"
  | .bool _ => "bool"
  | .int _ => "int"
  | .str _ => "str"
  | .list _ => "list"
  | .tuple _ => "tuple"
  | .dict _ => "dict"
def tyIs (T : String) (d : D) : R D := match kitB (tyName d) T with
  | some b => .ok (.bool b)
  | none => .bad
theorem kit_str : kitB "NoneType" "str" = some false ∧ kitB "bool" "str" = some false ∧ kitB "int" "str" = some false ∧ kitB "str" "str" = some true ∧ kitB "list" "str" = some false ∧ kitB "tuple" "str" = some false := by decide +kernel
theorem kit_bool : kitB "NoneType" "bool" = some false ∧ kitB "bool" "bool" = some true ∧ kitB "int" "bool" = some false ∧ kitB "str" "bool" = some false ∧ kitB "list" "bool" = some false ∧ kitB "tuple" "bool" = some false := by decide +kernel
theorem kit_int : kitB "NoneType" "int" = some false ∧ kitB "bool" "int" = some true ∧ kitB "int" "int" = some true ∧ kitB "str" "int" = some false ∧ kitB "list" "int" = some false ∧ kitB "tuple" "int" = some false := by decide +kernel
theorem kit_list : kitB "NoneType" "list" = some false ∧ kitB "bool" "list" = some false ∧ kitB "int" "list" = some false ∧ kitB "str" "list" = some false ∧ kitB "list" "list" = some true ∧ kitB "tuple" "list" = some false := by decide +kernel
theorem kit_tuple : kitB "NoneType" "tuple" = some false ∧ kitB "bool" "tuple" = some false ∧ kitB "int" "tuple" = some false ∧ kitB "str" "tuple" = some false ∧ kitB "list" "tuple" = some false ∧ kitB "tuple" "tuple" = some true := by decide +kernel
def isStr : D → Bool | .str _ => true | _ => false
def isBool : D → Bool | .bool _ => true | _ => false
def isInt : D → Bool | .int _ => true | .bool _ => true | _ => false
def isList : D → Bool | .list _ => true | _ => false
def isTuple : D → Bool | .tuple _ => true | _ => false
def noDict : D → Bool | .dict _ => false | _ => true
theorem tyIs_str (d : D) (h : noDict d = true) : tyIs "str" d = .ok (.bool (isStr d)) := by
  obtain ⟨h1, h2, h3, h4, h5, h6⟩ := kit_str
  cases d <;> first | (exact absurd h Bool.false_ne_true) | simp only [tyIs, tyName, isStr, *]
theorem tyIs_bool (d : D) (h : noDict d = true) : tyIs "bool" d = .ok (.bool (isBool d)) := by
  obtain ⟨h1, h2, h3, h4, h5, h6⟩ := kit_bool
  cases d <;> first | (exact absurd h Bool.false_ne_true) | simp only [tyIs, tyName, isBool, *]
theorem tyIs_int (d : D) (h : noDict d = true) : tyIs "int" d = .ok (.bool (isInt d)) := by
  obtain ⟨h1, h2, h3, h4, h5, h6⟩ := kit_int
  cases d <;> first | (exact absurd h Bool.false_ne_true) | simp only [tyIs, tyName, isInt, *]
theorem tyIs_list (d : D) (h : noDict d = true) : tyIs "list" d = .ok (.bool (isList d)) := by
  obtain ⟨h1, h2, h3, h4, h5, h6⟩ := kit_list
  cases d <;> first | (exact absurd h Bool.false_ne_true) | simp only [tyIs, tyName, isList, *]
theorem tyIs_tuple (d : D) (h : noDict d = true) : tyIs "tuple" d = .ok (.bool (isTuple d)) := by
  obtain ⟨h1, h2, h3, h4, h5, h6⟩ := kit_tuple
  cases d <;> first | (exact absurd h Bool.false_ne_true) | simp only [tyIs, tyName, isTuple, *]
theorem tyX_dp {K : PySem.W.Frag} {F : Hp} {v : V} {d : D} (h : Dp K F v d) : TyX K F v (.type (tyName d)) := by
  cases h with
  | non => exact .base .non
  | bl b => exact .base (.bl b)
  | int i => exact .base (.int i)
  | str x => exact .base (.str x)
  | lst h1 h2 =>
    rcases h1 with (h | ⟨o, h⟩) | ⟨o, its, n, k1, k2, _⟩
    · exact .base (.lst h)
    · exact .base (.frz h)
    · exact .kList k1 k2
  | tup h1 h2 =>
    rcases h1 with (h | ⟨o, h⟩) | ⟨o, its, n, k1, k2, _⟩
    · exact .base (.tup h)
    · exact .fTuple h
    · exact .kTuple k1 k2
def gIsi (T : String) (g : G → R D) (Γ : G) : R D := (g Γ).bind (tyIs T)
section
variable {X : Cx} {B : Hp} {E : L2.St → XK}
theorem d_isi {T : String} {x y : Str} {p q pos : Pos} {e : Expr} {g : G → R D} (hg : Gl X x) (hm : X.mg x = none) (hv : bootBuiltins x = some (.builtin "isinstance")) (hgT : Gl X y) (hmT : X.mg y = none) (hvT : bootBuiltins y = some (.type T)) (h : DE X B E e g)
    (hn : x ≠ "__name__" := by decide) (hdb : (x == ("__debug__" : Str)) = false := by decide) (hnT : y ≠ "__name__" := by decide) (hdbT : (y == ("__debug__" : Str)) = false := by decide)
    (he : starEach [e, .Name y q] X.env = (false, eval e X.env) :: starEach [.Name y q] X.env := by rfl) (he2 : starEach [.Name y q] X.env = (false, eval (.Name y q) X.env) :: starEach [] X.env := by rfl) (hpl : (backTo pos (starEach [.Name y q] X.env)).any (·.1) = false := by rfl) :
    DE X B E (.Call (.Name x p) [e, .Name y q] [] pos) (gIsi T g) :=
  pe_imp (pe_callB call_isi hg hm hv (pa_cons h (pa_cons (pe_bltn (v := .ty T) hgT hmT hvT rfl hnT hdbT) pa_nil he2) he) hn hdb he hpl) fun σ H Q ⟨Γ, F, s, er, o⟩ => by
    refine ⟨Γ, F, s, er, ?_⟩
    unfold gIsi at o
    revert o
    cases g Γ with
    | exc c => exact fun o => o
    | bad => exact fun o => o
    | ok d =>
      intro o v F' H' x dp
      simp only [R.bind_ok, tyIs] at o
      cases e : kitB (tyName d) T with
      | none => rw [e] at o; exact o.elim
      | some b =>
        rw [e] at o
        exact ⟨v, .ty T, _, .type T, b, rfl, .ty T, tyX_dp (dp_mono x.fh dp), kit_ty e, o _ F' H' x (.bl b)⟩

/-! ### methods of texts -/
def rMD (K : PySem.W.Frag) (f : Str → D → R D) : V → List V → Hp → VK → Prop := fun x xs H Q => ∃ a y d F r, x = .str a ∧ xs = [y] ∧ Same F H ∧ Dp K F y d ∧ f a d = .ok r ∧ Fin K F H r Q
structure MtD (X : Cx) (name : Str) (f : Str → D → R D) : Prop where
  ex : ∃ id : String, Slot "str" name id ∧ typeOf (.builtin id) = pure (.type "method_descriptor") ∧ MtR X id (rMD X.K f)
  calm : ∀ a d c, f a d ≠ .exc c
theorem MtD.mk' {name : Str} {id : String} {f : Str → D → R D} {r : V → List V → Hp → VK → Prop} (s : Slot "str" name id) (t : typeOf (.builtin id) = pure (.type "method_descriptor")) (m : MtR X id r) (c : ∀ a d c, f a d ≠ .exc c) (h : ∀ x xs H Q, rMD X.K f x xs H Q → r x xs H Q) : MtD X name f :=
  ⟨⟨id, s, t, fun pins s σ H x xs v us Q I r1 r2 w => m pins s σ H x xs v us Q I r1 r2 (h _ _ _ _ w)⟩, c⟩
def asS {α : Type} (k : Str → R α) : D → R α
  | .str a => k a
  | _ => .bad
def gM1 (f : Str → D → R D) (go ge : G → R D) (Γ : G) : R D := (go Γ).bind (asS fun a => (ge Γ).bind fun d => f a d)
theorem d_m1 {name : Str} {f : Str → D → R D} {o e : Expr} {apos pos : Pos} {go ge : G → R D} (m : MtD X name f) (ho : DE X B E o go) (he : DE X B E e ge)
    (hs : starEach [e] X.env = [(false, eval e X.env)] := by rfl) (hbase : attributeBase o name X.env (eval o X.env) = eval o X.env := by rfl) (hline : (apos.endLine == pos.line) = true := by rfl) : DE X B E (.Call (.Attribute o name apos) [e] [] pos) (gM1 f go ge) := by
  obtain ⟨id, sl, ty, rule⟩ := m.ex
  refine pe_imp (pe_m1 sl ty rule ho he hs hbase hline) fun σ H Q h => ?_
  obtain ⟨Γ, F, s, er, w⟩ := tD.bind (f := fun Γ => asS fun a => (ge Γ).bind fun d => f a d) h
  refine ⟨Γ, F, s, er, ?_⟩
  revert w
  cases go Γ with
  | exc c => exact fun o => o
  | bad => exact fun o => o
  | ok d =>
    intro w v F1 H1 x1 dp1
    obtain ⟨Γ2, d2, F2, s2, er2, dp2, o2⟩ := w v F1 H1 x1 dp1
    cases dp2 with
    | str a =>
      refine ⟨⟨a, rfl⟩, Γ2, F2, s2, er2, ?_⟩
      have o3 : Out X.K X.mg F2 H1 (E σ) ((ge Γ2).bind fun d => f a d) Q := o2
      revert o3
      cases ge Γ2 with
      | exc c => exact fun o => o
      | bad => exact fun o => o
      | ok e2 =>
        intro o3 u F4 H4 x4 dp4
        simp only [R.bind_ok] at o3
        cases ef : f a e2 with
        | exc c => exact (m.calm _ _ _ ef).elim
        | bad => rw [ef] at o3; exact o3.elim
        | ok r =>
          rw [ef] at o3
          exact ⟨a, u, e2, F4, r, rfl, rfl, x4.fh, dp4, ef, fun v F5 H5 x5 d5 => o3 v F5 H5 (x4.trans x5) d5⟩
    | _ => exact o2.elim
def fSplit (a : Str) : D → R D
  | .str b => if (b.length == 0) = false ∧ a.length + 2 ≤ sizeLine then .ok (.list ((Txt.split a b).map .str)) else .bad
  | _ => .bad
theorem m_split : MtD X "split" fSplit := .mk' PySem.F.slot_str_split PySem.F.type_str_split mt_split (fun a d c h => by unfold fSplit at h; split at h <;> first | cases h | (split at h <;> cases h)) fun x xs H Q ⟨a, y, d, F, r, e1, e2, s, dp, hf, q⟩ => by
  subst e1 e2
  unfold fSplit at hf
  split at hf
  · split at hf
    · rename_i hz
      cases dp; cases hf
      exact ⟨a, _, rfl, rfl, hz.1, hz.2, q.newL s (dpa_strs _)⟩
    · cases hf
  · cases hf
def joinOk (a : Str) (ys : List Str) : Bool := decide ((ys.map (·.length)).sum + ys.length * a.length ≤ 16777216)
def fJoin (a : Str) : D → R D
  | .list xs => (match strsOf xs with | some ys => if joinOk a ys = true then .ok (.str (Txt.join a ys)) else .bad | none => .bad)
  | _ => .bad
theorem m_join : MtD X "join" fJoin := .mk' PySem.F.slot_str_join PySem.F.type_str_join mt_join (fun a d c h => by unfold fJoin at h; split at h <;> first | cases h | (split at h <;> first | cases h | (split at h <;> cases h))) fun x xs H Q ⟨a, y, d, F, r, e1, e2, s, dp, hf, q⟩ => by
  subst e1 e2
  unfold fJoin at hf
  split at hf
  · split at hf
    · rename_i ys hy
      split at hf
      · rename_i hz
        cases hf
        cases dp with
        | lst k1 k2 =>
          rw [strsOf_eq hy] at k2
          have := dpa_strs' ys k2
          subst this
          exact ⟨a, _, ys, rfl, rfl, .inl (s.seq k1), of_decide_eq_true hz, q.here s (.str _)⟩
      · cases hf
    · cases hf
  · cases hf
def fS (h : Str → Str → D) (a : Str) : D → R D
  | .str b => .ok (h a b)
  | _ => .bad
theorem calmS (h : Str → Str → D) : ∀ a d c, fS h a d ≠ .exc c := fun a d c w => by unfold fS at w; split at w <;> cases w
theorem fS_ok {K : PySem.W.Frag} {h : Str → Str → D} {x : V} {xs : List V} {H : Hp} {Q : VK} (w : rMD K (fS h) x xs H Q) : ∃ a b, x = .str a ∧ xs = [.str b] ∧ ∃ F, Same F H ∧ Fin K F H (h a b) Q := by
  obtain ⟨a, y, d, F, r, e1, e2, s, dp, hf, q⟩ := w
  unfold fS at hf
  split at hf
  · cases dp; cases hf; exact ⟨a, _, e1, e2, F, s, q⟩
  · cases hf
theorem m_startswith : MtD X "startswith" (fS fun a b => .bool (Txt.startswith a b)) := .mk' PySem.F.slot_str_startswith PySem.F.type_str_startswith mt_startswith (calmS _) fun x xs H Q w => by
  obtain ⟨a, b, e1, e2, F, s, q⟩ := fS_ok w
  exact ⟨a, b, e1, e2, q.here s (.bl _)⟩
theorem m_endswith : MtD X "endswith" (fS fun a b => .bool (Txt.endswith a b)) := .mk' PySem.F.slot_str_endswith PySem.F.type_str_endswith mt_endswith (calmS _) fun x xs H Q w => by
  obtain ⟨a, b, e1, e2, F, s, q⟩ := fS_ok w
  exact ⟨a, b, e1, e2, q.here s (.bl _)⟩
theorem m_find : MtD X "find" (fS fun a b => .int (Txt.find a b)) := .mk' PySem.F.slot_str_find PySem.F.type_str_find mt_find (calmS _) fun x xs H Q w => by
  obtain ⟨a, b, e1, e2, F, s, q⟩ := fS_ok w
  exact ⟨a, b, e1, e2, q.here s (.int _)⟩
theorem m_rfind : MtD X "rfind" (fS fun a b => .int (Txt.rfind a b)) := .mk' PySem.F.slot_str_rfind PySem.F.type_str_rfind mt_rfind (calmS _) fun x xs H Q w => by
  obtain ⟨a, b, e1, e2, F, s, q⟩ := fS_ok w
  exact ⟨a, b, e1, e2, q.here s (.int _)⟩
theorem m_count : MtD X "count" (fS fun a b => .int (Txt.count a b)) := .mk' PySem.F.slot_str_count PySem.F.type_str_count mt_count (calmS _) fun x xs H Q w => by
  obtain ⟨a, b, e1, e2, F, s, q⟩ := fS_ok w
  exact ⟨a, b, e1, e2, q.here s (.int _)⟩
def fStrip (a : Str) : D → R D
  | .str b => if a.length ≤ sizeLine then .ok (.str (Txt.stripChars a b)) else .bad
  | _ => .bad
theorem m_strip : MtD X "strip" fStrip := .mk' PySem.F.slot_str_strip PySem.F.type_str_strip mt_stripChars (fun a d c h => by unfold fStrip at h; split at h <;> first | cases h | (split at h <;> cases h)) fun x xs H Q ⟨a, y, d, F, r, e1, e2, s, dp, hf, q⟩ => by
  subst e1 e2
  unfold fStrip at hf
  split at hf
  · split at hf
    · rename_i hz
      cases dp; cases hf
      exact ⟨a, _, rfl, rfl, hz, q.here s (.str _)⟩
    · cases hf
  · cases hf
def fSIndex (a : Str) : D → R D
  | .str b => (match Builtin.Str.occurrences a b 0 a.length 1 with | i :: _ => .ok (.int (i : Nat)) | [] => .bad)
  | _ => .bad
theorem m_sindex : MtD X "index" fSIndex := .mk' PySem.F.slot_str_index PySem.F.type_str_index mt_sindex (fun a d c h => by unfold fSIndex at h; split at h <;> first | cases h | (split at h <;> cases h)) fun x xs H Q ⟨a, y, d, F, r, e1, e2, s, dp, hf, q⟩ => by
  subst e1 e2
  unfold fSIndex at hf
  split at hf
  · split at hf
    · rename_i i rest hz
      cases dp; cases hf
      exact ⟨a, _, i, rest, rfl, rfl, hz, q.here s (.int _)⟩
    · cases hf
  · cases hf
def gM0 (f : Str → R D) (go : G → R D) (Γ : G) : R D := (go Γ).bind (asS f)
theorem d_isalnum {o : Expr} {apos pos : Pos} {go : G → R D} (ho : DE X B E o go) (hbase : attributeBase o "isalnum" X.env (eval o X.env) = eval o X.env := by rfl) (hline : (apos.endLine == pos.line) = true := by rfl) :
    DE X B E (.Call (.Attribute o "isalnum" apos) [] [] pos) (gM0 (fun a => .ok (.bool (Txt.isalnum a))) go) :=
  pe_imp (pe_m0 PySem.F.slot_str_isalnum PySem.F.type_str_isalnum mt_isalnum ho hbase hline) fun σ H Q h => by
    obtain ⟨Γ, F, s, er, w⟩ := tD.bind (f := fun Γ => asS fun a => .ok (.bool (Txt.isalnum a))) h
    refine ⟨Γ, F, s, er, ?_⟩
    revert w
    cases go Γ with
    | exc c => exact fun o => o
    | bad => exact fun o => o
    | ok d =>
      intro w v F1 H1 x1 dp1
      obtain ⟨Γ2, d2, F2, s2, er2, dp2, o2⟩ := w v F1 H1 x1 dp1
      cases dp2 with
      | str a => exact ⟨⟨a, rfl⟩, a, rfl, rfl, trivial, o2 _ F2 H1 (Ext.refl s2) (.bl _)⟩
      | _ => exact o2.elim

/-! ### l.index(x) of a list -/
def idxD (d : D) : List D → Option Nat
  | [] => none
  | z :: zs => if PyData.eqv z d = true then some 0 else (idxD d zs).map (· + 1)
theorem idxD_some : ∀ {d : D} {ds : List D} {j : Nat}, idxD d ds = some j → ∃ z, ds[j]? = some z ∧ PyData.eqv z d = true ∧ ∀ (m : Nat) (z' : D), m < j → ds[m]? = some z' → PyData.eqv z' d = false
  | d, [], j, h => by cases h
  | d, z :: zs, j, h => by
    unfold idxD at h
    by_cases e : PyData.eqv z d = true
    · rw [if_pos e] at h
      cases h
      exact ⟨z, rfl, e, fun m z' hm _ => absurd hm (by omega)⟩
    · rw [if_neg e] at h
      cases q : idxD d zs with
      | none => rw [q] at h; cases h
      | some i =>
        rw [q] at h
        cases h
        obtain ⟨z2, a, b, c⟩ := idxD_some q
        refine ⟨z2, by simpa using a, b, fun m z' hm hz => ?_⟩
        cases m with
        | zero =>
          simp at hz
          subst hz
          exact Bool.eq_false_iff.mpr e
        | succ m => exact c m z' (Nat.lt_of_succ_lt_succ hm) (by simpa using hz)
def fLIndex : D → D → R D
  | .list ds, d => if SeqAt.shaped d = true ∧ SeqAt.shaped (.list ds) = true then (match idxD d ds with | some j => .ok (.int (j : Nat)) | none => .bad) else .bad
  | _, _ => .bad
def gLM (f : D → D → R D) (go ge : G → R D) (Γ : G) : R D := (go Γ).bind fun l => if isList l = true then (ge Γ).bind fun d => f l d else .bad
theorem d_lindex {o e : Expr} {apos pos : Pos} {go ge : G → R D} (hr : RU X.A) (ho : DE X B E o go) (he : DE X B E e ge)
    (hbase : attributeBase o "index" X.env (eval o X.env) = eval o X.env := by rfl)
    (hfew : ((backTo pos (starEach [e] X.env)).all (fun x => !x.1) && (backToKw pos (keywordEach [] X.env)).all (fun x => x.1.isSome)
      && decide ([e].length + ([] : List Keyword).length + (if ([] : List Keyword).isEmpty then 0 else 1) < 30)) = true := by rfl)
    (hline : (apos.endLine == pos.line) = true := by rfl) (hs : starEach [e] X.env = (false, eval e X.env) :: starEach [] X.env := by rfl) (hplain : (backTo pos (starEach [] X.env)).any (·.1) = false := by rfl) :
    DE X B E (.Call (.Attribute o "index" apos) [e] [] pos) (gLM fLIndex go ge) :=
  pe_imp (pe_bm PySem.F.plainAttrs_list PySem.F.slot_list_index PySem.F.type_list_index (mt_indexD (by have := hr.un; omega)) ho (pa_cons he pa_nil hs) hbase hfew hline hs hplain) fun σ H Q h => by
    obtain ⟨Γ, F, s, er, w⟩ := tD.bind (f := fun Γ l => if isList l = true then (ge Γ).bind fun d => fLIndex l d else .bad) h
    refine ⟨Γ, F, s, er, ?_⟩
    revert w
    cases go Γ with
    | exc c => exact fun o => o
    | bad => exact fun o => o
    | ok d =>
      intro w v F1 H1 x1 dp1
      obtain ⟨Γ2, d2, F2, s2, er2, dp2, o2⟩ := w v F1 H1 x1 dp1
      cases dp2 with
      | @lst a vs zs k1 k2 =>
        refine ⟨.inl ⟨rfl, _, s2.seq k1⟩, Γ2, F2, s2, er2, ?_⟩
        have o3 : Out X.K X.mg F2 H1 (E σ) ((ge Γ2).bind fun d => fLIndex (.list zs) d) Q := o2
        revert o3
        cases ge Γ2 with
        | exc c => exact fun o => o
        | bad => exact fun o => o
        | ok e2 =>
          intro o3 u F4 H4 x4 dp4
          simp only [R.bind_ok, fLIndex] at o3
          split at o3
          · rename_i hz
            cases ej : idxD e2 zs with
            | none => rw [ej] at o3; exact o3.elim
            | some j =>
              rw [ej] at o3
              obtain ⟨z, i1, i2, i3⟩ := idxD_some ej
              exact ⟨a, u, e2, zs, j, z, rfl, rfl, dp_mono (x4.f.trans x4.fh) (.lst k1 k2), dp_mono x4.fh dp4, hz.2, hz.1, i1, i2, i3, o3 _ F4 H4 x4 (.int _)⟩
          · exact o3.elim
      | _ => exact o2.elim

/-! ### slices -/
def cutG {α : Type} (xs : List α) (lo hi : Option Int) : List α := (xs.drop (HT.sIx xs.length 0 lo)).take (HT.sIx xs.length xs.length hi - HT.sIx xs.length 0 lo)
def fSl : D → Option Int → Option Int → R D
  | .str z, lo, hi => if z.length ≤ sizeLine then .ok (.str (cutS z lo hi)) else .bad
  | .list xs, lo, hi => .ok (.list (cutG xs lo hi))
  | .tuple xs, lo, hi => .ok (.tuple (cutG xs lo hi))
  | _, _, _ => .bad
theorem dpa_cut {K : PySem.W.Frag} {F : Hp} {ds : List D} {vs : List V} (h : DpAll K F vs ds) (lo hi : Option Int) : DpAll K F (cutV vs lo hi) (cutG ds lo hi) := by
  unfold cutV cutG
  rw [dpa_length h]
  exact dpa_take _ (dpa_drop _ h)
theorem sIx_le' (n d : Nat) (hd : d ≤ n) : ∀ lo, HT.sIx n d lo ≤ n := fun lo => HT.sIx_le _ _ hd _
def asI : D → R (Option Int)
  | .int i => .ok (some i)
  | _ => .bad
def oNone (_ : G) : R (Option Int) := .ok none
def oSome (g : G → R D) (Γ : G) : R (Option Int) := (g Γ).bind asI
def OutO (mg : Str → Option Value) (F H : Hp) (E : XK) (r : R (Option Int)) (Q : Option Int → Hp → Prop) : Prop := match r with
  | .ok b => ∀ F' H', Ext F H F' H' → Q b H'
  | .exc c => ∀ C F' H', mg c = some (.ref C) → Ext F H F' H' → E (.ref C) none H'
  | .bad => False
def tDO (K : PySem.W.Frag) (mg : Str → Option Value) (B : Hp) (E : L2.St → XK) (g : G → R (Option Int)) : TO := fun σ H Q => ∃ Γ F, Same F H ∧ ER K B F H σ Γ ∧ OutO mg F H (E σ) (g Γ) Q
abbrev DO (X : Cx) (B : Hp) (E : L2.St → XK) (e : Option Expr) (g : G → R (Option Int)) : Prop := PO X e (tDO X.K X.mg B E g)
theorem po_imp {e : Option Expr} {t t' : TO} (h : PO X e t) (i : ∀ σ H Q, t' σ H Q → t σ H Q) : PO X e t' := ⟨fun pins s σ H Q I w => h.run pins s σ H Q I (i _ _ _ w)⟩
theorem o_none : DO X B E none oNone := po_imp po_none fun σ H Q ⟨Γ, F, s, er, o⟩ => o F H (Ext.refl s)
theorem o_some {e : Expr} {g : G → R D} (h : DE X B E e g) : DO X B E (some e) (oSome g) := po_imp (po_some h) fun σ H Q ⟨Γ, F, s, er, o⟩ => by
  refine ⟨Γ, F, s, er, ?_⟩
  unfold oSome at o
  revert o
  cases g Γ with
  | exc c => exact fun o => o
  | bad => exact fun o => o
  | ok d =>
    intro o v F1 H1 x1 dp1
    cases dp1 with
    | int i => exact ⟨i, rfl, o F1 H1 x1⟩
    | _ => exact o.elim
def gSl (g : G → R D) (lo hi : G → R (Option Int)) (Γ : G) : R D := (g Γ).bind fun d => (lo Γ).bind fun l => (hi Γ).bind fun h => fSl d l h
theorem d_slice {e : Expr} {lo hi : Option Expr} {p2 pos : Pos} {g : G → R D} {gl gh : G → R (Option Int)} (he : DE X B E e g) (hl : DO X B E lo gl) (hh : DO X B E hi gh) : DE X B E (.Subscript e (.Slice lo hi none p2) pos) (gSl g gl gh) :=
  pe_imp (pe_slice (sl_str.or (sl_list.or sl_tupA)) he hl hh) fun σ H Q h => by
    obtain ⟨Γ, F, s, er, w⟩ := tD.bind (f := fun Γ d => (gl Γ).bind fun l => (gh Γ).bind fun h => fSl d l h) h
    refine ⟨Γ, F, s, er, ?_⟩
    revert w
    cases g Γ with
    | exc c => exact fun o => o
    | bad => exact fun o => o
    | ok d =>
      intro w v F1 H1 x1 dp1
      obtain ⟨Γ2, d2, F2, s2, er2, dp2, o2⟩ := w v F1 H1 x1 dp1
      refine ⟨Γ2, F2, s2, er2, ?_⟩
      revert o2
      cases gl Γ2 with
      | exc c => exact fun o => o
      | bad => exact fun o => o
      | ok l =>
        intro o2 F3 H3 x3
        refine ⟨Γ2, F3, x3.fh, er2.ext x3, ?_⟩
        simp only [R.bind_ok] at o2
        revert o2
        cases gh Γ2 with
        | exc c => exact fun o C F4 H4 m x4 => o C F4 H4 m (x3.trans x4)
        | bad => exact fun o => o
        | ok u =>
          intro o2 F4 H4 x4
          simp only [R.bind_ok] at o2
          have x34 := x3.trans x4
          have q : ∀ r, fSl d2 l u = .ok r → Fin X.K F4 H4 r Q := fun r e => by
            rw [e] at o2
            exact fun v F5 H5 x5 d5 => o2 v F5 H5 (x34.trans x5) d5
          have nb : fSl d2 l u ≠ .bad := fun e => by rw [e] at o2; exact o2
          have dp4 : Dp X.K F4 v d2 := dp_mono x34.f dp2
          cases dp4 with
          | str z =>
            by_cases hz : z.length ≤ sizeLine
            · exact .inl ⟨z, rfl, hz, (q _ (if_pos hz)).here x4.fh (.str _)⟩
            · exact (nb (if_neg hz)).elim
          | lst k1 k2 => exact .inr (.inl ⟨_, _, rfl, x4.fh.seq k1, (q _ rfl).newL x4.fh (dpa_cut k2 l u)⟩)
          | @tup a vs zs k1 k2 =>
            refine .inr (.inr ⟨_, _, rfl, same_seqT x4.fh k1, fun e => ?_, fun _ => (q _ rfl).newT x4.fh (dpa_cut k2 l u)⟩)
            refine (q _ rfl).here x4.fh ?_
            have ec : cutG zs l u = zs := by
              have h1 := dpa_length k2
              unfold cutG
              rw [← h1, e.1, e.2]
              simp [h1]
            rw [ec]
            exact .tup k1 k2
          | _ => exact (nb rfl).elim
/-! ### - -/
def fNeg : D → R D
  | .int i => .ok (.int (-i))
  | _ => .bad
def gNeg (g : G → R D) (Γ : G) : R D := (g Γ).bind fNeg
theorem d_neg {e : Expr} {pos : Pos} {g : G → R D} (h : DE X B E e g) : DE X B E (.UnaryOp .USub e pos) (gNeg g) :=
  pe_imp (pe_un un_neg h) fun σ H Q ⟨Γ, F, s, er, o⟩ => by
    refine ⟨Γ, F, s, er, ?_⟩
    unfold gNeg at o
    revert o
    cases g Γ with
    | exc c => exact fun o => o
    | bad => exact fun o => o
    | ok d =>
      intro o v F1 H1 x1 dp1
      cases dp1 with
      | int i => exact ⟨i, rfl, o _ F1 H1 x1 (.int _)⟩
      | _ => exact o.elim
end
end ND
namespace ND
open PySem PySem.Spec L2

/-! ### own defs -/
def spD (K : PySem.W.Frag) (mg : Str → Option Value) (g : List D → R D) : Sp := fun vs H Q E => ∃ ds F, Same F H ∧ DpAll K F vs ds ∧ Out K mg F H E (g ds) Q
/-- a def of the program keeps the word g, by at most k levels -/
structure FK (P : Program) (w : World) (K : PySem.W.Frag) (mg : Str → Option Value) (base : Heap) (k : Nat) (x : Str) (g : List D → R D) : Prop where
  ex : ∃ (f : Addr) (fd : FuncData) (ps : List Str), FnOk P w K mg base (L2.CX P w) k f fd ps (spD K mg g) ∧ mg x = some (.ref f) ∧ PySem.W.keepIn K (.ref f) = true ∧ Binds K fd ps []
def gOwn (g : List D → R D) (gs : G → R (List D)) (Γ : G) : R D := (gs Γ).bind g
section
variable {X : Cx} {B : Hp} {E : L2.St → XK}
theorem d_call {j k : Nat} {x : Str} {g : List D → R D} {p pos : Pos} {e : Expr} {es : List Expr} {gs : G → R (List D)} (F : FK X.prog X.w X.K X.mg X.base j x g) (hr : Room k X.A) (hx : ∀ σ, PassesAt (L2.CX X.prog X.w) X σ (E σ)) (ha : DA X B E (e :: es) gs)
    (hk : j ≤ k := by decide) (hg : Gl X x := by rfl) (hdb : (x == ("__debug__" : Str)) = false := by decide) (he : starEach (e :: es) X.env = (false, eval e X.env) :: starEach es X.env := by rfl) (hpl : (backTo pos (starEach es X.env)).any (·.1) = false := by rfl) :
    DE X B E (.Call (.Name x p) (e :: es) [] pos) (gOwn g gs) := by
  obtain ⟨f, fd, ps, ok, hm, kp, hb⟩ := F.ex
  refine pe_imp (pe_callS (E := E) ok (hr.mono hk) hg hm kp hb hx ha hdb he hpl) fun σ H Q ⟨Γ, F, s, er, o⟩ => ?_
  refine ⟨Γ, F, s, er, ?_⟩
  unfold gOwn at o
  revert o
  cases gs Γ with
  | exc c => exact fun o => o
  | bad => exact fun o => o
  | ok ds => exact fun o vs F' H' x dp => ⟨ds, F', x.fh, dp, Out.ext o x⟩

/-! ### what a loop walks -/
/-- the walk J gives the items ds, each standing in what is frozen -/
def WalkD (K : PySem.W.Frag) (F : Hp) (J : It) (ds : List D) : Prop := ∃ (W : Hp → Prop) (Y : Nat → Hp → V → Hp → Prop), Walk J ds.length W Y ∧ (∀ H, Same F H → W H) ∧
  ∀ i H x H' d F2, Same F F2 → Same F2 H → ds[i]? = some d → Y i H x H' → ∃ F3, Ext F2 H F3 H' ∧ Dp K F3 x d
theorem WalkD.mono {K : PySem.W.Frag} {F F' : Hp} {J : It} {ds : List D} (h : WalkD K F J ds) (s : Same F F') : WalkD K F' J ds := by
  obtain ⟨W, Y, a, b, c⟩ := h
  exact ⟨W, Y, a, fun H q => b H (s.trans q), fun i H x H' d F2 q => c i H x H' d F2 (s.trans q)⟩
def iD (K : PySem.W.Frag) (mg : Str → Option Value) (B : Hp) (E : L2.St → XK) (gi : G → R (List D)) : TI := fun σ H Rr => ∃ Γ F, Same F H ∧ ER K B F H σ Γ ∧ match gi Γ with
  | .ok ds => ∀ J F' H', Ext F H F' H' → WalkD K F' J ds → Rr J H'
  | .exc c => ∀ C F' H', mg c = some (.ref C) → Ext F H F' H' → E σ (.ref C) none H'
  | .bad => False
abbrev DI (X : Cx) (B : Hp) (E : L2.St → XK) (tg e : Expr) (gi : G → R (List D)) : Prop := PI X tg e (iD X.K X.mg B E gi)
theorem pi_imp {tg e : Expr} {t t' : TI} (h : PI X tg e t) (i : ∀ σ H Q, t' σ H Q → t σ H Q) : PI X tg e t' := ⟨fun pins s σ H Q I w => h.run pins s σ H Q I (i _ _ _ w)⟩

theorem wd_list {K : PySem.W.Frag} {F : Hp} {a : Addr} {vs : List V} {ds : List D} (h : SqL K F a vs) (k : DpAll K F vs ds) : WalkD K F (Itl K a) ds := by
  refine ⟨_, _, by rw [← dpa_length k]; exact walk_list, fun H s => s.seq h, fun i H x H' d F2 s s2 e y => ?_⟩
  obtain ⟨rfl, ex⟩ := y
  obtain ⟨d', e', dp⟩ := dpa_getv k ex
  rw [e] at e'; cases e'
  exact ⟨F2, Ext.refl s2, dp_mono s dp⟩
theorem wd_tup {K : PySem.W.Frag} {F : Hp} {a : Addr} {vs : List V} {ds : List D} (h : SqT K F a vs) (k : DpAll K F vs ds) : WalkD K F (Itt K a) ds := by
  refine ⟨_, _, by rw [← dpa_length k]; exact walk_tup, fun H s => same_seqT s h, fun i H x H' d F2 s s2 e y => ?_⟩
  obtain ⟨rfl, ex⟩ := y
  obtain ⟨d', e', dp⟩ := dpa_getv k ex
  rw [e] at e'; cases e'
  exact ⟨F2, Ext.refl s2, dp_mono s dp⟩
def signs (z : Str) : List D := z.cps.toList.map fun c => .str ⟨#[c]⟩
theorem wd_str {K : PySem.W.Frag} {F : Hp} {z : Str} : WalkD K F (Its z) (signs z) := by
  refine ⟨_, _, by unfold signs; rw [List.length_map, Array.length_toList]; exact walk_str, fun H s => trivial, fun i H x H' d F2 s s2 e y => ?_⟩
  obtain ⟨rfl, c, ec, rfl⟩ := y
  unfold signs at e
  rw [List.getElem?_map, Array.getElem?_toList, ec] at e
  cases e
  exact ⟨F2, Ext.refl s2, .str _⟩
def itD : D → R (List D)
  | .list ds => .ok ds
  | .tuple ds => .ok ds
  | .str z => .ok (signs z)
  | _ => .bad
def gIt (g : G → R D) (Γ : G) : R (List D) := (g Γ).bind itD
def iAny (K : PySem.W.Frag) (te : TE) : TI := fun σ H Rr => te σ H fun x H1 => (∃ a, x = .ref a ∧ (∃ xs, SqL K H1 a xs) ∧ Rr (Itl K a) H1) ∨ (∃ a, x = .ref a ∧ (∃ xs, SqT K H1 a xs) ∧ Rr (Itt K a) H1) ∨ (∃ z, x = .str z ∧ Rr (Its z) H1)
theorem pi_any {tg l : Expr} {tl : TE} (hl : PE X l tl) : PI X tg l (iAny X.K tl) := by
  refine ⟨fun pins s σ H Rr I h => ?_⟩
  refine thn (hl.run pins s σ H _ I h) fun v s1 ⟨x, H1, I1, r1, q1⟩ => ?_
  rcases q1 with ⟨a, e, ⟨xs, hq⟩, q⟩ | ⟨a, e, ⟨xs, hq⟩, q⟩ | ⟨x, ex, q⟩
  · subst e
    cases r1
    obtain ⟨its, rv, p, hz⟩ := I1.list hq
    refine wpAny_pyIter_list p.isList ?_
    refine ⟨s1.heap.objs.size, [s1.heap.objs.size], _, _, H1, rfl, I1.kept (t' := s1.toks) fun b o e => Heap.get?_push_of_some _ e, turn_list a _, ⟨_, Heap.get?_push_size _ rfl, rfl, rfl⟩, fun b hb => ?_, q⟩
    have e : b = s1.heap.objs.size := by simpa using hb
    subst e
    exact I1.fpOk (Nat.le_refl _) (I1.hok.fresh (Nat.le_refl _))
  · subst e
    cases r1
    obtain ⟨its, rv, p, hz⟩ := I1.tuple hq
    refine wpAny_pyIter_tuple (show s1.heap.IsTuple a its.toArray from p) ?_
    refine ⟨s1.heap.objs.size, [s1.heap.objs.size], _, _, H1, rfl, I1.kept (t' := s1.toks) fun b o e => Heap.get?_push_of_some _ e, turn_tuple a _, ⟨_, Heap.get?_push_size _ rfl, rfl, rfl⟩, fun b hb => ?_, q⟩
    have e : b = s1.heap.objs.size := by simpa using hb
    subst e
    exact I1.fpOk (Nat.le_refl _) (I1.hok.fresh (Nat.le_refl _))
  · subst ex
    obtain ⟨t, rfl⟩ := r1
    cases ha : x.cps.all (· < 128)
    · exact wpAny_pyIter_wide ha (pi_one (tk := s1.toks) I1 _ (turn_str _ x t "str_iterator" (.inr rfl)) ⟨_, Heap.get?_push_size _ rfl, rfl, rfl⟩ q)
    · exact wpAny_pyIter_ascii ha (pi_one (tk := s1.toks) I1 _ (turn_str _ x t "str_ascii_iterator" (.inl rfl)) ⟨_, Heap.get?_push_size _ rfl, rfl, rfl⟩ q)
theorem i_val {tg e : Expr} {g : G → R D} (h : DE X B E e g) : DI X B E tg e (gIt g) :=
  pi_imp (pi_any h) fun σ H Rr ⟨Γ, F, s, er, o⟩ => by
    refine ⟨Γ, F, s, er, ?_⟩
    unfold gIt at o
    revert o
    cases g Γ with
    | exc c => exact fun o => o
    | bad => exact fun o => o
    | ok d =>
      intro o v F' H' x dp
      simp only [R.bind_ok] at o
      cases dp with
      | @lst a vs ds k1 k2 => exact .inl ⟨a, rfl, ⟨vs, x.fh.seq k1⟩, o _ F' H' x (wd_list k1 k2)⟩
      | @tup a vs ds k1 k2 => exact .inr (.inl ⟨a, rfl, ⟨vs, same_seqT x.fh k1⟩, o _ F' H' x (wd_tup k1 k2)⟩)
      | str z => exact .inr (.inr ⟨z, rfl, o _ F' H' x wd_str⟩)
      | _ => exact o.elim
/-! range -/
def rangeL (lo : Int) (n : Nat) : List D := (List.range n).map fun i => .int (lo + (i : Nat))
theorem wd_range {K : PySem.W.Frag} {F : Hp} {lo : Int} {n : Nat} : WalkD K F (Itr lo n) (rangeL lo n) := by
  refine ⟨_, _, by unfold rangeL; rw [List.length_map, List.length_range]; exact walk_range, fun H s => trivial, fun i H x H' d F2 s s2 e y => ?_⟩
  obtain ⟨rfl, rfl⟩ := y
  unfold rangeL at e
  rw [List.getElem?_map] at e
  cases q : (List.range n)[i]? with
  | none => rw [q] at e; cases e
  | some j =>
    rw [q] at e
    obtain ⟨h1, h2⟩ := List.getElem?_eq_some_iff.mp q
    rw [List.getElem_range] at h2
    subst h2
    cases e
    exact ⟨F2, Ext.refl s2, .int _⟩
open Classical in
noncomputable def rg1 : List D → R (List D)
  | [.int j] => if -(2 ^ 62) ≤ j ∧ j < 2 ^ 62 then .ok (rangeL 0 j.toNat) else .bad
  | _ => .bad
noncomputable def gRg1 (gs : G → R (List D)) (Γ : G) : R (List D) := (gs Γ).bind rg1
theorem i_range1 {tg a : Expr} {p pos : Pos} {gs : G → R (List D)} (hg : Gl X "range") (hm : X.mg "range" = none) (ha : DA X B E [a] gs) (hs : starEach [a] X.env = [(false, eval a X.env)] := by rfl) : DI X B E tg (.Call (.Name "range" p) [a] [] pos) (gRg1 gs) :=
  pi_imp (pi_range1 hg hm ha hs) fun σ H Rr ⟨Γ, F, s, er, o⟩ => by
    refine ⟨Γ, F, s, er, ?_⟩
    unfold gRg1 at o
    revert o
    cases gs Γ with
    | exc c => exact fun o => o
    | bad => exact fun o => o
    | ok ds =>
      intro o vs F' H' x dp
      simp only [R.bind_ok] at o
      unfold rg1 at o
      split at o
      · rename_i heq
        split at heq
        · rename_i j
          split at heq
          · rename_i hz
            cases heq
            cases dp with
            | cons h1 h2 =>
              cases h1; cases h2
              exact ⟨j, rfl, hz.1, hz.2, o _ F' H' x wd_range⟩
          · cases heq
        · cases heq
      · rename_i heq
        split at heq
        · split at heq <;> cases heq
        · cases heq
      · exact o.elim
open Classical in
noncomputable def rg2 : List D → R (List D)
  | [.int i, .int j] => if -(2 ^ 62) ≤ i ∧ i < 2 ^ 62 ∧ -(2 ^ 62) ≤ j ∧ j < 2 ^ 62 then .ok (rangeL i (j - i).toNat) else .bad
  | _ => .bad
noncomputable def gRg2 (gs : G → R (List D)) (Γ : G) : R (List D) := (gs Γ).bind rg2
theorem i_range2 {tg a b : Expr} {p pos : Pos} {gs : G → R (List D)} (hg : Gl X "range") (hm : X.mg "range" = none) (ha : DA X B E [a, b] gs) (hs : starEach [a, b] X.env = [(false, eval a X.env), (false, eval b X.env)] := by rfl) (hs2 : starEach [b] X.env = [(false, eval b X.env)] := by rfl) :
    DI X B E tg (.Call (.Name "range" p) [a, b] [] pos) (gRg2 gs) :=
  pi_imp (pi_range2 hg hm ha hs hs2) fun σ H Rr ⟨Γ, F, s, er, o⟩ => by
    refine ⟨Γ, F, s, er, ?_⟩
    unfold gRg2 at o
    revert o
    cases gs Γ with
    | exc c => exact fun o => o
    | bad => exact fun o => o
    | ok ds =>
      intro o vs F' H' x dp
      simp only [R.bind_ok] at o
      unfold rg2 at o
      split at o
      · rename_i heq
        split at heq
        · rename_i i j
          split at heq
          · rename_i hz
            cases heq
            cases dp with
            | cons h1 h2 =>
              cases h2 with
              | cons h3 h4 =>
                cases h1; cases h3; cases h4
                exact ⟨i, j, rfl, hz, o _ F' H' x wd_range⟩
          · cases heq
        · cases heq
      · rename_i heq
        split at heq
        · split at heq <;> cases heq
        · cases heq
      · exact o.elim
/-! pairs: enumerate, zip -/
def enumL (ds : List D) : List D := (ds.zipIdx).map fun (d, i) => .tuple [.int (i : Nat), d]
def zipL : List D → List D → List D
  | x :: xs, y :: ys => .tuple [x, y] :: zipL xs ys
  | _, _ => []
theorem zipL_length : ∀ (xs ys : List D), (zipL xs ys).length = min xs.length ys.length
  | [], ys => by simp [zipL]
  | x :: xs, [] => by simp [zipL]
  | x :: xs, y :: ys => by simp [zipL, zipL_length xs ys]
theorem zipL_get : ∀ (xs ys : List D) (i : Nat) (d : D), (zipL xs ys)[i]? = some d → ∃ x y, xs[i]? = some x ∧ ys[i]? = some y ∧ d = .tuple [x, y]
  | [], ys, i, d, h => by simp [zipL] at h
  | x :: xs, [], i, d, h => by simp [zipL] at h
  | x :: xs, y :: ys, 0, d, h => by simp [zipL] at h; exact ⟨x, y, rfl, rfl, h.symm⟩
  | x :: xs, y :: ys, i + 1, d, h => by
    obtain ⟨a, b, h1, h2, h3⟩ := zipL_get xs ys i d (by simpa [zipL] using h)
    exact ⟨a, b, by simpa using h1, by simpa using h2, h3⟩
theorem enumL_get (ds : List D) (i : Nat) (d : D) (h : (enumL ds)[i]? = some d) : ∃ x, ds[i]? = some x ∧ d = .tuple [.int (i : Nat), x] := by
  unfold enumL at h
  rw [List.getElem?_map, List.getElem?_zipIdx] at h
  cases q : ds[i]? with
  | none => rw [q] at h; cases h
  | some x =>
    rw [q] at h
    simp at h
    exact ⟨x, rfl, h.symm⟩
theorem pair_new {K : PySem.W.Frag} {F2 H : Hp} {T : Addr} {x y : V} {dx dy : D} (s : Same F2 H) (hT : H T = none) (h1 : Dp K F2 x dx) (h2 : Dp K F2 y dy) : ∃ F3, Ext F2 H F3 (upd H T (.tup [x, y])) ∧ Dp K F3 (.ref T) (.tuple [dx, dy]) :=
  ⟨_, Ext.new s hT _, dp_newT s hT (.cons h1 (.cons h2 .nil))⟩
theorem wd_enum {K : PySem.W.Frag} {F : Hp} {a : Addr} {vs : List V} {ds : List D} (h : SqL K F a vs) (k : DpAll K F vs ds) : WalkD K F (Ite K a) (enumL ds) := by
  refine ⟨_, _, by unfold enumL; rw [List.length_map, List.length_zipIdx, ← dpa_length k]; exact walk_enum, fun H s => s.seq h, fun i H x H' d F2 s s2 e y => ?_⟩
  obtain ⟨T, u, w, rfl, hT, rfl, eu, ew⟩ := y
  obtain ⟨z, ez, rfl⟩ := enumL_get ds i d e
  obtain ⟨z', e', dp⟩ := dpa_getv k ew
  rw [ez] at e'; cases e'
  cases eu
  exact pair_new s2 hT (.int _) (dp_mono s dp)
theorem wd_zip {K : PySem.W.Frag} {F : Hp} {a b : Addr} {vs ws : List V} {ds es : List D} (h : SqL K F a vs) (k : DpAll K F vs ds) (h2 : SqL K F b ws) (k2 : DpAll K F ws es) : WalkD K F (Itz K a b) (zipL ds es) := by
  refine ⟨_, _, walk_zip (xs := vs) (ys := ws) (by rw [zipL_length, dpa_length k, dpa_length k2]), fun H s => ⟨s.seq h, s.seq h2⟩, fun i H x H' d F2 s s2 e y => ?_⟩
  obtain ⟨T, u, w, rfl, hT, rfl, eu, ew⟩ := y
  obtain ⟨z1, z2, e1, e2, rfl⟩ := zipL_get ds es i d e
  obtain ⟨z', e', dp⟩ := dpa_getv k eu
  rw [e1] at e'; cases e'
  obtain ⟨z', e', dp2⟩ := dpa_getv k2 ew
  rw [e2] at e'; cases e'
  exact pair_new s2 hT (dp_mono s dp) (dp_mono s dp2)
theorem walk_zipT {K : PySem.W.Frag} {a b : Addr} {xs ys : List V} {n : Nat} (hn : n = min xs.length ys.length) : Walk (RZ.ItzT K a b) n (fun H => SqT K H a xs ∧ SqT K H b ys) (YPair (fun i => xs[i]?) (fun i => ys[i]?)) := by
  subst hn
  refine ⟨fun i _ hi q => ?_, fun _ q => ⟨xs, ys, q.1, q.2, by omega⟩, fun i H v H' _ q y => ?_⟩
  · have h1 : i < xs.length := by omega
    have h2 : i < ys.length := by omega
    exact ⟨xs, ys, xs[i], ys[i], q.1, q.2, by simp [h1], by simp [h2]⟩
  · obtain ⟨T, x, z, h1, h2, h3, h4, h5⟩ := y
    exact ⟨T, x, z, h1, h2, h3, h4 xs q.1, h5 ys q.2⟩
theorem wd_zipT {K : PySem.W.Frag} {F : Hp} {a b : Addr} {vs ws : List V} {ds es : List D} (h : SqT K F a vs) (k : DpAll K F vs ds) (h2 : SqT K F b ws) (k2 : DpAll K F ws es) : WalkD K F (RZ.ItzT K a b) (zipL ds es) := by
  refine ⟨_, _, walk_zipT (xs := vs) (ys := ws) (by rw [zipL_length, dpa_length k, dpa_length k2]), fun H s => ⟨same_seqT s h, same_seqT s h2⟩, fun i H x H' d F2 s s2 e y => ?_⟩
  obtain ⟨T, u, w, rfl, hT, rfl, eu, ew⟩ := y
  obtain ⟨z1, z2, e1, e2, rfl⟩ := zipL_get ds es i d e
  obtain ⟨z', e', dp⟩ := dpa_getv k eu
  rw [e1] at e'; cases e'
  obtain ⟨z', e', dp2⟩ := dpa_getv k2 ew
  rw [e2] at e'; cases e'
  exact pair_new s2 hT (dp_mono s dp) (dp_mono s dp2)
def zp : List D → R (List D)
  | [.list xs, .list ys] => .ok (zipL xs ys)
  | [.tuple xs, .tuple ys] => .ok (zipL xs ys)
  | _ => .bad
def gZip (gs : G → R (List D)) (Γ : G) : R (List D) := (gs Γ).bind zp
theorem i_zip {e e2 : Expr} {p pos tpos : Pos} {elts : List Expr} {kk : Nat} {gs : G → R (List D)} (hg : Gl X "zip") (hm : X.mg "zip" = none) (ha : DA X B E [e, e2] gs)
    (hs : starEach [e, e2] X.env = (false, eval e X.env) :: starEach [e2] X.env := by rfl) (hpl : (backTo pos (starEach [e2] X.env)).any (·.1) = false := by rfl) :
    DI X B E (.Tuple elts kk tpos) (.Call (.Name "zip" p) [e, e2] [] pos) (gZip gs) :=
  pi_imp (RZ.pi_zipA hg hm ha hs hpl) fun σ H Rr ⟨Γ, F, s, er, o⟩ => by
    refine ⟨Γ, F, s, er, ?_⟩
    unfold gZip at o
    revert o
    cases gs Γ with
    | exc c => exact fun o => o
    | bad => exact fun o => o
    | ok ds =>
      intro o vs F' H' x dp
      simp only [R.bind_ok] at o
      unfold zp at o
      split at o
      · rename_i heq
        split at heq
        · cases heq
          cases dp with
          | cons h1 h2 =>
            cases h2 with
            | cons h3 h4 =>
              cases h4
              cases h1 with
              | lst k1 k2 =>
                cases h3 with
                | lst l1 l2 => exact ⟨_, _, _, _, rfl, .inl ⟨x.fh.seq k1, x.fh.seq l1, o _ F' H' x (wd_zip k1 k2 l1 l2)⟩⟩
        · cases heq
          cases dp with
          | cons h1 h2 =>
            cases h2 with
            | cons h3 h4 =>
              cases h4
              cases h1 with
              | tup k1 k2 =>
                cases h3 with
                | tup l1 l2 => exact ⟨_, _, _, _, rfl, .inr ⟨same_seqT x.fh k1, same_seqT x.fh l1, o _ F' H' x (wd_zipT k1 k2 l1 l2)⟩⟩
        · cases heq
      · rename_i heq
        split at heq <;> cases heq
      · exact o.elim
def enL : List D → R (List D)
  | [.list xs] => .ok (enumL xs)
  | _ => .bad
def gEnumL (gs : G → R (List D)) (Γ : G) : R (List D) := (gs Γ).bind enL
theorem i_enumL {e : Expr} {p pos tpos : Pos} {elts : List Expr} {kk : Nat} {gs : G → R (List D)} (hg : Gl X "enumerate") (hm : X.mg "enumerate" = none) (ha : DA X B E [e] gs) (hs : starEach [e] X.env = [(false, eval e X.env)] := by rfl) :
    DI X B E (.Tuple elts kk tpos) (.Call (.Name "enumerate" p) [e] [] pos) (gEnumL gs) :=
  pi_imp (pi_enum hg hm ha hs) fun σ H Rr ⟨Γ, F, s, er, o⟩ => by
    refine ⟨Γ, F, s, er, ?_⟩
    unfold gEnumL at o
    revert o
    cases gs Γ with
    | exc c => exact fun o => o
    | bad => exact fun o => o
    | ok ds =>
      intro o vs F' H' x dp
      simp only [R.bind_ok] at o
      unfold enL at o
      split at o
      · rename_i heq
        split at heq
        · cases heq
          cases dp with
          | cons h1 h2 =>
            cases h2
            cases h1 with
            | lst k1 k2 => exact ⟨_, _, rfl, x.fh.seq k1, o _ F' H' x (wd_enum k1 k2)⟩
        · cases heq
      · rename_i heq
        split at heq <;> cases heq
      · exact o.elim
end
end ND
namespace ND
open PySem PySem.Spec L2

/-! ### slots wiped, set -/
theorem wipe_get (σ : L2.St) : ∀ (vs : List Nat) (i : Nat), (wipe σ vs)[i]? = if i ∈ vs then (if i < σ.length then some none else none) else σ[i]?
  | [], i => by simp [wipe]
  | v :: vs, i => by
    unfold wipe
    rw [List.getElem?_set, wipe_length]
    by_cases h : v = i
    · subst h
      simp
    · rw [if_neg h, wipe_get σ vs i]
      have : i ≠ v := fun e => h e.symm
      simp [this]
theorem wipe_eq {σ σ' : L2.St} {vs : List Nat} (hl : σ'.length = σ.length) (h : ∀ i, i ∉ vs → σ'[i]? = σ[i]?) : wipe σ' vs = wipe σ vs := by
  apply List.ext_getElem?
  intro i
  rw [wipe_get, wipe_get, hl]
  by_cases e : i ∈ vs
  · simp [e]
  · simp [e, h i e]
theorem wipe_wipe (σ : L2.St) (vs : List Nat) : wipe (wipe σ vs) vs = wipe σ vs := wipe_eq (wipe_length _ _) fun i h => by rw [wipe_get]; simp [h]
def wipeG (Γ : G) : List Nat → G
  | [] => Γ
  | v :: vs => (wipeG Γ vs).set v .un
theorem wipeG_length (Γ : G) : ∀ vs, (wipeG Γ vs).length = Γ.length
  | [] => rfl
  | v :: vs => by unfold wipeG; rw [List.length_set, wipeG_length Γ vs]
theorem wipeG_get (Γ : G) : ∀ (vs : List Nat) (i : Nat), (wipeG Γ vs)[i]? = if i ∈ vs then (if i < Γ.length then some .un else none) else Γ[i]?
  | [], i => by simp [wipeG]
  | v :: vs, i => by
    unfold wipeG
    rw [List.getElem?_set, wipeG_length]
    by_cases h : v = i
    · subst h
      simp
    · rw [if_neg h, wipeG_get Γ vs i]
      have : i ≠ v := fun e => h e.symm
      simp [this]
section
variable {K : PySem.W.Frag} {mg : Str → Option Value} {B F H : Hp} {σ : L2.St} {Γ : G}
theorem ER.wipe (e : ER K B F H σ Γ) (vs : List Nat) : ER K B F H (wipe σ vs) (wipeG Γ vs) := by
  refine ⟨by rw [wipe_length, wipeG_length]; exact e.len, fun i s h => ?_, fun i j ds es p h1 h2 h3 h4 => ?_, fun i j ds es p h1 h2 h3 h4 => ?_⟩
  · rw [wipeG_get] at h
    by_cases hi : i ∈ vs
    · rw [if_pos hi] at h
      split at h
      · cases h; trivial
      · cases h
    · rw [if_neg hi] at h
      have := e.ok i s h
      have eg : (L2.wipe σ vs)[i]? = σ[i]? := by rw [wipe_get]; simp [hi]
      cases s with
      | un => trivial
      | exn a => exact eg.trans this
      | dat d => obtain ⟨v, a, b⟩ := this; exact ⟨v, by rw [eg]; exact a, b⟩
      | own ds => obtain ⟨p, xs, a, b⟩ := this; exact ⟨p, xs, by rw [eg]; exact a, b⟩
      | cel k => obtain ⟨p, xs, a, b⟩ := this; exact ⟨p, xs, by rw [eg]; exact a, b⟩
  · have hi : i ∉ vs := fun hi => by rw [wipeG_get, if_pos hi] at h1; split at h1 <;> cases h1
    have hj : j ∉ vs := fun hj => by rw [wipeG_get, if_pos hj] at h2; split at h2 <;> cases h2
    rw [wipeG_get, if_neg hi] at h1
    rw [wipeG_get, if_neg hj] at h2
    rw [wipe_get, if_neg hi] at h3
    rw [wipe_get, if_neg hj] at h4
    exact e.apart i j ds es p h1 h2 h3 h4
  · have hi : i ∉ vs := fun hi => by rw [wipeG_get, if_pos hi] at h1; split at h1 <;> cases h1
    have hj : j ∉ vs := fun hj => by rw [wipeG_get, if_pos hj] at h2; split at h2 <;> cases h2
    rw [wipeG_get, if_neg hi] at h1
    rw [wipeG_get, if_neg hj] at h2
    rw [wipe_get, if_neg hi] at h3
    rw [wipe_get, if_neg hj] at h4
    exact e.apartC i j ds es p h1 h2 h3 h4
theorem ER.set (e : ER K B F H σ Γ) (i : Nat) {v : V} {d : D} (h : Dp K F v d) : ER K B F H (σ.set i (some v)) (Γ.set i (.dat d)) := by
  refine ⟨by rw [List.length_set, List.length_set]; exact e.len, fun j s q => ?_, fun a b ds es p h1 h2 h3 h4 => ?_, fun a b ds es p h1 h2 h3 h4 => ?_⟩
  · rw [List.getElem?_set] at q
    by_cases hij : i = j
    · subst hij
      rw [if_pos rfl] at q
      split at q
      · rename_i hl
        cases q
        exact ⟨v, by rw [List.getElem?_set_self (by rw [e.len]; exact hl)], h⟩
      · cases q
    · rw [if_neg hij] at q
      have := e.ok j s q
      cases s with
      | un => trivial
      | exn a =>
        show (List.set _ _ _)[_]? = _
        rw [List.getElem?_set_ne hij]
        exact this
      | dat d => obtain ⟨v, a, b⟩ := this; exact ⟨v, by rw [List.getElem?_set_ne hij]; exact a, b⟩
      | own ds => obtain ⟨p, xs, a, b⟩ := this; exact ⟨p, xs, by rw [List.getElem?_set_ne hij]; exact a, b⟩
      | cel k => obtain ⟨p, xs, a, b⟩ := this; exact ⟨p, xs, by rw [List.getElem?_set_ne hij]; exact a, b⟩
  · have ha : i ≠ a := fun z => by
      subst z
      rw [List.getElem?_set] at h1
      simp only [if_true] at h1
      split at h1 <;> cases h1
    have hb : i ≠ b := fun z => by
      subst z
      rw [List.getElem?_set] at h2
      simp only [if_true] at h2
      split at h2 <;> cases h2
    rw [List.getElem?_set_ne ha] at h1 h3
    rw [List.getElem?_set_ne hb] at h2 h4
    exact e.apart a b ds es p h1 h2 h3 h4
  · have ha : i ≠ a := fun z => by
      subst z
      rw [List.getElem?_set] at h1
      simp only [if_true] at h1
      split at h1 <;> cases h1
    have hb : i ≠ b := fun z => by
      subst z
      rw [List.getElem?_set] at h2
      simp only [if_true] at h2
      split at h2 <;> cases h2
    rw [List.getElem?_set_ne ha] at h1 h3
    rw [List.getElem?_set_ne hb] at h2 h4
    exact e.apartC a b ds es p h1 h2 h3 h4
end

/-! ### targets -/
def tgD (K : PySem.W.Frag) (B : Hp) (is : List Nat) (st : D → G → R G) : TG := fun v σ H Q => ∃ Γ F d Γ', Same F H ∧ ER K B F H σ Γ ∧ Dp K F v d ∧ st d Γ = .ok Γ' ∧ Γ'.length = Γ.length ∧
  ∀ σ', ER K B F H σ' Γ' → σ'.length = σ.length → (∀ i, i ∉ is → σ'[i]? = σ[i]?) → Q σ' H
structure DG (X : Cx) (B : Hp) (tg : Expr) (is : List Nat) (st : D → G → R G) : Prop where
  pg : PG X tg (tgD X.K B is st)
theorem pg_imp {X : Cx} {tg : Expr} {t t' : TG} (h : PG X tg t) (i : ∀ v σ H Q, t' v σ H Q → t v σ H Q) : PG X tg t' := ⟨fun pins s σ H v u Q I r w => h.run pins s σ H v u Q I r (i _ _ _ _ w)⟩
def sName (i : Nat) (d : D) (Γ : G) : R G := .ok (Γ.set i (.dat d))
section
variable {X : Cx} {B : Hp} {E : L2.St → XK}
theorem g_name {x : Str} {pos : Pos} (i : Nat) (nd : X.N.Nodup) (hi : X.N[i]? = some x := by rfl) (hx : Loc X.env.scope x := by first | exact Or.inl rfl | exact Or.inr rfl) (hf : X.fn x = true ∨ X.env.scope.names.lookup x = some .local := by first | exact .inl rfl | exact .inr rfl) :
    DG X B (.Name x pos) [i] (sName i) := ⟨pg_imp (pg_name nd hi hx hf) fun v σ H Q ⟨Γ, F, d, Γ', s, er, dp, e, hl, q⟩ => by
  cases e
  exact q _ (er.set i dp) (List.length_set ..) fun j hj => List.getElem?_set_ne (fun z => hj (by simp [z]))⟩
/-- the parts of a tuple target -/
def tgDs (K : PySem.W.Frag) (B : Hp) (is : List Nat) (st : List D → G → R G) : TGs := fun vs σ H Q => ∃ Γ F ds Γ', Same F H ∧ ER K B F H σ Γ ∧ DpAll K F vs ds ∧ st ds Γ = .ok Γ' ∧ Γ'.length = Γ.length ∧
  ∀ σ', ER K B F H σ' Γ' → σ'.length = σ.length → (∀ i, i ∉ is → σ'[i]? = σ[i]?) → Q σ' H
structure DGs (X : Cx) (B : Hp) (tg : List Expr) (is : List Nat) (st : List D → G → R G) : Prop where
  pg : PGs X tg (tgDs X.K B is st)
  len : ∀ ds Γ Γ', st ds Γ = .ok Γ' → Γ'.length = Γ.length ∧ ds.length = tg.length
theorem pgs_imp {tg : List Expr} {t t' : TGs} (h : PGs X tg t) (i : ∀ v σ H Q, t' v σ H Q → t v σ H Q) : PGs X tg t' := ⟨fun pins s σ H v u Q I r w => h.run pins s σ H v u Q I r (i _ _ _ _ w)⟩
def ssNil : List D → G → R G
  | [], Γ => .ok Γ
  | _, _ => .bad
def ssCons (i : Nat) (st : List D → G → R G) : List D → G → R G
  | d :: ds, Γ => st ds (Γ.set i (.dat d))
  | _, _ => .bad
theorem gs_nil : DGs X B [] [] ssNil := by
  refine ⟨pgs_imp pgs_nil fun vs σ H Q ⟨Γ, F, ds, Γ', s, er, dp, e, hl, q⟩ => ?_, fun ds Γ Γ' e => ?_⟩
  · unfold ssNil at e
    split at e
    · cases e
      cases dp
      exact ⟨rfl, q σ er rfl fun _ _ => rfl⟩
    · cases e
  · unfold ssNil at e
    split at e
    · cases e; exact ⟨rfl, rfl⟩
    · cases e
theorem gs_cons {x : Str} {pos : Pos} {es : List Expr} {is : List Nat} {st : List D → G → R G} (i : Nat) (nd : X.N.Nodup) (h : DGs X B es is st) (hi : X.N[i]? = some x := by rfl) (hx : Loc X.env.scope x := by first | exact Or.inl rfl | exact Or.inr rfl)
    (hf : X.fn x = true ∨ X.env.scope.names.lookup x = some .local := by first | exact .inl rfl | exact .inr rfl) (hs : (assignEach (.Name x pos :: es) X.env).map (·.2) = assign (.Name x pos) X.env :: (assignEach es X.env).map (·.2) := by rfl) :
    DGs X B (.Name x pos :: es) (i :: is) (ssCons i st) := by
  refine ⟨pgs_imp (pgs_cons (pg_name nd hi hx hf) h.pg hs) fun vs σ H Q ⟨Γ, F, ds, Γ', s, er, dp, e, hl, q⟩ => ?_, fun ds Γ Γ' e => ?_⟩
  · unfold ssCons at e
    split at e
    · cases dp with
      | cons h1 h2 =>
        refine ⟨_, _, rfl, _, F, _, Γ', s, er.set i h1, h2, e, by rw [hl, List.length_set], fun σ' er' hl' hk => q σ' er' (by rw [hl', List.length_set]) fun j hj => ?_⟩
        rw [hk j (fun z => hj (by simp [z])), List.getElem?_set_ne (fun z => hj (by simp [z]))]
    · cases e
  · unfold ssCons at e
    split at e
    · obtain ⟨a, b⟩ := h.len _ _ _ e
      exact ⟨by rw [a, List.length_set], by simp [b]⟩
    · cases e
def sTup (st : List D → G → R G) : D → G → R G
  | .tuple ds, Γ => st ds Γ
  | .list ds, Γ => st ds Γ
  | _, _ => .bad
/-- a target of two readings -/
theorem pg_two {tg : Expr} {t t' : TG} (h : PG X tg t) (h' : PG X tg t') : PG X tg (fun v σ H Q => t v σ H Q ∨ t' v σ H Q) := ⟨fun pins s σ H v u Q I r w => w.elim (h.run pins s σ H v u Q I r) (h'.run pins s σ H v u Q I r)⟩
theorem g_tup {es : List Expr} {k : Nat} {pos : Pos} {is : List Nat} {st : List D → G → R G} (hc : X.calm = true) (h : DGs X B es is st) (hn : (assignEach es X.env).length = es.length := by rfl) (hst : (assignEach es X.env).findIdx? (·.1) = none := by rfl) :
    DG X B (.Tuple es k pos) is (sTup st) := ⟨pg_imp (pg_two (pg_tup hc h.pg hn hst) (L2.pg_lst hc h.pg hn hst)) fun v σ H Q ⟨Γ, F, d, Γ', s, er, dp, e, hl, q⟩ => by
  unfold sTup at e
  split at e
  · cases dp with
    | tup k1 k2 =>
      obtain ⟨_, hlen⟩ := h.len _ _ _ e
      exact .inl ⟨_, _, rfl, same_seqT s k1, by rw [dpa_length k2, hlen], Γ, F, _, Γ', s, er, k2, e, hl, q⟩
  · cases dp with
    | lst k1 k2 =>
      obtain ⟨_, hlen⟩ := h.len _ _ _ e
      exact .inr ⟨_, _, rfl, s.seq k1, by rw [dpa_length k2, hlen], Γ, F, _, Γ', s, er, k2, e, hl, q⟩
  · cases e⟩

/-! ### comprehensions -/
def noexc {α : Type} : R α → R α
  | .exc _ => .bad
  | r => r
/-- the items a comprehension makes -/
def lcGo (Γ : G) (st : D → G → R G) (gt : G → R Bool) (ge : G → R D) : List D → R (List D)
  | [] => .ok []
  | d :: ds => (st d Γ).bind fun Γ1 => (noexc (gt Γ1)).bind fun b => if b = true then (noexc (ge Γ1)).bind fun y => (lcGo Γ st gt ge ds).bind fun ys => .ok (y :: ys) else lcGo Γ st gt ge ds
def gLc (vs : List Nat) (st : D → G → R G) (gi : G → R (List D)) (gt : G → R Bool) (ge : G → R D) (Γ : G) : R D :=
  (gi Γ).bind fun ds => if ds.length ≤ sizeLine then (noexc (lcGo (wipeG Γ vs) st gt ge ds)).bind fun ys => .ok (.list ys) else .bad
def E0S : L2.St → XK := fun _ => L2.E0
/-- a clause's tests -/
abbrev DTs (X : Cx) (B : Hp) (ifs : List Expr) (g : G → R Bool) : Prop := PTs X ifs (tDT X.K X.mg B E0S g)
def bYes (_ : G) : R Bool := .ok true
theorem ts_nil : DTs X B [] bYes := ⟨fun pins s σ H Q I ⟨Γ, F, sm, er, o⟩ => pts_nil.run pins s σ H Q I (o F H (Ext.refl sm))⟩
theorem ts_one {c : Expr} {g : G → R Bool} (h : DT X B E0S c g) : DTs X B [c] g := pts_one h

theorem lc_read {K : PySem.W.Frag} {mg : Str → Option Value} {vs is : List Nat} {st : D → G → R G} {gi : G → R (List D)} {gt : G → R Bool} {ge : G → R D} (his : ∀ i ∈ is, i ∈ vs) (hst : ∀ d Γ Γ', st d Γ = .ok Γ' → Γ'.length = Γ.length) {σ : L2.St} {H : Hp} {Q : VK}
    (h : tD K mg B E (gLc vs st gi gt ge) σ H Q) :
    tLc (iD K mg B E gi) (tgD K B is st) (tDT K mg B E0S gt) (tD K mg B E0S ge) vs σ H Q := by
  obtain ⟨Γ, F, s, er, o⟩ := h
  refine ⟨Γ, F, s, er, ?_⟩
  unfold gLc at o
  revert o
  cases gi Γ with
  | exc c => exact fun o => o
  | bad => exact fun o => o
  | ok ds =>
    intro o J F1 H1 x1 wd Da hD
    simp only [R.bind_ok] at o
    split at o
    · rename_i hlen
      cases eg : lcGo (wipeG Γ vs) st gt ge ds with
      | exc c => rw [eg] at o; exact o.elim
      | bad => rw [eg] at o; exact o.elim
      | ok ys =>
        rw [eg] at o
        have o : Out K mg F H (E σ) (.ok (.list ys)) Q := o
        obtain ⟨W, Y, wk, wst, wy⟩ := wd
        -- the invariant: what is made so far, and what is still made of the rest
        have hF1D : F1 Da = none := x1.fh.free hD
        refine lc_it wk (fun i H2 => i ≤ ds.length ∧ ∃ F2 acc dacc rest, Same F1 F2 ∧ Same F2 H2 ∧ Same H1 H2 ∧ (∀ p, F1 p = none → H1 p ≠ none → F2 p = none) ∧ F2 Da = none ∧ H2 Da = some (.lst acc) ∧ DpAll K F2 acc dacc ∧ acc.length ≤ i ∧
          lcGo (wipeG Γ vs) st gt ge (ds.drop i) = .ok rest ∧ ys = dacc ++ rest) ?_ ?_ ?_ ?_
        · refine ⟨Nat.zero_le _, F1, [], [], ys, Same.refl _, fun b u e => ?_, fun b u e => ?_, fun _ h _ => h, hF1D, upd_same, .nil, Nat.le_refl _, by simpa using eg, rfl⟩
          · rw [upd_ne (ne_of_none e hF1D)]; exact x1.fh _ _ e
          · rw [upd_ne (ne_of_none e hD)]; exact e
        · rintro i H2 hi ⟨_, F2, acc, dacc, rest, s12, s2, _⟩
          exact wst H2 (s12.trans s2)
        · rintro i x H2 H3 hi ⟨_, F2, acc, dacc, rest, s12, s2, sH, no, hF2D, hH2D, dpacc, hal, erest, eys⟩ y
          obtain ⟨F3, x3, dpx⟩ := wy i H2 x H3 ds[i] F2 s12 s2 (by simp [hi]) y
          have hH3D : H3 Da = some (.lst acc) := x3.h _ _ hH2D
          have hF3D : F3 Da = none := x3.no Da hF2D (by rw [hH2D]; simp)
          rw [List.drop_eq_getElem_cons hi] at erest
          unfold lcGo at erest
          -- the state of the slots
          have er3 : ER K B F3 H3 (L2.wipe σ vs) (wipeG Γ vs) := by
            have e1 : ER K B F1 H1 σ Γ := er.ext x1
            have e2 : ER K B F2 H2 σ Γ := e1.ext ⟨s12, sH, s2, no⟩
            exact (e2.ext x3).wipe vs
          cases est : st ds[i] (wipeG Γ vs) with
          | exc c => rw [est] at erest; cases erest
          | bad => rw [est] at erest; cases erest
          | ok Γ1 =>
            rw [est] at erest
            simp only [R.bind_ok] at erest
            refine ⟨wipeG Γ vs, F3, ds[i], Γ1, x3.fh, er3, dpx, est, hst _ _ _ est, fun σ' er' hl' hk' => ⟨?_, Γ1, F3, x3.fh, er', ?_⟩⟩
            · rw [wipe_eq (σ := L2.wipe σ vs) hl' fun i hi => hk' i fun z => hi (his i z), wipe_wipe]
            · cases egt : gt Γ1 with
              | exc c => rw [egt] at erest; cases erest
              | bad => rw [egt] at erest; cases erest
              | ok b =>
                rw [egt] at erest
                simp only [noexc, R.bind_ok] at erest
                intro F4 H4 x4
                have hH4D : H4 Da = some (.lst acc) := x4.h _ _ hH3D
                have hF4D : F4 Da = none := x4.no Da hF3D (by rw [hH3D]; simp)
                have x14 : Ext F2 H2 F4 H4 := x3.trans x4
                have no4 : ∀ p, F1 p = none → H1 p ≠ none → F4 p = none := fun p h1 h2 => x14.no p (no p h1 h2) (by
                  cases q : H1 p with
                  | none => exact absurd q h2
                  | some u => rw [sH _ _ q]; simp)
                cases b with
                | false =>
                  simp only [Bool.false_eq_true, if_false] at erest
                  refine iteF ⟨hi, F4, acc, dacc, rest, s12.trans x14.f, x14.fh, sH.trans x14.h, no4, hF4D, hH4D, dpa_mono x14.f dpacc, Nat.le_succ_of_le hal, erest, eys⟩
                | true =>
                  simp only [if_true] at erest
                  refine iteT ⟨Γ1, F4, x4.fh, er'.ext x4, ?_⟩
                  cases ege : ge Γ1 with
                  | exc c => rw [ege] at erest; cases erest
                  | bad => rw [ege] at erest; cases erest
                  | ok yd =>
                    rw [ege] at erest
                    simp only [noexc, R.bind_ok] at erest
                    intro v F5 H5 x5 dp5
                    have hH5D : H5 Da = some (.lst acc) := x5.h _ _ hH4D
                    have hF5D : F5 Da = none := x5.no Da hF4D (by rw [hH4D]; simp)
                    have x15 : Ext F2 H2 F5 H5 := x14.trans x5
                    cases erest2 : lcGo (wipeG Γ vs) st gt ge (ds.drop (i + 1)) with
                    | exc c => rw [erest2] at erest; cases erest
                    | bad => rw [erest2] at erest; cases erest
                    | ok ys2 =>
                      rw [erest2] at erest
                      simp only [R.bind_ok] at erest
                      cases erest
                      refine ⟨acc, hH5D, Nat.lt_of_le_of_lt hal (Nat.lt_of_lt_of_le hi hlen), hi, F5, acc ++ [v], dacc ++ [yd], ys2, s12.trans x15.f, fun b u e => ?_, fun b u e => ?_, fun p h1 h2 => x5.no p (no4 p h1 h2) (by
                        cases q : H1 p with
                        | none => exact absurd q h2
                        | some u => rw [x14.h _ _ (sH _ _ q)]; simp), hF5D, upd_same, dpa_append (dpa_mono x15.f dpacc) (.cons dp5 .nil), by simp; omega, rfl, by simp [eys]⟩
                      · rw [upd_ne (ne_of_none e hF5D)]; exact x5.fh _ _ e
                      · have hb : b ≠ Da := fun z => by rw [z, hD] at e; cases e
                        rw [upd_ne hb]; exact x15.h _ _ (sH _ _ e)
        · rintro H2 ⟨_, F2, acc, dacc, rest, s12, s2, sH, no, hF2D, hH2D, dpacc, hal, erest, eys⟩
          rw [List.drop_length] at erest
          unfold lcGo at erest
          cases erest
          rw [List.append_nil] at eys
          subst eys
          refine o (.ref Da) (upd F2 Da (.lst acc)) H2 ⟨x1.f.trans (s12.trans fun b u e => ?_), x1.h.trans sH, fun b u e => ?_, fun p h1 h2 => ?_⟩ (.lst (.inl (.inl upd_same)) (dpa_mono (fun b u e => ?_) dpacc))
          · rw [upd_ne (ne_of_none e hF2D)]; exact e
          · by_cases hb : b = Da
            · subst hb; rw [upd_same] at e; cases e; exact hH2D
            · rw [upd_ne hb] at e; exact s2 _ _ e
          · have hp : p ≠ Da := fun z => by
              subst z
              cases q : H p with
              | none => exact h2 q
              | some u => rw [x1.h _ _ q] at hD; cases hD
            rw [upd_ne hp]
            have h3 : F1 p = none := x1.no p h1 h2
            have h4 : H1 p ≠ none := by
              cases q : H p with
              | none => exact absurd q h2
              | some u => rw [x1.h _ _ q]; simp
            exact no p h3 h4
          · rw [upd_ne (ne_of_none e hF2D)]; exact e
    · exact o.elim
/-- [elt for tg in iter if ..] -/
theorem d_lc {elt tg iter : Expr} {ifs : List Expr} {scope : Scope} {pos : Pos} {is : List Nat} {st : D → G → R G} {gi : G → R (List D)} {gt : G → R Bool} {ge : G → R D} (own : List (Str × Nat)) (hc : X.calm = true) (hN : X.N.Nodup) (ok : BlkOk X.N X.env.scope scope own) (hi : DI X B E tg iter gi)
    (hg : ∀ (s : Shared) (H : Hp) (C : Addr) (cl : List (Str × Addr)) (fp : List Addr), DG (X.blk s H scope (compEnvC scope cl C X.env) fp) B tg is st)
    (ht : ∀ (s : Shared) (H : Hp) (C : Addr) (cl : List (Str × Addr)) (fp : List Addr), DTs (X.blk s H scope (compEnvC scope cl C X.env) fp) B ifs gt)
    (he : ∀ (s : Shared) (H : Hp) (C : Addr) (cl : List (Str × Addr)) (fp : List Addr), DE (X.blk s H scope (compEnvC scope cl C X.env) fp) B E0S elt ge)
    (hst : ∀ d Γ Γ', st d Γ = .ok Γ' → Γ'.length = Γ.length) (his : ∀ i ∈ is, i ∈ own.map (·.2) := by decide) (hs : ∀ x, foldedSetIterable iter X.env x = pure x := by intro _; rfl) :
    DE X B E (.ListComp elt [⟨tg, iter, ifs, 0⟩] scope pos) (gLc (own.map (·.2)) st gi gt ge) :=
  pe_imp (pe_lc hc hN hi ok (fun s H C cl fp => (hg s H C cl fp).pg) ht he hs) fun σ H Q h => lc_read his hst h
theorem sName_len (i : Nat) : ∀ d Γ Γ', sName i d Γ = .ok Γ' → Γ'.length = Γ.length := fun d Γ Γ' e => by cases e; exact List.length_set ..
theorem sTup_len {st : List D → G → R G} {es : List Expr} {is : List Nat} (h : DGs X B es is st) : ∀ d Γ Γ', sTup st d Γ = .ok Γ' → Γ'.length = Γ.length := fun d Γ Γ' e => by
  unfold sTup at e
  split at e
  · exact (h.len _ _ _ e).1
  · exact (h.len _ _ _ e).1
  · cases e
theorem ssNil_len : ∀ ds Γ Γ', ssNil ds Γ = .ok Γ' → Γ'.length = Γ.length := fun ds Γ Γ' e => by
  unfold ssNil at e
  split at e
  · cases e; rfl
  · cases e
theorem ssCons_len {i : Nat} {st : List D → G → R G} (h : ∀ ds Γ Γ', st ds Γ = .ok Γ' → Γ'.length = Γ.length) : ∀ ds Γ Γ', ssCons i st ds Γ = .ok Γ' → Γ'.length = Γ.length := fun ds Γ Γ' e => by
  unfold ssCons at e
  split at e
  · rw [h _ _ _ e, List.length_set]
  · cases e
theorem sTup_len' {st : List D → G → R G} (h : ∀ ds Γ Γ', st ds Γ = .ok Γ' → Γ'.length = Γ.length) : ∀ d Γ Γ', sTup st d Γ = .ok Γ' → Γ'.length = Γ.length := fun d Γ Γ' e => by
  unfold sTup at e
  split at e
  · exact h _ _ _ e
  · exact h _ _ _ e
  · cases e
end
end ND
namespace ND
open PySem PySem.Spec L2

/-! ### statements by data -/
inductive Fl where
  | nx (Γ : G)
  | rt (d : D)
  | bk (Γ : G)
  | ct (Γ : G)
/-- B: the heap at the def's entry, F0: what was frozen then -/
structure SH (B F0 F H : Hp) : Prop where
  b : Same B H
  f : Same F H
  f0 : Same F0 F
  no : ∀ p, F0 p = none → B p ≠ none → F p = none
theorem SH.ext {B F0 F H F' H' : Hp} (s : SH B F0 F H) (x : Ext F H F' H') : SH B F0 F' H' :=
  ⟨s.b.trans x.h, x.fh, s.f0.trans x.f, fun p h1 h2 => x.no p (s.no p h1 h2) (by
    cases q : B p with
    | none => exact absurd q h2
    | some u => rw [s.b _ _ q]; simp)⟩
section
variable (K : PySem.W.Frag) (mg : Str → Option Value) (B F0 : Hp) (n : Nat)
def OutS (F : Hp) (E : L2.St → XK) (r : R Fl) (Dd : Ends) : Prop := match r with
  | .ok (.nx Γ) => ∀ σ F' H', SH B F0 F' H' → Same F F' → ER K B F' H' σ Γ → Dd.nx σ H'
  | .ok (.bk Γ) => ∀ σ F' H', SH B F0 F' H' → Same F F' → ER K B F' H' σ Γ → Dd.bk σ H'
  | .ok (.ct Γ) => ∀ σ F' H', SH B F0 F' H' → Same F F' → ER K B F' H' σ Γ → Dd.ct σ H'
  | .ok (.rt d) => ∀ v F' H', SH B F0 F' H' → Same F F' → Dp K F' v d → Dd.rt v H'
  | .exc c => ∀ σ C F' H', σ.length = n → mg c = some (.ref C) → SH B F0 F' H' → Same F F' → E σ (.ref C) none H'
  | .bad => False
def tDs (E : L2.St → XK) (g : G → R Fl) : TS := fun Dd σ H => ∃ Γ F, SH B F0 F H ∧ ER K B F H σ Γ ∧ Γ.length = n ∧ OutS K mg B F0 n F E (g Γ) Dd
end
theorem OutS.mono {K : PySem.W.Frag} {mg : Str → Option Value} {B F0 F F1 : Hp} {n : Nat} {E : L2.St → XK} {r : R Fl} {Dd : Ends} (h : OutS K mg B F0 n F E r Dd) (s : Same F F1) : OutS K mg B F0 n F1 E r Dd := by
  cases r with
  | ok f =>
    cases f with
    | nx Γ => exact fun σ F' H' a b c => h σ F' H' a (s.trans b) c
    | bk Γ => exact fun σ F' H' a b c => h σ F' H' a (s.trans b) c
    | ct Γ => exact fun σ F' H' a b c => h σ F' H' a (s.trans b) c
    | rt d => exact fun v F' H' a b c => h v F' H' a (s.trans b) c
  | exc c => exact fun σ C F' H' l m a b => h σ C F' H' l m a (s.trans b)
  | bad => exact h
/-- the slots' number is kept -/
def KeepN (g : G → R Fl) : Prop := ∀ Γ, (∀ Γ', g Γ = .ok (.nx Γ') → Γ'.length = Γ.length) ∧ (∀ Γ', g Γ = .ok (.bk Γ') → Γ'.length = Γ.length) ∧ (∀ Γ', g Γ = .ok (.ct Γ') → Γ'.length = Γ.length)

structure DS (X : Cx) (B F0 : Hp) (n : Nat) (E : L2.St → XK) (st : Stmt) (g : G → R Fl) : Prop where
  ps : PS X st (tDs X.K X.mg B F0 n E g)
  keep : KeepN g
structure DSs (X : Cx) (B F0 : Hp) (n : Nat) (E : L2.St → XK) (st : List Stmt) (g : G → R Fl) : Prop where
  ps : PSs X st (tDs X.K X.mg B F0 n E g)
  keep : KeepN g
section
variable {X : Cx} {B F0 : Hp} {n : Nat} {E : L2.St → XK}
/-- from an expression's answer to what comes behind -/
theorem Out.toS {K : PySem.W.Frag} {mg : Str → Option Value} {F H : Hp} {σ : L2.St} {r : R D} {f : D → R Fl} {Dd : Ends} (sh : SH B F0 F H) (hl : σ.length = n) (o : OutS K mg B F0 n F E (r.bind f) Dd) :
    Out K mg F H (E σ) r (fun v H' => ∃ d F', r = .ok d ∧ SH B F0 F' H' ∧ Ext F H F' H' ∧ Dp K F' v d ∧ OutS K mg B F0 n F' E (f d) Dd) := by
  cases r with
  | ok d => exact fun v F' H' x dp => ⟨d, F', rfl, sh.ext x, x, dp, OutS.mono o x.f⟩
  | exc c => exact fun C F' H' m x => o σ C F' H' hl m (sh.ext x) x.f
  | bad => exact o
theorem OutB.toS {K : PySem.W.Frag} {mg : Str → Option Value} {F H : Hp} {σ : L2.St} {r : R Bool} {f : Bool → R Fl} {Dd : Ends} (sh : SH B F0 F H) (hl : σ.length = n) (o : OutS K mg B F0 n F E (r.bind f) Dd) :
    OutB mg F H (E σ) r (fun b H' => ∃ F', r = .ok b ∧ SH B F0 F' H' ∧ Ext F H F' H' ∧ OutS K mg B F0 n F' E (f b) Dd) := by
  cases r with
  | ok d => exact fun F' H' x => ⟨F', rfl, sh.ext x, x, OutS.mono o x.f⟩
  | exc c => exact fun C F' H' m x => o σ C F' H' hl m (sh.ext x) x.f
  | bad => exact o

/-! blocks -/
def gSeq (g1 g2 : G → R Fl) (Γ : G) : R Fl := (g1 Γ).bind fun f => match f with
  | .nx Γ' => g2 Γ'
  | f => .ok f
theorem keep_seq {g1 g2 : G → R Fl} (h1 : KeepN g1) (h2 : KeepN g2) : KeepN (gSeq g1 g2) := fun Γ => by
  obtain ⟨a, b, c⟩ := h1 Γ
  unfold gSeq
  cases e : g1 Γ with
  | exc c => exact ⟨fun _ q => (by cases q), fun _ q => (by cases q), fun _ q => (by cases q)⟩
  | bad => exact ⟨fun _ q => (by cases q), fun _ q => (by cases q), fun _ q => (by cases q)⟩
  | ok f =>
    cases f with
    | nx Γ1 =>
      obtain ⟨a2, b2, c2⟩ := h2 Γ1
      have l1 := a Γ1 e
      exact ⟨fun Γ' q => (a2 Γ' q).trans l1, fun Γ' q => (b2 Γ' q).trans l1, fun Γ' q => (c2 Γ' q).trans l1⟩
    | rt d => exact ⟨fun _ q => (by cases q), fun _ q => (by cases q), fun _ q => (by cases q)⟩
    | bk Γ1 => exact ⟨fun _ q => (by cases q), fun Γ' q => (by cases q; exact b _ e), fun _ q => (by cases q)⟩
    | ct Γ1 => exact ⟨fun _ q => (by cases q), fun _ q => (by cases q), fun Γ' q => (by cases q; exact c _ e)⟩
def gSkip (Γ : G) : R Fl := .ok (.nx Γ)
theorem keep_skip : KeepN gSkip := fun Γ => ⟨fun _ q => (by cases q; rfl), fun _ q => (by cases q), fun _ q => (by cases q)⟩
theorem ss_nil : DSs X B F0 n E [] gSkip := ⟨pss_imp pss_nil fun Dd σ H ⟨Γ, F, sh, er, hn, o⟩ => o σ F H sh (Same.refl _) er, keep_skip⟩
theorem ss_one {st : Stmt} {g : G → R Fl} (h : DS X B F0 n E st g) : DSs X B F0 n E [st] g := ⟨pss_one h.ps, h.keep⟩
theorem ss_cons {st : Stmt} {rest : List Stmt} {g1 g2 : G → R Fl} (h : DS X B F0 n E st g1) (hs : DSs X B F0 n E rest g2) : DSs X B F0 n E (st :: rest) (gSeq g1 g2) :=
  ⟨pss_imp (pss_cons h.ps hs.ps) fun Dd σ H ⟨Γ, F, sh, er, hn, o⟩ => by
    refine ⟨Γ, F, sh, er, hn, ?_⟩
    have kp := h.keep Γ
    unfold gSeq at o
    revert kp o
    cases g1 Γ with
    | exc c => exact fun o kp => o
    | bad => exact fun o kp => o
    | ok f =>
      cases f with
      | rt d => exact fun o kp => o
      | bk Γ => exact fun o kp => o
      | ct Γ => exact fun o kp => o
      | nx Γ1 => exact fun o kp σ' F' H' a b c => ⟨Γ1, F', a, c, (kp.1 Γ1 rfl).trans hn, OutS.mono o b⟩, keep_seq h.keep hs.keep⟩

/-! simple statements -/
def gExpr (g : G → R D) (Γ : G) : R Fl := (g Γ).bind fun _ => .ok (.nx Γ)
def gRet (g : G → R D) (Γ : G) : R Fl := (g Γ).bind fun d => .ok (.rt d)
def gSet (st : D → G → R G) (g : G → R D) (Γ : G) : R Fl := (g Γ).bind fun d => (st d Γ).bind fun Γ' => .ok (.nx Γ')
def gIfS (t : G → R Bool) (a b : G → R Fl) (Γ : G) : R Fl := (t Γ).bind fun c => if c = true then a Γ else b Γ
def gRaise (c : Str) (_ : G) : R Fl := .exc c
theorem keep_expr {g : G → R D} : KeepN (gExpr g) := fun Γ => by
  unfold gExpr
  cases g Γ <;> exact ⟨fun _ q => (by cases q <;> rfl), fun _ q => (by cases q), fun _ q => (by cases q)⟩
theorem keep_ret {g : G → R D} : KeepN (gRet g) := fun Γ => by
  unfold gRet
  cases g Γ <;> exact ⟨fun _ q => (by cases q), fun _ q => (by cases q), fun _ q => (by cases q)⟩
theorem keep_set {st : D → G → R G} {g : G → R D} (h : ∀ d Γ Γ', st d Γ = .ok Γ' → Γ'.length = Γ.length) : KeepN (gSet st g) := fun Γ => by
  unfold gSet
  cases g Γ with
  | exc c => exact ⟨fun _ q => (by cases q), fun _ q => (by cases q), fun _ q => (by cases q)⟩
  | bad => exact ⟨fun _ q => (by cases q), fun _ q => (by cases q), fun _ q => (by cases q)⟩
  | ok d =>
    simp only [R.bind_ok]
    cases e : st d Γ with
    | exc c => exact ⟨fun _ q => (by cases q), fun _ q => (by cases q), fun _ q => (by cases q)⟩
    | bad => exact ⟨fun _ q => (by cases q), fun _ q => (by cases q), fun _ q => (by cases q)⟩
    | ok Γ1 => exact ⟨fun _ q => (by cases q; exact h _ _ _ e), fun _ q => (by cases q), fun _ q => (by cases q)⟩
theorem keep_if {t : G → R Bool} {a b : G → R Fl} (ha : KeepN a) (hb : KeepN b) : KeepN (gIfS t a b) := fun Γ => by
  unfold gIfS
  cases t Γ with
  | exc c => exact ⟨fun _ q => (by cases q), fun _ q => (by cases q), fun _ q => (by cases q)⟩
  | bad => exact ⟨fun _ q => (by cases q), fun _ q => (by cases q), fun _ q => (by cases q)⟩
  | ok c =>
    cases c with
    | true => exact ha Γ
    | false => exact hb Γ
theorem ER.slen {K : PySem.W.Frag} {F H : Hp} {σ : L2.St} {Γ : G} (er : ER K B F H σ Γ) (hn : Γ.length = n) : σ.length = n := er.len.trans hn
theorem s_expr {e : Expr} {pos : Pos} {g : G → R D} (he : DE X B E e g) (hs : swapsWith e none pos.line X.env = pure false := by rfl) : DS X B F0 n E (.Expr e pos) (gExpr g) :=
  ⟨ps_imp (ps_expr he hs) fun Dd σ H ⟨Γ, F, sh, er, hn, o⟩ => by
    refine ⟨Γ, F, sh.f, er, ?_⟩
    have o2 := Out.toS (H := H) (σ := σ) sh (er.slen hn) (show OutS X.K X.mg B F0 n F E ((g Γ).bind fun _ => .ok (.nx Γ)) Dd from o)
    revert o2
    cases g Γ with
    | exc c => exact fun o => o
    | bad => exact fun o => o
    | ok d =>
      intro o2 v F' H' x dp
      obtain ⟨d', F2, e, sh2, x2, dp2, o3⟩ := o2 v F' H' x dp
      exact o3 σ F2 H' sh2 (Same.refl _) (er.ext x2), keep_expr⟩
theorem s_ret {e : Expr} {pos : Pos} {g : G → R D} (he : DE X B E e g) : DS X B F0 n E (.Return (some e) pos) (gRet g) :=
  ⟨ps_imp (ps_ret he) fun Dd σ H ⟨Γ, F, sh, er, hn, o⟩ => by
    refine ⟨Γ, F, sh.f, er, ?_⟩
    have o2 := Out.toS (H := H) (σ := σ) sh (er.slen hn) (show OutS X.K X.mg B F0 n F E ((g Γ).bind fun d => .ok (.rt d)) Dd from o)
    revert o2
    cases g Γ with
    | exc c => exact fun o => o
    | bad => exact fun o => o
    | ok d =>
      intro o2 v F' H' x dp
      obtain ⟨d', F2, e, sh2, x2, dp2, o3⟩ := o2 v F' H' x dp
      cases e
      exact o3 v F2 H' sh2 (Same.refl _) dp2, keep_ret⟩
theorem s_asg {tg e : Expr} {pos : Pos} {is : List Nat} {st : D → G → R G} {g : G → R D} (he : DE X B E e g) (ht : DG X B tg is st) (hst : ∀ d Γ Γ', st d Γ = .ok Γ' → Γ'.length = Γ.length) (hne : ∀ d Γ c, st d Γ ≠ .exc c)
    (hs : swapsWithSole [tg] e pos.line X.env = pure false := by rfl) (hw : swappedStores [tg] e X.env = pure none := by rfl) (h1 : (assignEach [tg] X.env).map (·.2) = [assign tg X.env] := by rfl) : DS X B F0 n E (.Assign [tg] e pos) (gSet st g) :=
  ⟨ps_imp (ps_asg he ht.pg hs hw h1) fun Dd σ H ⟨Γ, F, sh, er, hn, o⟩ => by
    refine ⟨Γ, F, sh.f, er, ?_⟩
    have o2 := Out.toS (H := H) (σ := σ) sh (er.slen hn) (show OutS X.K X.mg B F0 n F E ((g Γ).bind fun d => (st d Γ).bind fun Γ' => .ok (.nx Γ')) Dd from o)
    revert o2
    cases g Γ with
    | exc c => exact fun o => o
    | bad => exact fun o => o
    | ok d =>
      intro o2 v F' H' x dp
      obtain ⟨d', F2, e, sh2, x2, dp2, o3⟩ := o2 v F' H' x dp
      cases e
      cases es : st d Γ with
      | exc c => exact (hne _ _ _ es).elim
      | bad => rw [es] at o3; exact o3.elim
      | ok Γ1 =>
        rw [es] at o3
        exact ⟨Γ, F2, d, Γ1, sh2.f, er.ext x2, dp2, es, hst _ _ _ es, fun σ' er' hl' _ => o3 σ' F2 H' sh2 (Same.refl _) er'⟩, keep_set hst⟩
theorem s_set {x : Str} {e : Expr} {pos pos' : Pos} {g : G → R D} (i : Nat) (nd : X.N.Nodup) (he : DE X B E e g) (hi : X.N[i]? = some x := by rfl) (hx : Loc X.env.scope x := by first | exact Or.inl rfl | exact Or.inr rfl)
    (hf : X.fn x = true ∨ X.env.scope.names.lookup x = some .local := by first | exact .inl rfl | exact .inr rfl)
    (hs : swapsWithSole [.Name x pos'] e pos.line X.env = pure false := by rfl) (hw : swappedStores [.Name x pos'] e X.env = pure none := by rfl) (h1 : (assignEach [.Name x pos'] X.env).map (·.2) = [assign (.Name x pos') X.env] := by rfl) :
    DS X B F0 n E (.Assign [.Name x pos'] e pos) (gSet (sName i) g) := s_asg he (g_name i nd hi hx hf) (sName_len i) (fun d Γ c q => by cases q) hs hw h1
theorem s_if {c : Expr} {a b : List Stmt} {pos : Pos} {t : G → R Bool} {g g' : G → R Fl} (hc : DT X B E c t) (ha : DSs X B F0 n E a g) (hb : DSs X B F0 n E b g') : DS X B F0 n E (.If c a b pos) (gIfS t g g') :=
  ⟨ps_imp (ps_if hc ha.ps hb.ps) fun Dd σ H ⟨Γ, F, sh, er, hn, o⟩ => by
    refine ⟨Γ, F, sh.f, er, ?_⟩
    have o2 := OutB.toS (H := H) (σ := σ) sh (er.slen hn) (show OutS X.K X.mg B F0 n F E ((t Γ).bind fun c => if c = true then g Γ else g' Γ) Dd from o)
    revert o2
    cases t Γ with
    | exc c => exact fun o => o
    | bad => exact fun o => o
    | ok d =>
      intro o2 F' H' x
      obtain ⟨F2, e, sh2, x2, o3⟩ := o2 F' H' x
      cases d with
      | true => exact iteT ⟨Γ, F2, sh2, er.ext x2, hn, o3⟩
      | false => exact iteF ⟨Γ, F2, sh2, er.ext x2, hn, o3⟩, keep_if ha.keep hb.keep⟩
/-- a class of the program's own over ValueError -/
structure ExcC (X : Cx) (x : Str) : Prop where
  ex : ∃ C, X.mg x = some (.ref C) ∧ PySem.W.excIn X.K C [.type "ValueError", .type "Exception", .type "BaseException", .type "object"] "ValueError.__new__" = true ∧ PySem.W.keepIn X.K (.ref C) = true ∧
    PySem.W.subIn X.K (.ref C) (.type "BaseException") = some true ∧ PySem.W.typeIn X.K (.ref C) = some (.type "type")
theorem s_raise {x m : Str} {j : Nat} {p p2 p3 pos : Pos} (c : ExcC X x) (hc : X.calm = true) (tk : Takes X (fun cls d σ H => E σ cls d H)) (hg : Gl X x := by rfl) (hdb : (x == ("__debug__" : Str)) = false := by decide) :
    DS X B F0 n E (.Raise (some (.Call (.Name x p) [.Constant (.str m) j p2] [] p3)) none pos) (gRaise x) := by
  obtain ⟨C, gC, q, kC, bC, tC⟩ := c.ex
  exact ⟨ps_imp (ps_raise hc tk (pmk_own PySem.F.excBase_ValueError q gC kC (raises_own bC tC) hg hdb)) fun Dd σ H ⟨Γ, F, sh, er, hn, o⟩ => o σ C F H (er.slen hn) gC sh (Same.refl _), fun Γ => ⟨fun _ q => (by cases q), fun _ q => (by cases q), fun _ q => (by cases q)⟩⟩
def gBrk (Γ : G) : R Fl := .ok (.bk Γ)
def gCnt (Γ : G) : R Fl := .ok (.ct Γ)
theorem s_break {pos : Pos} : DS X B F0 n E (.Break pos) gBrk := ⟨ps_imp ps_break fun Dd σ H ⟨Γ, F, sh, er, hn, o⟩ => o σ F H sh (Same.refl _) er, fun Γ => ⟨fun _ q => (by cases q), fun _ q => (by cases q; rfl), fun _ q => (by cases q)⟩⟩
theorem s_continue {pos : Pos} : DS X B F0 n E (.Continue pos) gCnt := ⟨ps_imp ps_continue fun Dd σ H ⟨Γ, F, sh, er, hn, o⟩ => o σ F H sh (Same.refl _) er, fun Γ => ⟨fun _ q => (by cases q), fun _ q => (by cases q), fun _ q => (by cases q; rfl)⟩⟩
theorem s_pass {pos : Pos} : DS X B F0 n E (.Pass pos) gSkip := ⟨ps_imp ps_pass fun Dd σ H ⟨Γ, F, sh, er, hn, o⟩ => o σ F H sh (Same.refl _) er, keep_skip⟩

/-! for -/
def forGo (st : D → G → R G) (body : G → R Fl) : List D → G → R Fl
  | [], Γ => .ok (.nx Γ)
  | d :: ds, Γ => (st d Γ).bind fun Γ1 => (body Γ1).bind fun f => match f with
    | .nx Γ2 => forGo st body ds Γ2
    | .ct Γ2 => forGo st body ds Γ2
    | .bk Γ2 => .ok (.nx Γ2)
    | .rt d => .ok (.rt d)
def gFor (st : D → G → R G) (gi : G → R (List D)) (body : G → R Fl) (Γ : G) : R Fl := (gi Γ).bind fun ds => forGo st body ds Γ
theorem keep_forGo {st : D → G → R G} {body : G → R Fl} (hst : ∀ d Γ Γ', st d Γ = .ok Γ' → Γ'.length = Γ.length) (hb : KeepN body) : ∀ ds, KeepN (forGo st body ds)
  | [] => keep_skip
  | d :: ds => fun Γ => by
    unfold forGo
    cases e : st d Γ with
    | exc c => exact ⟨fun _ q => (by cases q), fun _ q => (by cases q), fun _ q => (by cases q)⟩
    | bad => exact ⟨fun _ q => (by cases q), fun _ q => (by cases q), fun _ q => (by cases q)⟩
    | ok Γ1 =>
      have l1 := hst _ _ _ e
      simp only [R.bind_ok]
      obtain ⟨a, b, c⟩ := hb Γ1
      cases e2 : body Γ1 with
      | exc c => exact ⟨fun _ q => (by cases q), fun _ q => (by cases q), fun _ q => (by cases q)⟩
      | bad => exact ⟨fun _ q => (by cases q), fun _ q => (by cases q), fun _ q => (by cases q)⟩
      | ok f =>
        cases f with
        | nx Γ2 =>
          have l2 := a Γ2 e2
          obtain ⟨a2, b2, c2⟩ := keep_forGo hst hb ds Γ2
          exact ⟨fun Γ' q => (a2 Γ' q).trans (l2.trans l1), fun Γ' q => (b2 Γ' q).trans (l2.trans l1), fun Γ' q => (c2 Γ' q).trans (l2.trans l1)⟩
        | ct Γ2 =>
          have l2 := c Γ2 e2
          obtain ⟨a2, b2, c2⟩ := keep_forGo hst hb ds Γ2
          exact ⟨fun Γ' q => (a2 Γ' q).trans (l2.trans l1), fun Γ' q => (b2 Γ' q).trans (l2.trans l1), fun Γ' q => (c2 Γ' q).trans (l2.trans l1)⟩
        | bk Γ2 => exact ⟨fun Γ' q => (by cases q; exact (b _ e2).trans l1), fun _ q => (by cases q), fun _ q => (by cases q)⟩
        | rt d => exact ⟨fun _ q => (by cases q), fun _ q => (by cases q), fun _ q => (by cases q)⟩
theorem s_for {iter tg : Expr} {body : List Stmt} {pos : Pos} {is : List Nat} {st : D → G → R G} {gi : G → R (List D)} {gb : G → R Fl} (hp : PassesOwn (model X.prog X.w) X.A X.env X.xe) (hc : X.calm = true) (hi : DI X B E tg iter gi) (hg : DG X B tg is st)
    (hst : ∀ d Γ Γ', st d Γ = .ok Γ' → Γ'.length = Γ.length) (hne : ∀ d Γ c, st d Γ ≠ .exc c) (hb : DSs X B F0 n E body gb) (hs : ∀ x, foldedSetIterable iter X.env x = pure x := by intro _; rfl) : DS X B F0 n E (.For tg iter body [] pos) (gFor st gi gb) := by
  refine ⟨ps_imp (ps_for hp hc hi hg.pg hb.ps hs) fun Dd σ H ⟨Γ, F, sh, er, hn, o⟩ => ?_, fun Γ => ?_⟩
  · refine ⟨Γ, F, sh.f, er, ?_⟩
    unfold gFor at o
    revert o
    cases gi Γ with
    | exc c => exact fun o C F' H' m x => o σ C F' H' (er.slen hn) m (sh.ext x) x.f
    | bad => exact fun o => o
    | ok ds =>
      intro o J F1 H1 x1 wd
      simp only [R.bind_ok] at o
      obtain ⟨W, Y, wk, wst, wy⟩ := wd
      refine for_it wk (fun i σ2 H2 => i ≤ ds.length ∧ ∃ Γ2 F2, SH B F0 F2 H2 ∧ Same F1 F2 ∧ ER X.K B F2 H2 σ2 Γ2 ∧ Γ2.length = n ∧ OutS X.K X.mg B F0 n F2 E (forGo st gb (ds.drop i) Γ2) Dd)
        ⟨Nat.zero_le _, Γ, F1, sh.ext x1, Same.refl _, er.ext x1, hn, by simpa using OutS.mono o x1.f⟩ ?_ ?_ ?_
      · rintro i σ2 H2 hi ⟨_, Γ2, F2, sh2, s12, _⟩
        exact wst H2 (s12.trans sh2.f)
      · rintro i x σ2 H2 H3 hi ⟨_, Γ2, F2, sh2, s12, er2, hn2, o2⟩ y
        obtain ⟨F3, x3, dpx⟩ := wy i H2 x H3 ds[i] F2 s12 sh2.f (by simp [hi]) y
        rw [List.drop_eq_getElem_cons hi] at o2
        unfold forGo at o2
        cases est : st ds[i] Γ2 with
        | exc c => exact (hne _ _ _ est).elim
        | bad => rw [est] at o2; exact o2.elim
        | ok Γ3 =>
          rw [est] at o2
          simp only [R.bind_ok] at o2
          have l3 := hst _ _ _ est
          refine ⟨Γ2, F3, ds[i], Γ3, x3.fh, er2.ext x3, dpx, est, l3, fun σ' er' hl' hk' => ⟨Γ3, F3, sh2.ext x3, er', l3.trans hn2, ?_⟩⟩
          have kp := hb.keep Γ3
          have o3 := OutS.mono o2 x3.f
          revert kp o3
          cases gb Γ3 with
          | exc c => exact fun kp o => o
          | bad => exact fun kp o => o
          | ok f =>
            cases f with
            | rt d => exact fun kp o => o
            | nx Γ4 => exact fun kp o3 σ4 F4 H4 sh4 s34 er4 => ⟨hi, Γ4, F4, sh4, s12.trans (x3.f.trans s34), er4, (kp.1 Γ4 rfl).trans (l3.trans hn2), OutS.mono o3 s34⟩
            | ct Γ4 => exact fun kp o3 σ4 F4 H4 sh4 s34 er4 => ⟨hi, Γ4, F4, sh4, s12.trans (x3.f.trans s34), er4, (kp.2.2 Γ4 rfl).trans (l3.trans hn2), OutS.mono o3 s34⟩
            | bk Γ4 => exact fun kp o3 σ4 F4 H4 sh4 s34 er4 => o3 σ4 F4 H4 sh4 s34 er4
      · rintro σ2 H2 ⟨_, Γ2, F2, sh2, s12, er2, hn2, o2⟩
        rw [List.drop_length] at o2
        exact o2 σ2 F2 H2 sh2 (Same.refl _) er2
  · unfold gFor
    cases gi Γ with
    | exc c => exact ⟨fun _ q => (by cases q), fun _ q => (by cases q), fun _ q => (by cases q)⟩
    | bad => exact ⟨fun _ q => (by cases q), fun _ q => (by cases q), fun _ q => (by cases q)⟩
    | ok ds => exact keep_forGo hst hb.keep ds Γ
theorem sName_ne (i : Nat) : ∀ d Γ c, sName i d Γ ≠ .exc c := fun d Γ c q => by cases q
theorem ssNil_ne : ∀ ds Γ c, ssNil ds Γ ≠ .exc c := fun ds Γ c q => by unfold ssNil at q; split at q <;> cases q
theorem ssCons_ne {i : Nat} {st : List D → G → R G} (h : ∀ ds Γ c, st ds Γ ≠ .exc c) : ∀ ds Γ c, ssCons i st ds Γ ≠ .exc c := fun ds Γ c q => by
  unfold ssCons at q
  split at q
  · exact h _ _ _ q
  · cases q
theorem sTup_ne {st : List D → G → R G} (h : ∀ ds Γ c, st ds Γ ≠ .exc c) : ∀ d Γ c, sTup st d Γ ≠ .exc c := fun ds Γ c q => by
  unfold sTup at q
  split at q
  · exact h _ _ _ q
  · exact h _ _ _ q
  · cases q
end

/-! ### a def by its body -/
/-- what a def gives by its slots' start -/
def runD (n m : Nat) (g : G → R Fl) (ds : List D) : R D := if ds.length = m then (match g (ds.map Sv.dat ++ List.replicate (n - m) Sv.un) with
  | .ok (.rt d) => .ok d
  | .ok (.nx _) => .ok .none
  | .exc c => .exc c
  | _ => .bad) else .bad
theorem dpa_start {K : PySem.W.Frag} {F : Hp} {ds : List D} {vs : List V} (h : DpAll K F vs ds) (i : Nat) (d : D) (e : ds[i]? = some d) (N : List Str) : ∃ v, (L2.start N vs)[i]? = some (some v) ∧ Dp K F v d := by
  obtain ⟨v, a, b⟩ := dpa_get h e
  refine ⟨v, ?_, b⟩
  unfold L2.start
  have hi : i < vs.length := (List.getElem?_eq_some_iff.mp a).1
  rw [List.getElem?_append_left (by simpa using hi), List.getElem?_map, a]
  rfl
theorem er_start {K : PySem.W.Frag} {B F H : Hp} {ds : List D} {vs : List V} (h : DpAll K F vs ds) (N : List Str) : ER K B F H (L2.start N vs) (ds.map Sv.dat ++ List.replicate (N.length - ds.length) Sv.un) := by
  have hl := dpa_length h
  have key : ∀ (i : Nat) (s : Sv), (ds.map Sv.dat ++ List.replicate (N.length - ds.length) Sv.un)[i]? = some s → (∃ d, ds[i]? = some d ∧ s = .dat d) ∨ s = .un := fun i s e => by
    by_cases hi : i < ds.length
    · rw [List.getElem?_append_left (by simpa using hi), List.getElem?_map] at e
      cases q : ds[i]? with
      | none => rw [q] at e; cases e
      | some d => rw [q] at e; cases e; exact .inl ⟨d, rfl, rfl⟩
    · rw [List.getElem?_append_right (by simpa using Nat.le_of_not_lt hi), List.getElem?_replicate] at e
      split at e
      · cases e; exact .inr rfl
      · cases e
  refine ⟨by unfold L2.start; simp [hl], fun i s e => ?_, fun i j ds' es p h1 _ _ _ => ?_, fun i j ds' es p h1 _ _ _ => ?_⟩
  · rcases key i s e with ⟨d, e1, rfl⟩ | rfl
    · exact dpa_start h i d e1 N
    · trivial
  · rcases key i _ h1 with ⟨d, _, q⟩ | q <;> cases q
  · rcases key i _ h1 with ⟨d, _, q⟩ | q <;> cases q
/-- the facts of a context that every rule asks -/
structure OkX (X : Cx) (E : L2.St → XK) (k : Nat) : Prop where
  calm : X.calm = true
  nd : X.N.Nodup
  hr : Room k X.A
  px : ∀ σ, PassesAt (L2.CX X.prog X.w) X σ (E σ)
theorem OkX.ru {X : Cx} {E : L2.St → XK} {k : Nat} (o : OkX X E k) : RU X.A := ⟨by have := o.hr.un; omega⟩
theorem okX_blk {X : Cx} {E : L2.St → XK} {k : Nat} (o : OkX X E k) (s : Shared) (H : Hp) (scope : Scope) (cenv : Env) (fp : List Addr) : OkX (X.blk s H scope cenv fp) E0S k :=
  ⟨o.calm, o.nd, o.hr, fun σ pins H s e s' I c => by
    obtain ⟨_, _, _, _, _, _, _, _, _, _, _, _, z⟩ := c
    exact z.elim⟩
structure OkD (X : Cx) (E : L2.St → XK) (k : Nat) : Prop extends OkX X E k where
  tk : Takes X (fun cls d σ H => E σ cls d H)
  own : PassesOwn (model X.prog X.w) X.A X.env X.xe
theorem okD_of {P : Program} {w : World} {K : PySem.W.Frag} {mg : Str → Option Value} {base : Heap} {N ps : List Str} {qual : Str} {scope : Scope} {f : Addr} {cd : Value} {A : Around} {outer : List Env} {s : Shared} {H : Hp} {E : XK} {k : Nat} (S : FnScope N ps scope)
    (hr : Room k (A.deeper (PyProof.Rows.envOfC qual scope s.heap.objs.size f cd))) : OkD (cxOf (L2.CX P w) P w K mg base N qual scope f cd A outer s H E) (fun _ => E) k := by
  have tk : Takes (cxOf (L2.CX P w) P w K mg base N qual scope f cd A outer s H E) (fun cls d σ H => E cls d H) := takes_of rfl rfl rfl rfl
  exact { calm := rfl, nd := S.nd, hr := hr, px := fun σ => passAt (W := fun cls d σ H => E cls d H) tk σ, tk := tk, own := passes_of rfl }
/-- THE RULE for a def of plain data -/
theorem fn_ok_of {P : Program} {w : World} {K : PySem.W.Frag} {mg : Str → Option Value} {base : Heap} {x qual : Str} {params : Arguments} {body : List Stmt} {scope : Scope} {f : Addr} {fd : FuncData} {N ps : List Str} {k : Nat} {g : G → R Fl}
    (Fd : FunD K x qual params body scope [] [] f fd) (S : FnScope N ps scope)
    (body_ok : ∀ (cdv : Value) (A : Around) (outer : List Env) (s : Shared) (H F0 : Hp) (E : XK), OkD (cxOf (L2.CX P w) P w K mg base N qual scope f cdv A outer s H E) (fun _ => E) k →
      DSs (cxOf (L2.CX P w) P w K mg base N qual scope f cdv A outer s H E) H F0 N.length (fun _ => E) body g) :
    FnOk P w K mg base (L2.CX P w) (k + 1) f fd ps (spD K mg (runD N.length ps.length g)) := by
  refine FunD.ok Fd S (fun vs H Q E h => ?_) (fun cdv A outer s H vs Q E hr h => ?_)
  · obtain ⟨ds, F, s, dp, o⟩ := h
    rw [dpa_length dp]
    unfold runD at o
    split at o
    · rename_i e; exact e
    · exact o.elim
  · obtain ⟨ds, F, sm, dp, o⟩ := h
    refine ⟨_, (body_ok cdv A outer s H F E (okD_of S hr)).ps, ?_⟩
    unfold runD at o
    split at o
    · rename_i hl
      have hN : ps.length ≤ N.length := by have := congrArg List.length S.pre; rw [List.length_take] at this; omega
      refine ⟨_, F, ⟨Same.refl _, sm, Same.refl _, fun p h1 _ => h1⟩, er_start dp N, by simp; omega, ?_⟩
      rw [hl]
      revert o
      show Out K mg F H E _ Q → OutS K mg H F N.length F (fun _ => E) (g _) _
      cases g (ds.map Sv.dat ++ List.replicate (N.length - ps.length) Sv.un) with
      | exc c => exact fun o σ C F' H' _ m sh s => o C F' H' m ⟨s, sh.b, sh.f, sh.no⟩
      | bad => exact fun o => o
      | ok fl =>
        cases fl with
        | rt d => exact fun o v F' H' sh s dp => o v F' H' ⟨s, sh.b, sh.f, sh.no⟩ dp
        | nx Γ => exact fun o σ F' H' sh s er => o .non F' H' ⟨s, sh.b, sh.f, sh.no⟩ .non
        | bk Γ => exact fun o => o.elim
        | ct Γ => exact fun o => o.elim
    · exact o.elim
theorem fk_of {P : Program} {w : World} {K : PySem.W.Frag} {mg : Str → Option Value} {base : Heap} {x qual : Str} {params : Arguments} {body : List Stmt} {scope : Scope} {f : Addr} {fd : FuncData} {N ps : List Str} {k : Nat} {g : G → R Fl}
    (Fd : FunD K x qual params body scope [] [] f fd) (hm : mg x = some (.ref f)) (S : FnScope N ps scope)
    (hb : ∀ (kV doc pm : Value) (an : Option Addr) (cdv ct : Value) (us : List Value), us.length = ps.length → bindArgs (PySem.W.fnOf x qual params body scope .none kV doc pm an cdv ct) ⟨us, []⟩ = pure (ps.zip us))
    (body_ok : ∀ (cdv : Value) (A : Around) (outer : List Env) (s : Shared) (H F0 : Hp) (E : XK), OkD (cxOf (L2.CX P w) P w K mg base N qual scope f cdv A outer s H E) (fun _ => E) k →
      DSs (cxOf (L2.CX P w) P w K mg base N qual scope f cdv A outer s H E) H F0 N.length (fun _ => E) body g) :
    FK P w K mg base (k + 1) x (runD N.length ps.length g) := ⟨f, fd, ps, fn_ok_of Fd S body_ok, hm, Fd.kp, Fd.bindsN hb⟩
end ND
namespace ND
open PySem PySem.Spec L2
theorem px0 {X : Cx} : ∀ σ, PassesAt (L2.CX X.prog X.w) X σ (E0S σ) := fun σ pins H s e s' I c => by
  obtain ⟨_, _, _, _, _, _, _, _, _, _, _, _, z⟩ := c
  exact z.elim
section
variable {X : Cx} {B : Hp} {E : L2.St → XK}
theorem d_gstr {x z : Str} {pos : Pos} (h : ∃ t, X.mg x = some (.str z t)) (hg : Gl X x := by rfl) (hd : (x == ("__debug__" : Str)) = false := by decide) : DE X B E (.Name x pos) (gc (.str z)) := by
  obtain ⟨t, h⟩ := h
  exact d_const (pe_glob (v := .str z) hg h ⟨t, rfl⟩ hd) fun _ => .str _
theorem d_gint {x : Str} {z : Int} {pos : Pos} (h : ∃ t, X.mg x = some (.int z t)) (hg : Gl X x := by rfl) (hd : (x == ("__debug__" : Str)) = false := by decide) : DE X B E (.Name x pos) (gc (.int z)) := by
  obtain ⟨t, h⟩ := h
  exact d_const (pe_glob (v := .int z) hg h ⟨t, rfl⟩ hd) fun _ => .int _
theorem d_gtup {x : Str} {zs : List Str} {pos : Pos} (h : ∃ a, X.mg x = some (.ref a) ∧ ∀ H, SqT X.K H a (zs.map V.str)) (hg : Gl X x := by rfl) (hd : (x == ("__debug__" : Str)) = false := by decide) : DE X B E (.Name x pos) (gc (.tuple (zs.map .str))) := by
  obtain ⟨a, h, k⟩ := h
  exact d_const (pe_glob (v := .ref a) hg h rfl hd) fun F => .tup (k F) (dpa_strs zs)
end
theorem bb_isinstance : bootBuiltins "isinstance" = some (.builtin "isinstance") := by decide +kernel
theorem bb_len : bootBuiltins "len" = some (.builtin "len") := by decide +kernel
theorem bb_all : bootBuiltins "all" = some (.builtin "all") := by decide +kernel
theorem bb_any : bootBuiltins "any" = some (.builtin "any") := by decide +kernel
theorem bb_sum : bootBuiltins "sum" = some (.builtin "sum") := by decide +kernel
theorem bb_max : bootBuiltins "max" = some (.builtin "max") := by decide +kernel
theorem bb_min : bootBuiltins "min" = some (.builtin "min") := by decide +kernel
theorem bb_sorted : bootBuiltins "sorted" = some (.builtin "sorted") := by decide +kernel
theorem bb_str : bootBuiltins "str" = some (.type "str") := by decide +kernel
theorem bb_int : bootBuiltins "int" = some (.type "int") := by decide +kernel
theorem bb_bool : bootBuiltins "bool" = some (.type "bool") := by decide +kernel
theorem bb_tuple : bootBuiltins "tuple" = some (.type "tuple") := by decide +kernel
theorem bb_list : bootBuiltins "list" = some (.type "list") := by decide +kernel
theorem bb_set : bootBuiltins "set" = some (.type "set") := by decide +kernel
theorem bb_dict : bootBuiltins "dict" = some (.type "dict") := by decide +kernel
theorem bb_ValueError : bootBuiltins "ValueError" = some (.type "ValueError") := by decide +kernel

/-! ### the head's facts -/
/-- what is asked of the top beside its defs -/
inductive Ft where
  | free (x : Str)
  | str (x z : Str)
  | int (x : Str) (i : Int)
  | tup (x : Str) (zs : List Str)
  | exc (x : Str)
  | exm (x y : Str) (b : Bool)
  | fa (f : He.Fa)
  | rel (J : Str) (cs ys : List Str)
/-- what is asked of classes of exceptions: isinstance tells them apart, J catches them -/
def excOk (K : PySem.W.Frag) (d : Addr) : Bool :=
  He.eqO (PySem.W.findIn K (.ref d) "__getattribute__") (some (some (.builtin "BaseException.__getattribute__"))) && (He.eqO (PySem.W.findIn K (.ref d) "__getattr__") (some none) &&
  (decide (PySem.W.subIn K (.ref d) (.type "BaseException") = some true) && (PySem.W.hasDictIn K d && (He.eqO (PySem.W.findIn K (.ref d) "__class__") (some (some (.builtin "object.__class__"))) &&
  (He.eqO (PySem.W.specialIn K (.builtin "object.__class__") "__get__") (some (some (.builtin "getset_descriptor.__get__"))) && (decide (PySem.W.takesIn K (.builtin "object.__class__") = some true) && decide (PySem.W.mroIn K d (.type "object") = some true)))))))
theorem excOk_c {K : PySem.W.Frag} {d : Addr} (h : excOk K d = true) : L2.ExcC K d := by
  obtain ⟨h1, h⟩ := He.ba h
  obtain ⟨h2, h⟩ := He.ba h
  obtain ⟨h3, h⟩ := He.ba h
  obtain ⟨h4, h⟩ := He.ba h
  obtain ⟨h5, h⟩ := He.ba h
  obtain ⟨h6, h⟩ := He.ba h
  obtain ⟨h7, h8⟩ := He.ba h
  exact ⟨He.eqO_ok h1, He.eqO_ok h2, of_decide_eq_true h3, h4, He.eqO_ok h5, He.eqO_ok h6, of_decide_eq_true h7, of_decide_eq_true h8⟩
def relOk (K : PySem.W.Frag) (J : Str) (cs ys : List Str) : Bool := (He.Fa.glo J).ok K && (ys.all (fun y => (He.Fa.glo y).ok K) && cs.all fun c => (He.Fa.glo c).ok K && (excOk K (He.ga K c) && (decide (PySem.W.exmOne K (.ref (He.ga K c)) (.ref (He.ga K J)) = some true) &&
  (decide (PySem.W.kitOne K (.ref (He.ga K c)) (.type "ValueError") = some true) && ys.all fun y => decide (PySem.W.kitOne K (.ref (He.ga K c)) (.ref (He.ga K y)) = some (decide (c = y)))))))
def Ft.ok (K : PySem.W.Frag) : Ft → Bool
  | .free x => (He.Fa.free x).ok K
  | .str x z => (He.Fa.str x z).ok K
  | .int x i => (He.Fa.int x i).ok K
  | .tup x zs => (He.Fa.glo x).ok K && He.tupB K x (zs.map He.Dv.str)
  | .exc x => (He.Fa.glo x).ok K && (He.Fa.exc x).ok K
  | .exm x y b => (He.Fa.exm x y b).ok K
  | .fa f => f.ok K
  | .rel J cs ys => relOk K J cs ys
abbrev Obs : Type := Bool × List He.FnW
def obsN (ft : List Ft) (fn : List He.DefD) (K : PySem.W.Frag) : Obs := ((ft.all fun f => f.ok K) && fn.all fun d => (He.Fa.glo d.at_.1).ok K && d.ok K, fn.map fun d => He.fnW K d.at_)
def valN (fn : List He.DefD) : Obs := (true, fn.map He.DefD.val)
def SaysN (ft : List Ft) (fn : List He.DefD) (K : PySem.W.Frag) : Prop := obsN ft fn K = valN fn
def obsNG (n : Nat) (ft : List Ft) (fn : List He.DefD) (g : Addr → Option Obj) : Obs := obsN ft fn (He.frG g (He.asD g n))
def hookN (n : Nat) (ft : List Ft) (fn : List He.DefD) : PySem.W.Hook where
  α := Obs
  obs := fun s => obsNG n ft fn s.heap.get?
  val := fun _ => valN fn
  says := fun _ h => ∃ K : PySem.W.Frag, K.In h ∧ SaysN ft fn K
  of := fun _ _ e => ⟨_, He.frG_in, e⟩
  keeps := fun _ _ _ ⟨K, hK, c⟩ k => ⟨K, PySem.W.Frag.In.keeps hK k, c⟩
theorem obsNG_eq {n : Nat} {ft : List Ft} {fn : List He.DefD} {g : Addr → Option Obj} {s : Shared} (h : ∀ a, g a = s.heap.get? a) : obsNG n ft fn g = (hookN n ft fn).obs s := by
  have e : g = s.heap.get? := funext h
  rw [e] <;> rfl
section
variable {ft : List Ft} {fn : List He.DefD} {K : PySem.W.Frag} {h : Heap} {mg : Str → Option Value}
theorem SaysN.fact (c : SaysN ft fn K) (i : Nat) {f : Ft} (h : ft[i]? = some f := by rfl) : f.ok K = true := by
  have c1 := (He.ba (show ((ft.all fun f => f.ok K) && fn.all fun d => (He.Fa.glo d.at_.1).ok K && d.ok K) = true from congrArg (fun z : Obs => z.1) c)).1
  exact List.all_eq_true.mp c1 f (List.mem_of_getElem? h)
/-- a def as it stands: its name, its statement -/
structure DefIs (K : PySem.W.Frag) (mg : Str → Option Value) (x : Str) (st : Stmt) : Prop where
  ex : ∃ f fd, FunD K x x (defArgs st) (defBody st) (defScope st) [] [] f fd ∧ mg x = some (.ref f)
def mkD (x : Str) (st : Stmt) : He.DefD := ⟨(x, none), x, x, defArgs st, defBody st, defScope st, [], []⟩
theorem SaysN.def_ (X : K.In h) (G : h.Ns mainGlobals mg) (c : SaysN ft fn K) (i : Nat) {x : Str} {st : Stmt} (hi : fn[i]? = some (mkD x st) := by rfl) : DefIs K mg x st := by
  have c2 := (He.ba (show ((ft.all fun f => f.ok K) && fn.all fun d => (He.Fa.glo d.at_.1).ok K && d.ok K) = true from congrArg (fun z : Obs => z.1) c)).2
  have e : fn.map (fun d => He.fnW K d.at_) = fn.map He.DefD.val := congrArg (fun z : Obs => z.2) c
  have e2 : (fn.map fun d => He.fnW K d.at_)[i]? = (fn.map He.DefD.val)[i]? := by rw [e]
  rw [List.getElem?_map, List.getElem?_map, hi] at e2
  obtain ⟨g1, g2⟩ := He.ba (List.all_eq_true.mp c2 _ (List.mem_of_getElem? hi))
  obtain ⟨fd, F⟩ := He.DefD.funD (d := mkD x st) (Option.some.inj e2) g2
  exact ⟨_, fd, F, He.glo_ok X G g1⟩
theorem SaysN.free (X : K.In h) (G : h.Ns mainGlobals mg) (c : SaysN ft fn K) (i : Nat) {x : Str} (hi : ft[i]? = some (.free x) := by rfl) : mg x = none := He.free_ok X G (c.fact i hi)
theorem SaysN.str (X : K.In h) (G : h.Ns mainGlobals mg) (c : SaysN ft fn K) (i : Nat) {x z : Str} (hi : ft[i]? = some (.str x z) := by rfl) : ∃ t, mg x = some (.str z t) := He.str_ok X G (c.fact i hi)
theorem SaysN.int (X : K.In h) (G : h.Ns mainGlobals mg) (c : SaysN ft fn K) (i : Nat) {x : Str} {z : Int} (hi : ft[i]? = some (.int x z) := by rfl) : ∃ t, mg x = some (.int z t) := He.int_ok X G (c.fact i hi)
theorem SaysN.tup (X : K.In h) (G : h.Ns mainGlobals mg) (c : SaysN ft fn K) (i : Nat) {x : Str} {zs : List Str} (hi : ft[i]? = some (.tup x zs) := by rfl) : ∃ a, mg x = some (.ref a) ∧ ∀ H, SqT K H a (zs.map V.str) := by
  obtain ⟨a, b⟩ := He.ba (show ((He.Fa.glo x).ok K && He.tupB K x (zs.map He.Dv.str)) = true from c.fact i hi)
  refine ⟨_, He.glo_ok X G a, fun H => ?_⟩
  have := He.tupB_ok b H
  rw [List.map_map] at this
  exact this
/-- a class of the program's own over ValueError: where it stands -/
structure ExcIs (K : PySem.W.Frag) (mg : Str → Option Value) (x : Str) : Prop where
  ex : mg x = some (.ref (He.ga K x)) ∧ PySem.W.excIn K (He.ga K x) [.type "ValueError", .type "Exception", .type "BaseException", .type "object"] "ValueError.__new__" = true ∧ PySem.W.keepIn K (.ref (He.ga K x)) = true ∧
    PySem.W.subIn K (.ref (He.ga K x)) (.type "BaseException") = some true ∧ PySem.W.typeIn K (.ref (He.ga K x)) = some (.type "type")
theorem SaysN.exc (X : K.In h) (G : h.Ns mainGlobals mg) (c : SaysN ft fn K) (i : Nat) {x : Str} (hi : ft[i]? = some (.exc x) := by rfl) : ExcIs K mg x := by
  obtain ⟨a, b⟩ := He.ba (show ((He.Fa.glo x).ok K && (He.Fa.exc x).ok K) = true from c.fact i hi)
  obtain ⟨b1, b2, b3, b4⟩ := He.exc_ok b
  exact ⟨He.glo_ok X G a, b1, b2, b3, b4⟩
/-- classes of exceptions, told apart by isinstance -/
structure RelIs (K : PySem.W.Frag) (mg : Str → Option Value) (J : Str) (cs ys : List Str) : Prop where
  j : mg J = some (.ref (He.ga K J))
  y : ∀ y ∈ ys, mg y = some (.ref (He.ga K y))
  c : ∀ c ∈ cs, mg c = some (.ref (He.ga K c)) ∧ L2.ExcC K (He.ga K c) ∧ PySem.W.exmOne K (.ref (He.ga K c)) (.ref (He.ga K J)) = some true ∧ PySem.W.kitOne K (.ref (He.ga K c)) (.type "ValueError") = some true ∧
    ∀ y ∈ ys, PySem.W.kitOne K (.ref (He.ga K c)) (.ref (He.ga K y)) = some (decide (c = y))
theorem SaysN.rel (X : K.In h) (G : h.Ns mainGlobals mg) (c : SaysN ft fn K) (i : Nat) {J : Str} {cs ys : List Str} (hi : ft[i]? = some (.rel J cs ys) := by rfl) : RelIs K mg J cs ys := by
  obtain ⟨a, b⟩ := He.ba (show relOk K J cs ys = true from c.fact i hi)
  obtain ⟨b1, b2⟩ := He.ba b
  refine ⟨He.glo_ok X G a, fun y hy => He.glo_ok X G (List.all_eq_true.mp b1 y hy), fun c hc => ?_⟩
  obtain ⟨c1, c2⟩ := He.ba (List.all_eq_true.mp b2 c hc)
  obtain ⟨c2, c3⟩ := He.ba c2
  obtain ⟨c3, c4⟩ := He.ba c3
  obtain ⟨c4, c5⟩ := He.ba c4
  exact ⟨He.glo_ok X G c1, excOk_c c2, of_decide_eq_true c3, of_decide_eq_true c4, fun y hy => of_decide_eq_true (List.all_eq_true.mp c5 y hy)⟩
end
theorem ExcIs.c {X : Cx} {x : Str} (h : ExcIs X.K X.mg x) : ExcC X x := ⟨⟨_, h.ex⟩⟩

/-! ### the law -/
/-- the script as data -/
def scriptD (ns : List Int) : D := .list (ns.map .int)
theorem dpa_of_ints {K : PySem.W.Frag} {F : Hp} : ∀ (ns : List Int), DpAll K F (ns.map V.int) (ns.map PyData.int)
  | [] => .nil
  | n :: ns => .cons (.int n) (dpa_of_ints ns)
def spLawD (K : PySem.W.Frag) (mg : Str → Option Value) (g : List D → R D) : Sp := spD K mg g
theorem law_sp {K : PySem.W.Frag} {mg : Str → Option Value} {g : List D → R D} {H : Hp} {a : Addr} {ns : List Int} (hS : SqL K H a (ns.map V.int)) (h : g [scriptD ns] = .ok (.bool true)) : spD K mg g [.ref a] H (fun v _ => v = .bl true) fun _ _ _ => False := by
  refine ⟨[scriptD ns], H, Same.refl _, .cons (.lst hS (dpa_of_ints ns)) .nil, ?_⟩
  rw [h]
  intro v F' H' x dp
  cases dp
  rfl
theorem cx_none {P : Program} {w : World} (H : Hp) (s : Shared) (e : Value) (s' : Shared) (h : L2.CX P w [] H s (fun _ _ _ => False) e s') : False := by
  obtain ⟨_, _, _, _, _, _, _, _, _, _, _, _, z⟩ := h
  exact z
/-- the end of a law row, what may leave its def told by the world -/
theorem walk_ofW {l : PySem.W.OpenLaw} {n k : Nat} {q : Program} {loose : List Str} {XP : (Str → Option Value) → Heap → Prop} {YP : World → Heap → Prop} {d : DefRec} {CX : World → CXT} {x : Str}
    (hn : l.most = some n) (hn2 : n ≤ sizeLine) (hdf : d.params.defaults = []) (hr : Room k callerA)
    (F : ∀ (w : World) (mg : Str → Option Value) (fa : Addr) (h : Heap), YP w h → h.Ns mainGlobals mg → mg d.name = some (.ref fa) →
      ∃ (K : PySem.W.Frag) (fd : FuncData) (sp : Sp), K.In h ∧ (∀ (s : Shared) (u : Value), BindsTo s fd ⟨[u], []⟩ [(x, u)]) ∧
        (∀ (H : Hp) (a : Addr) (ns : List Int), ns.length ≤ n → Only H → SqL K H a (ns.map V.int) → sp [.ref a] H (fun v _ => v = .bl true) fun _ _ _ => False) ∧
        ∀ base : Heap, K.In base → base.Ns mainGlobals mg → FnOk l.prog w K mg base (CX w) k fa fd [x] sp)
    (hCX : ∀ (w : World) (H : Hp) (s : Shared) (e : Value) (s' : Shared), CX w [] H s (fun _ _ _ => False) e s' → False) :
    PySem.W.WalkO q loose XP YP l.row.toRowW d [] (fun f vs => PySem.call f vs) := by
  refine Att.attach_call hn hdf fun w s₀ s₁ mg mb fa o pm cd doc a vs ns G Y ho hd hcd hmg hobj hints hlen hg => ?_
  obtain ⟨K, fd, sp, KX, hb, hsp, hF⟩ := F w mg fa _ Y G.T.g hmg
  exact law_call KX G.T.g G.T.b G.T.builtins G.T.nolimit hg hobj hints (Nat.le_trans hlen hn2) hr hF hb (fun H hO hS => hsp H a ns hlen hO hS) fun H e s' => hCX w H s₁ e s'
/-- a law's def, from its statement -/
theorem law_fn {K : PySem.W.Frag} {mg : Str → Option Value} {x y : Str} {st : Stmt} {fa : Addr} {N : List Str} {k : Nat} {g : G → R Fl} (T : DefIs K mg x st) (hfa : mg x = some (.ref fa)) (S : FnScope N [y] (defScope st))
    (hb : ∀ (kV doc pm : Value) (an : Option Addr) (cdv ct : Value) (us : List Value), us.length = 1 → bindArgs (PySem.W.fnOf x x (defArgs st) (defBody st) (defScope st) .none kV doc pm an cdv ct) ⟨us, []⟩ = pure ([y].zip us)) {P : Program} {w : World}
    (body_ok : ∀ (base : Heap) (f : Addr) (cdv : Value) (A : Around) (outer : List Env) (s : Shared) (H F0 : Hp) (E : XK), OkD (cxOf (L2.CX P w) P w K mg base N x (defScope st) f cdv A outer s H E) (fun _ => E) k →
      DSs (cxOf (L2.CX P w) P w K mg base N x (defScope st) f cdv A outer s H E) H F0 N.length (fun _ => E) (defBody st) g) :
    ∃ fd : FuncData, (∀ (s : Shared) (u : Value), BindsTo s fd ⟨[u], []⟩ [(y, u)]) ∧ ∀ base : Heap, FnOk P w K mg base (L2.CX P w) (k + 1) fa fd [y] (spD K mg (runD N.length 1 g)) := by
  obtain ⟨f, fd, Fd, hm⟩ := T.ex
  have ef : f = fa := by rw [hm] at hfa; cases hfa; rfl
  subst ef
  exact ⟨fd, fun s u => FunD.bindsA (ps := [y]) Fd hb s [u] rfl, fun base => fn_ok_of Fd S (body_ok base f)⟩
end ND
namespace ND
open PySem PySem.Spec L2

/-! ### evaluation, one combinator at a time: nothing applied stands under a binder -/
def op2K (f : D → D → R D) (a b : R D) : R D := a.bind fun x => b.bind fun y => f x y
@[simp] theorem op2K_ok (f : D → D → R D) (x y : D) : op2K f (.ok x) (.ok y) = f x y := (rfl)
@[simp] theorem ev_g2 (f : D → D → R D) (a b : G → R D) (Γ : G) : g2 f a b Γ = op2K f (a Γ) (b Γ) := (rfl)
@[simp] theorem ev_gc (d : D) (Γ : G) : gc d Γ = .ok d := (rfl)
def slotK : Option Sv → R D
  | some (.dat d) => .ok d
  | _ => .bad
@[simp] theorem slotK_dat (d : D) : slotK (some (.dat d)) = .ok d := (rfl)
@[simp] theorem ev_gv (i : Nat) (Γ : G) : gv i Γ = slotK Γ[i]? := by
  unfold gv slotK
  cases Γ[i]? with
  | none => rfl
  | some s => cases s <;> rfl
def bvK : R D → R Bool
  | .ok (.bool b) => .ok b
  | .ok _ => .bad
  | .exc c => .exc c
  | .bad => .bad
@[simp] theorem bvK_ok (b : Bool) : bvK (.ok (.bool b)) = .ok b := (rfl)
@[simp] theorem ev_bv (g : G → R D) (Γ : G) : bv g Γ = bvK (g Γ) := by
  unfold bv
  cases g Γ with
  | ok d => cases d <;> rfl
  | _ => rfl
def andK (r : R Bool) (b : G → R D) (Γ : G) : R D := r.bind fun c => if c = true then b Γ else .ok (.bool false)
def orK (r : R Bool) (b : G → R D) (Γ : G) : R D := r.bind fun c => if c = true then .ok (.bool true) else b Γ
def ifK (r : R Bool) (a b : G → R D) (Γ : G) : R D := r.bind fun c => if c = true then a Γ else b Γ
def bandK (r : R Bool) (b : G → R Bool) (Γ : G) : R Bool := r.bind fun c => if c = true then b Γ else .ok false
def borK (r : R Bool) (b : G → R Bool) (Γ : G) : R Bool := r.bind fun c => if c = true then .ok true else b Γ
def ifSK (r : R Bool) (a b : G → R Fl) (Γ : G) : R Fl := r.bind fun c => if c = true then a Γ else b Γ
@[simp] theorem andK_t (b : G → R D) (Γ : G) : andK (.ok true) b Γ = b Γ := (rfl)
@[simp] theorem andK_f (b : G → R D) (Γ : G) : andK (.ok false) b Γ = .ok (.bool false) := (rfl)
@[simp] theorem orK_t (b : G → R D) (Γ : G) : orK (.ok true) b Γ = .ok (.bool true) := (rfl)
@[simp] theorem orK_f (b : G → R D) (Γ : G) : orK (.ok false) b Γ = b Γ := (rfl)
@[simp] theorem ifK_t (a b : G → R D) (Γ : G) : ifK (.ok true) a b Γ = a Γ := (rfl)
@[simp] theorem ifK_f (a b : G → R D) (Γ : G) : ifK (.ok false) a b Γ = b Γ := (rfl)
@[simp] theorem bandK_t (b : G → R Bool) (Γ : G) : bandK (.ok true) b Γ = b Γ := (rfl)
@[simp] theorem bandK_f (b : G → R Bool) (Γ : G) : bandK (.ok false) b Γ = .ok false := (rfl)
@[simp] theorem borK_t (b : G → R Bool) (Γ : G) : borK (.ok true) b Γ = .ok true := (rfl)
@[simp] theorem borK_f (b : G → R Bool) (Γ : G) : borK (.ok false) b Γ = b Γ := (rfl)
@[simp] theorem ifSK_t (a b : G → R Fl) (Γ : G) : ifSK (.ok true) a b Γ = a Γ := (rfl)
@[simp] theorem ifSK_f (a b : G → R Fl) (Γ : G) : ifSK (.ok false) a b Γ = b Γ := (rfl)
theorem asB_bvK (r : R D) {α : Type} (k : Bool → R α) : (r.bind fun x => (asB x).bind k) = (bvK r).bind k := by
  cases r with
  | ok d => cases d <;> rfl
  | _ => rfl
@[simp] theorem ev_and (a b : G → R D) (Γ : G) : gAnd a b Γ = andK (bvK (a Γ)) b Γ := asB_bvK _ _
@[simp] theorem ev_or (a b : G → R D) (Γ : G) : gOr a b Γ = orK (bvK (a Γ)) b Γ := asB_bvK _ _
def notK (r : R Bool) : R D := r.bind fun c => .ok (.bool (!c))
@[simp] theorem notK_ok (b : Bool) : notK (.ok b) = .ok (.bool (!b)) := (rfl)
@[simp] theorem ev_not (a : G → R D) (Γ : G) : gNot a Γ = notK (bvK (a Γ)) := asB_bvK _ _
@[simp] theorem ev_if (t : G → R Bool) (a b : G → R D) (Γ : G) : gIf t a b Γ = ifK (t Γ) a b Γ := (rfl)
@[simp] theorem ev_band (a b : G → R Bool) (Γ : G) : bAnd a b Γ = bandK (a Γ) b Γ := (rfl)
@[simp] theorem ev_bor (a b : G → R Bool) (Γ : G) : bOr a b Γ = borK (a Γ) b Γ := (rfl)
def bnotK (r : R Bool) : R Bool := r.bind fun c => .ok (!c)
@[simp] theorem bnotK_ok (b : Bool) : bnotK (.ok b) = .ok (!b) := (rfl)
@[simp] theorem ev_bnot (a : G → R Bool) (Γ : G) : bNot a Γ = bnotK (a Γ) := (rfl)
@[simp] theorem ev_bYes (Γ : G) : bYes Γ = .ok true := (rfl)
def chainK (f f' : D → D → R D) (a b : R D) (c : G → R D) (Γ : G) : R D := a.bind fun x => b.bind fun y => (f x y).bind fun z => (asB z).bind fun k => if k = true then (c Γ).bind fun w => f' y w else .ok (.bool false)
def chain2K (f' : D → D → R D) (r : R Bool) (y : D) (c : G → R D) (Γ : G) : R D := r.bind fun k => if k = true then (c Γ).bind fun w => f' y w else .ok (.bool false)
def appK (f : D → R D) (r : R D) : R D := r.bind f
@[simp] theorem appK_ok (f : D → R D) (d : D) : appK f (.ok d) = f d := (rfl)
@[simp] theorem chain2K_t (f' : D → D → R D) (y : D) (c : G → R D) (Γ : G) : chain2K f' (.ok true) y c Γ = appK (f' y) (c Γ) := (rfl)
@[simp] theorem chain2K_f (f' : D → D → R D) (y : D) (c : G → R D) (Γ : G) : chain2K f' (.ok false) y c Γ = .ok (.bool false) := (rfl)
@[simp] theorem chainK_ok (f f' : D → D → R D) (x y : D) (c : G → R D) (Γ : G) : chainK f f' (.ok x) (.ok y) c Γ = chain2K f' (bvK (f x y)) y c Γ := asB_bvK _ _
@[simp] theorem ev_chain (f f' : D → D → R D) (a b c : G → R D) (Γ : G) : gChain f f' a b c Γ = chainK f f' (a Γ) (b Γ) c Γ := (rfl)
@[simp] theorem ev_aNil (Γ : G) : aNil Γ = .ok [] := (rfl)
def consK (a : R D) (b : R (List D)) : R (List D) := a.bind fun d => b.bind fun ds => .ok (d :: ds)
@[simp] theorem consK_ok (d : D) (ds : List D) : consK (.ok d) (.ok ds) = .ok (d :: ds) := (rfl)
@[simp] theorem ev_aCons (g : G → R D) (gs : G → R (List D)) (Γ : G) : aCons g gs Γ = consK (g Γ) (gs Γ) := (rfl)
def appL {α : Type} (f : List D → R α) (r : R (List D)) : R α := r.bind f
@[simp] theorem appL_ok {α : Type} (f : List D → R α) (d : List D) : appL f (.ok d) = f d := (rfl)
@[simp] theorem ev_tup (gs : G → R (List D)) (Γ : G) : gTup gs Γ = appL mkT (gs Γ) := (rfl)
@[simp] theorem ev_lst (gs : G → R (List D)) (Γ : G) : gLst gs Γ = appL mkL (gs Γ) := (rfl)
@[simp] theorem ev_call (f : List D → R D) (gs : G → R (List D)) (Γ : G) : gCall f gs Γ = appL f (gs Γ) := (rfl)
@[simp] theorem ev_own (f : List D → R D) (gs : G → R (List D)) (Γ : G) : gOwn f gs Γ = appL f (gs Γ) := (rfl)
@[simp] theorem ev_isi (T : String) (g : G → R D) (Γ : G) : gIsi T g Γ = appK (tyIs T) (g Γ) := (rfl)
def m1K (f : Str → D → R D) (a b : R D) : R D := a.bind (asS fun x => b.bind fun d => f x d)
@[simp] theorem m1K_ok (f : Str → D → R D) (x : Str) (d : D) : m1K f (.ok (.str x)) (.ok d) = f x d := (rfl)
@[simp] theorem ev_m1 (f : Str → D → R D) (go ge : G → R D) (Γ : G) : gM1 f go ge Γ = m1K f (go Γ) (ge Γ) := (rfl)
def m0K (f : Str → R D) (a : R D) : R D := a.bind (asS f)
@[simp] theorem m0K_ok (f : Str → R D) (x : Str) : m0K f (.ok (.str x)) = f x := (rfl)
@[simp] theorem ev_m0 (f : Str → R D) (go : G → R D) (Γ : G) : gM0 f go Γ = m0K f (go Γ) := (rfl)
def lmK (f : D → D → R D) (a b : R D) : R D := a.bind fun l => if isList l = true then b.bind fun d => f l d else .bad
@[simp] theorem lmK_ok (f : D → D → R D) (xs : List D) (d : D) : lmK f (.ok (.list xs)) (.ok d) = f (.list xs) d := (rfl)
@[simp] theorem ev_lm (f : D → D → R D) (go ge : G → R D) (Γ : G) : gLM f go ge Γ = lmK f (go Γ) (ge Γ) := (rfl)
@[simp] theorem ev_oNone (Γ : G) : oNone Γ = .ok none := (rfl)
def oSomeK (r : R D) : R (Option Int) := r.bind asI
@[simp] theorem oSomeK_ok (i : Int) : oSomeK (.ok (.int i)) = .ok (some i) := (rfl)
@[simp] theorem ev_oSome (g : G → R D) (Γ : G) : oSome g Γ = oSomeK (g Γ) := (rfl)
def slK (a : R D) (l h : R (Option Int)) : R D := a.bind fun d => l.bind fun l => h.bind fun h => fSl d l h
@[simp] theorem slK_ok (d : D) (l h : Option Int) : slK (.ok d) (.ok l) (.ok h) = fSl d l h := (rfl)
@[simp] theorem ev_sl (g : G → R D) (lo hi : G → R (Option Int)) (Γ : G) : gSl g lo hi Γ = slK (g Γ) (lo Γ) (hi Γ) := (rfl)
@[simp] theorem ev_neg (g : G → R D) (Γ : G) : gNeg g Γ = appK fNeg (g Γ) := (rfl)
def itK (r : R D) : R (List D) := r.bind itD
@[simp] theorem itK_ok (d : D) : itK (.ok d) = itD d := (rfl)
@[simp] theorem ev_it (g : G → R D) (Γ : G) : gIt g Γ = itK (g Γ) := (rfl)
@[simp] theorem ev_rg1 (gs : G → R (List D)) (Γ : G) : gRg1 gs Γ = appL rg1 (gs Γ) := (rfl)
@[simp] theorem ev_rg2 (gs : G → R (List D)) (Γ : G) : gRg2 gs Γ = appL rg2 (gs Γ) := (rfl)
@[simp] theorem ev_zip (gs : G → R (List D)) (Γ : G) : gZip gs Γ = appL zp (gs Γ) := (rfl)
def lcK (Γ : G) (st : D → G → R G) (gt : G → R Bool) (ge : G → R D) (r : R (List D)) : R D := r.bind fun ds => if ds.length ≤ sizeLine then (noexc (lcGo Γ st gt ge ds)).bind fun ys => .ok (.list ys) else .bad
@[simp] theorem ev_lc (vs : List Nat) (st : D → G → R G) (gi : G → R (List D)) (gt : G → R Bool) (ge : G → R D) (Γ : G) : gLc vs st gi gt ge Γ = lcK (wipeG Γ vs) st gt ge (gi Γ) := (rfl)
/-- a comprehension: each item's answer told -/
theorem lcGo_all (Γ : G) (st : D → G → R G) (gt : G → R Bool) (ge : G → R D) (q : D → Bool) (y : D → D) : ∀ (ds : List D), (∀ d ∈ ds, ∃ Γ1, st d Γ = .ok Γ1 ∧ gt Γ1 = .ok (q d) ∧ (q d = true → ge Γ1 = .ok (y d))) →
    lcGo Γ st gt ge ds = .ok ((ds.filter q).map y)
  | [], _ => rfl
  | d :: ds, h => by
    obtain ⟨Γ1, h1, h2, h3⟩ := h d (by simp)
    have ih := lcGo_all Γ st gt ge q y ds fun e he => h e (by simp [he])
    unfold lcGo
    rw [h1]
    simp only [R.bind_ok, h2, noexc]
    cases e : q d with
    | true => simp [e, h3 e, noexc, ih]
    | false => simp [e, ih]
theorem lcK_all (Γ : G) (st : D → G → R G) (gt : G → R Bool) (ge : G → R D) (q : D → Bool) (y : D → D) (ds : List D) (hl : ds.length ≤ sizeLine) (h : ∀ d ∈ ds, ∃ Γ1, st d Γ = .ok Γ1 ∧ gt Γ1 = .ok (q d) ∧ (q d = true → ge Γ1 = .ok (y d))) :
    lcK Γ st gt ge (.ok ds) = .ok (.list ((ds.filter q).map y)) := by
  unfold lcK
  rw [R.bind_ok, if_pos hl, lcGo_all Γ st gt ge q y ds h]
  rfl
/-- over the images of α's -/
theorem lcK_map {α : Type} (Γ : G) (st : D → G → R G) (gt : G → R Bool) (ge : G → R D) (en : α → D) (q : α → Bool) (y : α → D) (as : List α) (hl : as.length ≤ sizeLine) (h : ∀ a ∈ as, ∃ Γ1, st (en a) Γ = .ok Γ1 ∧ gt Γ1 = .ok (q a) ∧ (q a = true → ge Γ1 = .ok (y a))) :
    lcK Γ st gt ge (.ok (as.map en)) = .ok (.list ((as.filter q).map y)) := by
  unfold lcK
  rw [R.bind_ok, if_pos (by simpa using hl)]
  have : ∀ as : List α, (∀ a ∈ as, ∃ Γ1, st (en a) Γ = .ok Γ1 ∧ gt Γ1 = .ok (q a) ∧ (q a = true → ge Γ1 = .ok (y a))) → lcGo Γ st gt ge (as.map en) = .ok ((as.filter q).map y) := by
    intro as
    induction as with
    | nil => intro _; rfl
    | cons a as ih =>
      intro h
      obtain ⟨Γ1, h1, h2, h3⟩ := h a (by simp)
      rw [List.map_cons]
      unfold lcGo
      rw [h1]
      simp only [R.bind_ok, h2, noexc]
      have ih := ih fun e he => h e (by simp [he])
      cases e : q a with
      | true => simp [e, h3 e, noexc, ih]
      | false => simp [e, ih]
  rw [this as h]
  rfl
/-- every item taken -/
theorem lcK_mapT {α : Type} (Γ : G) (st : D → G → R G) (gt : G → R Bool) (ge : G → R D) (en : α → D) (y : α → D) (as : List α) (hl : as.length ≤ sizeLine) (h : ∀ a ∈ as, ∃ Γ1, st (en a) Γ = .ok Γ1 ∧ gt Γ1 = .ok true ∧ ge Γ1 = .ok (y a)) :
    lcK Γ st gt ge (.ok (as.map en)) = .ok (.list (as.map y)) := by
  rw [lcK_map Γ st gt ge en (fun _ => true) y as hl fun a ha => by
    obtain ⟨Γ1, a1, a2, a3⟩ := h a ha
    exact ⟨Γ1, a1, a2, fun _ => a3⟩]
  rw [List.filter_eq_self.mpr (by simp)]
def seqK (g2 : G → R Fl) : R Fl → R Fl
  | .ok (.nx Γ) => g2 Γ
  | r => r
@[simp] theorem seqK_nx (g : G → R Fl) (Γ : G) : seqK g (.ok (.nx Γ)) = g Γ := (rfl)
@[simp] theorem seqK_rt (g : G → R Fl) (d : D) : seqK g (.ok (.rt d)) = .ok (.rt d) := (rfl)
@[simp] theorem seqK_bk (g : G → R Fl) (Γ : G) : seqK g (.ok (.bk Γ)) = .ok (.bk Γ) := (rfl)
@[simp] theorem seqK_ct (g : G → R Fl) (Γ : G) : seqK g (.ok (.ct Γ)) = .ok (.ct Γ) := (rfl)
@[simp] theorem seqK_exc (g : G → R Fl) (c : Str) : seqK g (.exc c) = .exc c := (rfl)
@[simp] theorem ev_seq (g1 g2 : G → R Fl) (Γ : G) : gSeq g1 g2 Γ = seqK g2 (g1 Γ) := by
  unfold gSeq
  cases g1 Γ with
  | ok f => cases f <;> rfl
  | _ => rfl
@[simp] theorem ev_skip (Γ : G) : gSkip Γ = .ok (.nx Γ) := (rfl)
def exprK (Γ : G) (r : R D) : R Fl := r.bind fun _ => .ok (.nx Γ)
@[simp] theorem exprK_ok (Γ : G) (d : D) : exprK Γ (.ok d) = .ok (.nx Γ) := (rfl)
@[simp] theorem exprK_exc (Γ : G) (c : Str) : exprK Γ (.exc c) = .exc c := (rfl)
@[simp] theorem ev_expr (g : G → R D) (Γ : G) : gExpr g Γ = exprK Γ (g Γ) := (rfl)
def retK (r : R D) : R Fl := r.bind fun d => .ok (.rt d)
@[simp] theorem retK_ok (d : D) : retK (.ok d) = .ok (.rt d) := (rfl)
@[simp] theorem retK_exc (c : Str) : retK (.exc c) = .exc c := (rfl)
@[simp] theorem ev_ret (g : G → R D) (Γ : G) : gRet g Γ = retK (g Γ) := (rfl)
def nxK (r : R G) : R Fl := r.bind fun Γ => .ok (.nx Γ)
@[simp] theorem nxK_ok (Γ : G) : nxK (.ok Γ) = .ok (.nx Γ) := (rfl)
def setK (st : D → G → R G) (Γ : G) (r : R D) : R Fl := r.bind fun d => (st d Γ).bind fun Γ' => .ok (.nx Γ')
@[simp] theorem setK_ok (st : D → G → R G) (Γ : G) (d : D) : setK st Γ (.ok d) = nxK (st d Γ) := (rfl)
@[simp] theorem setK_exc (st : D → G → R G) (Γ : G) (c : Str) : setK st Γ (.exc c) = .exc c := (rfl)
@[simp] theorem ev_set (st : D → G → R G) (g : G → R D) (Γ : G) : gSet st g Γ = setK st Γ (g Γ) := (rfl)
@[simp] theorem ev_sName (i : Nat) (d : D) (Γ : G) : sName i d Γ = .ok (Γ.set i (.dat d)) := (rfl)
@[simp] theorem ev_ifS (t : G → R Bool) (a b : G → R Fl) (Γ : G) : gIfS t a b Γ = ifSK (t Γ) a b Γ := (rfl)
@[simp] theorem ev_raise (c : Str) (Γ : G) : gRaise c Γ = .exc c := (rfl)
@[simp] theorem ev_brk (Γ : G) : gBrk Γ = .ok (.bk Γ) := (rfl)
@[simp] theorem ev_cnt (Γ : G) : gCnt Γ = .ok (.ct Γ) := (rfl)
def forK (st : D → G → R G) (body : G → R Fl) (Γ : G) (r : R (List D)) : R Fl := r.bind fun ds => forGo st body ds Γ
@[simp] theorem forK_ok (st : D → G → R G) (body : G → R Fl) (Γ : G) (ds : List D) : forK st body Γ (.ok ds) = forGo st body ds Γ := (rfl)
@[simp] theorem ev_for (st : D → G → R G) (gi : G → R (List D)) (body : G → R Fl) (Γ : G) : gFor st gi body Γ = forK st body Γ (gi Γ) := (rfl)
def goK (st : D → G → R G) (body : G → R Fl) (ds : List D) : R Fl → R Fl
  | .ok (.nx Γ) => forGo st body ds Γ
  | .ok (.ct Γ) => forGo st body ds Γ
  | .ok (.bk Γ) => .ok (.nx Γ)
  | .ok (.rt d) => .ok (.rt d)
  | .exc c => .exc c
  | .bad => .bad
@[simp] theorem goK_nx (st : D → G → R G) (body : G → R Fl) (ds : List D) (Γ : G) : goK st body ds (.ok (.nx Γ)) = forGo st body ds Γ := (rfl)
@[simp] theorem goK_ct (st : D → G → R G) (body : G → R Fl) (ds : List D) (Γ : G) : goK st body ds (.ok (.ct Γ)) = forGo st body ds Γ := (rfl)
@[simp] theorem goK_rt (st : D → G → R G) (body : G → R Fl) (ds : List D) (d : D) : goK st body ds (.ok (.rt d)) = .ok (.rt d) := (rfl)
def bodyK (body : G → R Fl) (r : R G) : R Fl := r.bind body
@[simp] theorem bodyK_ok (body : G → R Fl) (Γ : G) : bodyK body (.ok Γ) = body Γ := (rfl)
@[simp] theorem forGo_nil (st : D → G → R G) (body : G → R Fl) (Γ : G) : forGo st body [] Γ = .ok (.nx Γ) := (rfl)
theorem forGo_cons (st : D → G → R G) (body : G → R Fl) (d : D) (ds : List D) (Γ : G) : forGo st body (d :: ds) Γ = goK st body ds (bodyK body (st d Γ)) := by
  show (st d Γ).bind _ = _
  cases st d Γ with
  | ok Γ1 =>
    show (body Γ1).bind _ = goK st body ds (body Γ1)
    cases body Γ1 with
    | ok f => cases f <;> rfl
    | _ => rfl
  | _ => rfl
/-- a loop whose every turn goes on, by an invariant of the slots -/
theorem forGo_inv {α : Type} (st : D → G → R G) (body : G → R Fl) (en : α → D) (I : List α → G → Prop) : ∀ (post pre : List α) (Γ : G), I pre Γ →
    (∀ pre a post' Γ, pre ++ a :: post' = pre ++ a :: post' → I pre Γ → ∃ Γ1, bodyK body (st (en a) Γ) = .ok (.nx Γ1) ∧ I (pre ++ [a]) Γ1) → ∃ Γ', forGo st body (post.map en) Γ = .ok (.nx Γ') ∧ I (pre ++ post) Γ'
  | [], pre, Γ, h, _ => ⟨Γ, rfl, by simpa using h⟩
  | a :: post, pre, Γ, h, step => by
    obtain ⟨Γ1, e, h1⟩ := step pre a post Γ rfl h
    obtain ⟨Γ', e2, h2⟩ := forGo_inv st body en I post (pre ++ [a]) Γ1 h1 step
    exact ⟨Γ', by rw [List.map_cons, forGo_cons, e]; exact e2, by simpa using h2⟩
/-- .. the items' membership at hand -/
theorem forGo_mem {α : Type} (st : D → G → R G) (body : G → R Fl) (en : α → D) (I : G → Prop) : ∀ (as : List α) (Γ : G), I Γ →
    (∀ a ∈ as, ∀ Γ, I Γ → ∃ Γ1, bodyK body (st (en a) Γ) = .ok (.nx Γ1) ∧ I Γ1) → ∃ Γ', forGo st body (as.map en) Γ = .ok (.nx Γ') ∧ I Γ'
  | [], Γ, h, _ => ⟨Γ, rfl, h⟩
  | a :: as, Γ, h, step => by
    obtain ⟨Γ1, e, h1⟩ := step a (by simp) Γ h
    obtain ⟨Γ', e2, h2⟩ := forGo_mem st body en I as Γ1 h1 fun b hb => step b (by simp [hb])
    exact ⟨Γ', by rw [List.map_cons, forGo_cons, e]; exact e2, h2⟩
def endK : R Fl → R D
  | .ok (.rt d) => .ok d
  | .ok (.nx _) => .ok .none
  | .exc c => .exc c
  | _ => .bad
@[simp] theorem endK_rt (d : D) : endK (.ok (.rt d)) = .ok d := (rfl)
@[simp] theorem endK_nx (Γ : G) : endK (.ok (.nx Γ)) = .ok .none := (rfl)
@[simp] theorem endK_exc (c : Str) : endK (.exc c) = .exc c := (rfl)
theorem runD_eq (n m : Nat) (g : G → R Fl) (ds : List D) (h : ds.length = m) : runD n m g ds = endK (g (ds.map Sv.dat ++ List.replicate (n - m) Sv.un)) := by
  unfold runD
  rw [if_pos h]
  cases g (ds.map Sv.dat ++ List.replicate (n - m) Sv.un) with
  | ok f => cases f <;> rfl
  | _ => rfl
@[simp] theorem fAdd_int (i j : Int) : fAdd (.int i) (.int j) = .ok (.int (i + j)) := (rfl)
@[simp] theorem fSub_int (i j : Int) : fSub (.int i) (.int j) = .ok (.int (i - j)) := (rfl)
@[simp] theorem fNeg_int (i : Int) : fNeg (.int i) = .ok (.int (-i)) := (rfl)
theorem fMul_int {i j : Int} (h : i.natAbs.log2 + j.natAbs.log2 < 1000000) : fMul (.int i) (.int j) = .ok (.int (i * j)) := if_pos h
theorem fMod_int {i j : Int} (h : 0 < j) : fMod (.int i) (.int j) = .ok (.int (i % j)) := if_pos h
theorem fDiv_int {i j : Int} (h : 0 < j) (h2 : j.natAbs.log2 < 9000) : fDiv (.int i) (.int j) = .ok (.int (i / j)) := if_pos ⟨h, h2⟩
@[simp] theorem fEq_int (i j : Int) : fEq (.int i) (.int j) = .ok (.bool (decide (i = j))) := by simp [fEq, scalD, PyData.eqv]; rw [Bool.eq_iff_iff]; simp
@[simp] theorem fEq_str (i j : Str) : fEq (.str i) (.str j) = .ok (.bool (decide (i = j))) := by simp [fEq, scalD, PyData.eqv]; rw [Bool.eq_iff_iff]; simp
@[simp] theorem fEq_bool (i j : Bool) : fEq (.bool i) (.bool j) = .ok (.bool (decide (i = j))) := by simp [fEq, scalD, PyData.eqv]; rw [Bool.eq_iff_iff]; simp
@[simp] theorem fNe_int (i j : Int) : fNe (.int i) (.int j) = .ok (.bool (!decide (i = j))) := by simp [fNe, scalD, PyData.eqv]; rw [Bool.eq_iff_iff]; simp
@[simp] theorem fNe_str (i j : Str) : fNe (.str i) (.str j) = .ok (.bool (!decide (i = j))) := by simp [fNe, scalD, PyData.eqv]; rw [Bool.eq_iff_iff]; simp
@[simp] theorem fNe_bool (i j : Bool) : fNe (.bool i) (.bool j) = .ok (.bool (!decide (i = j))) := by simp [fNe, scalD, PyData.eqv]; rw [Bool.eq_iff_iff]; simp
@[simp] theorem fLt_int (i j : Int) : fLt (.int i) (.int j) = .ok (.bool (decide (i < j))) := (rfl)
@[simp] theorem fLe_int (i j : Int) : fLe (.int i) (.int j) = .ok (.bool (decide (i ≤ j))) := (rfl)
@[simp] theorem fGt_int (i j : Int) : fGt (.int i) (.int j) = .ok (.bool (decide (j < i))) := (rfl)
@[simp] theorem fGe_int (i j : Int) : fGe (.int i) (.int j) = .ok (.bool (decide (j ≤ i))) := (rfl)
@[simp] theorem fLt_str (x y : Str) : fLt (.str x) (.str y) = .ok (.bool (decide (x.cps.toList < y.cps.toList))) := (rfl)
@[simp] theorem fLe_str (x y : Str) : fLe (.str x) (.str y) = .ok (.bool (!decide (y.cps.toList < x.cps.toList))) := (rfl)
@[simp] theorem fIs_none (d : D) : fIs d .none = .ok (.bool (isNone d)) := (rfl)
@[simp] theorem fIsNot_none (d : D) : fIsNot d .none = .ok (.bool (!isNone d)) := (rfl)
@[simp] theorem fIn_str (x y : Str) : fIn (.str x) (.str y) = .ok (.bool (inStr x y)) := (rfl)
@[simp] theorem fNotIn_str (x y : Str) : fNotIn (.str x) (.str y) = .ok (.bool (!inStr x y)) := (rfl)
@[simp] theorem fLen_list (xs : List D) : fLen [.list xs] = .ok (.int xs.length) := (rfl)
@[simp] theorem fLen_tuple (xs : List D) : fLen [.tuple xs] = .ok (.int xs.length) := (rfl)
theorem fLen_str {x : Str} (h : x.length ≤ sizeLine) : fLen [.str x] = .ok (.int x.length) := if_pos h
theorem mkT_ok {ds : List D} (h : ds.length ≤ sizeLine) : mkT ds = .ok (.tuple ds) := if_pos h
theorem mkL_ok {ds : List D} (h : ds.length ≤ sizeLine) : mkL ds = .ok (.list ds) := if_pos h
end ND
namespace ND
open PySem PySem.Spec L2
/-! ### texts by their signs -/
abbrev Tx := List Nat
abbrev St' (l : Tx) : Str := ⟨l.toArray⟩
def SM : Tx := [97,98,99,100,101,102,103,104,105,106,107,108,109,110,111,112,113,114,115,116,117,118,119,120,121,122]
def FG : Tx := [48,49,50,51,52,53,54,55,56,57]
def OT : Tx := [45,95,46,47]
def GR : Tx := [65,66,67,68,69,70,71,72,73,74,75,76,77,78,79,80,81,82,83,84,85,86,87,88,89,90]
/-- the text of these signs -/
def T (l : Tx) : D := .str (St' l)
theorem len_S (a : Tx) : (St' a).length = a.length := by simp [Str.length]
theorem T_of (x : Str) : PyData.str x = T x.cps.toList := rfl
theorem T_inj {a b : Tx} (h : T a = T b) : a = b := by
  unfold T at h
  injection h with h
  exact SX.S_inj h
@[simp] theorem T_eq (a b : Tx) : (T a = T b) ↔ a = b := ⟨T_inj, fun h => h ▸ rfl⟩
@[simp] theorem eqv_T (a b : Tx) : PyData.eqv (T a) (T b) = decide (a = b) := by
  unfold T
  simp only [PyData.eqv]
  exact SX.S_beq_eq
@[simp] theorem fEq_T (a b : Tx) : fEq (T a) (T b) = .ok (.bool (decide (a = b))) := by
  rw [← eqv_T]; rfl
@[simp] theorem fNe_T (a b : Tx) : fNe (T a) (T b) = .ok (.bool (!decide (a = b))) := by
  rw [← eqv_T]; rfl
@[simp] theorem fLt_T (a b : Tx) : fLt (T a) (T b) = .ok (.bool (decide (a < b))) := (rfl)
theorem fAdd_T {a b : Tx} (h : a.length + b.length ≤ 16777216) : fAdd (T a) (T b) = .ok (T (a ++ b)) := by
  have : fAdd (T a) (T b) = if (St' a).length + (St' b).length ≤ sizeLine then .ok (.str (St' a ++ St' b)) else .bad := rfl
  rw [this, len_S, len_S, if_pos (by rw [sizeLine_eq]; exact h), SX.S_cat]
  rfl
theorem fLen_T {a : Tx} (h : a.length ≤ 16777216) : fLen [T a] = .ok (.int a.length) := by
  unfold T
  rw [fLen_str (by rw [len_S, sizeLine_eq]; exact h), len_S]
theorem fIx_T {a : Tx} (i : Int) (h : a.length ≤ 16777216) : fIx (T a) (.int i) = (match atI a i with | some c => .ok (T [c]) | none => .bad) := by
  have : fIx (T a) (.int i) = if (St' a).length ≤ sizeLine then (match atI a i with | some c => .ok (T [c]) | none => .bad) else .bad := rfl
  rw [this, len_S, if_pos (by rw [sizeLine_eq]; exact h)]
theorem fIx_T0 {c : Nat} {a : Tx} (h : (c :: a).length ≤ 16777216) : fIx (T (c :: a)) (.int 0) = .ok (T [c]) := by
  rw [fIx_T _ h]
  have : atI (c :: a) 0 = some c := atI_nat (j := 0) (by simp)
  rw [this]
theorem fIx_Tn {a : Tx} {n : Nat} {c : Nat} (e : a[n]? = some c) (h : a.length ≤ 16777216) : fIx (T a) (.int (n : Nat)) = .ok (T [c]) := by
  rw [fIx_T _ h, atI_nat e]
theorem atI_neg1 {α : Type} {a : List α} (hn : a ≠ []) : atI a (-1) = some (a.getLast hn) := by
  have := atI_last a.dropLast (a.getLast hn)
  rwa [List.dropLast_concat_getLast hn] at this
theorem fIx_Tl {a : Tx} (hn : a ≠ []) (h : a.length ≤ 16777216) : fIx (T a) (.int (-1)) = .ok (T [a.getLast hn]) := by
  rw [fIx_T _ h, atI_neg1 hn]
@[simp] theorem fIn_T1 (c : Nat) (b : Tx) : fIn (T [c]) (T b) = .ok (.bool (decide (c ∈ b))) := by
  show R.ok (PyData.bool (inStr ⟨#[c]⟩ (St' b))) = _
  unfold inStr
  rw [PySem.StrLaws.found_one]
@[simp] theorem fNotIn_T1 (c : Nat) (b : Tx) : fNotIn (T [c]) (T b) = .ok (.bool (!decide (c ∈ b))) := by
  show R.ok (PyData.bool (!inStr ⟨#[c]⟩ (St' b))) = _
  unfold inStr
  rw [PySem.StrLaws.found_one]
@[simp] theorem itD_T (a : Tx) : itD (T a) = .ok (a.map fun c => T [c]) := (rfl)
@[simp] theorem itD_list (ds : List D) : itD (.list ds) = .ok ds := (rfl)
@[simp] theorem itD_tuple (ds : List D) : itD (.tuple ds) = .ok ds := (rfl)
/-! startswith, endswith -/
theorem starts_T (a b : Tx) : Txt.startswith (St' a) (St' b) = b.isPrefixOf a := by
  unfold Txt.startswith
  rw [PySem.StrLaws.subAt_eq, len_S, len_S]
  show (decide (0 + b.length ≤ a.length) && ((a.drop 0).take b.length == b)) = _
  rw [List.drop_zero, Bool.eq_iff_iff, Bool.and_eq_true, decide_eq_true_eq, beq_iff_eq, List.isPrefixOf_iff_prefix, List.prefix_iff_eq_take]
  constructor
  · intro h; exact h.2.symm
  · intro h
    refine ⟨?_, h.symm⟩
    have := congrArg List.length h
    rw [List.length_take] at this
    omega
theorem ends_T (a b : Tx) : Txt.endswith (St' a) (St' b) = b.isSuffixOf a := by
  unfold Txt.endswith
  rw [PySem.StrLaws.subAt_eq, len_S, len_S]
  show (decide (0 + b.length ≤ a.length) && ((a.drop (a.length - b.length)).take b.length == b)) = _
  rw [Bool.eq_iff_iff, Bool.and_eq_true, decide_eq_true_eq, beq_iff_eq, List.isSuffixOf_iff_suffix, List.suffix_iff_eq_drop]
  constructor
  · intro ⟨h1, h2⟩
    rw [List.take_of_length_le (by rw [List.length_drop]; omega)] at h2
    exact h2.symm
  · intro h
    have e := congrArg List.length h
    rw [List.length_drop] at e
    refine ⟨by omega, ?_⟩
    rw [List.take_of_length_le (by rw [List.length_drop]; omega)]
    exact h.symm
@[simp] theorem m1K_T (f : Str → D → R D) (a : Tx) (d : D) : m1K f (.ok (T a)) (.ok d) = f (St' a) d := (rfl)
@[simp] theorem m0K_T (f : Str → R D) (a : Tx) : m0K f (.ok (T a)) = f (St' a) := (rfl)
@[simp] theorem fS_T (h : Str → Str → D) (a b : Tx) : fS h (St' a) (T b) = .ok (h (St' a) (St' b)) := (rfl)
/-! split at one sign, join -/
def splC (c : Nat) : Tx → List Tx
  | [] => [[]]
  | x :: l => if x = c then [] :: splC c l else match splC c l with
    | p :: ps => (x :: p) :: ps
    | [] => [[x]]
theorem splC_ne (c : Nat) (l : Tx) : splC c l ≠ [] := by
  induction l with
  | nil => simp [splC]
  | cons x l ih =>
    unfold splC
    by_cases h : x = c
    · simp [h]
    · rw [if_neg h]
      split <;> simp
theorem spl_splC (c : Nat) : ∀ (l acc : Tx), TL.spl [c] 0 acc l = match splC c l with | p :: ps => (acc ++ p) :: ps | [] => [acc]
  | [], acc => by simp [splC, TL.spl]
  | x :: l, acc => by
    by_cases h : x = c
    · have hp : TL.pre [c] (x :: l) = true := by simp [TL.pre, h]
      rw [TL.spl_hit hp]
      have ih := spl_splC c l []
      show acc :: TL.spl [c] 0 [] l = _
      rw [ih]
      simp only [splC, if_pos h]
      cases e : splC c l with
      | nil => exact absurd e (splC_ne c l)
      | cons p ps => simp
    · have hp : TL.pre [c] (x :: l) = false := by simp [TL.pre, h]
      rw [TL.spl_miss hp, spl_splC c l (acc ++ [x])]
      simp only [splC, if_neg h]
      cases e : splC c l with
      | nil => exact absurd e (splC_ne c l)
      | cons p ps => simp
theorem split_T (a : Tx) {c : Nat} (hc : c < 256) : Txt.split (St' a) (St' [c]) = (splC c a).map St' := by
  have := SX.split_S (a := a) (b := [c]) (by simp) (by simp [hc])
  rw [this, spl_splC]
  cases e : splC c a with
  | nil => exact absurd e (splC_ne c a)
  | cons p ps => simp
theorem fSplit_T (a : Tx) {c : Nat} (hc : c < 256) (h : a.length ≤ 16000000) : fSplit (St' a) (T [c]) = .ok (.list ((splC c a).map T)) := by
  have : fSplit (St' a) (T [c]) = if ((St' [c]).length == 0) = false ∧ (St' a).length + 2 ≤ sizeLine then .ok (.list ((Txt.split (St' a) (St' [c])).map .str)) else .bad := rfl
  rw [this, if_pos ⟨by rw [len_S]; rfl, by rw [len_S, sizeLine_eq]; omega⟩, split_T a hc, List.map_map]
  rfl
theorem strsOf_T (ps : List Tx) : strsOf (ps.map T) = some (ps.map St') := by
  have : ps.map T = (ps.map St').map .str := by rw [List.map_map]; rfl
  rw [this, strsOf_map]
theorem sum_S (ps : List Tx) : ((ps.map St').map (·.length)).sum = (ps.map List.length).sum := by
  rw [List.map_map]
  congr 1
theorem fJoin_T (s : Tx) (ps : List Tx) (h : (ps.map List.length).sum + ps.length * s.length ≤ 16777216) : fJoin (St' s) (.list (ps.map T)) = .ok (T (TL.joinL s ps)) := by
  have e0 : fJoin (St' s) (.list (ps.map T)) = (match strsOf (ps.map T) with | some ys => if joinOk (St' s) ys = true then .ok (.str (Txt.join (St' s) ys)) else .bad | none => .bad) := rfl
  rw [e0, strsOf_T]
  have e : joinOk (St' s) (ps.map St') = true := by
    unfold joinOk
    rw [decide_eq_true_eq, sum_S, len_S, List.length_map]
    exact h
  simp only [e, if_true]
  exact congrArg (fun z => R.ok (PyData.str z)) (SX.join_S s ps)
/-! slices -/
theorem cutS_T (a : Tx) (lo hi : Option Int) : cutS (St' a) lo hi = St' (cutG a lo hi) := by
  apply TL.ext_tl
  have e := len_S a
  unfold cutS cutG
  rw [e]
theorem fSl_T {a : Tx} (lo hi : Option Int) (h : a.length ≤ 16777216) : fSl (T a) lo hi = .ok (T (cutG a lo hi)) := by
  have : fSl (T a) lo hi = if (St' a).length ≤ sizeLine then .ok (.str (cutS (St' a) lo hi)) else .bad := rfl
  rw [this, len_S, if_pos (by rw [sizeLine_eq]; exact h), cutS_T]
  rfl
@[simp] theorem fSl_list (xs : List D) (lo hi : Option Int) : fSl (.list xs) lo hi = .ok (.list (cutG xs lo hi)) := (rfl)
@[simp] theorem fSl_tuple (xs : List D) (lo hi : Option Int) : fSl (.tuple xs) lo hi = .ok (.tuple (cutG xs lo hi)) := (rfl)
theorem cut_to {α : Type} (a : List α) (k : Nat) : cutG a none (some (k : Int)) = a.take k := by
  unfold cutG
  rw [HT.sIx_none, HT.sIx_nat, List.drop_zero, Nat.sub_zero]
  rcases Nat.le_total k a.length with h | h
  · rw [Nat.min_eq_left h]
  · rw [Nat.min_eq_right h, List.take_of_length_le (Nat.le_refl _), List.take_of_length_le h]
theorem cut_from {α : Type} (a : List α) (k : Nat) : cutG a (some (k : Int)) none = a.drop k := by
  unfold cutG
  rw [HT.sIx_none, HT.sIx_nat]
  rcases Nat.le_total k a.length with h | h
  · rw [Nat.min_eq_left h, List.take_of_length_le (by rw [List.length_drop]; omega)]
  · rw [Nat.min_eq_right h, Nat.sub_self, List.take_zero, List.drop_eq_nil_of_le h]
theorem cut_but {α : Type} (a : List α) : cutG a none (some (-1)) = a.dropLast := by
  unfold cutG HT.sIx
  simp only [List.drop_zero, Nat.sub_zero]
  rw [if_pos (by decide), List.dropLast_eq_take]
  congr 1
  omega
theorem cut_fromneg1 {α : Type} (a : List α) : cutG a (some (-1)) none = a.drop (a.length - 1) := by
  unfold cutG HT.sIx
  simp only []
  rw [if_pos (by decide)]
  have e : (-1 + (a.length : Int)).toNat = a.length - 1 := by omega
  rw [e, List.take_of_length_le (by rw [List.length_drop]; omega)]
/-! first and last place of one sign -/
theorem at_one (a : Tx) (c i : Nat) : PySem.StrLaws.At (St' a) (St' [c]) (St' a).length i ↔ a[i]? = some c := by
  have h := PySem.StrLaws.subAt_one (St' a) c i
  exact h
theorem idxOf_le_at {α : Type} [BEq α] [LawfulBEq α] {c : α} : ∀ {a : List α} {i : Nat}, a[i]? = some c → a.idxOf c ≤ i
  | [], _, h => by simp at h
  | x :: a, 0, h => by
    simp at h
    subst h
    simp
  | x :: a, i + 1, h => by
    simp at h
    rw [List.idxOf_cons]
    have := idxOf_le_at h
    cases e : x == c <;> simp <;> omega
theorem occ_one (a : Tx) (c : Nat) : (c ∉ a ∧ Builtin.Str.occurrences (St' a) (St' [c]) 0 (St' a).length 1 = []) ∨ (c ∈ a ∧ ∃ r, Builtin.Str.occurrences (St' a) (St' [c]) 0 (St' a).length 1 = a.idxOf c :: r) := by
  rcases PySem.StrLaws.occ_head (St' a) (St' [c]) 1 (by decide) with ⟨h, hn⟩ | ⟨i, r, h, hi, hn⟩
  · refine .inl ⟨fun hm => ?_, h⟩
    obtain ⟨j, hj⟩ := List.mem_iff_getElem?.mp hm
    exact hn j ((at_one a c j).mpr hj)
  · have ei := (at_one a c i).mp hi
    refine .inr ⟨List.mem_iff_getElem?.mpr ⟨i, ei⟩, r, ?_⟩
    rw [h]
    congr 1
    obtain ⟨hlt, e⟩ := List.getElem?_eq_some_iff.mp ei
    apply Nat.le_antisymm
    · refine Nat.le_of_not_lt fun hl => ?_
      have hl2 : a.idxOf c < a.length := by omega
      exact hn _ hl ((at_one a c _).mpr (by rw [List.getElem?_eq_getElem hl2, List.getElem_idxOf hl2]))
    · exact idxOf_le_at ei
theorem find_T (a : Tx) (c : Nat) : Txt.find (St' a) (St' [c]) = if c ∈ a then (a.idxOf c : Int) else -1 := by
  unfold Txt.find
  rcases occ_one a c with ⟨h, e⟩ | ⟨h, r, e⟩ <;> simp [e, h]
theorem fSIndex_T {a : Tx} {c : Nat} (h : c ∈ a) : fSIndex (St' a) (T [c]) = .ok (.int (a.idxOf c : Nat)) := by
  have e0 : fSIndex (St' a) (T [c]) = (match Builtin.Str.occurrences (St' a) (St' [c]) 0 (St' a).length 1 with | i :: _ => .ok (.int (i : Nat)) | [] => .bad) := rfl
  rw [e0]
  rcases occ_one a c with ⟨h2, e⟩ | ⟨h2, r, e⟩
  · exact absurd h h2
  · rw [e]
theorem rfind_T (a : Tx) (c : Nat) : (c ∉ a ∧ Txt.rfind (St' a) (St' [c]) = -1) ∨ ∃ i, Txt.rfind (St' a) (St' [c]) = (i : Nat) ∧ a[i]? = some c ∧ c ∉ a.drop (i + 1) := by
  unfold Txt.rfind
  rcases PySem.StrLaws.last_spec (St' a) (St' [c]) with ⟨h, hn⟩ | ⟨i, h, hi, hn⟩
  · refine .inl ⟨fun hm => ?_, by rw [h]⟩
    obtain ⟨j, hj⟩ := List.mem_iff_getElem?.mp hm
    exact hn j ((at_one a c j).mpr hj)
  · refine .inr ⟨i, by rw [h], (at_one a c i).mp hi, fun hm => ?_⟩
    obtain ⟨j, hj⟩ := List.mem_iff_getElem?.mp hm
    rw [List.getElem?_drop] at hj
    exact hn _ (by omega) ((at_one a c _).mpr hj)
/-! all, any of tests -/
theorem fAll_map {α : Type} (f : α → Bool) (l : List α) : fAll [.list (l.map fun a => .bool (f a))] = .ok (.bool (l.all f)) := by
  have : (l.map fun a => PyData.bool (f a)) = (l.map f).map .bool := by rw [List.map_map]; rfl
  rw [this]
  unfold fAll
  simp only [boolsOf_map, List.all_map]
  rfl
theorem fAny_map {α : Type} (f : α → Bool) (l : List α) : fAny [.list (l.map fun a => .bool (f a))] = .ok (.bool (l.any f)) := by
  have : (l.map fun a => PyData.bool (f a)) = (l.map f).map .bool := by rw [List.map_map]; rfl
  rw [this]
  unfold fAny
  simp only [boolsOf_map, List.any_map]
  rfl
/-! data that can be told alike: no dict, signs of Unicode, depth at most k -/
def Sh (k : Nat) (d : D) : Prop := d.canLay0 = true ∧ d.depth ≤ k
theorem Sh.ok {k : Nat} {d : D} (h : Sh k d) (hk : k ≤ 64 := by decide) : SeqAt.shaped d = true := by
  unfold SeqAt.shaped
  rw [Bool.and_eq_true, decide_eq_true_eq]
  exact ⟨h.1, by have := h.2; omega⟩
theorem Sh.mono {k m : Nat} {d : D} (h : Sh k d) (hk : k ≤ m) : Sh m d := ⟨h.1, Nat.le_trans h.2 hk⟩
def Uni (a : Tx) : Prop := ∀ c ∈ a, c < 0x110000
theorem sh_none {k : Nat} : Sh k .none := ⟨by simp [PyData.canLay0], by simp [PyData.depth]⟩
theorem sh_bool {k : Nat} (b : Bool) : Sh k (.bool b) := ⟨by simp [PyData.canLay0], by simp [PyData.depth]⟩
theorem sh_int {k : Nat} (b : Int) : Sh k (.int b) := ⟨by simp [PyData.canLay0], by simp [PyData.depth]⟩
theorem sh_T {k : Nat} {a : Tx} (h : Uni a) : Sh k (T a) := by
  refine ⟨?_, by simp [T, PyData.depth]⟩
  unfold T
  simp only [PyData.canLay0, PyData.strOk, List.all_toArray, List.all_eq_true, decide_eq_true_eq]
  exact h
theorem sh_all {k : Nat} {ds : List D} (h : ∀ d ∈ ds, Sh k d) : PyData.canLayAll0 ds = true ∧ PyData.depthAll ds ≤ k := by
  induction ds with
  | nil => simp [PyData.canLayAll0, PyData.depthAll]
  | cons d ds ih =>
    have h1 := h d (by simp)
    have h2 := ih fun e he => h e (by simp [he])
    simp only [PyData.canLayAll0, PyData.depthAll]
    exact ⟨by rw [h1.1, h2.1]; rfl, Nat.max_le.mpr ⟨h1.2, h2.2⟩⟩
theorem sh_list {k : Nat} {ds : List D} (h : ∀ d ∈ ds, Sh k d) : Sh (k + 1) (.list ds) := by
  have := sh_all h
  exact ⟨by simpa [PyData.canLay0] using this.1, by simpa [PyData.depth] using this.2⟩
theorem sh_tuple {k : Nat} {ds : List D} (h : ∀ d ∈ ds, Sh k d) : Sh (k + 1) (.tuple ds) := by
  have := sh_all h
  exact ⟨by simpa [PyData.canLay0] using this.1, by simpa [PyData.depth] using this.2⟩
theorem fEq_sh {k m : Nat} {d e : D} (h : Sh k d) (h2 : Sh m e) (hk : k ≤ 64 := by decide) (hm : m ≤ 64 := by decide) : fEq d e = .ok (.bool (PyData.eqv d e)) := if_pos (.inr ⟨h.ok hk, h2.ok hm⟩)
theorem fNe_sh {k m : Nat} {d e : D} (h : Sh k d) (h2 : Sh m e) (hk : k ≤ 64 := by decide) (hm : m ≤ 64 := by decide) : fNe d e = .ok (.bool (!PyData.eqv d e)) := if_pos (.inr ⟨h.ok hk, h2.ok hm⟩)
theorem fIn_sh {k m : Nat} {d : D} {ds : List D} (hd : isStr d = false ∨ True) (h : Sh k d) (h2 : Sh m (.list ds)) (hk : k ≤ 64 := by decide) (hm : m ≤ 64 := by decide) : fIn d (.list ds) = .ok (.bool (inD d ds)) := by
  have : fIn d (.list ds) = if inOk d ds ∨ (SeqAt.shaped d = true ∧ SeqAt.shaped (.list ds) = true) then .ok (.bool (inD d ds)) else .bad := by cases d <;> rfl
  rw [this, if_pos (.inr ⟨h.ok hk, h2.ok hm⟩)]
/-- a text in a list, a tuple of texts -/
theorem inD_T (a : Tx) (l : List Tx) : inD (T a) (l.map T) = decide (a ∈ l) := by
  unfold inD
  rw [List.any_map, Bool.eq_iff_iff, List.any_eq_true, decide_eq_true_eq]
  constructor
  · rintro ⟨x, hx, h⟩
    simp at h
    exact h ▸ hx
  · intro h
    exact ⟨a, h, by simp⟩
theorem flat_T (a : Tx) : flatD (T a) = true := rfl
theorem flat_mapT (l : List Tx) : (l.map T).all flatD = true := by
  rw [List.all_map, List.all_eq_true]
  intro x _
  rfl
@[simp] theorem fIn_TL (a : Tx) (l : List Tx) : fIn (T a) (.list (l.map T)) = .ok (.bool (decide (a ∈ l))) := by
  have : fIn (T a) (.list (l.map T)) = if inOk (T a) (l.map T) ∨ (SeqAt.shaped (T a) = true ∧ SeqAt.shaped (.list (l.map T)) = true) then .ok (.bool (inD (T a) (l.map T))) else .bad := rfl
  rw [this, if_pos (.inl ⟨flat_T a, flat_mapT l⟩), inD_T]
@[simp] theorem fIn_TT (a : Tx) (l : List Tx) : fIn (T a) (.tuple (l.map T)) = .ok (.bool (decide (a ∈ l))) := by
  have : fIn (T a) (.tuple (l.map T)) = if inOk (T a) (l.map T) ∨ (SeqAt.shaped (T a) = true ∧ SeqAt.shaped (.tuple (l.map T)) = true) then .ok (.bool (inD (T a) (l.map T))) else .bad := rfl
  rw [this, if_pos (.inl ⟨flat_T a, flat_mapT l⟩), inD_T]
/-- l.index(text) of texts -/
theorem idxD_T {a : Tx} : ∀ {l : List Tx}, a ∈ l → idxD (T a) (l.map T) = some (l.idxOf a)
  | x :: l, h => by
    rw [List.map_cons]
    unfold idxD
    rw [eqv_T, List.idxOf_cons]
    by_cases e : x = a
    · simp [e]
    · have hm : a ∈ l := by
        rcases List.mem_cons.mp h with h | h
        · exact absurd h.symm e
        · exact h
      have e2 : (x == a) = false := by simpa using e
      rw [if_neg (by simpa using e), idxD_T hm, e2]
      rfl
/-! ### an item of a list, a tuple -/
theorem getD_get {α : Type} {L : List α} (d : α) {j : Nat} (h : j < L.length) : L[j]? = some (L.getD j d) := by
  simp [List.getD, List.getElem?_eq_getElem h]
theorem getD_mem {α : Type} {L : List α} (d : α) {j : Nat} (h : j < L.length) : L.getD j d ∈ L := List.mem_of_getElem? (getD_get d h)
theorem fIx_list {xs : List D} {i : Int} {d : D} (h : atI xs i = some d) : fIx (.list xs) (.int i) = .ok d := by
  show (match atI xs i with | some d => R.ok d | none => .bad) = _
  rw [h]
theorem fIx_tuple {xs : List D} {i : Int} {d : D} (h : atI xs i = some d) : fIx (.tuple xs) (.int i) = .ok d := by
  show (match atI xs i with | some d => R.ok d | none => .bad) = _
  rw [h]
theorem fIx_map {α : Type} (en : α → D) (L : List α) (d : α) {j : Nat} (h : j < L.length) : fIx (.list (L.map en)) (.int (j : Nat)) = .ok (en (L.getD j d)) :=
  fIx_list (atI_nat (by rw [List.getElem?_map, getD_get d h]; rfl))
theorem fIx_mapT {α : Type} (en : α → D) (L : List α) (d : α) {j : Nat} (h : j < L.length) : fIx (.tuple (L.map en)) (.int (j : Nat)) = .ok (en (L.getD j d)) :=
  fIx_tuple (atI_nat (by rw [List.getElem?_map, getD_get d h]; rfl))
/-! ### isinstance -/
@[simp] theorem ty_str_none : tyIs "str" PyData.none = .ok (.bool false) := tyIs_str _ rfl
@[simp] theorem ty_str_bool (b : Bool) : tyIs "str" (PyData.bool b) = .ok (.bool false) := tyIs_str _ rfl
@[simp] theorem ty_str_int (i : Int) : tyIs "str" (PyData.int i) = .ok (.bool false) := tyIs_str _ rfl
@[simp] theorem ty_str_T (a : Tx) : tyIs "str" (T a) = .ok (.bool true) := tyIs_str _ rfl
@[simp] theorem ty_str_list (ds : List D) : tyIs "str" (PyData.list ds) = .ok (.bool false) := tyIs_str _ rfl
@[simp] theorem ty_str_tuple (ds : List D) : tyIs "str" (PyData.tuple ds) = .ok (.bool false) := tyIs_str _ rfl
@[simp] theorem ty_bool_none : tyIs "bool" PyData.none = .ok (.bool false) := tyIs_bool _ rfl
@[simp] theorem ty_bool_bool (b : Bool) : tyIs "bool" (PyData.bool b) = .ok (.bool true) := tyIs_bool _ rfl
@[simp] theorem ty_bool_int (i : Int) : tyIs "bool" (PyData.int i) = .ok (.bool false) := tyIs_bool _ rfl
@[simp] theorem ty_bool_T (a : Tx) : tyIs "bool" (T a) = .ok (.bool false) := tyIs_bool _ rfl
@[simp] theorem ty_bool_list (ds : List D) : tyIs "bool" (PyData.list ds) = .ok (.bool false) := tyIs_bool _ rfl
@[simp] theorem ty_bool_tuple (ds : List D) : tyIs "bool" (PyData.tuple ds) = .ok (.bool false) := tyIs_bool _ rfl
@[simp] theorem ty_int_none : tyIs "int" PyData.none = .ok (.bool false) := tyIs_int _ rfl
@[simp] theorem ty_int_bool (b : Bool) : tyIs "int" (PyData.bool b) = .ok (.bool true) := tyIs_int _ rfl
@[simp] theorem ty_int_int (i : Int) : tyIs "int" (PyData.int i) = .ok (.bool true) := tyIs_int _ rfl
@[simp] theorem ty_int_T (a : Tx) : tyIs "int" (T a) = .ok (.bool false) := tyIs_int _ rfl
@[simp] theorem ty_int_list (ds : List D) : tyIs "int" (PyData.list ds) = .ok (.bool false) := tyIs_int _ rfl
@[simp] theorem ty_int_tuple (ds : List D) : tyIs "int" (PyData.tuple ds) = .ok (.bool false) := tyIs_int _ rfl
@[simp] theorem ty_list_none : tyIs "list" PyData.none = .ok (.bool false) := tyIs_list _ rfl
@[simp] theorem ty_list_bool (b : Bool) : tyIs "list" (PyData.bool b) = .ok (.bool false) := tyIs_list _ rfl
@[simp] theorem ty_list_int (i : Int) : tyIs "list" (PyData.int i) = .ok (.bool false) := tyIs_list _ rfl
@[simp] theorem ty_list_T (a : Tx) : tyIs "list" (T a) = .ok (.bool false) := tyIs_list _ rfl
@[simp] theorem ty_list_list (ds : List D) : tyIs "list" (PyData.list ds) = .ok (.bool true) := tyIs_list _ rfl
@[simp] theorem ty_list_tuple (ds : List D) : tyIs "list" (PyData.tuple ds) = .ok (.bool false) := tyIs_list _ rfl
@[simp] theorem ty_tuple_none : tyIs "tuple" PyData.none = .ok (.bool false) := tyIs_tuple _ rfl
@[simp] theorem ty_tuple_bool (b : Bool) : tyIs "tuple" (PyData.bool b) = .ok (.bool false) := tyIs_tuple _ rfl
@[simp] theorem ty_tuple_int (i : Int) : tyIs "tuple" (PyData.int i) = .ok (.bool false) := tyIs_tuple _ rfl
@[simp] theorem ty_tuple_T (a : Tx) : tyIs "tuple" (T a) = .ok (.bool false) := tyIs_tuple _ rfl
@[simp] theorem ty_tuple_list (ds : List D) : tyIs "tuple" (PyData.list ds) = .ok (.bool false) := tyIs_tuple _ rfl
@[simp] theorem ty_tuple_tuple (ds : List D) : tyIs "tuple" (PyData.tuple ds) = .ok (.bool true) := tyIs_tuple _ rfl
end ND
namespace ND
open PySem PySem.Spec L2
/-! ### runs that go on -/
def Nx (I : G → Prop) (r : R Fl) : Prop := ∃ Γ, r = .ok (.nx Γ) ∧ I Γ
/-- a loop's turn: goes on, or continues -/
def Go (I : G → Prop) (r : R Fl) : Prop := ∃ Γ, (r = .ok (.nx Γ) ∨ r = .ok (.ct Γ)) ∧ I Γ
variable {I J : G → Prop} {r : R Fl} {g : G → R Fl} {st : D → G → R G} {body : G → R Fl} {Γ : G}
theorem Nx.here (h : I Γ) : Nx I (.ok (.nx Γ)) := ⟨Γ, rfl, h⟩
theorem Nx.go (h : Nx I r) : Go I r := by
  obtain ⟨Γ, e, h⟩ := h
  exact ⟨Γ, .inl e, h⟩
theorem Go.ct (h : I Γ) : Go I (.ok (.ct Γ)) := ⟨Γ, .inr rfl, h⟩
theorem Go.nx (h : I Γ) : Go I (.ok (.nx Γ)) := ⟨Γ, .inl rfl, h⟩
theorem Nx.mono (h : Nx I r) (k : ∀ Γ, I Γ → J Γ) : Nx J r := by
  obtain ⟨Γ, e, h⟩ := h
  exact ⟨Γ, e, k Γ h⟩
theorem Nx.seq (h : Nx J r) (k : ∀ Γ, J Γ → Nx I (g Γ)) : Nx I (seqK g r) := by
  obtain ⟨Γ, rfl, h⟩ := h
  exact k Γ h
theorem Go.seq (h : Nx J r) (k : ∀ Γ, J Γ → Go I (g Γ)) : Go I (seqK g r) := by
  obtain ⟨Γ, rfl, h⟩ := h
  exact k Γ h
theorem end_seq {x : R D} (h : Nx J r) (k : ∀ Γ, J Γ → endK (g Γ) = x) : endK (seqK g r) = x := by
  obtain ⟨Γ, rfl, h⟩ := h
  exact k Γ h
/-- a loop by an invariant -/
theorem Nx.loop {α : Type} {en : α → D} : ∀ (as : List α) {Γ : G}, I Γ → (∀ a ∈ as, ∀ Γ, I Γ → Go I (bodyK body (st (en a) Γ))) → Nx I (forGo st body (as.map en) Γ)
  | [], Γ, h, _ => ⟨Γ, rfl, h⟩
  | a :: as, Γ, h, step => by
    obtain ⟨Γ1, e, h1⟩ := step a (by simp) Γ h
    rw [List.map_cons, forGo_cons]
    have ih := Nx.loop as h1 fun b hb => step b (by simp [hb])
    rcases e with e | e <;> rw [e] <;> exact ih
/-- .. that hangs on what has been gone through -/
theorem Nx.loopi {α : Type} {en : α → D} {I : List α → G → Prop} : ∀ (as pre : List α) {Γ : G}, I pre Γ → (∀ p a q Γ, pre ++ as = p ++ a :: q → I p Γ → Go (I (p ++ [a])) (bodyK body (st (en a) Γ))) → Nx (I (pre ++ as)) (forGo st body (as.map en) Γ)
  | [], pre, Γ, h, _ => ⟨Γ, rfl, by simpa using h⟩
  | a :: as, pre, Γ, h, step => by
    obtain ⟨Γ1, e, h1⟩ := step pre a as Γ rfl h
    rw [List.map_cons, forGo_cons]
    have ih := Nx.loopi as (pre ++ [a]) h1 fun p b q Γ he hI => step p b q Γ (by rw [← he]; simp) hI
    rw [List.append_assoc] at ih
    rcases e with e | e <;> rw [e] <;> exact ih
theorem Nx.loop0 {α : Type} {en : α → D} {I : List α → G → Prop} (as : List α) {Γ : G} (h : I [] Γ) (step : ∀ p a q Γ, as = p ++ a :: q → I p Γ → Go (I (p ++ [a])) (bodyK body (st (en a) Γ))) : Nx (I as) (forGo st body (as.map en) Γ) := by
  have := Nx.loopi (st := st) (body := body) (en := en) as [] h (fun p a q Γ e hI => step p a q Γ (by simpa using e) hI)
  simpa using this
/-- a loop that looks for the first: each turn goes on, or returns, by a test -/
theorem loop_find {α : Type} {en : α → D} {I : List α → G → Prop} (q : α → Bool) (out : α → D) (as : List α) : ∀ (pre post : List α) {Γ : G}, as = pre ++ post → I pre Γ →
    (∀ p a s Γ, as = p ++ a :: s → I p Γ → if q a = true then bodyK body (st (en a) Γ) = .ok (.rt (out a)) else Go (I (p ++ [a])) (bodyK body (st (en a) Γ))) →
    (∀ a, post.find? q = some a → forGo st body (post.map en) Γ = .ok (.rt (out a))) ∧ (post.find? q = none → Nx (I as) (forGo st body (post.map en) Γ))
  | pre, [], Γ, e, h, _ => ⟨fun a h => by simp at h, fun _ => ⟨Γ, rfl, by rw [e, List.append_nil]; exact h⟩⟩
  | pre, a :: post, Γ, e, h, step => by
    have s := step pre a post Γ e h
    rw [List.map_cons, forGo_cons]
    by_cases hq : q a = true
    · rw [if_pos hq] at s
      rw [s]
      simp [List.find?_cons, hq]
    · rw [if_neg hq] at s
      obtain ⟨Γ1, e1, h1⟩ := s
      have ih := loop_find (en := en) q out as (pre ++ [a]) post (by simpa using e) h1 step
      have hq' : q a = false := by simpa using hq
      rw [List.find?_cons, hq']
      rcases e1 with e1 | e1 <;> rw [e1] <;> exact ih
theorem range_map (n : Nat) (h : n < 1000000) : rg1 [.int (n : Nat)] = .ok ((List.range n).map fun i => PyData.int (i : Nat)) := by
  unfold rg1 rangeL
  have : (n : Int) < 4611686018427387904 := by omega
  simp [this]
@[simp] theorem ev_sTup (st : List D → G → R G) (ds : List D) (Γ : G) : sTup st (.tuple ds) Γ = st ds Γ := (rfl)
@[simp] theorem ev_sTupL (st : List D → G → R G) (ds : List D) (Γ : G) : sTup st (.list ds) Γ = st ds Γ := (rfl)
@[simp] theorem ev_ssNil (Γ : G) : ssNil [] Γ = .ok Γ := (rfl)
@[simp] theorem ev_ssCons (i : Nat) (st : List D → G → R G) (d : D) (ds : List D) (Γ : G) : ssCons i st (d :: ds) Γ = st ds (Γ.set i (.dat d)) := (rfl)
@[simp] theorem zp_tuple (xs ys : List D) : zp [.tuple xs, .tuple ys] = .ok (zipL xs ys) := (rfl)
@[simp] theorem zp_list (xs ys : List D) : zp [.list xs, .list ys] = .ok (zipL xs ys) := (rfl)
theorem zipL_map {α β : Type} (f : α → D) (g : β → D) : ∀ (xs : List α) (ys : List β), zipL (xs.map f) (ys.map g) = (xs.zip ys).map fun p => .tuple [f p.1, g p.2]
  | [], ys => by simp [zipL]
  | x :: xs, [] => by simp [zipL]
  | x :: xs, y :: ys => by simp [zipL, zipL_map f g xs ys]
theorem enumL_map {α : Type} (f : α → D) (xs : List α) : enumL (xs.map f) = xs.zipIdx.map fun p => .tuple [.int (p.2 : Nat), f p.1] := by
  unfold enumL
  rw [List.zipIdx_map, List.map_map]
  rfl
theorem find_zipIdx {α : Type} (q : α → Bool) : ∀ (l : List α) (k : Nat), ((l.zipIdx k).find? fun x => q x.1).map Prod.fst = l.find? q
  | [], _ => rfl
  | x :: l, k => by
    rw [List.zipIdx_cons, List.find?_cons, List.find?_cons]
    by_cases h : q x = true
    · simp [h]
    · have h' : q x = false := by simpa using h
      simp [h', find_zipIdx q l (k + 1)]
theorem zipIdx_mem {α : Type} {l : List α} {x : α} {i : Nat} (h : (x, i) ∈ l.zipIdx) : l[i]? = some x := by
  have := List.mem_zipIdx_iff_getElem?.mp h
  simpa using this
theorem idxOf_at {α : Type} [BEq α] [LawfulBEq α] {c : α} {a : List α} {k : Nat} (h : a[k]? = some c) (hn : ∀ j, j < k → a[j]? ≠ some c) : a.idxOf c = k := by
  apply Nat.le_antisymm (idxOf_le_at h)
  refine Nat.le_of_not_lt fun hl => hn _ hl ?_
  have h1 := idxOf_le_at h
  have h2 : k < a.length := (List.getElem?_eq_some_iff.mp h).1
  have h3 : a.idxOf c < a.length := by omega
  rw [List.getElem?_eq_getElem h3, List.getElem_idxOf h3]
@[simp] theorem fNotIn_TL (a : Tx) (l : List Tx) : fNotIn (T a) (.list (l.map T)) = .ok (.bool (!decide (a ∈ l))) := by
  have : fNotIn (T a) (.list (l.map T)) = if inOk (T a) (l.map T) ∨ (SeqAt.shaped (T a) = true ∧ SeqAt.shaped (.list (l.map T)) = true) then .ok (.bool (!inD (T a) (l.map T))) else .bad := rfl
  rw [this, if_pos (.inl ⟨flat_T a, flat_mapT l⟩), inD_T]
@[simp] theorem fNotIn_TT (a : Tx) (l : List Tx) : fNotIn (T a) (.tuple (l.map T)) = .ok (.bool (!decide (a ∈ l))) := by
  have : fNotIn (T a) (.tuple (l.map T)) = if inOk (T a) (l.map T) ∨ (SeqAt.shaped (T a) = true ∧ SeqAt.shaped (.tuple (l.map T)) = true) then .ok (.bool (!inD (T a) (l.map T))) else .bad := rfl
  rw [this, if_pos (.inl ⟨flat_T a, flat_mapT l⟩), inD_T]
@[simp] theorem isNone_T (a : Tx) : isNone (T a) = false := (rfl)
@[simp] theorem isNone_none : isNone .none = true := (rfl)
theorem sh_nil {k : Nat} : Sh (k + 1) (.list []) := sh_list fun d h => by simp at h
@[simp] theorem fNe_nil : fNe (.list []) (.list []) = .ok (.bool false) := by
  rw [fNe_sh (k := 1) (m := 1) sh_nil sh_nil]
  simp [PyData.eqv, PyData.eqvAll]
@[simp] theorem fEq_nil : fEq (.list []) (.list []) = .ok (.bool true) := by
  rw [fEq_sh (k := 1) (m := 1) sh_nil sh_nil]
  simp [PyData.eqv, PyData.eqvAll]
theorem fAdd_list {xs ys : List D} (h : xs.length + ys.length ≤ 16777216) : fAdd (.list xs) (.list ys) = .ok (.list (xs ++ ys)) := if_pos (by rw [sizeLine_eq]; exact h)
theorem fAdd_tuple {xs ys : List D} (h : xs.length + ys.length ≤ 16777216) : fAdd (.tuple xs) (.tuple ys) = .ok (.tuple (xs ++ ys)) := if_pos (by rw [sizeLine_eq]; exact h)
theorem mkL_le {xs : List D} (h : xs.length ≤ 16777216) : mkL xs = .ok (.list xs) := mkL_ok (by rw [sizeLine_eq]; exact h)
theorem mkT_le {xs : List D} (h : xs.length ≤ 16777216) : mkT xs = .ok (.tuple xs) := mkT_ok (by rw [sizeLine_eq]; exact h)
/-! tests whose first part is not known: both parts worked out -/
theorem kOr (b : Bool) (g : G → R D) (Γ : G) : orK (.ok b) g Γ = if b = true then .ok (.bool true) else g Γ := by cases b <;> rfl
theorem kAnd (b : Bool) (g : G → R D) (Γ : G) : andK (.ok b) g Γ = if b = true then g Γ else .ok (.bool false) := by cases b <;> rfl
theorem kbOr (b : Bool) (g : G → R Bool) (Γ : G) : borK (.ok b) g Γ = if b = true then .ok true else g Γ := by cases b <;> rfl
theorem kbAnd (b : Bool) (g : G → R Bool) (Γ : G) : bandK (.ok b) g Γ = if b = true then g Γ else .ok false := by cases b <;> rfl
theorem kIf (b : Bool) (g1 g2 : G → R D) (Γ : G) : ifK (.ok b) g1 g2 Γ = if b = true then g1 Γ else g2 Γ := by cases b <;> rfl
theorem kIfS (b : Bool) (g1 g2 : G → R Fl) (Γ : G) : ifSK (.ok b) g1 g2 Γ = if b = true then g1 Γ else g2 Γ := by cases b <;> rfl
@[simp] theorem k_or (p : Prop) [Decidable p] (c : Bool) : (if p then R.ok (PyData.bool true) else .ok (.bool c)) = .ok (.bool (decide p || c)) := by by_cases h : p <;> simp [h]
@[simp] theorem k_and (p : Prop) [Decidable p] (c : Bool) : (if p then R.ok (PyData.bool c) else .ok (.bool false)) = .ok (.bool (decide p && c)) := by by_cases h : p <;> simp [h]
@[simp] theorem kb_or (p : Prop) [Decidable p] (c : Bool) : (if p then R.ok true else .ok c) = .ok (decide p || c) := by by_cases h : p <;> simp [h]
@[simp] theorem kb_and (p : Prop) [Decidable p] (c : Bool) : (if p then R.ok c else .ok false) = .ok (decide p && c) := by by_cases h : p <;> simp [h]
theorem splC_len' (c : Nat) : ∀ l : Tx, (splC c l).length = l.count c + 1
  | [] => rfl
  | x :: l => by
    unfold splC
    have ih := splC_len' c l
    by_cases h : x = c
    · subst h; simp [ih]
    · rw [if_neg h, List.count_cons_of_ne (by simpa using h)]
      cases e : splC c l with
      | nil => exact absurd e (splC_ne c l)
      | cons p ps => rw [e] at ih; simpa using ih
theorem partsFrom_len (x : Str) (n : Nat) : ∀ (cuts : List Nat) (a : Nat), (PySem.StrLaws.partsFrom x n a cuts).length = cuts.length + 1
  | [], _ => rfl
  | c :: r, a => by
    have := partsFrom_len x n r (c + n)
    show (Builtin.Str.strSub x a c :: PySem.StrLaws.partsFrom x n (c + n) r).length = _
    simp [this]
theorem count_T (a : Tx) (c : Nat) : Txt.count (St' a) (St' [c]) = (a.count c : Nat) := by
  have hy : TL.tl (St' [c]) ≠ [] := by simp [TL.tl]
  obtain ⟨f, g, hn⟩ := PySem.StrLaws.occ_tight (St' a) (St' [c]) (TL.len1 hy)
  have key := TL.parts_spl hy _ 0 f (Nat.zero_le _) g hn
  have e := congrArg List.length key
  rw [List.length_map, partsFrom_len, List.drop_zero] at e
  have e2 : TL.spl (TL.tl (St' [c])) 0 [] (TL.tl (St' a)) = TL.spl [c] 0 [] a := rfl
  have e3 : (TL.spl [c] 0 [] a).length = a.count c + 1 := by
    rw [spl_splC, ← splC_len' c a]
    cases h : splC c a with
    | nil => exact absurd h (splC_ne c a)
    | cons p ps => rfl
  rw [e2, e3] at e
  unfold Txt.count
  omega
theorem eqvAll_T : ∀ (l m : List Tx), PyData.eqvAll (l.map T) (m.map T) = decide (l = m)
  | [], [] => rfl
  | [], _ :: _ => by simp [PyData.eqvAll]
  | _ :: _, [] => by simp [PyData.eqvAll]
  | a :: l, b :: m => by
    rw [List.map_cons, List.map_cons, PyData.eqvAll, eqv_T, eqvAll_T l m, Bool.eq_iff_iff]
    simp
theorem sh_Ts {k : Nat} {l : List Tx} (h : ∀ a ∈ l, Uni a) : ∀ d ∈ l.map T, Sh k d := fun d hd => by
  obtain ⟨a, ha, rfl⟩ := List.mem_map.mp hd
  exact sh_T (h a ha)
theorem fNe_TLs {l m : List Tx} (h1 : ∀ a ∈ l, Uni a) (h2 : ∀ a ∈ m, Uni a) : fNe (.list (l.map T)) (.list (m.map T)) = .ok (.bool (!decide (l = m))) := by
  rw [fNe_sh (k := 1) (m := 1) (sh_list (sh_Ts h1)) (sh_list (sh_Ts h2)), PyData.eqv, eqvAll_T]
theorem fEq_TLs {l m : List Tx} (h1 : ∀ a ∈ l, Uni a) (h2 : ∀ a ∈ m, Uni a) : fEq (.list (l.map T)) (.list (m.map T)) = .ok (.bool (decide (l = m))) := by
  rw [fEq_sh (k := 1) (m := 1) (sh_list (sh_Ts h1)) (sh_list (sh_Ts h2)), PyData.eqv, eqvAll_T]
@[simp] theorem fIx_t0 (x0 : D) (l : List D) : fIx (.tuple (x0 :: l)) (.int 0) = .ok x0 := fIx_tuple (atI_nat (j := 0) (by simp))
@[simp] theorem fIx_l0 (x0 : D) (l : List D) : fIx (.list (x0 :: l)) (.int 0) = .ok x0 := fIx_list (atI_nat (j := 0) (by simp))
@[simp] theorem fIx_t1 (x0 x1 : D) (l : List D) : fIx (.tuple (x0 :: x1 :: l)) (.int 1) = .ok x1 := fIx_tuple (atI_nat (j := 1) (by simp))
@[simp] theorem fIx_l1 (x0 x1 : D) (l : List D) : fIx (.list (x0 :: x1 :: l)) (.int 1) = .ok x1 := fIx_list (atI_nat (j := 1) (by simp))
@[simp] theorem fIx_t2 (x0 x1 x2 : D) (l : List D) : fIx (.tuple (x0 :: x1 :: x2 :: l)) (.int 2) = .ok x2 := fIx_tuple (atI_nat (j := 2) (by simp))
@[simp] theorem fIx_l2 (x0 x1 x2 : D) (l : List D) : fIx (.list (x0 :: x1 :: x2 :: l)) (.int 2) = .ok x2 := fIx_list (atI_nat (j := 2) (by simp))
@[simp] theorem fIx_t3 (x0 x1 x2 x3 : D) (l : List D) : fIx (.tuple (x0 :: x1 :: x2 :: x3 :: l)) (.int 3) = .ok x3 := fIx_tuple (atI_nat (j := 3) (by simp))
@[simp] theorem fIx_l3 (x0 x1 x2 x3 : D) (l : List D) : fIx (.list (x0 :: x1 :: x2 :: x3 :: l)) (.int 3) = .ok x3 := fIx_list (atI_nat (j := 3) (by simp))
@[simp] theorem fIx_t4 (x0 x1 x2 x3 x4 : D) (l : List D) : fIx (.tuple (x0 :: x1 :: x2 :: x3 :: x4 :: l)) (.int 4) = .ok x4 := fIx_tuple (atI_nat (j := 4) (by simp))
@[simp] theorem fIx_l4 (x0 x1 x2 x3 x4 : D) (l : List D) : fIx (.list (x0 :: x1 :: x2 :: x3 :: x4 :: l)) (.int 4) = .ok x4 := fIx_list (atI_nat (j := 4) (by simp))
@[simp] theorem fIx_t5 (x0 x1 x2 x3 x4 x5 : D) (l : List D) : fIx (.tuple (x0 :: x1 :: x2 :: x3 :: x4 :: x5 :: l)) (.int 5) = .ok x5 := fIx_tuple (atI_nat (j := 5) (by simp))
@[simp] theorem fIx_l5 (x0 x1 x2 x3 x4 x5 : D) (l : List D) : fIx (.list (x0 :: x1 :: x2 :: x3 :: x4 :: x5 :: l)) (.int 5) = .ok x5 := fIx_list (atI_nat (j := 5) (by simp))
@[simp] theorem fIx_t6 (x0 x1 x2 x3 x4 x5 x6 : D) (l : List D) : fIx (.tuple (x0 :: x1 :: x2 :: x3 :: x4 :: x5 :: x6 :: l)) (.int 6) = .ok x6 := fIx_tuple (atI_nat (j := 6) (by simp))
@[simp] theorem fIx_l6 (x0 x1 x2 x3 x4 x5 x6 : D) (l : List D) : fIx (.list (x0 :: x1 :: x2 :: x3 :: x4 :: x5 :: x6 :: l)) (.int 6) = .ok x6 := fIx_list (atI_nat (j := 6) (by simp))
@[simp] theorem fIx_t7 (x0 x1 x2 x3 x4 x5 x6 x7 : D) (l : List D) : fIx (.tuple (x0 :: x1 :: x2 :: x3 :: x4 :: x5 :: x6 :: x7 :: l)) (.int 7) = .ok x7 := fIx_tuple (atI_nat (j := 7) (by simp))
@[simp] theorem fIx_l7 (x0 x1 x2 x3 x4 x5 x6 x7 : D) (l : List D) : fIx (.list (x0 :: x1 :: x2 :: x3 :: x4 :: x5 :: x6 :: x7 :: l)) (.int 7) = .ok x7 := fIx_list (atI_nat (j := 7) (by simp))
@[simp] theorem fIx_t8 (x0 x1 x2 x3 x4 x5 x6 x7 x8 : D) (l : List D) : fIx (.tuple (x0 :: x1 :: x2 :: x3 :: x4 :: x5 :: x6 :: x7 :: x8 :: l)) (.int 8) = .ok x8 := fIx_tuple (atI_nat (j := 8) (by simp))
@[simp] theorem fIx_l8 (x0 x1 x2 x3 x4 x5 x6 x7 x8 : D) (l : List D) : fIx (.list (x0 :: x1 :: x2 :: x3 :: x4 :: x5 :: x6 :: x7 :: x8 :: l)) (.int 8) = .ok x8 := fIx_list (atI_nat (j := 8) (by simp))
@[simp] theorem fIx_t9 (x0 x1 x2 x3 x4 x5 x6 x7 x8 x9 : D) (l : List D) : fIx (.tuple (x0 :: x1 :: x2 :: x3 :: x4 :: x5 :: x6 :: x7 :: x8 :: x9 :: l)) (.int 9) = .ok x9 := fIx_tuple (atI_nat (j := 9) (by simp))
@[simp] theorem fIx_l9 (x0 x1 x2 x3 x4 x5 x6 x7 x8 x9 : D) (l : List D) : fIx (.list (x0 :: x1 :: x2 :: x3 :: x4 :: x5 :: x6 :: x7 :: x8 :: x9 :: l)) (.int 9) = .ok x9 := fIx_list (atI_nat (j := 9) (by simp))
end ND
namespace PySem
open Sem (wp)
/-! ### enumerate(tuple) -/
set_option maxHeartbeats 1000000 in
theorem meets_enumN {v : Value} {o : Obj} {H : Heap → Prop} (B : Begins v o H) :
    Meets (Builtin.«enumerate.__new__» ⟨[.type "enumerate", v], []⟩) (fun _ R s => H s.heap ∧
      R (.ok (.ret (.ref (s.heap.push o).objs.size))) { s with heap := (s.heap.push o).push { cls := .type "enumerate", data := .fields #[.none, .bool false, .ref s.heap.objs.size, rawInt 0, .none, .none] } }) :=
  .of_wp fun prog w A R s h => by
    obtain ⟨hp, g, d, tk, os⟩ := s; obtain ⟨h1, h⟩ := h
    have hsub := sub_enumerate
    have q1 : ∀ {A' : Around} {E : Value → Shared → Prop} {Q : Value → Shared → Prop}, Q (.ref hp.objs.size) ⟨hp.push o, g, d, tk, os⟩ → wpAny (model prog w) A' (pyIter v) Q E ⟨hp, g, d, tk, os⟩ :=
      fun q => B.iter prog w _ _ ⟨hp, g, d, tk, os⟩ _ h1 q
    wp_walk using q1
    refine wpAny_stack_any fun st => wpAny_pure ?_
    split
    · rename_i c _ _ _ _ _
      cases (c == Value.type "enumerate") <;> (wp_walk using q1; exact ⟨_, rfl, h⟩)
    · wp_walk using q1
      exact ⟨_, rfl, h⟩
theorem enum_tuple {prog : Program} {w : World} {A : Around} {E : Value → Shared → Prop} {s : Shared} {t : Addr} {items : Array Value} {Q : Value → Shared → Prop} (ht : s.heap.IsTuple t items)
    (h : ∀ h', IsEnum h' (s.heap.objs.size + 1) s.heap.objs.size 0 .none → h'.IsTupleIter s.heap.objs.size t 0 →
      (∀ b o, s.heap.get? b = some o → h'.get? b = some o) → Q (.ref (s.heap.objs.size + 1)) { s with heap := h' }) :
    wpAny (model prog w) A (call (.type "enumerate") [.ref t]) Q E s := by
  have B := begins_tuple t items
  refine callType_new F.called_enumerate (by decide) (F.typeCall_enumerate_1 _) (F.newCall_enumerate_1 _) (fun obj => F.args_object_init_2 obj _) F.entry_enumerate_new (meets_enumN B) ⟨ht, ?_⟩
  show _ ∧ _
  have hz : (s.heap.push { cls := .type "tuple_iterator", data := .fields #[.ref t, .int 0 0] }).objs.size = s.heap.objs.size + 1 := Heap.size_push ..
  rw [hz]
  have he : IsEnum ((s.heap.push { cls := .type "tuple_iterator", data := .fields #[.ref t, .int 0 0] }).push { cls := .type "enumerate", data := .fields #[.none, .bool false, .ref s.heap.objs.size, rawInt 0, .none, .none] }) (s.heap.objs.size + 1) s.heap.objs.size 0 .none := by
    have := Heap.get?_push_size (s.heap.push { cls := .type "tuple_iterator", data := .fields #[.ref t, .int 0 0] }) (o := { cls := .type "enumerate", data := .fields #[.none, .bool false, .ref s.heap.objs.size, rawInt 0, .none, .none] }) rfl
    rw [hz] at this
    exact this
  refine ⟨⟨_, he, rfl⟩, h _ he ⟨_, Heap.get?_push_of_some _ (Heap.get?_push_size _ rfl), rfl, rfl⟩ fun b o x => Heap.get?_push_of_some _ (Heap.get?_push_of_some _ x)⟩
end PySem
namespace ND
open PySem PySem.Spec L2 PyProof.Rows
theorem drawsEnd {prog : Program} {w : World} {A : Around} (hh : A.handled = none) (it t : Addr) (items : Array Value) (i : Nat) (hx : items[i]? = none) :
    Draws prog w A it [it, t] 0 (fun _ _ => True) (fun j h => h.IsTupleIter it t (i + j) ∧ h.IsTuple t items) where
  live := fun _ _ st => by
    obtain ⟨⟨o, ho, _⟩, _⟩ := st
    exact ⟨o, ho⟩
  frame := fun _ _ _ st hk => ⟨st.1.at fun o e => hk it (by simp) o e, st.2.at fun o e => hk t (by simp) o e⟩
  item := fun j s Q E hi => absurd hi (Nat.not_lt_zero _)
  done := fun s Q E st hE => wpAny_nextOf_tuple_end hh st.1 st.2 hx hE
/-- the tuple at a as it stands at each turn, each item in a new pair -/
def IteT (K : PySem.W.Frag) (a : Addr) : It :=
  ⟨fun i H => ∃ (xs : List V) (x : V), SqT K H a xs ∧ xs[i]? = some x, fun i H v H' => ∃ T x, v = .ref T ∧ H T = none ∧ H' = upd H T (.tup [.int (i : Nat), x]) ∧ ∀ xs, SqT K H a xs → xs[i]? = some x, fun i H => ∃ xs : List V, SqT K H a xs ∧ xs.length ≤ i⟩
theorem turn_enumT {P : Program} {w : World} {K : PySem.W.Frag} {elts : List Expr} {kk : Nat} {tpos : Pos} (a e it : Addr) (hai : a ≠ it) (hea : e ≠ a) :
    Turn P w K (.Tuple elts kk tpos) (IteT K a) [e, it] e (fun i h => (∃ old, IsEnum h e it ((i : Nat) : Int) old) ∧ h.IsTupleIter it a i ∧ e ≠ it) where
  mem := by simp
  obj := fun i h st b hb => by
    obtain ⟨⟨old, he⟩, ⟨o, ho, hc, hd⟩, _⟩ := st
    have e' : b = e ∨ b = it := by simpa using hb
    rcases e' with z | z
    · exact z ▸ ⟨_, he, fun v q => nomatch q⟩
    · exact z ▸ ⟨o, ho, fun v q => by rw [hd] at q; cases q⟩
  keep := fun i h h' st k => by
    obtain ⟨⟨old, he⟩, hi, hne⟩ := st
    exact ⟨⟨old, k e (by simp) _ he⟩, hi.at fun o q => k it (by simp) o q, hne⟩
  item := by
    intro X hP hw hK hc i pins s σ H E I hf st hg
    subst hP hw hK
    obtain ⟨⟨old, he⟩, hit, hne⟩ := st
    obtain ⟨xs, x, hq, hx⟩ := hg
    obtain ⟨its, rv, p, _⟩ := I.tuple hq
    obtain ⟨u, hu, ru⟩ := rv.get hx
    have hel : e < s.heap.objs.size := Heap.lt_size he
    have hil : it < s.heap.objs.size := by obtain ⟨_, q, _⟩ := hit; exact Heap.lt_size q
    have hh : X.A.in1.handled = none := (I.ok.hd hc)
    have hil2 : i < its.length := (List.getElem?_eq_some_iff.mp hu).1
    refine wpAny_pyNext_enum_itemD (Draws.tuple hh it a hai its.toArray) he ⟨hit, p⟩ (by simpa using hil2) hne (by simp [hne, hea]) fun y h' tk hy ho st' hT hsz hk => ?_
    have ey : y = u := by
      rw [List.getElem?_toArray, hu] at hy
      exact (Option.some.inj hy).symm
    subst ey
    refine ⟨_, rfl, wpAny_letOwnedTupleGo_enum (s := { s with heap := h', toks := tk + 1 }) ho fun h'' he' sb => ?_⟩
    have hT2 : h''.get? s.heap.objs.size = some { cls := .type "tuple", data := .seq #[.int i tk, y] } := (sb.2 _ (Nat.ne_of_gt hel)).trans hT
    have new : ObjOk X.prog X.w (upd H s.heap.objs.size (.tup [.int (i : Nat), x])) h'' s.heap.objs.size (.tup [.int (i : Nat), x]) :=
      ⟨by show 2 ≤ sizeLine; decide, [.int i tk, y], .cons ⟨_, rfl⟩ (.cons ru .nil), ⟨_, hT2, rfl, _, rfl⟩⟩
    have I1 : Inv X pins σ (upd H s.heap.objs.size (.tup [.int (i : Nat), x])) { s with heap := h'', toks := tk + 1 } :=
      I.turnedNew (ch := [e, it]) (fun b ob hb q => (sb.2 b (fun z => hb (by simp [z]))).trans (hk b ob (fun z => hb (by simp [z])) (fun z => hb (by simp [z])) q)) hf (Nat.le_refl _) new
    refine ⟨.ref s.heap.objs.size, _, I1, rfl, ⟨_, x, rfl, I.hok.fresh (Nat.le_refl _), rfl, fun ys hy => by rw [I.tuple_inj hy hq]; exact hx⟩, ⟨⟨y, ?_⟩, st'.1.at fun o q => (sb.2 it (Ne.symm hne)).trans q, hne⟩, fun b hb => ?_⟩
    · have e1 : ((i + 1 : Nat) : Int) = (i : Int) + 1 := by omega
      rw [e1]
      exact he'
    · have hb' : b < s.heap.objs.size := by
        have e' : b = e ∨ b = it := by simpa using hb
        rcases e' with z | z
        · exact z ▸ hel
        · exact z ▸ hil
      rw [upd_ne (Nat.ne_of_lt hb')]
      exact (hf b hb).1
  done := by
    intro X hP hw hK hc i pins s σ H E I hf st hg
    subst hP hw hK
    obtain ⟨⟨old, he⟩, hit, hne⟩ := st
    obtain ⟨xs, hq, hx⟩ := hg
    obtain ⟨its, rv, p, _⟩ := I.tuple hq
    obtain ⟨f0, f1, f2, f3, f4, f5⟩ := hf it (by simp)
    have hl := rv.length
    have hh : X.A.in1.handled = none := (I.ok.hd hc)
    refine wpAny_pyNext_enum_endD (drawsEnd hh it a its.toArray i (by simp; omega)) he ⟨hit, p⟩ fun h' eb => ⟨rfl, I.turned (t' := s.toks) (fun b o hb q => eb b o hb q) f0 f1 f3 f4 f5⟩
  self := fun A i s Q E st h => by
    obtain ⟨⟨_, he⟩, _⟩ := st
    exact wpAny_pyIter_enum he h
section
variable {X : Cx} {B : Hp} {E : L2.St → XK}
def iEnumA (K : PySem.W.Frag) (ta : TA) : TI := fun σ H Rr => ta σ H fun vs H1 => ∃ a xs, vs = [.ref a] ∧ ((SqL K H1 a xs ∧ Rr (Ite K a) H1) ∨ (SqT K H1 a xs ∧ Rr (IteT K a) H1))
theorem pi_enumA {e : Expr} {ta : TA} {p pos tpos : Pos} {elts : List Expr} {kk : Nat} (hg : Gl X "enumerate") (hm : X.mg "enumerate" = none) (ha : PA X [e] ta) (hs : starEach [e] X.env = [(false, eval e X.env)] := by rfl) :
    PI X (.Tuple elts kk tpos) (.Call (.Name "enumerate" p) [e] [] pos) (iEnumA X.K ta) := by
  refine ⟨fun pins s σ H Rr I h => ?_⟩
  refine Call_ (ld_blt I hg hm boot_enumerate (PyProof.Rows.callWith_type1 (thn (ha.run pos pins s σ H _ I h) fun us s1 ⟨vs, H1, I1, r1, q1⟩ => ?_) hs rfl))
  obtain ⟨a, xs, ex, q1⟩ := q1
  subst ex
  cases r1 with
  | cons r rr =>
    cases rr
    cases r
    have fresh2 : ∀ b, b ∈ [s1.heap.objs.size + 1, s1.heap.objs.size] → FpOk X pins H1 b := fun b hb => by
      have e' : b = s1.heap.objs.size + 1 ∨ b = s1.heap.objs.size := by simpa using hb
      have hle : s1.heap.objs.size ≤ b := by
        rcases e' with z | z
        · exact z ▸ Nat.le_add_right _ _
        · exact z ▸ Nat.le_refl _
      exact I1.fpOk hle (I1.hok.fresh hle)
    rcases q1 with ⟨hq, q⟩ | ⟨hq, q⟩
    · obtain ⟨its, rv, p', hz⟩ := I1.list hq
      refine call_enumerate_list p'.isList fun h' he hit hsz hk => wpAny_pyIter_enum he ?_
      have I2 : Inv X pins σ H1 { s1 with heap := h' } := I1.kept (t' := s1.toks) hk
      exact ⟨s1.heap.objs.size + 1, [s1.heap.objs.size + 1, s1.heap.objs.size], _, _, H1, rfl, I2, turn_enum a (s1.heap.objs.size + 1) s1.heap.objs.size, ⟨⟨.none, he⟩, hit, Nat.succ_ne_self _⟩, fresh2, q⟩
    · obtain ⟨its, rv, p', _⟩ := I1.tuple hq
      obtain ⟨o1, ho1, _⟩ := id p'
      have hlt : a < s1.heap.objs.size := Heap.lt_size ho1
      refine enum_tuple p' fun h' he hit hk => wpAny_pyIter_enum he ?_
      have I2 : Inv X pins σ H1 { s1 with heap := h' } := I1.kept (t' := s1.toks) hk
      exact ⟨s1.heap.objs.size + 1, [s1.heap.objs.size + 1, s1.heap.objs.size], _, _, H1, rfl, I2, turn_enumT a (s1.heap.objs.size + 1) s1.heap.objs.size (Nat.ne_of_lt hlt) (Nat.ne_of_gt (Nat.lt_succ_of_lt hlt)), ⟨⟨.none, he⟩, hit, Nat.succ_ne_self _⟩, fresh2, q⟩
theorem walk_enumT {K : PySem.W.Frag} {a : Addr} {xs : List V} : Walk (IteT K a) xs.length (fun H => SqT K H a xs) (YPair (fun i => some (.int (i : Nat))) (fun i => xs[i]?)) := by
  refine ⟨fun i _ hi q => ⟨xs, xs[i], q, by simp [hi]⟩, fun _ q => ⟨xs, q, Nat.le_refl _⟩, fun i H v H' _ q y => ?_⟩
  obtain ⟨T, x, h1, h2, h3, h4⟩ := y
  exact ⟨T, .int (i : Nat), x, h1, h2, h3, rfl, h4 xs q⟩
theorem wd_enumT {K : PySem.W.Frag} {F : Hp} {a : Addr} {vs : List V} {ds : List D} (h : SqT K F a vs) (k : DpAll K F vs ds) : WalkD K F (IteT K a) (enumL ds) := by
  refine ⟨_, _, by unfold enumL; rw [List.length_map, List.length_zipIdx, ← dpa_length k]; exact walk_enumT, fun H s => same_seqT s h, fun i H x H' d F2 s s2 e y => ?_⟩
  obtain ⟨T, u, w, rfl, hT, rfl, eu, ew⟩ := y
  obtain ⟨z, ez, rfl⟩ := enumL_get ds i d e
  obtain ⟨z', e', dp⟩ := dpa_getv k ew
  rw [ez] at e'; cases e'
  cases eu
  exact pair_new s2 hT (.int _) (dp_mono s dp)
def enA : List D → R (List D)
  | [.list xs] => .ok (enumL xs)
  | [.tuple xs] => .ok (enumL xs)
  | _ => .bad
def gEnum (gs : G → R (List D)) (Γ : G) : R (List D) := (gs Γ).bind enA
theorem i_enum {e : Expr} {p pos tpos : Pos} {elts : List Expr} {kk : Nat} {gs : G → R (List D)} (hg : Gl X "enumerate") (hm : X.mg "enumerate" = none) (ha : DA X B E [e] gs) (hs : starEach [e] X.env = [(false, eval e X.env)] := by rfl) :
    DI X B E (.Tuple elts kk tpos) (.Call (.Name "enumerate" p) [e] [] pos) (gEnum gs) :=
  pi_imp (pi_enumA hg hm ha hs) fun σ H Rr ⟨Γ, F, s, er, o⟩ => by
    refine ⟨Γ, F, s, er, ?_⟩
    unfold gEnum at o
    revert o
    cases gs Γ with
    | exc c => exact fun o => o
    | bad => exact fun o => o
    | ok ds =>
      intro o vs F' H' x dp
      simp only [R.bind_ok] at o
      unfold enA at o
      split at o
      · rename_i heq
        split at heq
        · cases heq
          cases dp with
          | cons h1 h2 =>
            cases h2
            cases h1 with
            | lst k1 k2 => exact ⟨_, _, rfl, .inl ⟨x.fh.seq k1, o _ F' H' x (wd_enum k1 k2)⟩⟩
        · cases heq
          cases dp with
          | cons h1 h2 =>
            cases h2
            cases h1 with
            | tup k1 k2 => exact ⟨_, _, rfl, .inr ⟨same_seqT x.fh k1, o _ F' H' x (wd_enumT k1 k2)⟩⟩
        · cases heq
      · rename_i heq
        split at heq <;> cases heq
      · exact o.elim
@[simp] theorem ev_enum (gs : G → R (List D)) (Γ : G) : gEnum gs Γ = appL enA (gs Γ) := (rfl)
@[simp] theorem enA_list (xs : List D) : enA [.list xs] = .ok (enumL xs) := (rfl)
@[simp] theorem enA_tuple (xs : List D) : enA [.tuple xs] = .ok (enumL xs) := (rfl)
end
end ND
namespace ND
open PySem PySem.Spec L2 PyProof.Rows
section
variable {X : Cx} {B F0 : Hp} {n : Nat} {E : L2.St → XK}
/-! ### name = [comprehension] on one line -/
theorem s_setlc {x : Str} {p' : Pos} {elt tg iter : Expr} {ifs : List Expr} {scope : Scope} {pos spos : Pos} {is : List Nat} {st : D → G → R G} {gi : G → R (List D)} {gt : G → R Bool} {ge : G → R D} (i : Nat) (own : List (Str × Nat)) (hc : X.calm = true) (hN : X.N.Nodup) (ok : BlkOk X.N X.env.scope scope own) (hi : DI X B E tg iter gi)
    (hg : ∀ (s : Shared) (H : Hp) (C : Addr) (cl : List (Str × Addr)) (fp : List Addr), DG (X.blk s H scope (compEnvC scope cl C X.env) fp) B tg is st)
    (ht : ∀ (s : Shared) (H : Hp) (C : Addr) (cl : List (Str × Addr)) (fp : List Addr), DTs (X.blk s H scope (compEnvC scope cl C X.env) fp) B ifs gt)
    (he : ∀ (s : Shared) (H : Hp) (C : Addr) (cl : List (Str × Addr)) (fp : List Addr), DE (X.blk s H scope (compEnvC scope cl C X.env) fp) B E0S elt ge)
    (hst : ∀ d Γ Γ', st d Γ = .ok Γ' → Γ'.length = Γ.length) (hx : X.N[i]? = some x := by rfl) (hxl : X.env.scope.names.lookup x = some .local := by rfl)
    (hsw : swapsWith (.ListComp elt [⟨tg, iter, ifs, 0⟩] scope pos) (some (.Name x p')) spos.line X.env = pure true := by exact sw_true rfl rfl rfl rfl) (his : ∀ i ∈ is, i ∈ own.map (·.2) := by decide) (hs : ∀ x, foldedSetIterable iter X.env x = pure x := by intro _; rfl) :
    DS X B F0 n E (.Assign [.Name x p'] (.ListComp elt [⟨tg, iter, ifs, 0⟩] scope pos) spos) (gSet (sName i) (gLc (own.map (·.2)) st gi gt ge)) :=
  ⟨ps_imp (ps_setLc hc hN hx hxl hsw hi ok (fun s H C cl fp => (hg s H C cl fp).pg) ht he hs) fun Dd σ H ⟨Γ, F, sh, er, hn, o⟩ => by
    show tLc _ _ _ _ _ σ H (fun x H1 => gName i x σ H1 Dd.nx)
    refine lc_read (gt := gt) (ge := ge) his hst ⟨Γ, F, sh.f, er, ?_⟩
    have o2 := Out.toS (H := H) (σ := σ) sh (er.slen hn) (show OutS X.K X.mg B F0 n F E ((gLc (own.map (·.2)) st gi gt ge Γ).bind fun d => (sName i d Γ).bind fun Γ' => .ok (.nx Γ')) Dd from o)
    revert o2
    cases gLc (own.map (·.2)) st gi gt ge Γ with
    | exc c => exact fun o => o
    | bad => exact fun o => o
    | ok d =>
      intro o2 v F' H' x dp
      obtain ⟨d', F2, e, sh2, x2, dp2, o3⟩ := o2 v F' H' x dp
      cases e
      exact o3 _ F2 H' sh2 (Same.refl _) ((er.ext x2).set i dp2), keep_set (sName_len i)⟩

/-! ### a list that grows: x = [..], x.append(..), and from then on a list as others -/
theorem ER.setOwn {K : PySem.W.Frag} {F H : Hp} {σ : L2.St} {Γ : G} (er : ER K B F H σ Γ) (i : Nat) {p : Addr} {vs : List V} {ds : List D} (hb : B p = none) (hf : F p = none) (hp : H p = none) (dp : DpAll K F vs ds) :
    ER K B F (upd H p (.lst vs)) (σ.set i (some (.ref p))) (Γ.set i (.own ds)) := by
  have keep : ∀ (j : Nat) (ds : List D), Γ[j]? = some (.own ds) → σ[j]? ≠ some (some (.ref p)) := fun j ds h e => by
    obtain ⟨q, ws, a, _, _, c, _⟩ := er.ok j _ h
    rw [a] at e
    cases e
    rw [hp] at c
    cases c
  refine ⟨by rw [List.length_set, List.length_set]; exact er.len, fun j s q => ?_, fun a b ds1 ds2 q h1 h2 h3 h4 => ?_, fun a b ds1 ds2 q h1 h2 h3 h4 => ?_⟩
  · rw [List.getElem?_set] at q
    by_cases hij : i = j
    · subst hij
      rw [if_pos rfl] at q
      split at q
      · rename_i hl
        cases q
        exact ⟨p, vs, by rw [List.getElem?_set_self (by rw [er.len]; exact hl)], hb, hf, by rw [upd_same], dp⟩
      · cases q
    · rw [if_neg hij] at q
      have := er.ok j s q
      cases s with
      | un => trivial
      | exn a =>
        show (List.set _ _ _)[_]? = _
        rw [List.getElem?_set_ne hij]
        exact this
      | dat d => obtain ⟨v, a, b⟩ := this; exact ⟨v, by rw [List.getElem?_set_ne hij]; exact a, b⟩
      | own ds =>
        obtain ⟨p2, xs, a, b0, b1, c, d⟩ := this
        have hne : p2 ≠ p := fun z => keep j ds q (by rw [a, z])
        exact ⟨p2, xs, by rw [List.getElem?_set_ne hij]; exact a, b0, b1, by rw [upd_ne hne]; exact c, d⟩
      | cel k =>
        obtain ⟨p2, xs, a, b0, b1, c, d⟩ := this
        have hne : p2 ≠ p := fun z => by rw [z, hp] at c; cases c
        exact ⟨p2, xs, by rw [List.getElem?_set_ne hij]; exact a, b0, b1, by rw [upd_ne hne]; exact c, d⟩
  · rw [List.getElem?_set] at h1 h2 h3 h4
    by_cases ha : i = a <;> by_cases hb : i = b
    · exact ha.symm.trans hb
    · subst ha
      rw [if_pos rfl] at h3
      rw [if_neg hb] at h2 h4
      split at h3
      · cases h3
        exact (keep b _ h2 h4).elim
      · cases h3
    · subst hb
      rw [if_neg ha] at h1 h3
      rw [if_pos rfl] at h4
      split at h4
      · cases h4
        exact (keep a _ h1 h3).elim
      · cases h4
    · rw [if_neg ha] at h1 h3
      rw [if_neg hb] at h2 h4
      exact er.apart a b _ _ q h1 h2 h3 h4
  · have un : ∀ (a : Nat) (k : Cel), (Γ.set i (.own ds))[a]? = some (.cel k) → i ≠ a ∧ Γ[a]? = some (.cel k) := fun a k h => by
      rw [List.getElem?_set] at h
      by_cases z : i = a
      · rw [if_pos z] at h
        split at h <;> cases h
      · rw [if_neg z] at h
        exact ⟨z, h⟩
    obtain ⟨na, ga⟩ := un _ _ h1
    obtain ⟨nb, gb⟩ := un _ _ h2
    rw [List.getElem?_set_ne na] at h3
    rw [List.getElem?_set_ne nb] at h4
    exact er.apartC a b _ _ q ga gb h3 h4
def gSetOwn (i : Nat) (gs : G → R (List D)) (Γ : G) : R Fl := (gs Γ).bind fun ds => if ds.length ≤ sizeLine then .ok (.nx (Γ.set i (.own ds))) else .bad
theorem keep_own {i : Nat} {gs : G → R (List D)} : KeepN (gSetOwn i gs) := fun Γ => by
  unfold gSetOwn
  cases gs Γ with
  | exc c => exact ⟨fun _ q => (by cases q), fun _ q => (by cases q), fun _ q => (by cases q)⟩
  | bad => exact ⟨fun _ q => (by cases q), fun _ q => (by cases q), fun _ q => (by cases q)⟩
  | ok d =>
    simp only [R.bind_ok]
    split
    · exact ⟨fun _ q => (by cases q; exact List.length_set ..), fun _ q => (by cases q), fun _ q => (by cases q)⟩
    · exact ⟨fun _ q => (by cases q), fun _ q => (by cases q), fun _ q => (by cases q)⟩
theorem s_own {x : Str} {es : List Expr} {lpos pos pos' : Pos} {gs : G → R (List D)} (i : Nat) (nd : X.N.Nodup) (h : DA X B E es gs) (hi : X.N[i]? = some x := by rfl) (hx : Loc X.env.scope x := by first | exact Or.inl rfl | exact Or.inr rfl)
    (hf : X.fn x = true ∨ X.env.scope.names.lookup x = some .local := by first | exact .inl rfl | exact .inr rfl)
    (hs : swapsWithSole [.Name x pos'] (.List es lpos) pos.line X.env = pure false := by rfl) (hw : swappedStores [.Name x pos'] (.List es lpos) X.env = pure none := by rfl) (h1 : (assignEach [.Name x pos'] X.env).map (·.2) = [assign (.Name x pos') X.env] := by rfl) :
    DS X B F0 n E (.Assign [.Name x pos'] (.List es lpos) pos) (gSetOwn i gs) :=
  ⟨ps_imp (ps_asg (pe_lst h) (pg_name nd hi hx hf) hs hw h1) fun Dd σ H ⟨Γ, F, sh, er, hn, o⟩ => by
    refine ⟨Γ, F, sh.f, er, ?_⟩
    unfold gSetOwn at o
    revert o
    cases gs Γ with
    | exc c => exact fun o C F' H' m x => o σ C F' H' (er.slen hn) m (sh.ext x) x.f
    | bad => exact fun o => o
    | ok ds =>
      intro o vs F' H' x dp
      simp only [R.bind_ok] at o
      by_cases hz : ds.length ≤ sizeLine
      · rw [if_pos hz] at o
        refine ⟨by rw [dpa_length dp]; exact hz, fun p hp => ?_⟩
        have sh2 := sh.ext x
        have hBp : B p = none := by
          cases q : B p with
          | none => rfl
          | some u => rw [sh2.b _ _ q] at hp; cases hp
        have hFp : F' p = none := by
          cases q : F' p with
          | none => rfl
          | some u => rw [sh2.f _ _ q] at hp; cases hp
        refine o _ F' _ ⟨fun a u q => ?_, fun a u q => ?_, sh2.f0, sh2.no⟩ x.f ((er.ext x).setOwn i hBp hFp hp dp)
        · rw [upd_ne (fun z => by rw [z, hBp] at q; cases q)]; exact sh2.b _ _ q
        · rw [upd_ne (fun z => by rw [z, hFp] at q; cases q)]; exact sh2.f _ _ q
      · rw [if_neg hz] at o; exact o.elim, keep_own⟩
def gApp (i : Nat) (g : G → R D) (Γ : G) : R Fl := match Γ[i]? with
  | some (.own ds) => (g Γ).bind fun d => if ds.length < sizeLine then .ok (.nx (Γ.set i (.own (ds ++ [d])))) else .bad
  | _ => .bad
theorem keep_app {i : Nat} {g : G → R D} : KeepN (gApp i g) := fun Γ => by
  unfold gApp
  split
  · cases g Γ with
    | exc c => exact ⟨fun _ q => (by cases q), fun _ q => (by cases q), fun _ q => (by cases q)⟩
    | bad => exact ⟨fun _ q => (by cases q), fun _ q => (by cases q), fun _ q => (by cases q)⟩
    | ok d =>
      simp only [R.bind_ok]
      split
      · exact ⟨fun _ q => (by cases q; exact List.length_set ..), fun _ q => (by cases q), fun _ q => (by cases q)⟩
      · exact ⟨fun _ q => (by cases q), fun _ q => (by cases q), fun _ q => (by cases q)⟩
  · exact ⟨fun _ q => (by cases q), fun _ q => (by cases q), fun _ q => (by cases q)⟩
theorem dpa_snoc {K : PySem.W.Frag} {F : Hp} {v : V} {d : D} (h : Dp K F v d) : ∀ {vs : List V} {ds : List D}, DpAll K F vs ds → DpAll K F (vs ++ [v]) (ds ++ [d])
  | _, _, .nil => .cons h .nil
  | _, _, .cons a b => .cons a (dpa_snoc h b)
theorem ER.growOwn {K : PySem.W.Frag} {F H : Hp} {σ : L2.St} {Γ : G} (er : ER K B F H σ Γ) (i : Nat) {p : Addr} {vs : List V} {ds0 ds : List D} (hg : Γ[i]? = some (.own ds0)) (hs : σ[i]? = some (some (.ref p))) (hb : B p = none) (hf : F p = none) (dp : DpAll K F vs ds) :
    ER K B F (upd H p (.lst vs)) σ (Γ.set i (.own ds)) := by
  have hl : i < Γ.length := (List.getElem?_eq_some_iff.mp hg).1
  refine ⟨by rw [List.length_set]; exact er.len, fun j s q => ?_, fun a b ds1 ds2 q h1 h2 h3 h4 => ?_, fun a b ds1 ds2 q h1 h2 h3 h4 => ?_⟩
  · rw [List.getElem?_set] at q
    by_cases hij : i = j
    · subst hij
      rw [if_pos rfl, if_pos hl] at q
      cases q
      exact ⟨p, vs, hs, hb, hf, by rw [upd_same], dp⟩
    · rw [if_neg hij] at q
      have := er.ok j s q
      cases s with
      | un => trivial
      | exn a => exact this
      | dat d => exact this
      | own ds =>
        obtain ⟨p2, xs, a, b0, b1, c, d⟩ := this
        have hne : p2 ≠ p := fun z => hij (er.apart i j _ _ p hg q hs (by rw [a, z]))
        exact ⟨p2, xs, a, b0, b1, by rw [upd_ne hne]; exact c, d⟩
      | cel k =>
        obtain ⟨p2, u, a, b0, b1, c, d⟩ := this
        obtain ⟨p3, ws, e1, _, _, e4, _⟩ := er.ok i _ hg
        rw [hs] at e1
        cases e1
        have hne : p2 ≠ p := fun z => by rw [z, e4] at c; cases c; exact d.nolst
        exact ⟨p2, u, a, b0, b1, by rw [upd_ne hne]; exact c, d⟩
  · have own : ∀ (a : Nat) (ds1 : List D), (Γ.set i (.own ds))[a]? = some (.own ds1) → ∃ ds2, Γ[a]? = some (.own ds2) := fun a ds1 h => by
      rw [List.getElem?_set] at h
      by_cases hia : i = a
      · exact ⟨ds0, hia ▸ hg⟩
      · rw [if_neg hia] at h
        exact ⟨ds1, h⟩
    obtain ⟨_, g1⟩ := own a _ h1
    obtain ⟨_, g2⟩ := own b _ h2
    exact er.apart a b _ _ q g1 g2 h3 h4
  · have un : ∀ (a : Nat) (k : Cel), (Γ.set i (.own ds))[a]? = some (.cel k) → i ≠ a ∧ Γ[a]? = some (.cel k) := fun a k h => by
      rw [List.getElem?_set] at h
      by_cases z : i = a
      · rw [if_pos z] at h
        split at h <;> cases h
      · rw [if_neg z] at h
        exact ⟨z, h⟩
    exact er.apartC a b _ _ q (un _ _ h1).2 (un _ _ h2).2 h3 h4
theorem s_append {x : Str} {e : Expr} {p1 apos cpos pos : Pos} {g : G → R D} (i : Nat) (he : DE X B E e g) (hN : X.N[i]? = some x := by rfl) (hv : Vis X.env.scope x := by first | exact Or.inl rfl | exact Or.inr (Or.inl rfl) | exact Or.inr (Or.inr rfl)) (hd : (x == ("__debug__" : Str)) = false := by decide)
    (hcd : (x == ("__classdict__" : Str)) = false := by decide)
    (hbase : attributeBase (.Name x p1) "append" X.env (eval (.Name x p1) X.env) = eval (.Name x p1) X.env := by rfl)
    (hfew : ((backTo cpos (starEach [e] X.env)).all (fun x => !x.1) && (backToKw cpos (keywordEach [] X.env)).all (fun x => x.1.isSome)
      && decide ([e].length + ([] : List Keyword).length + (if ([] : List Keyword).isEmpty then 0 else 1) < 30)) = true := by rfl)
    (hline : (apos.endLine == cpos.line) = true := by rfl) (hs : starEach [e] X.env = (false, eval e X.env) :: starEach [] X.env := by rfl) (hplain : (backTo cpos (starEach [] X.env)).any (·.1) = false := by rfl)
    (hsw : swapsWith (.Call (.Attribute (.Name x p1) "append" apos) [e] [] cpos) none pos.line X.env = pure false := by rfl) :
    DS X B F0 n E (.Expr (.Call (.Attribute (.Name x p1) "append" apos) [e] [] cpos) pos) (gApp i g) :=
  ⟨ps_imp (ps_expr (pe_bm PySem.F.plainAttrs_list PySem.F.slot_list_append PySem.F.type_list_append mt_append (pe_var hN hv hd hcd) (pa_cons he pa_nil hs) hbase hfew hline hs hplain) hsw) fun Dd σ H ⟨Γ, F, sh, er, hn, o⟩ => by
    unfold gApp at o
    split at o
    · rename_i ds hg
      obtain ⟨p, vs, a, hB, hF, hH, dpa⟩ := er.ok i _ hg
      refine ⟨.ref p, a, .inl ⟨rfl, vs, .inl (.inl hH)⟩, Γ, F, sh.f, er, ?_⟩
      revert o
      cases g Γ with
      | exc c => exact fun o C F' H' m x => o σ C F' H' (er.slen hn) m (sh.ext x) x.f
      | bad => exact fun o => o
      | ok d =>
        intro o v F' H' x dp
        simp only [R.bind_ok] at o
        by_cases hz : ds.length < sizeLine
        · rw [if_pos hz] at o
          have er2 := er.ext x
          have sh2 := sh.ext x
          obtain ⟨p', vs', a', hB', hF', hH', dpa'⟩ := er2.ok i _ hg
          rw [a] at a'
          cases a'
          have hvv : vs' = vs := by
            have := x.h _ _ hH
            rw [hH'] at this
            cases this
            rfl
          subst hvv
          refine ⟨p, vs', v, rfl, rfl, hH', by rw [dpa_length dpa']; exact hz, ?_⟩
          refine o σ F' _ ⟨fun b u q => ?_, fun b u q => ?_, sh2.f0, sh2.no⟩ x.f (er2.growOwn i hg a hB' hF' (dpa_snoc dp dpa'))
          · rw [upd_ne (fun z => by rw [z, hB'] at q; cases q)]; exact sh2.b _ _ q
          · rw [upd_ne (fun z => by rw [z, hF'] at q; cases q)]; exact sh2.f _ _ q
        · rw [if_neg hz] at o; exact o.elim
    · exact o.elim, keep_app⟩
/-- from here on it grows no more -/
def gFreeze (i : Nat) (g : G → R Fl) (Γ : G) : R Fl := match Γ[i]? with
  | some (.own ds) => g (Γ.set i (.dat (.list ds)))
  | _ => g Γ
theorem keep_freeze {i : Nat} {g : G → R Fl} (h : KeepN g) : KeepN (gFreeze i g) := fun Γ => by
  unfold gFreeze
  split
  · have := h (Γ.set i (.dat (.list ‹_›)))
    simpa only [List.length_set] using this
  · exact h Γ
theorem ss_freeze {st : List Stmt} {g : G → R Fl} (i : Nat) (h : DSs X B F0 n E st g) : DSs X B F0 n E st (gFreeze i g) :=
  ⟨pss_imp h.ps fun Dd σ H ⟨Γ, F, sh, er, hn, o⟩ => by
    unfold gFreeze at o
    split at o
    · rename_i ds hg
      obtain ⟨p, vs, a, hB, hF, hH, dpa⟩ := er.ok i _ hg
      have sf : Same F (upd F p (.lst vs)) := fun b u q => by rw [upd_ne (fun z => by rw [z, hF] at q; cases q)]; exact q
      refine ⟨Γ.set i (.dat (.list ds)), upd F p (.lst vs), ⟨sh.b, fun b u q => ?_, sh.f0.trans sf, fun b h1 h2 => ?_⟩, ⟨by rw [List.length_set]; exact er.len, fun j s q => ?_, fun a1 b1 ds1 ds2 q h1 h2 h3 h4 => ?_, fun a1 b1 ds1 ds2 q h1 h2 h3 h4 => ?_⟩, by rw [List.length_set]; exact hn, OutS.mono o sf⟩
      · by_cases hbp : b = p
        · subst hbp
          rw [upd_same] at q
          cases q
          exact hH
        · rw [upd_ne hbp] at q
          exact sh.f _ _ q
      · have hbp : b ≠ p := fun z => h2 (by rw [z]; exact hB)
        rw [upd_ne hbp]
        exact sh.no b h1 h2
      · rw [List.getElem?_set] at q
        by_cases hij : i = j
        · subst hij
          rw [if_pos rfl] at q
          split at q
          · cases q
            exact ⟨.ref p, a, .lst (.inl (.inl (by rw [upd_same]))) (dpa_mono sf dpa)⟩
          · cases q
        · rw [if_neg hij] at q
          have := er.ok j s q
          cases s with
          | un => trivial
          | exn a => exact this
          | dat d =>
            obtain ⟨v, a1, b1⟩ := this
            exact ⟨v, a1, dp_mono sf b1⟩
          | own es =>
            obtain ⟨p2, xs, a1, b0, b1, c, d⟩ := this
            have hne : p2 ≠ p := fun z => hij (er.apart i j _ _ p hg q a (by rw [a1, z]))
            exact ⟨p2, xs, a1, b0, by rw [upd_ne hne]; exact b1, c, dpa_mono sf d⟩
          | cel k =>
            obtain ⟨p2, u, a1, b0, b1, c, d⟩ := this
            have hne : p2 ≠ p := fun z => by rw [z, hH] at c; cases c; exact d.nolst
            exact ⟨p2, u, a1, b0, by rw [upd_ne hne]; exact b1, c, d.mono sf⟩
      · have own : ∀ (a : Nat) (ds1 : List D), (Γ.set i (.dat (.list ds)))[a]? = some (.own ds1) → Γ[a]? = some (.own ds1) := fun a ds1 h => by
          rw [List.getElem?_set] at h
          by_cases hia : i = a
          · rw [if_pos hia] at h
            split at h <;> cases h
          · rw [if_neg hia] at h
            exact h
        exact er.apart a1 b1 _ _ q (own _ _ h1) (own _ _ h2) h3 h4
      · have un : ∀ (a : Nat) (k : Cel), (Γ.set i (.dat (.list ds)))[a]? = some (.cel k) → i ≠ a ∧ Γ[a]? = some (.cel k) := fun a k h => by
          rw [List.getElem?_set] at h
          by_cases z : i = a
          · rw [if_pos z] at h
            split at h <;> cases h
          · rw [if_neg z] at h
            exact ⟨z, h⟩
        exact er.apartC a1 b1 _ _ q (un _ _ h1).2 (un _ _ h2).2 h3 h4
    · exact ⟨Γ, F, sh, er, hn, o⟩, keep_freeze h.keep⟩
def ownK (i : Nat) (Γ : G) (r : R (List D)) : R Fl := r.bind fun ds => if ds.length ≤ sizeLine then .ok (.nx (Γ.set i (.own ds))) else .bad
@[simp] theorem ev_setOwn (i : Nat) (gs : G → R (List D)) (Γ : G) : gSetOwn i gs Γ = ownK i Γ (gs Γ) := (rfl)
theorem ownK_ok (i : Nat) (Γ : G) {ds : List D} (h : ds.length ≤ 16777216) : ownK i Γ (.ok ds) = .ok (.nx (Γ.set i (.own ds))) := if_pos (by rw [sizeLine_eq]; exact h)
def app1K (i : Nat) (ds : List D) (Γ : G) (r : R D) : R Fl := r.bind fun d => if ds.length < sizeLine then .ok (.nx (Γ.set i (.own (ds ++ [d])))) else .bad
def appK2 (i : Nat) (g : G → R D) (Γ : G) : Option Sv → R Fl
  | some (.own ds) => app1K i ds Γ (g Γ)
  | _ => .bad
@[simp] theorem ev_app (i : Nat) (g : G → R D) (Γ : G) : gApp i g Γ = appK2 i g Γ Γ[i]? := by
  unfold gApp appK2
  split <;> rfl
@[simp] theorem appK2_own (i : Nat) (g : G → R D) (Γ : G) (ds : List D) : appK2 i g Γ (some (.own ds)) = app1K i ds Γ (g Γ) := (rfl)
theorem app1K_ok (i : Nat) {ds : List D} (Γ : G) (d : D) (h : ds.length < 16777216) : app1K i ds Γ (.ok d) = .ok (.nx (Γ.set i (.own (ds ++ [d])))) := if_pos (by rw [sizeLine_eq]; exact h)
def frzK (i : Nat) (g : G → R Fl) (Γ : G) : Option Sv → R Fl
  | some (.own ds) => g (Γ.set i (.dat (.list ds)))
  | _ => g Γ
@[simp] theorem ev_freeze (i : Nat) (g : G → R Fl) (Γ : G) : gFreeze i g Γ = frzK i g Γ Γ[i]? := by
  unfold gFreeze frzK
  split <;> rfl
@[simp] theorem frzK_own (i : Nat) (g : G → R Fl) (Γ : G) (ds : List D) : frzK i g Γ (some (.own ds)) = g (Γ.set i (.dat (.list ds))) := (rfl)
@[simp] theorem frzK_dat (i : Nat) (g : G → R Fl) (Γ : G) (d : D) : frzK i g Γ (some (.dat d)) = g Γ := (rfl)
end
end ND
namespace ND
open PySem PySem.Spec L2 PyProof.Rows
/-! ### a def that is called with a caught exception, within the except suite -/
open L2H in
structure FnR (P : Program) (w : World) (K : PySem.W.Frag) (mg : Str → Option Value) (base : Heap) (CX : CXT) (k : Nat) (f : Addr) (fd : FuncData) (ps : List Str) (pp : Addr × Obj → Prop) (sp : Addr → Sp) : Prop where
  len : ∀ a vs H Q E, sp a vs H Q E → vs.length = ps.length
  run : ∀ (A : Around) (outer : List Env) (s : Shared) (H : Hp) (args : Args) (us : List Value) (vs : List V) (Q : VK) (E : XK) (p : Addr × Obj), RoomH k A → pp p → PinOk outer H s p → Env0 P w K mg base A outer s H →
    BindsTo s fd args (ps.zip us) → Vals vs us → sp p.1 vs H Q E → codeAny (model P w) A (.call (.ref f) args) (CR CX outer P w H s Q E) s
open L2H in
theorem fnR_of {CX : CXT} {P : Program} {w : World} {K : PySem.W.Frag} {mg : Str → Option Value} {base : Heap} {k : Nat} {x qual : Str} {params : Arguments} {body : List Stmt} {scope : Scope} {f : Addr} {fd : FuncData}
    {N ps : List Str} {pp : Addr × Obj → Prop} {sp : Addr → Sp} (F : FunD K x qual params body scope [] [] f fd) (S : FnScope N ps scope) (len : ∀ a vs H Q E, sp a vs H Q E → vs.length = ps.length)
    (hbody : ∀ (cdv : Value) (A : Around) (outer : List Env) (s : Shared) (H : Hp) (vs : List V) (Q : VK) (E : XK) (p : Addr × Obj), pp p → RoomH k (A.deeper (envOfC qual scope s.heap.objs.size f cdv)) → sp p.1 vs H Q E →
      ∃ t, PSs (cxH CX P w K mg base N qual scope f cdv A outer s H E p) body t ∧ t { nx := fun _ H' => Q .non H', rt := Q } (L2.start N vs) H) : FnR P w K mg base CX (k + 1) f fd ps pp sp := by
  obtain ⟨oc, od, dV, kV, doc, pm, an, cdv, ct, osl, rfl, lk, hcd, _, _⟩ := F.ex
  refine ⟨len, fun A outer s H args us vs Q E p hr hpp hpin env0 hb r hsp => ?_⟩
  have hlen := len _ _ _ _ _ hsp
  have kin : K.In s.heap := env0.mod.kin.keeps fun b o e => (env0.bs b o e).1
  have nolim : s.heap.NoLimit := env0.mod.nolimit.keeps fun b o e => (env0.bs b o e).1
  have kinds : ∀ y ∈ ps.zip us, scope.names.lookup y.1 = some .local ∨ (scope.names.lookup y.1 = some .cell ∧ ((cellsFrom (s.heap.objs.size + 1) scope.names []).lookup y.1).isSome = true) := fun ⟨n, v⟩ hy =>
    (S.par n (List.of_mem_zip hy).1).elim .inl fun q => .inr ⟨q, PySem.W.cellsFrom_some _ _ _ (.inl q)⟩
  refine codeAny_call_function hr.depth (kin _ _ lk) rfl S.co S.gen rfl (PySem.W.codeRec_of kin hcd) (hb _ _ _ _ (wpAny_newFunctionEnv_cells S.kind kinds fun env henv s1 ic => ?_))
  subst henv
  obtain ⟨t, ht, ho⟩ := hbody cdv A outer s H vs Q E p hpp (hr.deeper _) hsp
  have inv : Inv (cxH CX P w K mg base N qual scope f cdv A outer s H E p) [] (L2.start N vs) H s1 := inv_startH S hpin env0 hlen r ic
  refine ⟨nolim.keeps ic.toInCall.keep, codeAny_func (wpAny_mono (ht.run [] s1 (L2.start N vs) H _ inv ho) (fun fl s' hs => ?_) fun e s' hs => hs)⟩
  have done : ∀ {σ' : L2.St} {H' : Hp} {v : V} {u : Value}, Inv (cxH CX P w K mg base N qual scope f cdv A outer s H E p) [] σ' H' s' → RelV v u → Q v H' → CE outer P w H s Q u s' :=
    fun {σ' H' v u} J rv q => ⟨v, H', J.os, J.bare, J.base, J.hok, rv, q⟩
  match fl, hs with
  | .ret u, ⟨v, σ', H', J, rv, q⟩ => exact done J rv q
  | .next, ⟨σ', H', J, q⟩ => exact done (v := V.non) (u := Value.none) J rfl q
  | .brk, ⟨_, _, _, q⟩ => exact q.elim
  | .cont, ⟨_, _, _, q⟩ => exact q.elim
section
variable {X : Cx} {CX : CXT} {k : Nat} {f : Addr} {fd : FuncData} {ps : List Str} {pp : Addr × Obj → Prop} {sp : Addr → Sp} {x : Str} {q pos : Pos} {e : Expr} {es : List Expr} {t : TA}
/-- the call, the caught object pinned by the context -/
theorem run_fnR {p : Addr × Obj} {pins : List (Addr × Obj)} {σ : L2.St} {H : Hp} {s : Shared} {Q : VK} {us : List Value} {vs : List V} (F : FnR X.prog X.w X.K X.mg X.base CX k f fd ps pp sp) (hr : L2H.RoomH k X.A) (hp : p ∈ X.pn) (hpp : pp p) (hb : Binds X.K fd ps [])
    (hx : PassesAt CX X σ L2.E0) (I : Inv X pins σ H s) (r : Vals vs us) (h : sp p.1 vs H Q L2.E0) : wpAny (model X.prog X.w) X.A (call (.ref f) us) (EP X pins σ Q) X.xe s := by
  have hl : us.length = ps.length := r.length ▸ F.len _ _ _ _ _ h
  have b := hb s us I.kIn (by rw [List.append_nil]; exact hl)
  rw [List.append_nil] at b
  have P1 := I.pin p (List.mem_append_left _ hp)
  have hpin : L2H.PinOk X.stack H s p := ⟨P1.1, P1.2.1, fun hm => (List.mem_cons.mp (I.stkSub p.1 hm)).elim P1.2.2.1 P1.2.2.2.1, P1.2.2.2.2⟩
  refine wpAny_call (codeAny_mono (F.run X.A X.stack s H ⟨us, []⟩ us vs Q L2.E0 p hr hpp hpin I.env0 b r h) fun res s' hq => ?_)
  match res, hq with
  | .error e, hq => exact hx pins H s e s' I hq
  | .ok (.ret u), hq => exact I.after hq
  | .ok .next, hq => exact hq.elim
  | .ok .brk, hq => exact hq.elim
  | .ok .cont, hq => exact hq.elim
theorem pe_callR {p : Addr × Obj} (F : FnR X.prog X.w X.K X.mg X.base CX k f fd ps pp sp) (hr : L2H.RoomH k X.A) (hp : p ∈ X.pn) (hpp : pp p) (hg : Gl X x) (hm : X.mg x = some (.ref f)) (hk : PySem.W.keepIn X.K (.ref f) = true) (hb : Binds X.K fd ps []) (hx : ∀ σ, PassesAt CX X σ L2.E0)
    (ha : PA X (e :: es) t) (hdb : (x == ("__debug__" : Str)) = false := by decide) (he : starEach (e :: es) X.env = (false, eval e X.env) :: starEach es X.env := by rfl) (hpl : (backTo pos (starEach es X.env)).any (·.1) = false := by rfl) :
    PE X (.Call (.Name x q) (e :: es) [] pos) (fun σ H Q => t σ H fun vs H1 => sp p.1 vs H1 Q L2.E0) := by
  refine ⟨fun pins s σ H Q I h => wpAny_Call_Name_kw (ld_glob I hg hm ?_ hdb)⟩
  refine PySem.W.callWith_K (h₀ := X.base) I.ok.mod.kin hk (thn (ha.run pos pins s σ H _ I h) fun us s1 ⟨vs, H1, I1, r, w⟩ => ⟨I1.kIn, ?_⟩) he hpl
  exact run_fnR F hr hp hpp hb (hx σ) I1 r w
end
section
variable {X : Cx} {B : Hp} {E : L2.St → XK}
/-- what is pinned: an exception of the own class at D -/
def PinE (D : Addr) (p : Addr × Obj) : Prop := Zc (.ref D) none p.2 ∧ ∃ vs, p.2.data = .fields vs
theorem call_isP {D : Addr} {p : Addr × Obj} (hp : p ∈ X.pn) (C : L2.ExcC X.K D) (hz : PinE D p) : CallR X (.builtin "isinstance") (rIsE X.K D p.1) := by
  intro pins s σ H xs us Q I r h
  obtain ⟨c, cv, b, rfl, hcv, e, q⟩ := h
  obtain ⟨u1, u2, rfl, r1, r2⟩ := vals2 r
  cases r1
  have ec := hcv _ r2
  subst ec
  obtain ⟨⟨hc, hd⟩, vs, hv⟩ := hz
  have hget := (I.pin p (List.mem_append_left _ hp)).1
  have J : PySem.W.InstAt s.heap p.1 p.2 D none := by
    obtain ⟨a, oc, od, oda, osl⟩ := p
    dsimp only at hc hd hv hget ⊢
    subst hc hd hv
    exact ⟨hget, rfl, rfl, trivial⟩
  exact PySem.W.kia_one (PySem.W.handS_kitx_exc C.hg C.hk C.hs C.hd C.ha C.hn C.ht C.hm) I.kIn J e (fun z => nomatch z) fun tk => ⟨.bl b, H, I.tok tk, rfl, q⟩
def gIsE (i : Nat) (a : Addr) (b : Bool) (Γ : G) : R D := match Γ[i]? with
  | some (.exn a') => if a' = a then .ok (.bool b) else .bad
  | _ => .bad
theorem d_isE {D : Addr} {p : Addr × Obj} {cv : Value} {v : V} {b : Bool} {x y z : Str} {q q2 q3 pos : Pos} (i : Nat) (hp : p ∈ X.pn) (C : L2.ExcC X.K D) (hz : PinE D p) (hk : PySem.W.kitOne X.K (.ref D) cv = some b) (hv : ∀ u, RelV v u → u = cv) (hy : PE X (.Name y q2) (tC v))
    (hg : Gl X z) (hm : X.mg z = none) (hb : bootBuiltins z = some (.builtin "isinstance"))
    (hN : X.N[i]? = some x := by rfl) (hvis : Vis X.env.scope x := by first | exact Or.inl rfl | exact Or.inr (Or.inl rfl) | exact Or.inr (Or.inr rfl)) (hd : (x == ("__debug__" : Str)) = false := by decide) (hcd : (x == ("__classdict__" : Str)) = false := by decide)
    (hn : z ≠ "__name__" := by decide) (hdb : (z == ("__debug__" : Str)) = false := by decide)
    (he : starEach [.Name x q, .Name y q2] X.env = (false, eval (.Name x q) X.env) :: starEach [.Name y q2] X.env := by rfl) (he2 : starEach [.Name y q2] X.env = (false, eval (.Name y q2) X.env) :: starEach [] X.env := by rfl) (hpl : (backTo pos (starEach [.Name y q2] X.env)).any (·.1) = false := by rfl) :
    DE X B E (.Call (.Name z q3) [.Name x q, .Name y q2] [] pos) (gIsE i p.1 b) :=
  pe_imp (pe_callB (call_isP hp C hz) hg hm hb (pa_cons (pe_var hN hvis hd hcd) (pa_cons hy pa_nil he2) he) hn hdb he hpl) fun σ H Q ⟨Γ, F, s, er, o⟩ => by
    unfold gIsE at o
    split at o
    · rename_i a' e
      have k := er.ok i _ e
      split at o
      · rename_i ea
        subst ea
        exact ⟨.ref p.1, k, v, cv, b, rfl, hv, hk, o _ F H (Ext.refl s) (.bl b)⟩
      · exact o.elim
    · exact o.elim
end
end ND
namespace ND
open PySem PySem.Spec L2 PyProof.Rows
section
variable {X : Cx} {B : Hp} {E : L2.St → XK}
/-! ### l.count(x) -/
def cntD (d : D) (ds : List D) : Nat := ds.countP fun z => PyData.eqv z d
def rCountD (K : PySem.W.Frag) : V → List V → Hp → VK → Prop := fun x xs H Q => ∃ (a : Addr) (y : V) (d : PyData) (ds : List PyData), x = V.ref a ∧ xs = [y] ∧ Dp K H (V.ref a) (.list ds) ∧ Dp K H y d ∧
  SeqAt.shaped (.list ds) = true ∧ SeqAt.shaped d = true ∧ Q (.int (cntD d ds : Nat)) H
theorem mt_countD (hu : X.A.units + 65 < cLine) : MtR X "list.count" (rCountD X.K) := by
  intro pins s σ H x xs v us Q I rx rxs h
  obtain ⟨a, y, d, ds, rfl, rfl, hl, hy, sl, sd, q⟩ := h
  cases rx
  obtain ⟨uy, rfl, ry⟩ := rxs.one
  obtain ⟨bs, r1⟩ := Dp.reads I d y uy hy ry
  have lay : PyData.canLayAll0 ds = true := SeqAt.canLay_of_shaped sl
  have room : X.A.units + 1 + min (PyData.depthAll ds) d.depth < cLine := room_in_shaped sd hu
  cases hl with
  | lst hs ha =>
    obtain ⟨its, rv, ⟨⟨cls, dd, data, sls⟩, n, ho, hc, hdn, hdt⟩, hlen⟩ := I.list hs
    simp only at hc hdt
    subst hc hdt
    obtain ⟨as, h4⟩ := Dp.readsAll I ds _ its ha rv
    have hmap : its.map (SeqAt.readOf s.heap) = ds := SeqAt.readsAll_map ds its as lay h4
    refine call_meets PySem.F.slot_list_count ⟨_, ho, rfl⟩ PySem.F.entry_list_count (PySem.F.args_list_count_2 _ _)
      (SeqAt.list_countAt a its.toArray n dd sls uy (fun u => PyData.eqv (SeqAt.readOf s.heap u) d)) ⟨ho, SeqAt.items_eqAt (vs := its.toArray) (show ReadsAll s.heap its.toArray.toList ds as from h4) r1 lay (SeqAt.canLay_of_shaped sd) room, ?_⟩
    have ec : its.toArray.toList.countP (fun u => PyData.eqv (SeqAt.readOf s.heap u) d) = cntD d ds := by
      unfold cntD
      rw [← hmap, List.countP_map]
      rfl
    refine ⟨.int (cntD d ds : Nat), H, I.tok _, ⟨s.toks, ?_⟩, q⟩
    show Value.int ((its.toArray.toList.countP _ : Nat) : Int) s.toks = _
    rw [ec]
def fLCount : D → D → R D
  | .list ds, d => if SeqAt.shaped d = true ∧ SeqAt.shaped (.list ds) = true then .ok (.int (cntD d ds : Nat)) else .bad
  | _, _ => .bad
theorem d_lcount {o e : Expr} {apos pos : Pos} {go ge : G → R D} (hr : RU X.A) (ho : DE X B E o go) (he : DE X B E e ge)
    (hbase : attributeBase o "count" X.env (eval o X.env) = eval o X.env := by rfl)
    (hfew : ((backTo pos (starEach [e] X.env)).all (fun x => !x.1) && (backToKw pos (keywordEach [] X.env)).all (fun x => x.1.isSome)
      && decide ([e].length + ([] : List Keyword).length + (if ([] : List Keyword).isEmpty then 0 else 1) < 30)) = true := by rfl)
    (hline : (apos.endLine == pos.line) = true := by rfl) (hs : starEach [e] X.env = (false, eval e X.env) :: starEach [] X.env := by rfl) (hplain : (backTo pos (starEach [] X.env)).any (·.1) = false := by rfl) :
    DE X B E (.Call (.Attribute o "count" apos) [e] [] pos) (gLM fLCount go ge) :=
  pe_imp (pe_bm PySem.F.plainAttrs_list PySem.F.slot_list_count PySem.F.type_list_count (mt_countD (by have := hr.un; omega)) ho (pa_cons he pa_nil hs) hbase hfew hline hs hplain) fun σ H Q h => by
    obtain ⟨Γ, F, s, er, w⟩ := tD.bind (f := fun Γ l => if isList l = true then (ge Γ).bind fun d => fLCount l d else .bad) h
    refine ⟨Γ, F, s, er, ?_⟩
    revert w
    cases go Γ with
    | exc c => exact fun o => o
    | bad => exact fun o => o
    | ok d =>
      intro w v F1 H1 x1 dp1
      obtain ⟨Γ2, d2, F2, s2, er2, dp2, o2⟩ := w v F1 H1 x1 dp1
      cases dp2 with
      | @lst a vs zs k1 k2 =>
        refine ⟨.inl ⟨rfl, _, s2.seq k1⟩, Γ2, F2, s2, er2, ?_⟩
        have o3 : Out X.K X.mg F2 H1 (E σ) ((ge Γ2).bind fun d => fLCount (.list zs) d) Q := o2
        revert o3
        cases ge Γ2 with
        | exc c => exact fun o => o
        | bad => exact fun o => o
        | ok e2 =>
          intro o3 u F4 H4 x4 dp4
          simp only [R.bind_ok, fLCount] at o3
          split at o3
          · rename_i hz
            exact ⟨a, u, e2, zs, rfl, rfl, dp_mono (x4.f.trans x4.fh) (.lst k1 k2), dp_mono x4.fh dp4, hz.2, hz.1, o3 _ F4 H4 x4 (.int _)⟩
          · exact o3.elim
      | _ => exact o2.elim
end
/-! ### try: .. except X as e: return f(e) -/
theorem pss_ex {X : Cx} {st : List Stmt} {α : Type} {t : α → TS} (h : ∀ c, PSs X st (t c)) : PSs X st (fun Dd σ H => ∃ c, t c Dd σ H) := ⟨fun pins s σ H Dd I ⟨c, w⟩ => (h c).run pins s σ H Dd I w⟩
theorem pss_no {X : Cx} {st : List Stmt} {t : TS} (h : ∀ Dd σ H, ¬ t Dd σ H) : PSs X st t := ⟨fun pins s σ H Dd I w => (h _ _ _ w).elim⟩
/-- what such a def promises of an exception of the class named c -/
def spR (K : PySem.W.Frag) (r : R D) (a : Addr) : Sp := fun vs H Q _ => vs = [.ref a] ∧ ∃ dv F, r = .ok dv ∧ Same F H ∧ Fin K F H dv Q
/-- the def that reads the exception: for each class among cs -/
structure RefK (P : Program) (w : World) (K : PySem.W.Frag) (mg : Str → Option Value) (base : Heap) (k : Nat) (rf : Str) (J : Addr) (cs : List Str) (r : Str → R D) : Prop where
  ex : ∃ f fd p0, mg rf = some (.ref f) ∧ PySem.W.keepIn K (.ref f) = true ∧ Binds K fd [p0] [] ∧ ∀ c ∈ cs, ∃ D, mg c = some (.ref D) ∧ PySem.W.exmOne K (.ref D) (.ref J) = some true ∧ FnR P w K mg base (L2.CX P w) k f fd [p0] (PinE D) (spR K (r c))
def gTry (cs : List Str) (r : Str → R D) (g : G → R Fl) (Γ : G) : R Fl := match g Γ with
  | .exc c => if c ∈ cs then (match r c with | .ok d => .ok (.rt d) | _ => .bad) else .bad
  | x => x
theorem keep_try {cs : List Str} {r : Str → R D} {g : G → R Fl} (h : KeepN g) : KeepN (gTry cs r g) := fun Γ => by
  obtain ⟨a, b, c⟩ := h Γ
  unfold gTry
  cases e : g Γ with
  | exc x =>
    simp only
    split
    · split <;> exact ⟨fun _ q => (by cases q), fun _ q => (by cases q), fun _ q => (by cases q)⟩
    · exact ⟨fun _ q => (by cases q), fun _ q => (by cases q), fun _ q => (by cases q)⟩
  | bad => exact ⟨fun _ q => (by cases q), fun _ q => (by cases q), fun _ q => (by cases q)⟩
  | ok f => exact ⟨fun Γ' q => a Γ' (e.trans q), fun Γ' q => b Γ' (e.trans q), fun Γ' q => c Γ' (e.trans q)⟩
section
variable {X : Cx} {B F0 : Hp} {n k : Nat} {E : L2.St → XK}
theorem s_tryref {body : List Stmt} {g : G → R Fl} {x nm rf : Str} {J : Addr} {cs : List Str} {r : Str → R D} {np p1 p2 p3 p4 p5 p6 : Pos} (i : Nat) (hin : i < n) (R : RefK X.prog X.w X.K X.mg X.base k rf J cs r) (hr : Room k X.A) (nd : X.N.Nodup) (hc : Names X x (.ref J)) (tk : Takes X (fun cls d σ H => E σ cls d H)) (own : PassesOwn (model X.prog X.w) X.A X.env X.xe)
    (hb : ∀ (W : WX) (pn : List (Addr × Obj)) (xe : Value → Shared → Prop), Takes (X.tr pn xe) W → PassesOwn (model X.prog X.w) X.A X.env xe → DSs (X.tr pn xe) B F0 n (fun σ cls d H => W cls d σ H) body g)
    (hs : X.stack = X.env :: X.outer := by rfl) (hf : X.env.frame = some X.env.locals := by rfl) (hi : X.N[i]? = some nm := by rfl) (hln : X.env.kindOf nm = some .local := by rfl)
    (hg : Gl X rf := by rfl) (hvis : Vis X.env.scope nm := by first | exact Or.inl rfl | exact Or.inr (Or.inl rfl) | exact Or.inr (Or.inr rfl)) (hd : (nm == ("__debug__" : Str)) = false := by decide) (hcd : (nm == ("__classdict__" : Str)) = false := by decide)
    (hdb : (rf == ("__debug__" : Str)) = false := by decide) (he : starEach [.Name nm p1] X.env = (false, eval (.Name nm p1) X.env) :: starEach [] X.env := by rfl) (hpl : (backTo p3 (starEach [] X.env)).any (·.1) = false := by rfl) :
    DS X B F0 n E (.Try body [.ExceptHandler (some (.Name x np)) (some nm) [.Return (some (.Call (.Name rf p2) [.Name nm p1] [] p3)) p4] p5] [] [] p6) (gTry cs r g) := by
  obtain ⟨f, fd, p0, hm, hk, hbi, hall⟩ := R.ex
  have keep : KeepN g := (hb (fun cls d σ H => E σ cls d H) X.pn X.xe tk own).keep
  refine ⟨ps_imp (ps_try_as (tb := fun W => tDs X.K X.mg B F0 n (fun σ cls d H => W cls d σ H) g)
    (ts := fun a cls d => fun Dd σ H => ∃ c : Str, c ∈ cs ∧ (∃ D, X.mg c = some (.ref D) ∧ cls = .ref D) ∧ d = none ∧ σ[i]? = some (some (.ref a)) ∧ ∃ dv F, r c = .ok dv ∧ Same F H ∧ Fin X.K F H dv Dd.rt)
    (Wout := fun cls d σ H => E σ cls d H) hs hf nd hi hln hc tk (fun W pn xe t o => (hb W pn xe t o).ps) ?_) ?_, keep_try keep⟩
  · intro a oe cls d pn hz hfl
    refine pss_ex fun c => ?_
    by_cases hcs : c ∈ cs
    · obtain ⟨D, gD, _, FR⟩ := hall c hcs
      by_cases hcl : cls = .ref D ∧ d = none
      · obtain ⟨rfl, rfl⟩ := hcl
        have hrH : L2H.RoomH k (X.suite a ((a, oe) :: pn)).A := ⟨hr.dp, hr.un⟩
        have PC := pe_callR (X := X.suite a ((a, oe) :: pn)) (p := (a, oe)) (x := rf) (q := p2) (pos := p3) FR hrH List.mem_cons_self ⟨hz, hfl⟩ hg hm hk hbi (fun σ pins H s e s' I c => by
            obtain ⟨_, _, _, _, _, _, _, _, _, _, _, _, z⟩ := c
            exact z.elim) (pa_cons (pe_var (i := i) (x := nm) (pos := p1) hi hvis hd hcd) pa_nil he) hdb he hpl
        exact pss_imp (pss_one (ps_ret PC)) fun Dd σ H ⟨_, _, _, hσ, dv, F, er, sF, fin⟩ => ⟨.ref a, hσ, rfl, dv, F, er, sF, fin⟩
      · exact pss_no fun Dd σ H ⟨_, ⟨D', g', e'⟩, e2, _⟩ => hcl ⟨by rw [gD] at g'; cases g'; exact e', e2⟩
    · exact pss_no fun Dd σ H h => hcs h.1
  · intro Dd σ H ⟨Γ, F, sh, er, hn, o⟩
    refine ⟨Γ, F, sh, er, hn, ?_⟩
    unfold gTry at o
    revert o
    cases g Γ with
    | ok f => exact fun o => by cases f <;> exact o
    | bad => exact fun o => o
    | exc c =>
      intro o σ1 C F1 H1 hl m sh1 s1
      simp only at o
      by_cases hcs : c ∈ cs
      · rw [if_pos hcs] at o
        obtain ⟨D, gD, hex, _⟩ := hall c hcs
        rw [gD] at m
        cases m
        refine ⟨true, hex, fun _ a ha => ?_, fun z => nomatch z⟩
        cases e : r c with
        | ok dv =>
          rw [e] at o
          refine ⟨c, hcs, ⟨_, gD, rfl⟩, rfl, ?_, dv, F1, e, sh1.f, fun v F2 H2 x dp => o v F2 H2 (sh1.ext x) (s1.trans x.f) dp⟩
          rw [List.getElem?_set_self (by rw [hl]; exact hin)]
        | exc z => rw [e] at o; exact o.elim
        | bad => rw [e] at o; exact o.elim
      · rw [if_neg hcs] at o
        exact o.elim
end
end ND
namespace ND
open PySem PySem.Spec L2 PyProof.Rows
/-! ### within an except suite, by data -/
theorem memK {α : Type} {l : List α} {x : α} (k : Nat) (h : l[k]? = some x := by rfl) : x ∈ l := List.mem_of_getElem? h
structure OkH (X : Cx) : Prop where
  nd : X.N.Nodup
  ru : RU X.A
def exK (b : Bool) (a : Addr) : Option Sv → R D
  | some (.exn a') => if a' = a then .ok (.bool b) else .bad
  | _ => .bad
@[simp] theorem ev_isE (i : Nat) (a : Addr) (b : Bool) (Γ : G) : gIsE i a b Γ = exK b a Γ[i]? := by
  unfold gIsE exK
  cases Γ[i]? with
  | none => rfl
  | some s => cases s <;> rfl
@[simp] theorem exK_exn (a : Addr) (b : Bool) : exK b a (some (.exn a)) = .ok (.bool b) := if_pos rfl
section
variable {X : Cx} {B : Hp} {E : L2.St → XK} {J : Str} {cs ys : List Str} {p : Addr × Obj} {c x y z : Str} {q q2 q3 pos : Pos}
/-- isinstance(e, Y): Y a class of the program -/
theorem d_isR (i k : Nat) (R : RelIs X.K X.mg J cs ys) (hc : c ∈ cs) (hp : p ∈ X.pn) (hz : PinE (He.ga X.K c) p) (hm : X.mg z = none) (hb : bootBuiltins z = some (.builtin "isinstance"))
    (hy : ys[k]? = some y := by rfl) (hgy : Gl X y := by rfl) (hdy : (y == ("__debug__" : Str)) = false := by decide) (hgz : Gl X z := by rfl)
    (hN : X.N[i]? = some x := by rfl) (hvis : Vis X.env.scope x := by first | exact Or.inl rfl | exact Or.inr (Or.inl rfl) | exact Or.inr (Or.inr rfl)) (hd : (x == ("__debug__" : Str)) = false := by decide) (hcd : (x == ("__classdict__" : Str)) = false := by decide)
    (hn : z ≠ "__name__" := by decide) (hdb : (z == ("__debug__" : Str)) = false := by decide)
    (he : starEach [.Name x q, .Name y q2] X.env = (false, eval (.Name x q) X.env) :: starEach [.Name y q2] X.env := by rfl) (he2 : starEach [.Name y q2] X.env = (false, eval (.Name y q2) X.env) :: starEach [] X.env := by rfl) (hpl : (backTo pos (starEach [.Name y q2] X.env)).any (·.1) = false := by rfl) :
    DE X B E (.Call (.Name z q3) [.Name x q, .Name y q2] [] pos) (gIsE i p.1 (decide (c = y))) := by
  have hy' := List.mem_of_getElem? hy
  obtain ⟨_, h2, _, _, h5⟩ := R.c c hc
  exact d_isE (v := .ref (He.ga X.K y)) (cv := .ref (He.ga X.K y)) i hp h2 hz (h5 y hy') (fun u h => h) (pe_glob hgy (R.y y hy') rfl hdy) hgz hm hb hN hvis hd hcd hn hdb he he2 hpl
/-- isinstance(e, ValueError) -/
theorem d_isV (i : Nat) (R : RelIs X.K X.mg J cs ys) (hc : c ∈ cs) (hp : p ∈ X.pn) (hz : PinE (He.ga X.K c) p) (hm : X.mg z = none) (hb : bootBuiltins z = some (.builtin "isinstance")) (hmv : X.mg "ValueError" = none)
    (hgy : Gl X "ValueError" := by rfl) (hgz : Gl X z := by rfl)
    (hN : X.N[i]? = some x := by rfl) (hvis : Vis X.env.scope x := by first | exact Or.inl rfl | exact Or.inr (Or.inl rfl) | exact Or.inr (Or.inr rfl)) (hd : (x == ("__debug__" : Str)) = false := by decide) (hcd : (x == ("__classdict__" : Str)) = false := by decide)
    (hn : z ≠ "__name__" := by decide) (hdb : (z == ("__debug__" : Str)) = false := by decide)
    (he : starEach [.Name x q, .Name "ValueError" q2] X.env = (false, eval (.Name x q) X.env) :: starEach [.Name "ValueError" q2] X.env := by rfl) (he2 : starEach [.Name "ValueError" q2] X.env = (false, eval (.Name "ValueError" q2) X.env) :: starEach [] X.env := by rfl) (hpl : (backTo pos (starEach [.Name "ValueError" q2] X.env)).any (·.1) = false := by rfl) :
    DE X B E (.Call (.Name z q3) [.Name x q, .Name "ValueError" q2] [] pos) (gIsE i p.1 true) := by
  obtain ⟨_, h2, _, h4, _⟩ := R.c c hc
  exact d_isE (v := .ty "ValueError") (cv := .type "ValueError") i hp h2 hz h4 (fun u h => h) (pe_bltn hgy hmv bb_ValueError rfl (by decide) (by decide)) hgz hm hb hN hvis hd hcd hn hdb he he2 hpl
end
/-! ### a def that reads the caught exception -/
structure RefF (P : Program) (w : World) (K : PySem.W.Frag) (mg : Str → Option Value) (base : Heap) (k : Nat) (rf : Str) (cs : List Str) (r : Str → R D) : Prop where
  ex : ∃ f fd p0, mg rf = some (.ref f) ∧ PySem.W.keepIn K (.ref f) = true ∧ Binds K fd [p0] [] ∧ ∀ c ∈ cs, FnR P w K mg base (L2.CX P w) k f fd [p0] (PinE (He.ga K c)) (spR K (r c))
def refK (r : R D) (a : Addr) : Option Sv → R D
  | some (.exn a') => if a' = a then (match r with | .ok d => .ok d | _ => .bad) else .bad
  | _ => .bad
def gRef (i : Nat) (a : Addr) (r : R D) (Γ : G) : R D := refK r a Γ[i]?
@[simp] theorem ev_ref (i : Nat) (a : Addr) (r : R D) (Γ : G) : gRef i a r Γ = refK r a Γ[i]? := (rfl)
@[simp] theorem refK_exn (a : Addr) (d : D) : refK (.ok d) a (some (.exn a)) = .ok d := if_pos rfl
theorem er_exn {K : PySem.W.Frag} {B F H : Hp} {σ : L2.St} {i n : Nat} {a : Addr} (hl : σ.length = n) (hs : σ[i]? = some (some (.ref a))) : ER K B F H σ ((List.replicate n Sv.un).set i (.exn a)) := by
  refine ⟨by simp [hl], fun j s e => ?_, fun j k ds es p h1 _ _ _ => ?_, fun j k ds es p h1 _ _ _ => ?_⟩
  · rw [List.getElem?_set] at e
    split at e
    · rename_i hij
      subst hij
      split at e
      · cases e; exact hs
      · cases e
    · rw [List.getElem?_replicate] at e
      split at e
      · cases e; trivial
      · cases e
  · rw [List.getElem?_set] at h1
    split at h1
    · split at h1 <;> cases h1
    · rw [List.getElem?_replicate] at h1
      split at h1 <;> cases h1
  · rw [List.getElem?_set] at h1
    split at h1
    · split at h1 <;> cases h1
    · rw [List.getElem?_replicate] at h1
      split at h1 <;> cases h1
theorem er_exn0 {K : PySem.W.Frag} {B F H : Hp} {N : List Str} {a : Addr} (hN : 0 < N.length) : ER K B F H (L2.start N [.ref a]) ((List.replicate N.length Sv.un).set 0 (.exn a)) :=
  er_exn (by unfold L2.start; simp; omega) (by unfold L2.start; rfl)
section
variable {X : Cx} {B F0 : Hp} {n k : Nat} {E : L2.St → XK} {J : Str} {cs ys : List Str} {r : Str → R D}
theorem d_refcall {c rf nm : Str} {p : Addr × Obj} {p1 p2 p3 : Pos} (i : Nat) (RF : RefF X.prog X.w X.K X.mg X.base k rf cs r) (hc : c ∈ cs) (hp : p ∈ X.pn) (hz : PinE (He.ga X.K c) p) (hr : L2H.RoomH k X.A)
    (hg : Gl X rf := by rfl) (hi : X.N[i]? = some nm := by rfl) (hvis : Vis X.env.scope nm := by first | exact Or.inl rfl | exact Or.inr (Or.inl rfl) | exact Or.inr (Or.inr rfl)) (hd : (nm == ("__debug__" : Str)) = false := by decide) (hcd : (nm == ("__classdict__" : Str)) = false := by decide)
    (hdb : (rf == ("__debug__" : Str)) = false := by decide) (he : starEach [.Name nm p1] X.env = (false, eval (.Name nm p1) X.env) :: starEach [] X.env := by rfl) (hpl : (backTo p3 (starEach [] X.env)).any (·.1) = false := by rfl) :
    DE X B E (.Call (.Name rf p2) [.Name nm p1] [] p3) (gRef i p.1 (r c)) := by
  obtain ⟨f, fd, p0, hm, hk, hbi, hall⟩ := RF.ex
  refine pe_imp (pe_callR (hall c hc) hr hp hz hg hm hk hbi (fun σ pins H s e s' I c => by
    obtain ⟨_, _, _, _, _, _, _, _, _, _, _, _, z⟩ := c
    exact z.elim) (pa_cons (pe_var (i := i) (x := nm) (pos := p1) hi hvis hd hcd) pa_nil he) hdb he hpl) fun σ H Q ⟨Γ, F, s, er, o⟩ => ?_
  unfold gRef refK at o
  split at o
  · rename_i a' e
    have kk := er.ok i _ e
    split at o
    · rename_i ea
      subst ea
      cases er' : r c with
      | ok d =>
        rw [er'] at o
        exact ⟨.ref p.1, kk, rfl, d, F, rfl, s, o⟩
      | exc _ => rw [er'] at o; exact o.elim
      | bad => rw [er'] at o; exact o.elim
    · exact o.elim
  · exact o.elim
/-- try: .. except J as nm: suite that ends in a return -/
theorem s_tryas {body suite : List Stmt} {b₀ : Stmt} {g : G → R Fl} {gs : Str → Addr → G → R Fl} {nm : Str} {np p5 p6 : Pos} (i : Nat) (hin : i < n) (R : RelIs X.K X.mg J cs ys) (nd : X.N.Nodup) (tk : Takes X (fun cls d σ H => E σ cls d H)) (own : PassesOwn (model X.prog X.w) X.A X.env X.xe)
    (hb : ∀ (W : WX) (pn : List (Addr × Obj)) (xe : Value → Shared → Prop), Takes (X.tr pn xe) W → PassesOwn (model X.prog X.w) X.A X.env xe → DSs (X.tr pn xe) B F0 n (fun σ cls d H => W cls d σ H) body g)
    (hsu : ∀ c ∈ cs, ∀ (a : Addr) (oe : Obj) (pn : List (Addr × Obj)), PinE (He.ga X.K c) (a, oe) → DSs (X.suite a ((a, oe) :: pn)) B F0 n E0S (b₀ :: suite) (gs c a))
    (ev : ∀ c ∈ cs, ∀ a, ∃ dv, r c = .ok dv ∧ gs c a ((List.replicate n Sv.un).set i (.exn a)) = .ok (.rt dv))
    (hgJ : Gl X J := by rfl) (hdJ : (J == ("__debug__" : Str)) = false := by decide)
    (hs : X.stack = X.env :: X.outer := by rfl) (hf : X.env.frame = some X.env.locals := by rfl) (hi : X.N[i]? = some nm := by rfl) (hln : X.env.kindOf nm = some .local := by rfl) :
    DS X B F0 n E (.Try body [.ExceptHandler (some (.Name J np)) (some nm) (b₀ :: suite) p5] [] [] p6) (gTry cs r g) := by
  have keep : KeepN g := (hb (fun cls d σ H => E σ cls d H) X.pn X.xe tk own).keep
  refine ⟨ps_imp (ps_try_as (tb := fun W => tDs X.K X.mg B F0 n (fun σ cls d H => W cls d σ H) g)
    (ts := fun a cls d => fun Dd σ H => ∃ c : Str, c ∈ cs ∧ cls = .ref (He.ga X.K c) ∧ d = none ∧ tDs X.K X.mg B F0 n E0S (gs c a) Dd σ H)
    (Wout := fun cls d σ H => E σ cls d H) hs hf nd hi hln ⟨hgJ, hdJ, .inl R.j⟩ tk (fun W pn xe t o => (hb W pn xe t o).ps) ?_) ?_, keep_try keep⟩
  · intro a oe cls d pn hz hfl
    refine pss_ex fun c => ?_
    by_cases hcs : c ∈ cs
    · by_cases hcl : cls = .ref (He.ga X.K c) ∧ d = none
      · obtain ⟨rfl, rfl⟩ := hcl
        exact pss_imp (hsu c hcs a oe pn ⟨hz, hfl⟩).ps fun Dd σ H ⟨_, _, _, h⟩ => h
      · exact pss_no fun Dd σ H ⟨_, e1, e2, _⟩ => hcl ⟨e1, e2⟩
    · exact pss_no fun Dd σ H h => hcs h.1
  · intro Dd σ H ⟨Γ, F, sh, er, hn, o⟩
    refine ⟨Γ, F, sh, er, hn, ?_⟩
    unfold gTry at o
    revert o
    cases g Γ with
    | ok f => exact fun o => by cases f <;> exact o
    | bad => exact fun o => o
    | exc c =>
      intro o σ1 C F1 H1 hl m sh1 s1
      simp only at o
      by_cases hcs : c ∈ cs
      · rw [if_pos hcs] at o
        obtain ⟨gD, _, hex, _, _⟩ := R.c c hcs
        rw [gD] at m
        cases m
        refine ⟨true, hex, fun _ a ha => ?_, fun z => nomatch z⟩
        obtain ⟨dv, e1, e2⟩ := ev c hcs a
        rw [e1] at o
        refine ⟨c, hcs, rfl, rfl, _, F1, sh1, er_exn (i := i) (a := a) (n := n) (by rw [List.length_set]; exact hl) (by rw [List.getElem?_set_self (by rw [hl]; exact hin)]), by simp, ?_⟩
        rw [e2]
        exact fun v F2 H2 sh2 s2 dp => o v F2 H2 sh2 (s1.trans s2) dp
      · rw [if_neg hcs] at o
        exact o.elim
/-- try: .. except J: return of a written constant -/
theorem s_tryonly {body suite : List Stmt} {b₀ : Stmt} {g : G → R Fl} {gs : G → R Fl} {np p5 p6 : Pos} (R : RelIs X.K X.mg J cs ys) (tk : Takes X (fun cls d σ H => E σ cls d H)) (own : PassesOwn (model X.prog X.w) X.A X.env X.xe)
    (hb : ∀ (W : WX) (pn : List (Addr × Obj)) (xe : Value → Shared → Prop), Takes (X.tr pn xe) W → PassesOwn (model X.prog X.w) X.A X.env xe → DSs (X.tr pn xe) B F0 n (fun σ cls d H => W cls d σ H) body g)
    (hsu : ∀ c ∈ cs, ∀ (a : Addr) (oe : Obj) (pn : List (Addr × Obj)), PinE (He.ga X.K c) (a, oe) → DSs (X.suite a ((a, oe) :: pn)) B F0 n E0S (b₀ :: suite) gs)
    (ev : ∀ c ∈ cs, ∃ dv, r c = .ok dv ∧ gs (List.replicate n Sv.un) = .ok (.rt dv))
    (hgJ : Gl X J := by rfl) (hdJ : (J == ("__debug__" : Str)) = false := by decide)
    (hs : X.stack = X.env :: X.outer := by rfl) (hf : X.env.frame = some X.env.locals := by rfl) :
    DS X B F0 n E (.Try body [.ExceptHandler (some (.Name J np)) none (b₀ :: suite) p5] [] [] p6) (gTry cs r g) := by
  have keep : KeepN g := (hb (fun cls d σ H => E σ cls d H) X.pn X.xe tk own).keep
  refine ⟨ps_imp (ps_try_only (tb := fun W => tDs X.K X.mg B F0 n (fun σ cls d H => W cls d σ H) g)
    (ts := fun a cls d => fun Dd σ H => ∃ c : Str, c ∈ cs ∧ cls = .ref (He.ga X.K c) ∧ d = none ∧ tDs X.K X.mg B F0 n E0S gs Dd σ H)
    (Wout := fun cls d σ H => E σ cls d H) hs hf ⟨hgJ, hdJ, .inl R.j⟩ tk (fun W pn xe t o => (hb W pn xe t o).ps) ?_) ?_, keep_try keep⟩
  · intro a oe cls d pn hz hfl
    refine pss_ex fun c => ?_
    by_cases hcs : c ∈ cs
    · by_cases hcl : cls = .ref (He.ga X.K c) ∧ d = none
      · obtain ⟨rfl, rfl⟩ := hcl
        exact pss_imp (hsu c hcs a oe pn ⟨hz, hfl⟩).ps fun Dd σ H ⟨_, _, _, h⟩ => h
      · exact pss_no fun Dd σ H ⟨_, e1, e2, _⟩ => hcl ⟨e1, e2⟩
    · exact pss_no fun Dd σ H h => hcs h.1
  · intro Dd σ H ⟨Γ, F, sh, er, hn, o⟩
    refine ⟨Γ, F, sh, er, hn, ?_⟩
    unfold gTry at o
    revert o
    cases g Γ with
    | ok f => exact fun o => by cases f <;> exact o
    | bad => exact fun o => o
    | exc c =>
      intro o σ1 C F1 H1 hl m sh1 s1
      simp only at o
      by_cases hcs : c ∈ cs
      · rw [if_pos hcs] at o
        obtain ⟨gD, _, hex, _, _⟩ := R.c c hcs
        rw [gD] at m
        cases m
        refine ⟨true, hex, fun _ a ha => ?_, fun z => nomatch z⟩
        obtain ⟨dv, e1, e2⟩ := ev c hcs
        rw [e1] at o
        refine ⟨c, hcs, rfl, rfl, List.replicate n Sv.un, F1, sh1, ⟨by simp [hl], fun j s e => ?_, fun j k ds es p h1 _ _ _ => ?_, fun j k ds es p h1 _ _ _ => ?_⟩, by simp, ?_⟩
        · rw [List.getElem?_replicate] at e
          split at e
          · cases e; trivial
          · cases e
        · rw [List.getElem?_replicate] at h1
          split at h1 <;> cases h1
        · rw [List.getElem?_replicate] at h1
          split at h1 <;> cases h1
        · rw [e2]
          exact fun v F2 H2 sh2 s2 dp => o v F2 H2 sh2 (s1.trans s2) dp
      · rw [if_neg hcs] at o
        exact o.elim
def tryK (cs : List Str) (r : Str → R D) : R Fl → R Fl
  | .exc c => if c ∈ cs then (match r c with | .ok d => .ok (.rt d) | _ => .bad) else .bad
  | x => x
@[simp] theorem ev_try (cs : List Str) (r : Str → R D) (g : G → R Fl) (Γ : G) : gTry cs r g Γ = tryK cs r (g Γ) := by
  unfold gTry tryK
  cases g Γ <;> rfl
@[simp] theorem tryK_ok (cs : List Str) (r : Str → R D) (f : Fl) : tryK cs r (.ok f) = .ok f := (rfl)
theorem tryK_exc {cs : List Str} {r : Str → R D} {c : Str} {d : D} (hc : c ∈ cs) (hr : r c = .ok d) : tryK cs r (.exc c) = .ok (.rt d) := by
  unfold tryK
  simp only
  rw [if_pos hc, hr]
end
theorem okX_tr {X : Cx} {E : L2.St → XK} {k : Nat} (o : OkX X E k) {W : WX} {pn : List (Addr × Obj)} {xe : Value → Shared → Prop} (tk : Takes (X.tr pn xe) W) (own : PassesOwn (model X.prog X.w) X.A X.env xe) : OkD (X.tr pn xe) (fun σ cls d H => W cls d σ H) k :=
  { calm := o.calm, nd := o.nd, hr := o.hr, px := fun σ => passAt (W := W) tk σ, tk := tk, own := own }
theorem okH_suite {X : Cx} {E : L2.St → XK} {k : Nat} (o : OkX X E k) (a : Addr) (pn : List (Addr × Obj)) : OkH (X.suite a pn) := ⟨o.nd, ⟨o.ru.un⟩⟩
theorem roomH_suite {X : Cx} {j k : Nat} (hr : Room k X.A) (a : Addr) (pn : List (Addr × Obj)) (h : j ≤ k := by decide) : L2H.RoomH j (X.suite a pn).A := by
  have q : L2H.RoomH j X.A := L2H.RoomH.mono ⟨hr.dp, hr.un⟩ h
  exact ⟨q.dp, q.un⟩
theorem d_refsuite {X : Cx} {B : Hp} {k k0 : Nat} {E E0 : L2.St → XK} {cs : List Str} {r : Str → R D} {c rf nm : Str} {a : Addr} {oe : Obj} {pn : List (Addr × Obj)} {p1 p2 p3 : Pos} (i : Nat) (o0 : OkX X E0 k0) (RF : RefF X.prog X.w X.K X.mg X.base k rf cs r) (hc : c ∈ cs) (hz : PinE (He.ga X.K c) (a, oe)) (h : k ≤ k0 := by decide)
    (hg : Gl X rf := by rfl) (hi : X.N[i]? = some nm := by rfl) (hvis : Vis X.env.scope nm := by first | exact Or.inl rfl | exact Or.inr (Or.inl rfl) | exact Or.inr (Or.inr rfl)) (hd : (nm == ("__debug__" : Str)) = false := by decide) (hcd : (nm == ("__classdict__" : Str)) = false := by decide)
    (hdb : (rf == ("__debug__" : Str)) = false := by decide) (he : starEach [.Name nm p1] X.env = (false, eval (.Name nm p1) X.env) :: starEach [] X.env := by rfl) (hpl : (backTo p3 (starEach [] X.env)).any (·.1) = false := by rfl) :
    DE (X.suite a ((a, oe) :: pn)) B E (.Call (.Name rf p2) [.Name nm p1] [] p3) (gRef i a (r c)) :=
  d_refcall (X := X.suite a ((a, oe) :: pn)) (p := (a, oe)) i RF hc List.mem_cons_self hz (roomH_suite o0.hr a ((a, oe) :: pn) h) hg hi hvis hd hcd hdb he hpl
open L2H in
theorem refF_of {P : Program} {w : World} {K : PySem.W.Frag} {mg : Str → Option Value} {base : Heap} {rf qual : Str} {params : Arguments} {body : List Stmt} {scope : Scope} {f : Addr} {fd : FuncData} {N : List Str} {p0 : Str} {k : Nat} {cs : List Str} {r : Str → R D} {g : Str → Addr → G → R Fl}
    (Fd : FunD K rf qual params body scope [] [] f fd) (hm : mg rf = some (.ref f)) (S : FnScope N [p0] scope) (hN : 0 < N.length)
    (hb : ∀ (kV doc pm : Value) (an : Option Addr) (cdv ct : Value) (us : List Value), us.length = [p0].length → bindArgs (PySem.W.fnOf rf qual params body scope .none kV doc pm an cdv ct) ⟨us, []⟩ = pure ([p0].zip us))
    (body_ok : ∀ c ∈ cs, ∀ (p : Addr × Obj), PinE (He.ga K c) p → ∀ (cdv : Value) (A : Around) (outer : List Env) (s : Shared) (H F0 : Hp) (E : XK), OkH (cxH (L2.CX P w) P w K mg base N qual scope f cdv A outer s H E p) →
      DSs (cxH (L2.CX P w) P w K mg base N qual scope f cdv A outer s H E p) H F0 N.length E0S body (g c p.1))
    (ev : ∀ c ∈ cs, ∀ a, ∃ dv, r c = .ok dv ∧ g c a ((List.replicate N.length Sv.un).set 0 (.exn a)) = .ok (.rt dv)) :
    RefF P w K mg base (k + 1) rf cs r := by
  refine ⟨f, fd, p0, hm, Fd.kp, Fd.bindsN hb, fun c hc => fnR_of Fd S (fun a vs H Q E h => by rw [h.1]; rfl) fun cdv A outer s H vs Q E p hpp hr hsp => ?_⟩
  obtain ⟨rfl, dv, F, er, sm, fin⟩ := hsp
  have ok : OkH (cxH (L2.CX P w) P w K mg base N qual scope f cdv A outer s H E p) := ⟨S.nd, ⟨by
    have := hr.un
    show (A.deeper (envOfC qual scope s.heap.objs.size f cdv)).units + 200 < cLine
    omega⟩⟩
  refine ⟨_, (body_ok c hc p hpp cdv A outer s H F E ok).ps, ?_⟩
  refine ⟨_, F, ⟨Same.refl _, sm, Same.refl _, fun p h1 _ => h1⟩, er_exn0 hN, by simp, ?_⟩
  obtain ⟨dv', e1, e2⟩ := ev c hc p.1
  rw [er] at e1
  cases e1
  rw [e2]
  exact fun v F' H' sh s dp => fin v F' H' ⟨s, sh.b, sh.f, sh.no⟩ dp
/-! ### flags -/
def cntB (b : Bool) (ds : List D) : R D := match boolsOf ds with
  | some bs => .ok (.int (bs.count b : Nat))
  | none => fLCount (.list ds) (.bool b)
def idxB (b : Bool) (ds : List D) : R D := match boolsOf ds with
  | some bs => if b ∈ bs then .ok (.int (bs.idxOf b : Nat)) else .bad
  | none => fLIndex (.list ds) (.bool b)
theorem sh_bools (bs : List Bool) : SeqAt.shaped (.list (bs.map .bool)) = true := Sh.ok (k := 1) (sh_list fun d hd => by
  obtain ⟨b, _, rfl⟩ := List.mem_map.mp hd
  exact sh_bool b)
theorem fLCount_B (b : Bool) (ds : List D) : fLCount (.list ds) (.bool b) = cntB b ds := by
  unfold cntB
  cases e : boolsOf ds with
  | none => rfl
  | some bs =>
    have := boolsOf_eq e
    subst this
    have e0 : fLCount (.list (bs.map .bool)) (.bool b) = if SeqAt.shaped (.bool b : D) = true ∧ SeqAt.shaped (.list (bs.map .bool)) = true then .ok (.int (cntD (.bool b) (bs.map .bool) : Nat)) else .bad := rfl
    rw [e0, if_pos ⟨(sh_bool (k := 0) b).ok, sh_bools bs⟩]
    unfold cntD
    rw [List.countP_map, List.count]
    have ec : List.countP ((fun z => PyData.eqv z (.bool b)) ∘ PyData.bool) bs = List.countP (fun x => x == b) bs := by
      apply List.countP_congr
      intro x _
      cases x <;> cases b <;> simp [PyData.eqv]
    rw [ec]
theorem idxD_B (b : Bool) : ∀ (bs : List Bool), b ∈ bs → idxD (.bool b) (bs.map .bool) = some (bs.idxOf b)
  | x :: bs, h => by
    rw [List.map_cons]
    unfold idxD
    rw [List.idxOf_cons]
    by_cases e : x = b
    · subst e; simp [PyData.eqv]
    · have hm : b ∈ bs := by
        rcases List.mem_cons.mp h with h | h
        · exact absurd h.symm e
        · exact h
      have e2 : (x == b) = false := by simpa using e
      have e3 : PyData.eqv (PyData.bool x) (PyData.bool b) = false := by cases x <;> cases b <;> simp_all [PyData.eqv]
      rw [e3, idxD_B b bs hm, e2]
      rfl
theorem idxD_Bn (b : Bool) : ∀ (bs : List Bool), b ∉ bs → idxD (.bool b) (bs.map .bool) = none
  | [], _ => rfl
  | x :: bs, hm => by
    rw [List.map_cons]
    unfold idxD
    have h1 : x ≠ b := fun z => hm (by simp [z])
    have h2 : b ∉ bs := fun z => hm (by simp [z])
    have e3 : PyData.eqv (PyData.bool x) (PyData.bool b) = false := by cases x <;> cases b <;> simp_all [PyData.eqv]
    rw [e3, idxD_Bn b bs h2]
    rfl
theorem fLIndex_B (b : Bool) (ds : List D) : fLIndex (.list ds) (.bool b) = idxB b ds := by
  unfold idxB
  cases e : boolsOf ds with
  | none => rfl
  | some bs =>
    have := boolsOf_eq e
    subst this
    have e0 : fLIndex (.list (bs.map .bool)) (.bool b) = if SeqAt.shaped (.bool b : D) = true ∧ SeqAt.shaped (.list (bs.map .bool)) = true then (match idxD (.bool b) (bs.map .bool) with | some j => .ok (.int (j : Nat)) | none => .bad) else .bad := rfl
    rw [e0, if_pos ⟨(sh_bool (k := 0) b).ok, sh_bools bs⟩]
    by_cases hm : b ∈ bs
    · rw [idxD_B b bs hm]
      simp [hm]
    · rw [idxD_Bn b bs hm]
      simp [hm]
@[simp] theorem ne_NoName_NoTable : (("NoName" : Str) = "NoTable") = False := eq_false (by decide)
@[simp] theorem ne_NoName_NoPath : (("NoName" : Str) = "NoPath") = False := eq_false (by decide)
@[simp] theorem ne_NoName_NoAsk : (("NoName" : Str) = "NoAsk") = False := eq_false (by decide)
@[simp] theorem ne_NoName_NoNote : (("NoName" : Str) = "NoNote") = False := eq_false (by decide)
@[simp] theorem ne_NoName_NoJar : (("NoName" : Str) = "NoJar") = False := eq_false (by decide)
@[simp] theorem ne_NoName_NoNumber : (("NoName" : Str) = "NoNumber") = False := eq_false (by decide)
@[simp] theorem ne_NoName_NoText : (("NoName" : Str) = "NoText") = False := eq_false (by decide)
@[simp] theorem ne_NoName_NoStep : (("NoName" : Str) = "NoStep") = False := eq_false (by decide)
@[simp] theorem ne_NoTable_NoName : (("NoTable" : Str) = "NoName") = False := eq_false (by decide)
@[simp] theorem ne_NoTable_NoPath : (("NoTable" : Str) = "NoPath") = False := eq_false (by decide)
@[simp] theorem ne_NoTable_NoAsk : (("NoTable" : Str) = "NoAsk") = False := eq_false (by decide)
@[simp] theorem ne_NoTable_NoNote : (("NoTable" : Str) = "NoNote") = False := eq_false (by decide)
@[simp] theorem ne_NoTable_NoJar : (("NoTable" : Str) = "NoJar") = False := eq_false (by decide)
@[simp] theorem ne_NoTable_NoNumber : (("NoTable" : Str) = "NoNumber") = False := eq_false (by decide)
@[simp] theorem ne_NoTable_NoText : (("NoTable" : Str) = "NoText") = False := eq_false (by decide)
@[simp] theorem ne_NoTable_NoStep : (("NoTable" : Str) = "NoStep") = False := eq_false (by decide)
@[simp] theorem ne_NoPath_NoName : (("NoPath" : Str) = "NoName") = False := eq_false (by decide)
@[simp] theorem ne_NoPath_NoTable : (("NoPath" : Str) = "NoTable") = False := eq_false (by decide)
@[simp] theorem ne_NoPath_NoAsk : (("NoPath" : Str) = "NoAsk") = False := eq_false (by decide)
@[simp] theorem ne_NoPath_NoNote : (("NoPath" : Str) = "NoNote") = False := eq_false (by decide)
@[simp] theorem ne_NoPath_NoJar : (("NoPath" : Str) = "NoJar") = False := eq_false (by decide)
@[simp] theorem ne_NoPath_NoNumber : (("NoPath" : Str) = "NoNumber") = False := eq_false (by decide)
@[simp] theorem ne_NoPath_NoText : (("NoPath" : Str) = "NoText") = False := eq_false (by decide)
@[simp] theorem ne_NoPath_NoStep : (("NoPath" : Str) = "NoStep") = False := eq_false (by decide)
@[simp] theorem ne_NoAsk_NoName : (("NoAsk" : Str) = "NoName") = False := eq_false (by decide)
@[simp] theorem ne_NoAsk_NoTable : (("NoAsk" : Str) = "NoTable") = False := eq_false (by decide)
@[simp] theorem ne_NoAsk_NoPath : (("NoAsk" : Str) = "NoPath") = False := eq_false (by decide)
@[simp] theorem ne_NoAsk_NoNote : (("NoAsk" : Str) = "NoNote") = False := eq_false (by decide)
@[simp] theorem ne_NoAsk_NoJar : (("NoAsk" : Str) = "NoJar") = False := eq_false (by decide)
@[simp] theorem ne_NoAsk_NoNumber : (("NoAsk" : Str) = "NoNumber") = False := eq_false (by decide)
@[simp] theorem ne_NoAsk_NoText : (("NoAsk" : Str) = "NoText") = False := eq_false (by decide)
@[simp] theorem ne_NoAsk_NoStep : (("NoAsk" : Str) = "NoStep") = False := eq_false (by decide)
@[simp] theorem ne_NoNote_NoName : (("NoNote" : Str) = "NoName") = False := eq_false (by decide)
@[simp] theorem ne_NoNote_NoTable : (("NoNote" : Str) = "NoTable") = False := eq_false (by decide)
@[simp] theorem ne_NoNote_NoPath : (("NoNote" : Str) = "NoPath") = False := eq_false (by decide)
@[simp] theorem ne_NoNote_NoAsk : (("NoNote" : Str) = "NoAsk") = False := eq_false (by decide)
@[simp] theorem ne_NoNote_NoJar : (("NoNote" : Str) = "NoJar") = False := eq_false (by decide)
@[simp] theorem ne_NoNote_NoNumber : (("NoNote" : Str) = "NoNumber") = False := eq_false (by decide)
@[simp] theorem ne_NoNote_NoText : (("NoNote" : Str) = "NoText") = False := eq_false (by decide)
@[simp] theorem ne_NoNote_NoStep : (("NoNote" : Str) = "NoStep") = False := eq_false (by decide)
@[simp] theorem ne_NoJar_NoName : (("NoJar" : Str) = "NoName") = False := eq_false (by decide)
@[simp] theorem ne_NoJar_NoTable : (("NoJar" : Str) = "NoTable") = False := eq_false (by decide)
@[simp] theorem ne_NoJar_NoPath : (("NoJar" : Str) = "NoPath") = False := eq_false (by decide)
@[simp] theorem ne_NoJar_NoAsk : (("NoJar" : Str) = "NoAsk") = False := eq_false (by decide)
@[simp] theorem ne_NoJar_NoNote : (("NoJar" : Str) = "NoNote") = False := eq_false (by decide)
@[simp] theorem ne_NoJar_NoNumber : (("NoJar" : Str) = "NoNumber") = False := eq_false (by decide)
@[simp] theorem ne_NoJar_NoText : (("NoJar" : Str) = "NoText") = False := eq_false (by decide)
@[simp] theorem ne_NoJar_NoStep : (("NoJar" : Str) = "NoStep") = False := eq_false (by decide)
@[simp] theorem ne_NoNumber_NoName : (("NoNumber" : Str) = "NoName") = False := eq_false (by decide)
@[simp] theorem ne_NoNumber_NoTable : (("NoNumber" : Str) = "NoTable") = False := eq_false (by decide)
@[simp] theorem ne_NoNumber_NoPath : (("NoNumber" : Str) = "NoPath") = False := eq_false (by decide)
@[simp] theorem ne_NoNumber_NoAsk : (("NoNumber" : Str) = "NoAsk") = False := eq_false (by decide)
@[simp] theorem ne_NoNumber_NoNote : (("NoNumber" : Str) = "NoNote") = False := eq_false (by decide)
@[simp] theorem ne_NoNumber_NoJar : (("NoNumber" : Str) = "NoJar") = False := eq_false (by decide)
@[simp] theorem ne_NoNumber_NoText : (("NoNumber" : Str) = "NoText") = False := eq_false (by decide)
@[simp] theorem ne_NoNumber_NoStep : (("NoNumber" : Str) = "NoStep") = False := eq_false (by decide)
@[simp] theorem ne_NoText_NoName : (("NoText" : Str) = "NoName") = False := eq_false (by decide)
@[simp] theorem ne_NoText_NoTable : (("NoText" : Str) = "NoTable") = False := eq_false (by decide)
@[simp] theorem ne_NoText_NoPath : (("NoText" : Str) = "NoPath") = False := eq_false (by decide)
@[simp] theorem ne_NoText_NoAsk : (("NoText" : Str) = "NoAsk") = False := eq_false (by decide)
@[simp] theorem ne_NoText_NoNote : (("NoText" : Str) = "NoNote") = False := eq_false (by decide)
@[simp] theorem ne_NoText_NoJar : (("NoText" : Str) = "NoJar") = False := eq_false (by decide)
@[simp] theorem ne_NoText_NoNumber : (("NoText" : Str) = "NoNumber") = False := eq_false (by decide)
@[simp] theorem ne_NoText_NoStep : (("NoText" : Str) = "NoStep") = False := eq_false (by decide)
@[simp] theorem ne_NoStep_NoName : (("NoStep" : Str) = "NoName") = False := eq_false (by decide)
@[simp] theorem ne_NoStep_NoTable : (("NoStep" : Str) = "NoTable") = False := eq_false (by decide)
@[simp] theorem ne_NoStep_NoPath : (("NoStep" : Str) = "NoPath") = False := eq_false (by decide)
@[simp] theorem ne_NoStep_NoAsk : (("NoStep" : Str) = "NoAsk") = False := eq_false (by decide)
@[simp] theorem ne_NoStep_NoNote : (("NoStep" : Str) = "NoNote") = False := eq_false (by decide)
@[simp] theorem ne_NoStep_NoJar : (("NoStep" : Str) = "NoJar") = False := eq_false (by decide)
@[simp] theorem ne_NoStep_NoNumber : (("NoStep" : Str) = "NoNumber") = False := eq_false (by decide)
@[simp] theorem ne_NoStep_NoText : (("NoStep" : Str) = "NoText") = False := eq_false (by decide)
end ND
namespace ND
open PySem PySem.Spec L2 PyProof.Rows
section
variable {X : Cx} {B : Hp} {E : L2.St → XK}
/-! ### a text times a number -/
def mulS (x : Str) (k : Int) : Str := if k < 1 then Str.empty else if (k == 1 || x.length == 0) = true then x else ⟨(List.replicate k.toNat x.cps).foldl (· ++ ·) #[]⟩
theorem foldl_app (n : Nat) (a acc : Array Nat) : ((List.replicate n a).foldl (· ++ ·) acc).toList = acc.toList ++ (List.replicate n a.toList).flatten := by
  induction n generalizing acc with
  | zero => simp
  | succ n ih => rw [List.replicate_succ, List.foldl_cons, ih, List.replicate_succ, List.flatten_cons]; simp
theorem mulS_list (x : Str) (k : Int) : (mulS x k).cps.toList = (List.replicate k.toNat x.cps.toList).flatten := by
  unfold mulS
  by_cases h1 : k < 1
  · rw [if_pos h1, show k.toNat = 0 by omega]; rfl
  · rw [if_neg h1]
    by_cases h2 : (k == 1 || x.length == 0) = true
    · rw [if_pos h2]
      rw [Bool.or_eq_true, beq_iff_eq, beq_iff_eq] at h2
      rcases h2 with h | h
      · subst h; simp
      · have : x.cps.toList = [] := by
          have : x.cps.size = 0 := h
          exact List.eq_nil_of_length_eq_zero (by simpa using this)
        rw [this]; simp
    · rw [if_neg h2]
      show ((List.replicate k.toNat x.cps).foldl (· ++ ·) #[]).toList = _
      rw [foldl_app]; simp
theorem flat_len {α : Type} (n : Nat) (a : List α) : (List.replicate n a).flatten.length = n * a.length := by
  induction n with
  | zero => simp
  | succ n ih => rw [List.replicate_succ, List.flatten_cons, List.length_append, ih, Nat.succ_mul, Nat.add_comm]
theorem mulS_len (x : Str) (k : Int) : (mulS x k).length = k.toNat * x.length := by
  have h := congrArg List.length (mulS_list x k)
  rw [flat_len, Array.length_toList, Array.length_toList] at h
  exact h
def MulOk (x : Str) (k : Int) : Prop := -1000 < k ∧ k < 1000 ∧ x.length ≤ 10000
instance (x : Str) (k : Int) : Decidable (MulOk x k) := inferInstanceAs (Decidable (_ ∧ _))
def rSMul : R2 := fun x y H Q => ∃ i k, x = .str i ∧ y = .int k ∧ MulOk i k ∧ Q (.str (mulS i k)) H
theorem op_smul : OpR X (binaryOp .Mult) rSMul := by
  intro pins s σ H x y v u Q I rx ry h
  obtain ⟨i, k, rfl, rfl, ⟨h1, h2, h3⟩, q⟩ := h
  obtain ⟨t, rfl⟩ := rx
  obtain ⟨t', rfl⟩ := ry
  have hn : i.length * k.toNat ≤ 10000 * 1000 := Nat.mul_le_mul h3 (by omega)
  have hl : Builtin.Str.tooLong (i.length * k.toNat) = false := by
    unfold Builtin.Str.tooLong
    exact decide_eq_false (by rw [sizeLine_eq]; omega)
  refine PySem.P.mul_str (by
    have a1 : ¬ k < -(2 ^ 63 : Int) := by omega
    have a2 : ¬ k ≥ 2 ^ 63 := by omega
    rw [decide_eq_false a1, decide_eq_false a2]; rfl) (fun a b => ?_) (fun _ _ => hl) ?_
  · have hk : 1 ≤ k := by omega
    have hk2 : k ≤ 1000 := by omega
    have : (9223372036854775 : Int) ≤ (2 ^ 63 - 1) / k := by
      rw [Int.le_ediv_iff_mul_le (by omega)]
      have : 9223372036854775 * k ≤ 9223372036854775 * 1000 := by omega
      omega
    omega
  · have fin : ∀ t' k', EP X pins σ Q (.str (mulS i k) t') { s with toks := k' } := fun t' k' => ⟨.str _, H, I.tok _, ⟨_, rfl⟩, q⟩
    have hz : (mulS i k).length ≤ PySem.sizeLine := by rw [mulS_len, sizeLine_eq, Nat.mul_comm]; omega
    unfold mulS at fin hz
    by_cases c1 : k < 1
    · rw [if_pos c1] at fin hz ⊢
      exact ⟨hz, fin _ _⟩
    · rw [if_neg c1] at fin hz ⊢
      by_cases c2 : (k == 1 || i.length == 0) = true
      · rw [if_pos c2] at fin hz ⊢
        exact fin _ _
      · rw [if_neg c2] at fin hz ⊢
        exact ⟨hz, fin _ _⟩
def fSMul : D → D → R D
  | .str x, .int k => if MulOk x k then .ok (.str (mulS x k)) else .bad
  | _, _ => .bad
theorem o_smul : OpD X (binaryOp .Mult) fSMul :=
  OpD.mk' op_smul (by intro d e c h; unfold fSMul at h; split at h <;> first | cases h | (split at h <;> cases h)) (fun x y H Q ⟨d, e, F, r, s, hx, hy, hf, q⟩ => by
    unfold fSMul at hf
    split at hf
    · split at hf
      · rename_i hz
        cases hx; cases hy; cases hf
        exact ⟨_, _, rfl, rfl, hz, Fin.here q s (.str _)⟩
      · cases hf
    · cases hf)
theorem fSMul_T {a : Tx} {k : Nat} (h : a.length ≤ 10000) (hk : k < 1000) : fSMul (T a) (.int (k : Nat)) = .ok (T (List.replicate k a).flatten) := by
  have e0 : fSMul (T a) (.int (k : Nat)) = if MulOk (St' a) (k : Nat) then .ok (.str (mulS (St' a) (k : Nat))) else .bad := rfl
  rw [e0, if_pos ⟨by omega, by omega, by rw [len_S]; exact h⟩]
  have := mulS_list (St' a) (k : Nat)
  rw [Int.toNat_natCast] at this
  unfold T
  congr 2
  show _ = (⟨_⟩ : Str)
  rw [← this]
/-! ### [..] times a number -/
def fRep (ds : List D) : D → R D
  | .int k => if -1000 < k ∧ k < 1000 ∧ ds.length ≤ 1000 then .ok (.list (List.replicate k.toNat ds).flatten) else .bad
  | _ => .bad
def gRep (gs : G → R (List D)) (gk : G → R D) (Γ : G) : R D := (gs Γ).bind fun ds => if ds.length ≤ 1000 then (gk Γ).bind (fRep ds) else .bad
theorem dpa_rep {K : PySem.W.Frag} {F : Hp} {ds : List D} {vs : List V} (h : DpAll K F vs ds) : ∀ n : Nat, DpAll K F (List.replicate n vs).flatten (List.replicate n ds).flatten
  | 0 => .nil
  | n + 1 => by rw [List.replicate_succ, List.replicate_succ, List.flatten_cons, List.flatten_cons]; exact dpa_append h (dpa_rep h n)
theorem d_rep {es : List Expr} {e : Expr} {lpos pos : Pos} {gs : G → R (List D)} {gk : G → R D} (h : DA X B E es gs) (hk : DE X B E e gk) : DE X B E (.BinOp (.List es lpos) .Mult e pos) (gRep gs gk) :=
  pe_imp (pe_op op_rep (pe_lst h) hk) fun σ H Q ⟨Γ, F, s, er, o⟩ => by
    refine ⟨Γ, F, s, er, ?_⟩
    unfold gRep at o
    revert o
    cases gs Γ with
    | exc c => exact fun o => o
    | bad => exact fun o => o
    | ok ds =>
      intro o vs F1 H1 x1 dp
      simp only [R.bind_ok] at o
      have hlen := dpa_length dp
      by_cases hd : ds.length ≤ 1000
      · rw [if_pos hd] at o
        have hz : vs.length ≤ PySem.sizeLine := by rw [hlen, sizeLine_eq]; omega
        refine ⟨hz, fun p hp => ⟨Γ, upd F1 p (.lst vs), (Ext.new x1.fh hp _).fh, (er.ext x1).ext (Ext.new x1.fh hp _), ?_⟩⟩
        cases ek : gk Γ with
        | bad => rw [ek] at o; exact o.elim
        | exc c =>
          rw [ek] at o
          exact fun C F2 H2 m x2 => o C F2 H2 m (x1.trans ((Ext.new x1.fh hp _).trans x2))
        | ok k =>
          rw [ek] at o
          simp only [R.bind_ok] at o
          cases k with
          | int k =>
            simp only [fRep] at o
            split at o
            · rename_i hb
              intro v F2 H2 x2 dpk
              cases dpk
              have hp2 : H2 p = some (.lst vs) := x2.h _ _ upd_same
              refine ⟨p, k, vs, rfl, rfl, hp2, by omega, by omega, ?_, fun p2 hp2' => ?_⟩
              · have : vs.length * k.toNat ≤ 1000 * 1000 := Nat.mul_le_mul (by rw [hlen]; exact hd) (by omega)
                rw [sizeLine_eq]; omega
              · have xx := x1.trans ((Ext.new x1.fh hp (.lst vs)).trans x2)
                exact o _ _ _ (xx.trans (Ext.new x2.fh hp2' _)) (dp_newL x2.fh hp2' (dpa_rep (dpa_mono ((Ext.new x1.fh hp (.lst vs)).trans x2).f dp) _))
            · exact o.elim
          | _ => exact o.elim
      · rw [if_neg hd] at o; exact o.elim
end
def repK (r : R (List D)) (k : R D) : R D := r.bind fun ds => if ds.length ≤ 1000 then k.bind (fRep ds) else .bad
@[simp] theorem ev_rep (gs : G → R (List D)) (gk : G → R D) (Γ : G) : gRep gs gk Γ = repK (gs Γ) (gk Γ) := (rfl)
theorem repK_ok {ds : List D} {k : Nat} (h : ds.length ≤ 1000) (hk : k < 1000) : repK (.ok ds) (.ok (.int (k : Nat))) = .ok (.list (List.replicate k ds).flatten) := by
  unfold repK fRep
  simp only [R.bind_ok]
  rw [if_pos h, if_pos ⟨by omega, by omega, h⟩, Int.toNat_natCast]
theorem Nx.loopD {I : G → Prop} {st : D → G → R G} {body : G → R Fl} (ds : List D) {Γ : G} (h : I Γ) (step : ∀ d ∈ ds, ∀ Γ, I Γ → Go I (bodyK body (st d Γ))) : Nx I (forGo st body ds Γ) := by
  have := Nx.loop (en := fun d : D => d) ds h step
  rwa [List.map_id'] at this
theorem Go.mono' {I J : G → Prop} {r : R Fl} (h : Go I r) (k : ∀ Γ, I Γ → J Γ) : Go J r := by
  obtain ⟨Γ, e, h⟩ := h
  exact ⟨Γ, e, k Γ h⟩
end ND
namespace ND
open PySem PySem.Spec L2 PyProof.Rows
section
variable {prog : Program} {w : World} {A : Around} {E : Value → Shared → Prop} {s : Shared}
/-! ### a tuple turned about -/
theorem rev_adjust (n : Nat) : Builtin.Slice.sliceAdjust none none (-1) (n : Int) = ((n : Int) - 1, -1) := rfl
theorem rev_places (n : Nat) : Builtin.Slice.slicePlaces ((n : Int) - 1) (-1) (-1) = n := by
  unfold Builtin.Slice.slicePlaces
  rw [if_neg (by decide)]
  by_cases h : (n : Int) - 1 > -1
  · rw [if_pos h]
    have e1 : -(-1 : Int) = 1 := rfl
    rw [e1, Int.ediv_one]
    omega
  · rw [if_neg h]; omega
theorem applied_rev {sl : Addr} {vs : Value} {n : Nat} {Q : Int × Int × Nat → Shared → Prop} (hs : s.heap.IsSliceOf sl .none .none vs) (pv : IsPart vs (some (-1))) (h : Q ((n : Int) - 1, -1, n) s) :
    wpAny (model prog w) A (Builtin.Slice.sliceApplied (.ref sl) (pure (n : Int))) Q E s := by
  obtain ⟨os, e1, _, e3⟩ := id hs
  unfold Builtin.Slice.sliceApplied Builtin.Slice.sliceFields
  refine wpAny_bind (wpAny_bind (wpAny_field e1 e3 (x := .none) rfl (wpAny_bind (wpAny_field e1 e3 (x := .none) rfl (wpAny_bind (wpAny_field e1 e3 (x := vs) rfl (wpAny_pure ?_)))))))
  refine wpAny_bind (HT.slicePart_ pv ?_)
  show wpAny _ _ (if ((-1 : Int) == 0) = true then _ else _) _ _ s
  rw [if_neg (by decide)]
  refine wpAny_bind (HT.slicePart_ .none (wpAny_bind (HT.slicePart_ .none (wpAny_bind (wpAny_pure ?_)))))
  show wpAny _ _ (match Builtin.Slice.sliceAdjust none none (-1) (n : Int) with | (lo, hi) => pure (lo, (-1 : Int), Builtin.Slice.slicePlaces lo hi (-1))) _ _ s
  rw [rev_adjust]
  show wpAny _ _ (pure (((n : Int) - 1), (-1 : Int), Builtin.Slice.slicePlaces ((n : Int) - 1) (-1) (-1))) _ _ s
  rw [rev_places]
  exact wpAny_pure h
theorem pick_rev (xs : Array Value) : ((List.range xs.size).filterMap fun (m : Nat) => xs[(((xs.size : Nat) : Int) - 1 + (m : Int) * (-1)).toNat]?).toArray = xs.toList.reverse.toArray := by
  congr 1
  have key : ∀ k, k ≤ xs.size → (List.range k).filterMap (fun (m : Nat) => xs[(((xs.size : Nat) : Int) - 1 + (m : Int) * (-1)).toNat]?) = xs.toList.reverse.take k := by
    intro k
    induction k with
    | zero => intro _; rfl
    | succ k ih =>
      intro hk
      have hl : k < xs.toList.reverse.length := by simp; omega
      rw [List.range_succ, List.filterMap_append, ih (by omega), List.take_succ, List.getElem?_eq_getElem hl]
      have e : (((xs.size : Nat) : Int) - 1 + (k : Int) * (-1)).toNat = xs.size - 1 - k := by omega
      have hi : xs.size - 1 - k < xs.size := by omega
      have e2 : xs[(((xs.size : Nat) : Int) - 1 + (k : Int) * (-1)).toNat]? = some (xs.toList.reverse[k]) := by
        rw [e, Array.getElem?_eq_getElem hi]
        simp
      simp only [List.filterMap_cons, e2, List.filterMap_nil]
      rfl
  rw [key _ (Nat.le_refl _), List.take_of_length_le (by simp)]
theorem getItem_tuple_rev {t sl : Addr} {items : Array Value} {vs : Value} {Q : Value → Shared → Prop} (ht : IsTup s.heap t items) (hs : s.heap.IsSliceOf sl .none .none vs) (pv : IsPart vs (some (-1)))
    (h : Q (.ref s.heap.objs.size) { s with heap := s.heap.push { cls := .type "tuple", data := .seq items.toList.reverse.toArray } })
    (hsz : items.size ≤ PySem.sizeLine) : wpAny (model prog w) A (getItem (.ref t) (.ref sl)) Q E s := by
  obtain ⟨os, e1, e2, _⟩ := id hs
  have tS : s.TypeIs (.ref sl) "slice" := ⟨os, e1, e2⟩
  have hz : sizeOk (.seq items.toList.reverse.toArray) := by
    show items.toList.reverse.toArray.size ≤ PySem.sizeLine
    simpa using hsz
  unfold getItem
  try with_reducible refine wpAny_holding ?_
  first | refine wpAny_bind (wpAny_pure ?_) | skip
  refine wpAny_bind (wpAny_sequenceKey ht.typeIs (by decide) ?_)
  refine wpAny_bind (wpAny_callSpecial?_slot (name := Str.ofString "__getitem__") ht.typeIs PyProof.Rows.slot_tuple_getitem
    (wpAny_call_entry PyProof.Rows.slot_tuple_getitem ht.typeIs entry_tuple_getitem ?_ (args_tuple_getitem _ _)))
  show wpAny _ _ (Builtin.Tuple.tupleItemsOf (.ref t) >>= _) _ _ s
  refine wpAny_bind (tupleItemsOf_ ht ?_)
  refine wpAny_bind (wpAny_typeOf tS ?_)
  rw [if_pos (by decide)]
  refine wpAny_bind (applied_rev hs pv ?_)
  show wpAny _ _ (if ((((items.size : Nat) : Int) - 1 == 0) && ((-1 : Int) == 1) && (items.size == items.size)) = true then _ else _) _ _ s
  rw [if_neg (by simp), pick_rev]
  first
    | exact wpAny_bind (m := Builtin.Tuple.tupleExact _) (wpAny_newObj_type (wpAny_pure ⟨_, rfl, wpAny_pure h⟩) hz)
    | exact wpAny_bind (m := Builtin.Tuple.tupleExact _) (wpAny_newObj_type (wpAny_bind (wpAny_pure (wpAny_pure ⟨_, rfl, wpAny_pure h⟩))) hz)
    | exact wpAny_bind (wpAny_bind (m := Builtin.Tuple.tupleExact _) (wpAny_newObj_type (wpAny_pure (wpAny_pure ⟨_, rfl, wpAny_pure h⟩)) hz))
    | exact wpAny_bind (wpAny_bind (m := Builtin.Tuple.tupleExact _) (wpAny_newObj_type (wpAny_pure ⟨_, rfl, wpAny_pure h⟩) hz))
end
end ND
namespace ND
open PySem PySem.Spec L2 PyProof.Rows
section
variable {X : Cx} {B : Hp} {E : L2.St → XK}
def tRevT (K : PySem.W.Frag) (te : TE) : TE := fun σ H Q => te σ H fun x H1 => ∃ a xs, x = .ref a ∧ SqT K H1 a xs ∧ ∀ p, H1 p = none → Q (.ref p) (upd H1 p (.tup xs.reverse))
/-- either reading of xs[::-1] -/
def tRevA (K : PySem.W.Frag) (te : TE) : TE := fun σ H Q => te σ H fun x H1 => ∃ a xs, x = .ref a ∧ ((SqL K H1 a xs ∧ ∀ p, H1 p = none → Q (.ref p) (upd H1 p (.lst xs.reverse))) ∨ (SqT K H1 a xs ∧ ∀ p, H1 p = none → Q (.ref p) (upd H1 p (.tup xs.reverse))))
theorem pe_revA {e : Expr} {te : TE} {k : Nat} {p1 p2 p3 pos : Pos} (he : PE X e te) : PE X (.Subscript e (.Slice none none (some (.UnaryOp .USub (.Constant (.int 1) k p1) p2)) p3) pos) (tRevA X.K te) := by
  refine ⟨fun pins s σ H Q I h => ?_⟩
  refine Subscript_ (thn (he.run pins s σ H _ I h) fun v s1 ⟨x, H1, I1, r1, q1⟩ => ?_)
  obtain ⟨a, xs, ex, hx⟩ := q1
  subst ex
  cases r1
  have step : PO X (some (.UnaryOp .USub (.Constant (.int 1) k p1) p2)) (tPart (tUn (rU fun i => .int (-i)) (tC (.int 1)))) := po_some (pe_un un_neg pe_int)
  refine wpAny_Slice (thn (po_none.run pins s1 σ H1 (fun o H2 => o = none ∧ H2 = H1) I1 ⟨rfl, rfl⟩) fun vl s2 ⟨l, H2, I2, pl, el, e2⟩ => ?_)
  subst el e2
  refine thn (po_none.run pins s2 σ H2 (fun o H3 => o = none ∧ H3 = H2) I2 ⟨rfl, rfl⟩) fun vu s3 ⟨u, H3, I3, pu, eu, e3⟩ => ?_
  subst eu e3
  refine thn (step.run pins s3 σ H3 (fun o H4 => o = some (-1) ∧ H4 = H3) I3 ⟨1, rfl, -1, rfl, rfl, rfl⟩) fun vs s4 ⟨o, H4, I4, ps, eo, e4⟩ => ?_
  subst eo e4
  have J : Inv X pins σ H4 { s4 with heap := s4.heap.push { cls := .type "slice", data := .fields #[vl, vu, vs] } } := I4.kept (t' := s4.toks) fun b ob q => Heap.get?_push_of_some _ q
  show wpAny (model X.prog X.w) X.A (subscriptTail e (.Slice none none (some (.UnaryOp .USub (.Constant (.int 1) k p1) p2)) p3) (.ref a) (.ref s4.heap.objs.size)) (EP X pins σ Q) X.xe { s4 with heap := s4.heap.push { cls := .type "slice", data := .fields #[vl, vu, vs] } }
  rcases hx with ⟨hq, q⟩ | ⟨hq, q⟩
  · obtain ⟨its, r, ht, hz⟩ := J.list hq
    have hlen := r.length
    refine tail_any (ops := [.ref a, .ref s4.heap.objs.size]) ht.isList.typeIs (PySem.slot_list_getitem.lookup) ?_ (by with_unfolding_all rfl)
    refine wpAny_getItem_list_slice ht.isList (Heap.IsSliceOf.new _ vl vu vs) pl pu ps (by decide) ?_ (by rw [List.size_toArray]; omega)
    rw [PySem.W.krv_pick]
    exact ⟨.ref _, _, J.laid (t' := s4.toks) (o := .lst xs.reverse) (fun b ob q => Heap.get?_push_of_some _ q) (Nat.le_refl _) ⟨by rw [List.length_reverse]; exact hz, _, 0, r.reverse, Heap.get?_push_size _ rfl⟩, rfl, q _ (J.hok.fresh (Nat.le_refl _))⟩
  · obtain ⟨its, r, ht, hz⟩ := J.tuple hq
    have hlen := r.length
    have hT : IsTup { s4 with heap := s4.heap.push { cls := .type "slice", data := .fields #[vl, vu, vs] } }.heap a its.toArray := ht
    cases pl
    cases pu
    refine tail_any (ops := [.ref a, .ref s4.heap.objs.size]) hT.typeIs (PyProof.Rows.slot_tuple_getitem.lookup) ?_ (by with_unfolding_all rfl)
    refine getItem_tuple_rev hT (Heap.IsSliceOf.new _ _ _ vs) ps ?_ (by rw [List.size_toArray]; omega)
    exact ⟨.ref _, _, J.laid (t' := s4.toks) (o := .tup xs.reverse) (fun b ob q => Heap.get?_push_of_some _ q) (Nat.le_refl _) ⟨by rw [List.length_reverse]; exact hz, _, r.reverse, ⟨_, Heap.get?_push_size _ rfl, rfl, _, rfl⟩⟩, rfl, q _ (J.hok.fresh (Nat.le_refl _))⟩
def fRevs : D → R D
  | .list ds => .ok (.list ds.reverse)
  | .tuple ds => .ok (.tuple ds.reverse)
  | _ => .bad
def gRevs (g : G → R D) (Γ : G) : R D := (g Γ).bind fRevs
theorem d_revs {e : Expr} {k : Nat} {p1 p2 p3 pos : Pos} {g : G → R D} (he : DE X B E e g) : DE X B E (.Subscript e (.Slice none none (some (.UnaryOp .USub (.Constant (.int 1) k p1) p2)) p3) pos) (gRevs g) :=
  pe_imp (pe_revA he) fun σ H Q ⟨Γ, F, s, er, o⟩ => by
    refine ⟨Γ, F, s, er, ?_⟩
    unfold gRevs at o
    revert o
    cases g Γ with
    | exc c => exact fun o => o
    | bad => exact fun o => o
    | ok d =>
      intro o v F1 H1 x1 dp
      simp only [R.bind_ok] at o
      cases dp with
      | lst h1 h2 => exact ⟨_, _, rfl, .inl ⟨x1.fh.seq h1, fun p hp => o _ _ _ (x1.trans (Ext.new x1.fh hp _)) (dp_newL x1.fh hp (dpa_reverse h2))⟩⟩
      | tup h1 h2 => exact ⟨_, _, rfl, .inr ⟨same_seqT x1.fh h1, fun p hp => o _ _ _ (x1.trans (Ext.new x1.fh hp _)) (dp_newT x1.fh hp (dpa_reverse h2))⟩⟩
      | _ => exact o.elim
@[simp] theorem ev_revs (g : G → R D) (Γ : G) : gRevs g Γ = appK fRevs (g Γ) := (rfl)
@[simp] theorem fRevs_list (ds : List D) : fRevs (.list ds) = .ok (.list ds.reverse) := (rfl)
@[simp] theorem fRevs_tuple (ds : List D) : fRevs (.tuple ds) = .ok (.tuple ds.reverse) := (rfl)
end
end ND
namespace ND
open PySem PySem.Spec L2
theorem fNotIn_shT {k m : Nat} {d : D} {ds : List D} (h : Sh k d) (h2 : Sh m (.tuple ds)) (hk : k ≤ 64 := by decide) (hm : m ≤ 64 := by decide) : fNotIn d (.tuple ds) = .ok (.bool (!inD d ds)) := by
  have : fNotIn d (.tuple ds) = if inOk d ds ∨ (SeqAt.shaped d = true ∧ SeqAt.shaped (.tuple ds) = true) then .ok (.bool (!inD d ds)) else .bad := by cases d <;> rfl
  rw [this, if_pos (.inr ⟨h.ok hk, h2.ok hm⟩)]
theorem fIn_shT {k m : Nat} {d : D} {ds : List D} (h : Sh k d) (h2 : Sh m (.tuple ds)) (hk : k ≤ 64 := by decide) (hm : m ≤ 64 := by decide) : fIn d (.tuple ds) = .ok (.bool (inD d ds)) := by
  have : fIn d (.tuple ds) = if inOk d ds ∨ (SeqAt.shaped d = true ∧ SeqAt.shaped (.tuple ds) = true) then .ok (.bool (inD d ds)) else .bad := by cases d <;> rfl
  rw [this, if_pos (.inr ⟨h.ok hk, h2.ok hm⟩)]
theorem fNotIn_sh {k m : Nat} {d : D} {ds : List D} (h : Sh k d) (h2 : Sh m (.list ds)) (hk : k ≤ 64 := by decide) (hm : m ≤ 64 := by decide) : fNotIn d (.list ds) = .ok (.bool (!inD d ds)) := by
  have : fNotIn d (.list ds) = if inOk d ds ∨ (SeqAt.shaped d = true ∧ SeqAt.shaped (.list ds) = true) then .ok (.bool (!inD d ds)) else .bad := by cases d <;> rfl
  rw [this, if_pos (.inr ⟨h.ok hk, h2.ok hm⟩)]
end ND
namespace ND
open PySem PySem.Spec L2
@[simp] theorem mkL_s {xs : List D} (h : xs.length ≤ 16777216) : mkL xs = .ok (.list xs) := mkL_le h
@[simp] theorem mkT_s {xs : List D} (h : xs.length ≤ 16777216) : mkT xs = .ok (.tuple xs) := mkT_le h
end ND
namespace ND
open PySem PySem.Spec L2
@[simp] theorem fLe_T (a b : Tx) : fLe (T a) (T b) = .ok (.bool (!decide (b < a))) := (rfl)
@[simp] theorem fGe_T (a b : Tx) : fGe (T a) (T b) = .ok (.bool (!decide (a < b))) := (rfl)
@[simp] theorem fGt_T (a b : Tx) : fGt (T a) (T b) = .ok (.bool (decide (b < a))) := (rfl)
/-- one of a list, by its place -/
theorem pickL {l : List D} {n : Nat} (h : n < l.length) : ∃ d, d ∈ l ∧ fIx (.list l) (.int (n : Nat)) = .ok d := ⟨l[n], List.getElem_mem h, fIx_list (atI_nat (List.getElem?_eq_getElem h))⟩
theorem pickT {l : List Tx} {n : Nat} (h : n < l.length) : ∃ a, a ∈ l ∧ fIx (.list (l.map T)) (.int (n : Nat)) = .ok (T a) := ⟨l[n], List.getElem_mem h, fIx_list (atI_nat (by rw [List.getElem?_map, List.getElem?_eq_getElem h]; rfl))⟩
end ND
namespace ND
open PySem PySem.Spec L2
/-! ### if, handed on -/
theorem seqK_ite (g : G → R Fl) (c : Prop) [Decidable c] (a b : R Fl) : seqK g (if c then a else b) = if c then seqK g a else seqK g b := by split <;> rfl
theorem endK_ite (c : Prop) [Decidable c] (a b : R Fl) : endK (if c then a else b) = if c then endK a else endK b := by split <;> rfl
theorem retK_ite (c : Prop) [Decidable c] (a b : R D) : retK (if c then a else b) = if c then retK a else retK b := by split <;> rfl
end ND
namespace ND
open PySem PySem.Spec L2
@[simp] theorem kb_nand (p : Prop) [Decidable p] (c : Bool) : (if p then R.ok false else .ok c) = .ok (!decide p && c) := by by_cases h : p <;> simp [h]
@[simp] theorem kb_imp (p : Prop) [Decidable p] (c : Bool) : (if p then R.ok c else .ok true) = .ok (!decide p || c) := by by_cases h : p <;> simp [h]
@[simp] theorem k_nand (p : Prop) [Decidable p] (c : Bool) : (if p then R.ok (PyData.bool false) else .ok (.bool c)) = .ok (.bool (!decide p && c)) := by by_cases h : p <;> simp [h]
@[simp] theorem k_imp (p : Prop) [Decidable p] (c : Bool) : (if p then R.ok (PyData.bool c) else .ok (.bool true)) = .ok (.bool (!decide p || c)) := by by_cases h : p <;> simp [h]
end ND
/-! ND set 0: sets of tuples of texts: what the search asks of a tuple. -/
namespace ND
open PySem PySem.Spec PyProof.Rows L2
abbrev TxK (P : Program) (w : World) : KeyKind P w Str := PySem.strKind P w
abbrev Tup (P : Program) (w : World) (h : Heap) (k : List Str) (b : Addr) : Prop := IsTupleKey (TxK P w) h k b
abbrev hsT (P : Program) (w : World) (k : List Str) : Int := tupleKeyHash (TxK P w) k
section
variable {P : Program} {w : World} {A : Around} {E : Value → Shared → Prop} {s : Shared} {k : List Str} {b : Addr}
def AllTx (vs : List Value) : Prop := ∀ v ∈ vs, ∃ x t, v = Value.str x t
theorem AllTx.tail {v : Value} {vs : List Value} (h : AllTx (v :: vs)) : AllTx vs := fun u hu => h u (.tail _ hu)
theorem allTx {vs : List Value} (h : ItemsAre (TxK P w) k vs) : AllTx vs := by
  intro v hv
  induction h with
  | nil => cases hv
  | cons h1 _ ih =>
    cases hv with
    | head => exact ⟨_, Value.isStrOf_shape h1⟩
    | tail _ hv => exact ih hv
theorem tx_class (n : Nat) (x : Str) (t : Tok) : ofAClassStatement n (.str x t) = pure false := by cases n <;> rfl
theorem tx_byV (n : Nat) (x : Str) (t : Tok) : hashByValue n (.str x t) = pure false := by cases n <;> rfl
/-- a tuple of texts is of no class statement -/
theorem tup_class (hk : Tup P w s.heap k b) {Q : Bool → Shared → Prop} (q : Q false s) : wpAny (model P w) A (ofAClassStatement 8 (.ref b)) Q E s := by
  have ty := hk.typeIs
  obtain ⟨ob, its, m, g, -, gd, gi⟩ := hk
  have tt : ("tuple" == "tuple") = true := rfl
  unfold ofAClassStatement
  apply wpAny_bind
  apply wpAny_typeOf ty
  simp only [tt, if_true, Bool.not_true, Bool.false_eq_true, if_false]
  apply wpAny_bind
  apply wpAny_pure
  simp only [Bool.not_true, Bool.false_eq_true, if_false]
  apply wpAny_bind
  apply wpAny_seqItems g gd
  apply wpAny_bind
  rw [← Array.forIn_toList]
  apply wpAny_forIn_list _ (fun vs r s1 => AllTx vs ∧ s1 = s ∧ r.1 = none)
  · intro v vs r s1 ⟨h1, h2, h3⟩
    obtain ⟨x, t, rfl⟩ := h1 _ (.head _)
    rw [tx_class]
    apply wpAny_bind
    apply wpAny_pure
    simp only [Bool.false_eq_true, if_false]
    exact wpAny_pure ⟨h1.tail, h2, rfl⟩
  · rintro ⟨r, u⟩ s1 ⟨-, rfl, h3⟩
    cases h3
    exact wpAny_pure q
  · exact ⟨allTx gi, rfl, rfl⟩
/-- whether it is hashed by value: told quietly, whatever it is -/
theorem tup_byV (hk : Tup P w s.heap k b) {Q : Bool → Shared → Prop} (q : ∀ v, Q v s) : wpAny (model P w) A (hashByValue 8 (.ref b)) Q E s := by
  have ty := hk.typeIs
  obtain ⟨ob, its, m, g, -, gd, gi⟩ := hk
  unfold hashByValue
  apply wpAny_bind
  apply wpAny_specialOf ty F.slot_tuple_hash.lookup
  apply wpAny_bind
  apply wpAny_seqItems g gd
  apply wpAny_bind
  show wpAny _ _ (forIn its _ _) _ _ s
  rw [← Array.forIn_toList]
  refine wpAny_forIn_list _ (fun vs r s1 => AllTx vs ∧ s1 = s) _ ?_ ?_ _ _ ⟨allTx gi, rfl⟩
  · intro v vs r s1 ⟨h1, h2⟩
    obtain ⟨x, t, rfl⟩ := h1 _ (.head _)
    rw [tx_byV]
    apply wpAny_bind
    apply wpAny_pure
    simp only [Bool.not_false, if_true]
    subst h2
    exact wpAny_pure (wpAny_pure (q _))
  · rintro ⟨r, u⟩ s1 ⟨-, rfl⟩
    cases r <;> exact wpAny_pure (q _)
end
end ND
/-! ND set 1: a set of tuples of texts: the search. -/
namespace ND
open PySem PySem.Spec PyProof.Rows L2
section
variable {P : Program} {w : World} {A : Around} {E : Value → Shared → Prop} {s : Shared} {k : List Str} {b : Addr}
def AllTup (P : Program) (w : World) (h : Heap) (vs : List Value) : Prop := ∀ v ∈ vs, ∃ k c, v = Value.ref c ∧ Tup P w h k c
theorem tup_seen (hk : Tup P w s.heap k b) {ys : List Value} (hy : AllTup P w s.heap ys) {Q : Bool → Shared → Prop} (q : Q false s) :
    wpAny (model P w) A (searchCouldBeSeen (.ref b) ys) Q E s := by
  unfold searchCouldBeSeen
  apply wpAny_bind
  refine wpAny_forIn_list _ (fun vs r s1 => AllTup P w s.heap vs ∧ s1 = s ∧ r.1 = none) _ ?_ ?_ _ _ ⟨hy, rfl, rfl⟩
  · intro v vs r s1 ⟨h1, h2, h3⟩
    subst h2
    have h4 : AllTup P w s1.heap vs := fun y hy => h1 y (.tail _ hy)
    obtain ⟨k', c, rfl, hc⟩ := h1 _ (.head _)
    dsimp only
    split
    · exact wpAny_pure ⟨h4, rfl, rfl⟩
    · apply wpAny_bind
      apply wpAny_eqIsQuiet_tuple hk
      simp only [Bool.not_true, Bool.false_eq_true, if_false]
      apply wpAny_bind
      apply wpAny_eqIsQuiet_tuple hc
      simp only [Bool.not_true, Bool.false_eq_true, if_false]
      apply wpAny_bind
      apply tup_class hk
      simp only [Bool.false_eq_true, if_false]
      apply wpAny_bind
      apply tup_class hc
      exact wpAny_pure ⟨h4, rfl, rfl⟩
  · rintro ⟨r, u⟩ s1 ⟨-, rfl, h3⟩
    cases h3
    exact wpAny_pure q
/-! the walk of a probe, counted from its start -/
abbrev stp (t : SetTable) (h : Int) (c : Nat) : SetTable.Probe := nth t.mask (runAt t.mask (SetTable.bits h % (t.mask + 1)) (SetTable.bits h)) c
theorem stp_add (t : SetTable) (h : Int) (c q : Nat) : nth t.mask (stp t h c) q = stp t h (c + q) := (nth_add ..).symm
theorem nth_dm (m : Nat) : ∀ (n : Nat) {p : SetTable.Probe}, p.dummy = none → (nth m p n).dummy = none
  | 0, _, h => h
  | n + 1, p, h => nth_dm m n (p := adv m p) (by unfold adv; split <;> exact h)
/-- a probe from the c-th step: the first of the same hash, or the free slot at the K-th -/
theorem probe_at {t : SetTable} {hs : List Int} (T : TabOk t hs) (ha : Nat → Int) (h : Int) {c K : Nat} (cK : c ≤ K) (lim : K < 10 * SetTable.turns t.mask)
    (busy : ∀ q, q < K → way t.mask h q ∈ t.place.toList) (free : way t.mask h K ∉ t.place.toList) :
    (∃ q i, c ≤ q ∧ q < K ∧ t.place.toList[i]? = some (way t.mask h q) ∧ ha i = h ∧
      (∀ d j, c ≤ d → d < q → t.place.toList[j]? = some (way t.mask h d) → ha j ≠ h) ∧ t.probe ha h (stp t h c) = some (.candidate (way t.mask h q) i (stp t h (q + 1)))) ∨
    ((∀ d j, c ≤ d → d < K → t.place.toList[j]? = some (way t.mask h d) → ha j ≠ h) ∧ t.probe ha h (stp t h c) = some (.empty (way t.mask h K) none)) := by
  have jj : ∀ q, (nth t.mask (stp t h c) q).j = way t.mask h (c + q) := fun q => congrArg SetTable.Probe.j (stp_add t h c q)
  have eK : c + (K - c) = K := by omega
  have sp := go_spec t T.ris T.dm ha h (10 * SetTable.turns t.mask) (K - c) (stp t h c) (nth_dm _ _ rfl) (by omega)
    (fun q hq => by rw [jj]; exact busy _ (by omega)) (by rw [jj, eK]; exact free)
  rcases sp with ⟨q, i, q1, q2, q3, q4, q5⟩ | ⟨q1, q2⟩
  · refine .inl ⟨c + q, i, by omega, by omega, by rw [← jj]; exact q2, q3, fun d j d1 d2 dj => ?_, ?_⟩
    · refine q4 (d - c) j (by omega) ?_
      rw [jj, show c + (d - c) = d by omega]
      exact dj
    · rw [jj, stp_add] at q5
      exact q5
  · refine .inr ⟨fun d j d1 d2 dj => ?_, ?_⟩
    · refine q1 (d - c) j (by omega) ?_
      rw [jj, show c + (d - c) = d by omega]
      exact dj
    · rw [jj, eK] at q2
      exact q2
/-! the set -/
abbrev rws (P : Program) (w : World) (L : List (Addr × List Str)) : List (Int × Value) := L.map fun (q : Addr × List Str) => (hsT P w q.2, Value.ref q.1)
abbrev hss (P : Program) (w : World) (L : List (Addr × List Str)) : List Int := L.map fun q => hsT P w q.2
structure SK (P : Program) (w : World) (h : Heap) (a : Addr) (L : List (Addr × List Str)) (es : Array (Int × Value)) (ep : Nat) (t : SetTable) : Prop where
  obj : ∃ o, h.get? a = some o ∧ o.ExactSet ∧ o.data = .set es ep t
  ents : es.toList = rws P w L
  tb : TabOk t (hss P w L)
  dis : (L.map (·.2)).Nodup
  all : ∀ q ∈ L, Tup P w h q.2 q.1
  rm : L.length * 5 < t.mask * 3
  sm : L.length < 64
  led : w.params.followText "set-order" = true ∨ t.led = true
variable {a : Addr} {L : List (Addr × List Str)} {es : Array (Int × Value)} {ep : Nat} {t : SetTable}
theorem rws_size (e : es.toList = rws P w L) : es.size = L.length := by
  rw [← Array.length_toList, e, List.length_map]
theorem tab_size (T : TabOk t (hss P w L)) : t.place.size = L.length := by rw [T.sz, List.length_map]
theorem fits_of (e : es.toList = rws P w L) (sz : t.place.size = L.length) (dm : t.dummies = #[]) (m : L.length ≤ t.mask) : t.fits es.size = true := by
  simp only [SetTable.fits, SetTable.fill, dm, rws_size e, sz]
  simpa using m
theorem SK.fits (R : SK P w s.heap a L es ep t) : t.fits es.size = true := fits_of R.ents (tab_size R.tb) R.tb.dm (by have := R.rm; omega)
theorem rws_at (e : es.toList = rws P w L) {i : Nat} {q : Addr × List Str} (h : L[i]? = some q) : es[i]? = some (hsT P w q.2, .ref q.1) := by
  rw [← Array.getElem?_toList, e, List.getElem?_map, h]
  rfl
theorem not_gone (T : TabOk t (hss P w L)) : t.gaveWay ≠ true := by
  have := mask_odd T.mok
  simp [SetTable.gaveWay, this]
/-- the search loop -/
theorem look (R : SK P w s.heap a L es ep t) {x : Addr} (hx : Tup P w s.heap k x) (hu : A.units < cLine) {K : Nat} (lim : K < 10 * SetTable.turns t.mask)
    (busy : ∀ q, q < K → way t.mask (hsT P w k) q ∈ t.place.toList) (free : way t.mask (hsT P w k) K ∉ t.place.toList) {Q : SetFound → Shared → Prop}
    (yes : k ∈ L.map (·.2) → Q (.there none) s) (no : k ∉ L.map (·.2) → Q (.free (way t.mask (hsT P w k) K) false) s) :
    ∀ (f c : Nat) (st : Option SetTable.Probe), st.getD (t.probeStart (hsT P w k)) = stp t (hsT P w k) c → c ≤ K → K - c < f →
      (∀ (i : Nat) q, L[i]? = some q → q.2 = k → ∃ d, c ≤ d ∧ d < K ∧ t.place.toList[i]? = some (way t.mask (hsT P w k) d)) →
      wpAny (model P w) A (setSearchFrom a (.ref x) (hsT P w k) true f st) Q E s := by
  obtain ⟨ob, og, ox, od⟩ := R.obj
  have hA : ∀ {i : Nat} {q : Addr × List Str}, L[i]? = some q → (fun (i : Nat) => (es[i]?.map (·.1)).getD 0) i = hsT P w q.2 := fun h => by
    dsimp only
    rw [rws_at R.ents h]
    rfl
  intro f
  induction f with
  | zero => intro c st _ _ hf; exact absurd hf (Nat.not_lt_zero _)
  | succ f ih =>
    intro c st hst cK hf ahead
    rw [setSearchFrom_succ]
    apply wpAny_bind
    apply wpAny_setState_of og od R.fits
    dsimp only
    refine wp_if_neg (not_gone R.tb) ?_
    try refine wpAny_bind (wpAny_pure ?_)
    rw [hst]
    rcases probe_at R.tb (fun (i : Nat) => (es[i]?.map (·.1)).getD 0) (hsT P w k) cK lim busy free with ⟨d, i, d1, d2, d3, d4, d5, d6⟩ | ⟨d5, d6⟩
    · rw [d6]
      dsimp only
      have iL : i < L.length := by
        have z := (List.getElem?_eq_some_iff.mp d3).1
        rw [Array.length_toList, tab_size R.tb] at z
        exact z
      obtain ⟨q, eq⟩ : ∃ q, L[i]? = some q := ⟨_, List.getElem?_eq_getElem iL⟩
      have qL := List.mem_of_getElem? eq
      have main : wpAny (model P w) A (searchRest a (.ref x) (hsT P w k) true f es t (way t.mask (hsT P w k) d) i (stp t (hsT P w k) (d + 1))) Q E s := by
        unfold searchRest
        rw [rws_at R.ents eq]
        apply wpAny_bind
        apply wpAny_holding
        apply wpAny_eqBool_tuple hu (R.all q qL) hx
        apply wpAny_bind
        apply wpAny_setState_of og od R.fits
        dsimp only
        by_cases qk : q.2 = k
        · refine wp_if_pos (by simp [qk]) (wpAny_pure (yes ?_))
          exact qk ▸ List.mem_map_of_mem qL
        · refine wp_if_neg (by simp [qk]) ?_
          try refine wpAny_bind (wpAny_pure ?_)
          have sl := slot_live R.tb.ris d3
          rw [sameMem]
          dsimp only
          simp only [if_true, sl, rws_at R.ents eq]
          apply wpAny_bind
          apply wpAny_isSame_ref_self
          apply wpAny_bind
          apply wpAny_pure
          simp only [if_true]
          refine wp_if_neg (by simp [qk]) (ih (d + 1) _ rfl (by omega) (by omega) fun i' q' e' k' => ?_)
          obtain ⟨u, u1, u2, u3⟩ := ahead i' q' e' k'
          refine ⟨u, ?_, u2, u3⟩
          have hq' := (hA e').trans (congrArg (hsT P w) k')
          rcases Nat.lt_trichotomy u d with z | z | z
          · exact absurd hq' (d5 u i' u1 z u3)
          · subst z
            have s2 := slot_live R.tb.ris u3
            rw [sl] at s2
            cases s2
            rw [eq] at e'
            cases e'
            exact absurd k' qk
          · exact z
      by_cases hl : t.led = true
      · refine wp_if_neg (by simp [hl]) ?_
        try refine wpAny_bind (wpAny_pure ?_)
        exact main
      · refine wp_if_pos (by simp [hl]) (wpAny_bind (tup_seen hx (fun y hy => ?_) ?_))
        · obtain ⟨e, he, rfl⟩ := List.mem_map.mp hy
          have h0 : e ∈ es ∧ e.1 = hsT P w k := by simpa using he
          have h1 : e ∈ es.toList := by simpa using h0.1
          rw [R.ents] at h1
          obtain ⟨q', h2, rfl⟩ := List.mem_map.mp h1
          exact ⟨q'.2, q'.1, rfl, R.all q' h2⟩
        · refine wp_if_neg (by decide) ?_
          try refine wpAny_bind (wpAny_pure ?_)
          exact main
    · rw [d6]
      refine wpAny_pure (no fun hm => ?_)
      obtain ⟨q, qL, qk⟩ := List.mem_map.mp hm
      obtain ⟨i, hi⟩ := List.getElem?_of_mem qL
      obtain ⟨u, u1, u2, u3⟩ := ahead i q hi qk
      exact d5 u i u1 u2 u3 ((hA hi).trans (congrArg (hsT P w) qk))
/-- the search that adding makes -/
theorem look_all (R : SK P w s.heap a L es ep t) {x : Addr} (hx : Tup P w s.heap k x) (hu : A.units < cLine) {Q : SetFound → Shared → Prop} (yes : k ∈ L.map (·.2) → Q (.there none) s)
    (no : ∀ K, k ∉ L.map (·.2) → way t.mask (hsT P w k) K ∉ t.place.toList → (∀ q, q < K → way t.mask (hsT P w k) q ∈ t.place.toList) → Q (.free (way t.mask (hsT P w k) K) false) s) :
    wpAny (model P w) A (setSearch a (.ref x) (hsT P w k) true) Q E s := by
  have rm := R.rm
  obtain ⟨K, k1, k2, k3⟩ := R.tb.first (by rw [List.length_map]; omega) (hsT P w k)
  have small : 10 * SetTable.turns t.mask < 99999 := by
    rcases R.tb.mok with e | e | e <;> rw [e] <;> decide
  refine look R hx hu k1 k3 k2 yes (fun z => no K z k2 k3) 100000 0 none rfl (Nat.zero_le _) (by omega) fun i q hq qk => ?_
  have z : i < t.place.toList.length := by
    rw [Array.length_toList, tab_size R.tb]
    exact (List.getElem?_eq_some_iff.mp hq).1
  obtain ⟨j, hj⟩ : ∃ j, t.place.toList[i]? = some j := ⟨_, List.getElem?_eq_getElem z⟩
  obtain ⟨d, dK, e⟩ := R.tb.before (h := hsT P w k) (i := i) k2 (by rw [List.getElem?_map, hq, ← qk]; rfl) hj
  exact ⟨d, Nat.zero_le _, dK, by rw [hj, e]⟩
end
end ND
/-! ND set 2: a set of tuples of texts: one put in. -/
namespace ND
open PySem PySem.Spec PyProof.Rows L2
section
variable {P : Program} {w : World} {A : Around} {E : Value → Shared → Prop} {s : Shared} {k : List Str} {b : Addr}
theorem range_all {α : Type} : ∀ l : List α, (List.range l.length).filterMap (fun i => l[i]?) = l
  | [] => rfl
  | x :: l => by
    have h := range_all l
    simp [List.range_succ_eq_map, List.filterMap_map, Function.comp_def, h]
theorem Tup.other {h h' : Heap} {a : Addr} {ob : Obj} {es : Array (Int × Value)} {ep : Nat} {t : SetTable} (x : Tup P w h k b) (og : h.get? a = some ob) (od : ob.data = .set es ep t) (sb : Heap.SameBut a h h') : Tup P w h' k b := by
  obtain ⟨ot, its, m, g, gc, gd, gi⟩ := x
  have ne : b ≠ a := fun e => by
    subst e
    rw [og] at g
    cases g
    rw [od] at gd
    cases gd
  exact ⟨ot, its, m, by rw [sb.2 b ne, g], gc, gd, gi⟩
theorem Tup.kept {h h' : Heap} (x : Tup P w h k b) (hk : ∀ o, h.get? b = some o → h'.get? b = some o) : Tup P w h' k b := by
  obtain ⟨ot, its, m, g, r⟩ := x
  exact ⟨ot, its, m, hk _ g, r⟩
variable {a : Addr} {L : List (Addr × List Str)} {es : Array (Int × Value)} {ep : Nat} {t : SetTable}
theorem rws_get (e : es.toList = rws P w L) (i : Nat) : es[i]? = (L[i]?).map fun q => (hsT P w q.2, Value.ref q.1) := by
  rw [← Array.getElem?_toList, e, List.getElem?_map]
/-- the rows in another order -/
theorem rws_order (e : es.toList = rws P w L) {ord : List Nat} (p : ord.Perm (List.range L.length)) :
    ord.filterMap (fun i => es[i]?) = rws P w (ord.filterMap fun i => L[i]?) ∧ (ord.filterMap fun i => L[i]?).Perm L ∧ hss P w (ord.filterMap fun i => L[i]?) = ord.map fun i => (es.map (·.1)).getD i 0 := by
  refine ⟨?_, ?_, ?_⟩
  · show _ = (ord.filterMap fun i => L[i]?).map _
    rw [List.map_filterMap]
    exact congrArg (fun f => ord.filterMap f) (funext fun i => rws_get e i)
  · have z := p.filterMap fun i => L[i]?
    rw [range_all] at z
    exact z
  · have lt : ∀ i ∈ ord, i < L.length := fun i hi => List.mem_range.mp (p.mem_iff.mp hi)
    clear p
    induction ord with
    | nil => rfl
    | cons i ord ih =>
      have iL := lt i (.head _)
      have ei := rws_get e i
      rw [List.getElem?_eq_getElem iL] at ei
      rw [List.filterMap_cons_some (List.getElem?_eq_getElem iL)]
      show hsT P w L[i].2 :: hss P w (ord.filterMap fun i => L[i]?) = _
      rw [List.map_cons, ih fun j hj => lt j (.tail _ hj)]
      congr 1
      simp [Array.getD_eq_getD_getElem?, ei]
/-- all laid anew -/
theorem relay {ob : Obj} (og : s.heap.get? a = some ob) (ox : ob.ExactSet) (od : ob.data = .set es ep t) (e : es.toList = rws P w L) (T : TabOk t (hss P w L)) (m : L.length ≤ t.mask)
    (dis : (L.map (·.2)).Nodup) (all : ∀ q ∈ L, Tup P w s.heap q.2 q.1) (sm : L.length < 64) {wanted M : Nat} (hw : SetTable.sizeAbove wanted - 1 = M) (hM : MaskOk M) (big : SetTable.sizeAbove wanted ≤ 128)
    (hn : L.length * 5 < M * 3) (led : w.params.followText "set-order" = true ∨ t.led = true) {Q : Unit → Shared → Prop} (fin : ∀ h' L' es' ep' t', Heap.SameBut a s.heap h' → SK P w h' a L' es' ep' t' → L'.Perm L → Q () { s with heap := h' }) :
    wpAny (model P w) A (setRelay a wanted) Q E s := by
  have z := rws_size e
  obtain ⟨t', ord, e1, p1, T1, m1, l1, _, _⟩ := relaid_ok t (hs := es.map (·.1)) hw hM (by rw [Array.size_map, z]; omega)
  rw [Array.size_map, z] at p1
  obtain ⟨o1, o2, o3⟩ := rws_order e p1
  rw [← o3] at T1
  have o1' : (ord.filterMap (es[·]?)).toList = rws P w (ord.toList.filterMap fun i => L[i]?) := by simpa using o1
  have z1 := rws_size o1'
  rw [o2.length_eq] at z1
  generalize (ord.toList.filterMap fun i => L[i]?) = L1 at o2 T1 o1'
  rw [setRelay_eq]
  apply wpAny_bind
  apply wpAny_setState_of og od (fits_of e (tab_size T) T.dm m)
  dsimp only
  refine wp_if_neg (by rw [sizeLine_eq]; omega) ?_
  try refine wpAny_bind (wpAny_pure ?_)
  rw [e1]
  dsimp only
  apply wpAny_bind
  refine wp_if_neg (by simp [z1, z]) ?_
  try refine wpAny_bind (wpAny_pure ?_)
  apply wpAny_pure
  dsimp only
  refine wpAny_storeSet_of og od ?_ (by rw [z1, sizeLine_eq]; omega)
  have sb : Heap.SameBut a s.heap (s.heap.update a (Obj.putSet (ord.filterMap (es[·]?)) t')) := .update ..
  refine fin _ L1 _ _ t' sb ⟨⟨_, store_at og od, ox, rfl⟩, o1', T1, (o2.map (·.2)).nodup_iff.mpr dis, fun q hq => (all q (o2.mem_iff.mp hq)).other og od sb, ?_, ?_, ?_⟩ o2
  · rw [o2.length_eq, m1]
    exact hn
  · rw [o2.length_eq]
    exact sm
  · rw [l1]
    exact led
/-- one tuple more -/
theorem put_in (R : SK P w s.heap a L es ep t) {x : Addr} (hx : Tup P w s.heap k x) (hu : A.units < cLine) (sm : L.length + 1 < 64) {Q : Bool → Shared → Prop}
    (fin : ∀ v h' L' es' ep' t', Heap.SameBut a s.heap h' → SK P w h' a L' es' ep' t' → (k ∈ L.map (·.2) → L' = L) → (k ∉ L.map (·.2) → L'.Perm ((x, k) :: L)) → Q v { s with heap := h' }) :
    wpAny (model P w) A (setAddHashed a (.ref x) (hsT P w k)) Q E s := by
  obtain ⟨ob, og, ox, od⟩ := R.obj
  have z := rws_size R.ents
  have rm := R.rm
  unfold setAddHashed
  apply wpAny_holding
  rw [show 100000 = 99999 + 1 from rfl, setAddHashedIn_succ]
  apply wpAny_bind
  apply wpAny_setState_of og od R.fits
  dsimp only
  refine wp_if_neg (by simp [byScan, Value.scannable]) ?_
  try refine wpAny_bind (wpAny_pure ?_)
  apply wpAny_bind
  refine look_all R hx hu (fun hm => ?_) fun K hm free busy => ?_
  · exact wpAny_pure (fin false s.heap L es ep t (.refl a s.heap) R (fun _ => rfl) fun n => absurd hm n)
  dsimp only
  apply wpAny_bind
  apply wpAny_setState_of og od R.fits
  dsimp only
  obtain ⟨p1, p2, p3, p4, _, _, _, _, p9⟩ := R.tb.put free busy
  have ld : (t.put (way t.mask (hsT P w k) K)).1.led = t.led := rfl
  generalize t.put (way t.mask (hsT P w k) K) = u at p1 p3 p4 p9 ld ⊢
  obtain ⟨t1, n⟩ := u
  dsimp only at p1 p3 p4 p9 ld ⊢
  rw [← p1] at p2 p3
  clear p1
  rw [List.length_map] at p2 p9
  -- the rows with the new one
  have pm : (L.take n ++ (x, k) :: L.drop n).Perm ((x, k) :: L) := by
    have h : (L.take n ++ (x, k) :: L.drop n).Perm ((x, k) :: (L.take n ++ L.drop n)) := List.perm_middle
    rwa [List.take_append_drop] at h
  have e1 : (SetTable.insertAt es n (hsT P w k, Value.ref x)).toList = rws P w (L.take n ++ (x, k) :: L.drop n) := by
    rw [SetTable.toList_insertAt, R.ents]
    simp
  have p3' : TabOk t1 (hss P w (L.take n ++ (x, k) :: L.drop n)) := by
    simpa using p3
  clear p3
  generalize L.take n ++ (x, k) :: L.drop n = L1 at pm e1 p3'
  generalize SetTable.insertAt es n (hsT P w k, Value.ref x) = es1 at e1 ⊢
  have l1 : L1.length = L.length + 1 := pm.length_eq
  have z1 := rws_size e1
  have dis1 : (L1.map (·.2)).Nodup := (pm.map (·.2)).nodup_iff.mpr (List.nodup_cons.mpr ⟨hm, R.dis⟩)
  -- what comes behind it, whether hashed by value or not
  have rest : ∀ t2 : SetTable, t2.place = t1.place → t2.mask = t1.mask → t2.dummies = t1.dummies → t2.led = t1.led →
      wpAny (model P w) A (storeSet a es1 t2 >>= fun _ => if (!false && t2.tooFull) = true then (setRelay a (SetTable.grown (es.size + 1)) >>= fun _ => pure true) else pure true) Q E s := by
    intro t2 f1 f2 f3 f4
    have led2 : w.params.followText "set-order" = true ∨ t2.led = true := by
      rw [f4, ld]
      exact R.led
    have T2 : TabOk t2 (hss P w L1) := ⟨by rw [f1]; exact p3'.ris, by rw [f3]; exact p3'.dm, by rw [f1]; exact p3'.sz, by rw [f2]; exact p3'.mok, by rw [f1, f2]; exact p3'.bd, by rw [f1, f2]; exact p3'.reach⟩
    apply wpAny_bind
    refine wpAny_storeSet_of og od ?_ (by rw [z1, sizeLine_eq]; omega)
    have sb : Heap.SameBut a s.heap (s.heap.update a (Obj.putSet es1 t2)) := .update ..
    have og1 := store_at (es' := es1) (t' := t2) og od
    generalize s.heap.update a (Obj.putSet es1 t2) = h1 at sb og1 ⊢
    have all1 : ∀ q ∈ L1, Tup P w h1 q.2 q.1 := fun q hq => by
      cases pm.mem_iff.mp hq with
      | head => exact hx.other og od sb
      | tail _ hq => exact (R.all q hq).other og od sb
    have full : t2.tooFull = true ↔ t.mask * 3 ≤ (L.length + 1) * 5 := by
      have fl : t2.fill = L.length + 1 := by
        have := p9
        simp only [SetTable.fill] at this ⊢
        rw [f1, f3]
        exact this
      simp only [SetTable.tooFull, fl, f2, p4, decide_eq_true_eq]
    by_cases hf : t2.tooFull = true
    · rw [if_pos (by simp [hf])]
      apply wpAny_bind
      have hf' := full.mp hf
      have two : (t.mask = 7 ∧ L.length = 4) ∨ (t.mask = 31 ∧ L.length = 18) := by
        rcases R.tb.mok with e | e | e <;> rw [e] at hf' rm <;> omega
      have go : ∀ M, SetTable.sizeAbove (SetTable.grown (es.size + 1)) = M + 1 → MaskOk M → M + 1 ≤ 128 → (L.length + 1) * 5 < M * 3 →
          wpAny (model P w) A (setRelay a (SetTable.grown (es.size + 1))) (fun _ s1 => wpAny (model P w) A (pure true) Q E s1) E { s with heap := h1 } := fun M g1 g2 g3 g4 =>
        relay (s := { s with heap := h1 }) og1 ox rfl e1 T2 (by rw [l1, f2, p4]; omega) dis1 all1 (by omega) (by rw [g1]; rfl) g2 (by rw [g1]; exact g3) (by rw [l1]; exact g4) led2 fun h2 L2 es2 ep2 t2 sb2 R2 pm2 =>
          wpAny_pure (fin true h2 L2 es2 ep2 t2 (sb.trans sb2) R2 (fun y => absurd y hm) fun _ => pm2.trans pm)
      rw [z] at go ⊢
      rcases two with ⟨_, e⟩ | ⟨_, e⟩ <;> rw [e] at go ⊢
      · exact go 31 size_20 (.inr (.inl rfl)) (by decide) (by decide)
      · exact go 127 size_76 (.inr (.inr rfl)) (by decide) (by decide)
    · rw [if_neg (by simp [hf])]
      refine wpAny_pure (fin true h1 L1 es1 _ t2 sb ⟨⟨_, og1, ox, rfl⟩, e1, T2, dis1, all1, ?_, by omega, led2⟩ (fun y => absurd y hm) fun _ => pm)
      have : ¬ t.mask * 3 ≤ (L.length + 1) * 5 := fun q => hf (full.mpr q)
      rw [l1, f2, p4]
      omega
  by_cases hp : t1.plain = true
  · refine wp_if_pos hp (wpAny_bind (tup_byV hx fun v => ?_))
    cases v
    · exact rest { t1 with plain := false } rfl rfl rfl rfl
    · exact rest t1 rfl rfl rfl rfl
  · refine wp_if_neg hp (wpAny_bind (wpAny_pure ?_))
    exact rest t1 rfl rfl rfl rfl
end
end ND
/-! ND set 3: set(list of tuples of texts), and how many it has. -/
namespace ND
open PySem PySem.Spec PyProof.Rows L2
/-- all that stood stands -/
def Old (h h' : Heap) : Prop := ∀ b o, h.get? b = some o → h'.get? b = some o
/-- what came of the first i -/
structure Gt (ks : List (Addr × List Str)) (i : Nat) (L : List (Addr × List Str)) : Prop where
  sub : ∀ q ∈ L, q ∈ ks.take i
  key : ∀ z, z ∈ L.map (·.2) ↔ z ∈ (ks.take i).map (·.2)
  len : L.length ≤ i
theorem Gt.zero (ks : List (Addr × List Str)) : Gt ks 0 [] := ⟨(fun _ h => nomatch h), fun z => by simp, Nat.le_refl 0⟩
theorem Gt.next {ks L L' : List (Addr × List Str)} {i : Nat} {q : Addr × List Str} (g : Gt ks i L) (e : ks[i]? = some q) (same : q.2 ∈ L.map (·.2) → L' = L) (more : q.2 ∉ L.map (·.2) → L'.Perm (q :: L)) : Gt ks (i + 1) L' := by
  have tk : ks.take (i + 1) = ks.take i ++ [q] := by rw [List.take_succ, e]; rfl
  by_cases c : q.2 ∈ L.map (·.2)
  · rw [same c]
    refine ⟨fun r hr => ?_, fun z => ?_, Nat.le_succ_of_le g.len⟩
    · rw [tk]
      exact List.mem_append.mpr (.inl (g.sub r hr))
    · rw [tk, List.map_append, List.mem_append, ← g.key]
      constructor
      · exact .inl
      · rintro (h | h)
        · exact h
        · simp at h
          rw [h]
          exact c
  · have pm := more c
    refine ⟨fun r hr => ?_, fun z => ?_, ?_⟩
    · rw [tk, List.mem_append]
      cases pm.mem_iff.mp hr with
      | head => exact .inr (.head _)
      | tail _ h => exact .inl (g.sub r h)
    · rw [tk, List.map_append, List.mem_append, ← g.key, (pm.map (·.2)).mem_iff, List.map_cons, List.mem_cons]
      simp only [List.map_cons, List.map_nil, List.mem_cons, List.not_mem_nil, or_false]
      exact or_comm
    · rw [pm.length_eq]
      exact Nat.succ_le_succ g.len
section
variable {P : Program} {w : World} {A : Around} {E : Value → Shared → Prop} {s : Shared}
theorem SK.kept {h h' : Heap} {a : Addr} {L : List (Addr × List Str)} {es : Array (Int × Value)} {ep : Nat} {t : SetTable} (R : SK P w h a L es ep t) (ha : ∀ o, h.get? a = some o → h'.get? a = some o)
    (ht : ∀ q ∈ L, Tup P w h' q.2 q.1) : SK P w h' a L es ep t := by
  obtain ⟨⟨ob, og, r⟩, r2, r3, r4, _, r6, r7, r8⟩ := R
  exact ⟨⟨ob, ha _ og, r⟩, r2, r3, r4, ht, r6, r7, r8⟩
def newSet (w : World) : Obj := { cls := .type "set", dict := none, data := .set #[] 0 (.fresh 0 0 (!w.params.followText "set-order")) }
theorem sk_new {h : Heap} {a : Addr} (og : h.get? a = some (newSet w)) : SK P w h a [] #[] 0 (.fresh 0 0 (!w.params.followText "set-order")) :=
  ⟨⟨_, og, ⟨rfl, rfl, rfl⟩, rfl⟩, rfl, ⟨.nil, rfl, rfl, .inl rfl, (fun _ h => nomatch h), fun i h j e => by simp at e⟩, .nil, (fun _ h => nomatch h), show 0 * 5 < 7 * 3 by decide, show 0 < 64 by decide, by cases e : w.params.followText "set-order" <;> simp [SetTable.fresh]⟩
/-- the loop of set.update over tuples of texts -/
theorem fill {I : Addr} {fp wr : List Addr} {G : Array GenState → Array GenState → Prop} {n : Nat} {Pv : Nat → Value → Prop} {St : Nat → Shared → Prop} {R : Result → Shared → Prop} (W : WalksS P w A.in1 I fp wr G n Pv St)
    (S : Addr) (Sf : S ∉ fp) {ks : List (Addr × List Str)} (hn : n = ks.length) (few : ks.length < 64) (val : ∀ i v, Pv i v → ∃ q, ks[i]? = some q ∧ v = .ref q.1) {h0 : Heap} (hk : ∀ q ∈ ks, Tup P w h0 q.2 q.1)
    (S0 : h0.get? S = none) (w0 : ∀ b ∈ wr, h0.get? b = none) (hu : A.in1.units < cLine) :
    ∀ (m i : Nat) (s : Shared), n - i = m → i ≤ n → St i s → Old h0 s.heap → (∃ L es ep t, SK P w s.heap S L es ep t ∧ Gt ks i L) →
      (∀ s' L es ep t, Moved (S :: wr) G s s' → SK P w s'.heap S L es ep t → Gt ks n L → Old h0 s'.heap → R (.ok (.ret .none)) s') →
      codeAny (model P w) A (.builtin "set.update.loop" ⟨[.ref S, .ref I], []⟩) R s := by
  have Sw : S ∉ wr := fun h => Sf (W.sub _ h)
  have up : ∀ b ∈ wr, b ∈ S :: wr := fun _ h => .tail _ h
  have still : ∀ {s s' : Shared}, Moved wr G s s' → Old h0 s.heap → Old h0 s'.heap := fun mv old b o e => mv.heap b o (fun hb => by cases (w0 b hb).symm.trans e) (old b o e)
  have tups : ∀ {i : Nat} {L : List (Addr × List Str)} {h : Heap}, Gt ks i L → Old h0 h → ∀ q ∈ L, Tup P w h q.2 q.1 := fun g old q hq => (hk q (List.mem_of_mem_take (g.sub q hq))).kept (old _)
  intro m
  induction m with
  | zero =>
    intro i s e hi st old ⟨L, es, ep, t, R0, g⟩ fin
    obtain rfl : i = n := by omega
    apply codeAny_builtin F.entry_set_update_loop; rw [Around.under_plainId F.plain_set_update_loop _]
    apply wpAny_bind
    refine W.done s _ _ st fun s1 mv => wpAny_pure ?_
    have old1 := still mv old
    exact fin s1 L es ep t (mv.mono up) (R0.kept (fun o => mv.heap S o Sw) (tups g old1)) g old1
  | succ m ih =>
    intro i s e hi st old ⟨L, es, ep, t, R0, g⟩ fin
    have lt : i < n := by omega
    apply codeAny_builtin F.entry_set_update_loop; rw [Around.under_plainId F.plain_set_update_loop _]
    apply wpAny_bind
    refine W.item i s _ _ lt st fun v s1 pv st1 mv => ?_
    obtain ⟨q, eq, rfl⟩ := val i v pv
    have old1 := still mv old
    have R1 : SK P w s1.heap S L es ep t := R0.kept (fun o => mv.heap S o Sw) (tups g old1)
    have tq : Tup P w s1.heap q.2 q.1 := (hk q (List.mem_of_getElem? eq)).kept (old1 _)
    show wpAny _ A.in1 (holding [.ref q.1] (setAdd S (.ref q.1)) >>= _) _ _ s1
    apply wpAny_bind
    apply wpAny_holding
    unfold setAdd
    apply wpAny_holding
    apply wpAny_bind
    apply wpAny_pyHash_tuple hu tq
    refine put_in (s := { s1 with toks := s1.toks + (q.2.length + 1) }) R1 tq hu (by have := g.len; omega) fun v h2 L2 es2 ep2 t2 sb R2 c1 c2 => ?_
    have off : ∀ {b : Addr}, b ≠ S → h2.get? b = s1.heap.get? b := fun ne => sb.2 _ ne
    have old2 : Old h0 h2 := fun b o e => (off fun z => by rw [z, S0] at e; cases e).trans (old1 b o e)
    refine wpAny_pure ⟨plainId_quiet F.plain_set_update_loop _, ih (i + 1) _ (by omega) lt (W.frame _ s1 _ _ st1 (Nat.le_add_right ..) fun b hb o e => (off fun z => Sf (z ▸ hb)).trans e) old2
      ⟨L2, es2, ep2, t2, R2, g.next eq c1 c2⟩ fun s3 L3 es3 ep3 t3 mv3 R3 g3 old3 => ?_⟩
    refine fin s3 L3 es3 ep3 t3 (.trans W.gtrans ((mv.mono up).then_heap (Nat.le_add_right ..) fun b o hb e => ?_) mv3) R3 g3 old3
    exact (off fun z => hb (z ▸ .head _)).trans e
end
end ND
/-! ND set 4: the call of set with a list of tuples of texts. -/
namespace ND
open PySem PySem.Spec PyProof.Rows L2
section
variable {P : Program} {w : World} {A : Around} {E : Value → Shared → Prop} {s : Shared}
/-- what the call leaves -/
def SetMade (P : Program) (w : World) (ks : List (Addr × List Str)) (s s' : Shared) : Prop :=
  ∃ h' tk L es ep t, s' = { s with heap := h', toks := tk } ∧ SK P w h' s.heap.objs.size L es ep t ∧ Gt ks ks.length L ∧ Old s.heap h'
theorem not_yet {h : Heap} {b : Addr} (z : h.objs.size ≤ b) : h.get? b = none := by
  cases e : h.get? b with
  | none => rfl
  | some o => exact absurd (Heap.lt_size e) (Nat.not_lt_of_le z)
abbrev withSet (w : World) (s : Shared) : Shared := { s with heap := s.heap.push (newSet w) }
/-- the new set's __init__ -/
theorem set_init {l : Addr} {its : Array Value} {ks : List (Addr × List Str)} (hh : A.handled = none) (hl : s.heap.IsList l its) (ei : its.toList = ks.map fun q => Value.ref q.1)
    (hk : ∀ q ∈ ks, Tup P w s.heap q.2 q.1) (few : ks.length < 64) (hu : A.units + 1 < cLine) :
    wpAny (model P w) A (Builtin.«set.__init__» ⟨[.ref s.heap.objs.size, .ref l], []⟩) (fun f s' => f = .done (.ret .none) ∧ SetMade P w ks s s') E (withSet w s) := by
  have zi : its.size = ks.length := by rw [← Array.length_toList, ei, List.length_map]
  obtain ⟨ol, og, oc, nl, od⟩ := hl
  obtain ⟨oc', odict, odata, oslots⟩ := ol
  cases oc
  cases od
  have lS : l < s.heap.objs.size := Heap.lt_size og
  have gS : (withSet w s).heap.get? s.heap.objs.size = some (newSet w) := Heap.get?_push_size _ rfl
  have tS : Shared.TypeIs (withSet w s) (.ref s.heap.objs.size) "set" := ⟨_, gS, rfl⟩
  have zp : (withSet w s).heap.objs.size = s.heap.objs.size + 1 := Heap.size_push ..
  have og1 : (withSet w s).heap.get? l = some { cls := .type "list", dict := odict, data := .seq its nl, slots := oslots } := Heap.get?_push_of_some _ og
  have isl : (withSet w s).heap.IsList l its := ⟨_, og1, rfl, nl, rfl⟩
  have f1 := F.sub_list_set
  have f2 := F.sub_list_frozenset
  have f3 : (Value.type "list" == Value.type "dict") = false := rfl
  unfold Builtin.«set.__init__» noKeywords Builtin.Frozenset.updateFrom
  generalize pi : pyIter = PI
  wp_walk
  subst pi
  apply wpAny_pyIter_list isl
  apply wpAny_bind
  apply wpAny_runValue
  have h1 : A.in1.handled = none := by simp [hh]
  have ne : l ≠ (withSet w s).heap.objs.size := zp ▸ Nat.ne_of_lt (Nat.lt_succ_of_lt lS)
  have Sf : s.heap.objs.size ∉ [(withSet w s).heap.objs.size, l] := by
    rw [zp]
    intro z
    rcases List.mem_cons.mp z with z | z
    · exact absurd z (Nat.ne_of_lt (Nat.lt_succ_self _))
    · exact Nat.ne_of_gt lS (List.mem_singleton.mp z)
  have val : ∀ (i : Nat) (v : Value), its[i]? = some v → ∃ q, ks[i]? = some q ∧ v = .ref q.1 := fun i v e => by
    rw [← Array.getElem?_toList, ei, List.getElem?_map] at e
    cases e2 : ks[i]? with
    | none => rw [e2] at e; cases e
    | some q =>
      rw [e2] at e
      cases e
      exact ⟨q, rfl, rfl⟩
  refine fill ((Walks.list h1 _ l ne its).toS) s.heap.objs.size Sf zi few val hk (not_yet (Nat.le_refl _)) (fun b hb => not_yet ?_) hu its.size 0 _ (Nat.sub_zero _) (Nat.zero_le _)
    ⟨⟨_, Heap.get?_push_size _ rfl, rfl, rfl⟩, isl.push _⟩ (fun b o e => Heap.get?_push_of_some _ (Heap.get?_push_of_some _ e)) ⟨[], #[], 0, _, sk_new (Heap.get?_push_of_some _ gS), .zero ks⟩ fun s1 L es ep t mv R g old => ?_
  · rw [List.mem_singleton.mp hb, zp]
    exact Nat.le_succ _
  · obtain ⟨h1, g1, d1, t1, o1⟩ := s1
    obtain rfl : g1 = s.gens := mv.gens
    obtain rfl : d1 = s.drawn := mv.drawn
    obtain rfl : o1 = s.os := mv.os
    rw [zi] at g
    exact wpAny_pure (wpAny_pure ⟨rfl, h1, t1, L, es, ep, t, rfl, R, g, old⟩)
/-- set(xs), xs a list of tuples of texts -/
theorem set_call {l : Addr} {its : Array Value} {ks : List (Addr × List Str)} (hh : A.handled = none) (hl : s.heap.IsList l its) (ei : its.toList = ks.map fun q => Value.ref q.1)
    (hk : ∀ q ∈ ks, Tup P w s.heap q.2 q.1) (few : ks.length < 64) (hu : A.units + 3 < cLine) {Q : Value → Shared → Prop} (fin : ∀ s', SetMade P w ks s s' → Q (.ref s.heap.objs.size) s') :
    wpAny (model P w) A (call (.type "set") [.ref l]) Q E s := by
  obtain ⟨c, tl, mro⟩ := F.called_set.mro
  have a1 := F.called_set.made
  have a2 := F.called_set.sub
  have a3 := F.called_set.notType
  have a4 := F.called_set.canCreate
  have a5 := F.typeCall_set_1 (.ref l)
  apply wpAny_call
  apply codeAny_of_tree
  show wpAny _ _ (callAny (.type "set") ⟨[.ref l], []⟩) _ _ s
  refine wpAny_pure ⟨Code.quiet_builtin _ (by decide +kernel), codeAny_builtin (F.entry_type_call) ?_⟩
  rw [Around.under_plain (weight_type_call_type "set" [.ref l] []) rfl]
  repeat (any_goals first | assumption | wp_step)
  refine codeAny_mono (code_set_led1 (.ref l) (E := E) (Q₁ := fun v s1 => v = .ref s.heap.objs.size ∧ s1 = withSet w s) ⟨rfl, rfl⟩) fun r s1 h1 => ?_
  rcases r with e | r
  · exact h1
  cases r with
  | ret v =>
    obtain ⟨rfl, rfl⟩ := h1
    have tS : Shared.TypeIs (withSet w s) (.ref s.heap.objs.size) "set" := ⟨_, Heap.get?_push_size _ rfl, rfl⟩
    have b1 := F.called_set.init.lookup
    have b2 := F.called_set.init.bind (.ref s.heap.objs.size)
    repeat (any_goals first | assumption | wp_step)
    refine codeAny_mono (codeAny_call_builtin (R := wants (fun v s2 => v = .none ∧ SetMade P w ks s s2) E) F.called_set.init.plain F.entry_set_init (check_set_init_1 tS ?_)) fun r s2 h2 => ?_
    · exact wpAny_mono (set_init (A := A.in1.in1) (by simp [hh]) hl ei hk few hu) (fun f s2 ⟨e, z⟩ => by subst e; exact ⟨rfl, z⟩) fun _ _ z => z
    · rcases r with e | r
      · exact h2
      cases r with
      | ret v =>
        obtain ⟨rfl, h2⟩ := h2
        repeat (any_goals first | assumption | wp_step)
        exact fin s2 h2
      | _ => exact h2.elim
  | _ => exact h1.elim
end
end ND
/-! ND set 5: len(set(..)) of a list of tuples of texts, as data. -/
namespace ND
open PySem PySem.Spec PyProof.Rows L2
/-- how many different ones -/
def diffs {α : Type} [DecidableEq α] : List α → List α
  | [] => []
  | x :: l => if x ∈ l then diffs l else x :: diffs l
theorem mem_diffs {α : Type} [DecidableEq α] {z : α} : ∀ {l : List α}, z ∈ diffs l ↔ z ∈ l
  | [] => Iff.rfl
  | x :: l => by
    unfold diffs
    split
    · rename_i h
      rw [mem_diffs, List.mem_cons]
      exact ⟨.inr, fun k => k.elim (fun e => e ▸ h) id⟩
    · rw [List.mem_cons, List.mem_cons, mem_diffs]
theorem nodup_diffs {α : Type} [DecidableEq α] : ∀ l : List α, (diffs l).Nodup
  | [] => .nil
  | x :: l => by
    unfold diffs
    split
    · exact nodup_diffs l
    · rename_i h
      exact List.nodup_cons.mpr ⟨fun k => h (mem_diffs.mp k), nodup_diffs l⟩
theorem diffs_of_nodup {α : Type} [DecidableEq α] : ∀ {l : List α}, l.Nodup → diffs l = l
  | [], _ => rfl
  | x :: l, h => by
    obtain ⟨a, b⟩ := List.nodup_cons.mp h
    unfold diffs
    rw [if_neg a, diffs_of_nodup b]
theorem nodup_le {α : Type} [DecidableEq α] : ∀ {l m : List α}, l.Nodup → (∀ x ∈ l, x ∈ m) → l.length ≤ m.length
  | [], _, _, _ => Nat.zero_le _
  | x :: l, m, h, k => by
    obtain ⟨a, b⟩ := List.nodup_cons.mp h
    have xm := k x (.head _)
    have := nodup_le (m := m.erase x) b fun y hy => (List.mem_erase_of_ne (show y ≠ x from fun e => a (by rw [← e]; exact hy))).mpr (k y (.tail _ hy))
    rw [List.length_erase_of_mem xm] at this
    have := List.length_pos_of_mem xm
    rw [List.length_cons]
    omega
theorem diffs_len {α : Type} [DecidableEq α] {l m : List α} (h : l.Nodup) (k : ∀ z, z ∈ l ↔ z ∈ m) : l.length = (diffs m).length :=
  Nat.le_antisymm (nodup_le h fun x hx => mem_diffs.mpr ((k x).mp hx)) (nodup_le (nodup_diffs m) fun x hx => (k x).mpr (mem_diffs.mp hx))
theorem diffs_le {α : Type} [DecidableEq α] (l : List α) : (diffs l).length ≤ l.length := nodup_le (nodup_diffs l) fun _ h => mem_diffs.mp h
theorem diffs_full {α : Type} [DecidableEq α] {l : List α} : (diffs l).length = l.length ↔ l.Nodup := by
  constructor
  · intro h
    induction l with
    | nil => exact .nil
    | cons x l ih =>
      have le := diffs_le l
      unfold diffs at h
      split at h
      · rw [List.length_cons] at h
        omega
      · rename_i n
        rw [List.length_cons, List.length_cons] at h
        exact List.nodup_cons.mpr ⟨n, ih (by omega)⟩
  · intro h
    rw [diffs_of_nodup h]
/-! keys -/
def txL : List D → Option (List Str)
  | [] => some []
  | .str x :: ds => (txL ds).map (x :: ·)
  | _ => none
def keysOf : List D → Option (List (List Str))
  | [] => some []
  | .tuple k :: ds => match txL k, keysOf ds with
    | some k, some ks => some (k :: ks)
    | _, _ => none
  | _ => none
def lenSet : D → R D
  | .list zs => match keysOf zs with
    | some ks => if ks.length < 64 then .ok (.int ((diffs ks).length : Nat)) else .bad
    | none => .bad
  | _ => .bad
def gLenSet (g : G → R D) : G → R D := fun Γ => (g Γ).bind lenSet
section
variable {X : Cx} {pins : List (Addr × Obj)} {σ : L2.St} {H : Hp} {s : Shared} {B : Hp} {E : L2.St → XK}
theorem items_tx {P : Program} {w : World} {K : PySem.W.Frag} : ∀ {ds : List D} {vs : List V} {us : List Value} {k : List Str}, DpAll K H vs ds → Vals vs us → txL ds = some k → ItemsAre (TxK P w) k us
  | [], _, _, _, .nil, .nil, e => by
    cases e
    exact .nil
  | .str x :: ds, _, _, _, .cons (.str _) h2, .cons ⟨t, rfl⟩ r2, e => by
    cases e2 : txL ds with
    | none =>
      rw [txL, e2] at e
      cases e
    | some k2 =>
      rw [txL, e2] at e
      cases e
      exact .cons (by show Value.isStrOf x (.str x t) = true; simp [Value.isStrOf]) (items_tx h2 r2 e2)
theorem keys_at (I : Inv X pins σ H s) : ∀ {zs : List D} {xs : List V} {us : List Value} {kk : List (List Str)}, DpAll X.K H xs zs → Vals xs us → keysOf zs = some kk →
    ∃ ks : List (Addr × List Str), ks.map (·.2) = kk ∧ us = ks.map (fun q => Value.ref q.1) ∧ ∀ q ∈ ks, Tup X.prog X.w s.heap q.2 q.1
  | [], _, _, _, .nil, .nil, e => by
    cases e
    exact ⟨[], rfl, rfl, fun q hq => by cases hq⟩
  | .tuple ds :: zs, _, _, _, .cons (.tup (a := b) k1 k2) h2, .cons r1 r2, e => by
    cases r1
    cases e1 : txL ds with
    | none =>
      rw [keysOf, e1] at e
      cases e
    | some k =>
      cases e2 : keysOf zs with
      | none =>
        rw [keysOf, e1, e2] at e
        cases e
      | some kk =>
        rw [keysOf, e1, e2] at e
        cases e
        obtain ⟨ks, c1, c2, c3⟩ := keys_at I h2 r2 e2
        obtain ⟨its, rv, ⟨ob, og, oc, n, od⟩, _⟩ := I.tuple k1
        refine ⟨(b, k) :: ks, by rw [List.map_cons, c1], by rw [List.map_cons, c2], fun q hq => ?_⟩
        cases hq with
        | head => exact ⟨ob, _, n, og, oc, od, items_tx k2 rv e1⟩
        | tail _ hq => exact c3 q hq
theorem d_lenset {a : Expr} {p p2 q pos : Pos} {g : G → R D} (hr : RU X.A) (hc : X.calm = true) (hg : Gl X "len") (hm : X.mg "len" = none) (hg2 : Gl X "set") (hm2 : X.mg "set" = none) (ha : DE X B E a g)
    (na : starEach [a] X.env = (false, eval a X.env) :: starEach [] X.env := by rfl) : DE X B E (.Call (.Name "len" p) [.Call (.Name "set" p2) [a] [] q] [] pos) (gLenSet g) := by
  refine ⟨fun pins s σ H Q I h => ?_⟩
  have hb := tD.bind (f := fun _ d => lenSet d) h
  refine Call_ (ld_blt I hg hm PySem.boot_len ?_) (by rfl)
  refine callWith_builtin1 (args_cons ?_ rfl) rfl rfl
  refine Call_ (ld_blt I hg2 hm2 boot_set ?_) (by rfl)
  refine callWith_type1 (args_cons (thn (ha.run pins s σ H _ I hb) fun v s1 ⟨x, H1, I1, r1, q1⟩ => args_nil ?_) na) na rfl
  obtain ⟨Γ, d, F1, sm, er, dp, o⟩ := q1
  cases d with
  | list zs =>
    cases dp with
    | lst k1 k2 =>
      cases ek : keysOf zs with
      | none =>
        simp only [lenSet, ek] at o
        exact o.elim
      | some kk =>
        simp only [lenSet, ek] at o
        split at o
        · rename_i few
          cases r1
          obtain ⟨its, rv, pl, hz⟩ := I1.list (sm.seq k1)
          obtain ⟨ks, c1, c2, c3⟩ := keys_at I1 (dpa_mono sm k2) rv ek
          have lk : ks.length = kk.length := by rw [← c1, List.length_map]
          refine set_call (I1.ok.hd hc) pl.isList (by simpa using c2) c3 (by omega) (by have := hr.un; omega) fun s2 hs => args_nil ?_
          obtain ⟨h2, tk, L, es, ep, t, rfl, R, gt, old⟩ := hs
          have I2 : Inv X pins σ H1 { s1 with heap := h2, toks := tk } := I1.kept old
          obtain ⟨ob, og, ox, od⟩ := R.obj
          have z1 := rws_size R.ents
          have sml := R.sm
          have n1 : L.length = (diffs kk).length := by
            rw [← List.length_map (f := (·.2))]
            refine diffs_len R.dis fun z => ?_
            rw [gt.key, List.take_length, c1]
          refine call_len_set og ox od (fits_of R.ents (tab_size R.tb) R.tb.dm (by have := R.rm; omega)) (by omega) ⟨.int ((diffs kk).length : Nat), H1, I2.tok _, ⟨_, by rw [z1, n1]⟩, o _ F1 H1 (.refl sm) (.int _)⟩
        · exact o.elim
  | _ => exact o.elim
end
end ND
/-! ND24: a test that reads a list of its own, which may grow on afterwards. -/
namespace ND
open PySem PySem.Spec L2
section
variable {X : Cx} {B : Hp} {E : L2.St → XK}
theorem er_frz {K : PySem.W.Frag} {F H : Hp} {σ : L2.St} {Γ : G} {i : Nat} {ds : List D} (sm : Same F H) (er : ER K B F H σ Γ) (hg : Γ[i]? = some (.own ds)) :
    ∃ F1, Same F1 H ∧ ER K B F1 H σ (Γ.set i (.dat (.list ds))) ∧ ∀ F2 H2, Ext F1 H F2 H2 → ∃ F3, Ext F H F3 H2 := by
  obtain ⟨p, vs, a, hB, hF, hH, dpa⟩ := er.ok i _ hg
  have sf : Same F (upd F p (.lst vs)) := fun b u q => by rw [upd_ne (fun z => by rw [z, hF] at q; cases q)]; exact q
  refine ⟨upd F p (.lst vs), fun b u q => ?_, ⟨by rw [List.length_set]; exact er.len, fun j s q => ?_, fun a1 b1 ds1 ds2 q h1 h2 h3 h4 => ?_, fun a1 b1 ds1 ds2 q h1 h2 h3 h4 => ?_⟩, fun F2 H2 x => ?_⟩
  · by_cases hbp : b = p
    · subst hbp
      rw [upd_same] at q
      cases q
      exact hH
    · rw [upd_ne hbp] at q
      exact sm _ _ q
  · rw [List.getElem?_set] at q
    by_cases hij : i = j
    · subst hij
      rw [if_pos rfl] at q
      split at q
      · cases q
        exact ⟨.ref p, a, .lst (.inl (.inl (by rw [upd_same]))) (dpa_mono sf dpa)⟩
      · cases q
    · rw [if_neg hij] at q
      have := er.ok j s q
      cases s with
      | un => trivial
      | exn a => exact this
      | dat d =>
        obtain ⟨v, a1, b1⟩ := this
        exact ⟨v, a1, dp_mono sf b1⟩
      | own es =>
        obtain ⟨p2, xs, a1, b0, b1, c, d⟩ := this
        have hne : p2 ≠ p := fun z => hij (er.apart i j _ _ p hg q a (by rw [a1, z]))
        exact ⟨p2, xs, a1, b0, by rw [upd_ne hne]; exact b1, c, dpa_mono sf d⟩
      | cel k =>
        obtain ⟨p2, u, a1, b0, b1, c, d⟩ := this
        have hne : p2 ≠ p := fun z => by rw [z, hH] at c; cases c; exact d.nolst
        exact ⟨p2, u, a1, b0, by rw [upd_ne hne]; exact b1, c, d.mono sf⟩
  · have own : ∀ (a : Nat) (ds1 : List D), (Γ.set i (.dat (.list ds)))[a]? = some (.own ds1) → Γ[a]? = some (.own ds1) := fun a ds1 h => by
      rw [List.getElem?_set] at h
      by_cases hia : i = a
      · rw [if_pos hia] at h
        split at h <;> cases h
      · rw [if_neg hia] at h
        exact h
    exact er.apart a1 b1 ds1 ds2 q (own _ _ h1) (own _ _ h2) h3 h4
  · have un : ∀ (a : Nat) (k : Cel), (Γ.set i (.dat (.list ds)))[a]? = some (.cel k) → i ≠ a ∧ Γ[a]? = some (.cel k) := fun a k h => by
      rw [List.getElem?_set] at h
      by_cases z : i = a
      · rw [if_pos z] at h
        split at h <;> cases h
      · rw [if_neg z] at h
        exact ⟨z, h⟩
    exact er.apartC a1 b1 _ _ q (un _ _ h1).2 (un _ _ h2).2 h3 h4
  · refine ⟨fun b => if b = p then none else F2 b, fun b u q => ?_, x.h, fun b u q => ?_, fun b h1 h2 => ?_⟩
    · have hbp : b ≠ p := fun z => by rw [z, hF] at q; cases q
      show (if b = p then none else F2 b) = _
      rw [if_neg hbp]
      exact x.f _ _ (sf _ _ q)
    · split at q
      · cases q
      · exact x.fh _ _ q
    · split
      · rfl
      · rename_i hbp
        exact x.no b (by rw [upd_ne hbp]; exact h1) h2
def gPeek (i : Nat) (g : G → R Bool) (Γ : G) : R Bool := match Γ[i]? with
  | some (.own ds) => g (Γ.set i (.dat (.list ds)))
  | _ => g Γ
theorem t_peek {e : Expr} {g : G → R Bool} (i : Nat) (h : DT X B E e g) : DT X B E e (gPeek i g) :=
  pt_imp h fun σ H Q ⟨Γ, F, s, er, o⟩ => by
    unfold gPeek at o
    split at o
    · rename_i ds hg
      obtain ⟨F1, s1, er1, back⟩ := er_frz s er hg
      refine ⟨_, F1, s1, er1, ?_⟩
      revert o
      cases g (Γ.set i (.dat (.list ds))) with
      | ok b => exact fun o F2 H2 x => let ⟨F3, y⟩ := back F2 H2 x; o F3 H2 y
      | exc c => exact fun o C F2 H2 m x => let ⟨F3, y⟩ := back F2 H2 x; o C F3 H2 m y
      | bad => exact fun o => o
    · exact ⟨Γ, F, s, er, o⟩
def peekK (i : Nat) (g : G → R Bool) (Γ : G) : Option Sv → R Bool
  | some (.own ds) => g (Γ.set i (.dat (.list ds)))
  | _ => g Γ
@[simp] theorem ev_peek (i : Nat) (g : G → R Bool) (Γ : G) : gPeek i g Γ = peekK i g Γ Γ[i]? := by
  unfold gPeek peekK
  split <;> rfl
@[simp] theorem peekK_own (i : Nat) (g : G → R Bool) (Γ : G) (ds : List D) : peekK i g Γ (some (.own ds)) = g (Γ.set i (.dat (.list ds))) := (rfl)
@[simp] theorem peekK_dat (i : Nat) (g : G → R Bool) (Γ : G) (d : D) : peekK i g Γ (some (.dat d)) = g Γ := (rfl)
end
end ND
/-! ND25: sets of texts: one put in, all of a sequence put in. -/
namespace ND
open PySem PySem.Spec PyProof.Rows L2
section
variable {P : Program} {w : World} {A : Around} {E : Value → Shared → Prop} {s : Shared} {k : Str}
def strOf : Value → Str
  | .str k _ => k
  | _ => Str.empty
/-- a set of the texts L, told with its table -/
structure SS (P : Program) (w : World) (h : Heap) (a : Addr) (L : List Str) (es : Array (Int × Value)) (ep : Nat) (t : SetTable) : Prop where
  obj : ∃ o, h.get? a = some o ∧ o.ExactSet ∧ o.data = .set es ep t
  els : ∀ e ∈ es.toList, ∃ k u, e = ((TxK P w).hash k, Value.str k u)
  key : es.toList.map (fun e => strOf e.2) = L
  dis : L.Nodup
  bd : es.size < scanBound
  fit : t.fits es.size = true
  ris : Ris t.place.toList
  led : w.params.followText "set-order" = true ∨ t.led = true
variable {a : Addr} {L : List Str} {es : Array (Int × Value)} {ep : Nat} {t : SetTable}
theorem isTx (k : Str) (u : Tok) : (TxK P w).is k (.str k u) = true := by
  show Value.isStrOf k (.str k u) = true
  simp [Value.isStrOf]
theorem isTx_iff {j k : Str} {u : Tok} : (TxK P w).is j (.str k u) = true ↔ k = j := by
  constructor
  · intro h
    obtain ⟨v, e⟩ := Value.isStrOf_shape (show Value.isStrOf j (.str k u) = true from h)
    injection e
  · rintro rfl
    exact isTx k u
def Els (P : Program) (w : World) (l : List (Int × Value)) : Prop := ∀ e ∈ l, ∃ k u, e = ((TxK P w).hash k, Value.str k u)
theorem els_of {l : List (Int × Value)} (g : Els P w l) : ElemsOf (TxK P w) l := fun e he => by
  obtain ⟨k, u, rfl⟩ := g e he
  exact ⟨⟨k, isTx k u, rfl⟩, rfl⟩
theorem quiet_if {r : String} (b : Bool) {s1 : Shared} {Q : Unit → Shared → Prop} (q : Q () s1) : wpAny (model P w) A (match b with | true => rule r | false => pure ()) Q E s1 := by
  cases b
  · exact wpAny_pure q
  · exact wpAny_rule q
/-- one text more -/
theorem put_tx (R : SS P w s.heap a L es ep t) {u : Tok} (room : L.length + 1 < scanBound) {Q : Bool → Shared → Prop}
    (fin : ∀ v h' L' es' ep' t', Heap.SameBut a s.heap h' → SS P w h' a L' es' ep' t' → (k ∈ L → L' = L) → (k ∉ L → L'.Perm (k :: L)) → Q v { s with heap := h' }) :
    wpAny (model P w) A (setAddHashed a (.str k u) ((TxK P w).hash k)) Q E s := by
  obtain ⟨⟨ob, og, ox, od⟩, els, key, dis, bd, fit, ris, led⟩ := id R
  have sc : (Value.str k u).scannable = true := rfl
  have zl : es.size = L.length := by rw [← key, List.length_map, Array.length_toList]
  unfold setAddHashed setAddHashedIn
  apply wpAny_holding; apply wpAny_bind
  apply wpAny_setState_of og od fit
  dsimp only
  rw [byScan_of sc bd (els_of els)]
  simp only [if_true]
  unfold setAddByScan
  apply wpAny_bind; apply wpAny_bind
  apply wpAny_rule; apply wpAny_bind
  apply wpAny_setScan_of (isTx k u) og od fit (els_of els)
  have mem : k ∈ L ↔ ∃ e ∈ es.toList, (TxK P w).is k e.2 = true := by
    rw [← key, List.mem_map]
    constructor <;> rintro ⟨e, he, h⟩ <;> obtain ⟨j, v, rfl⟩ := els e he
    · exact ⟨_, he, isTx_iff.mpr h⟩
    · exact ⟨_, he, isTx_iff.mp h⟩
  cases hf : List.findIdx? (fun e => (TxK P w).is k e.2) es.toList with
  | some j =>
    obtain ⟨hj, pj, _⟩ := List.findIdx?_eq_some_iff_getElem.mp hf
    have kL : k ∈ L := mem.mpr ⟨_, List.getElem_mem hj, pj⟩
    exact wpAny_pure (wpAny_pure (fin _ s.heap L es ep t (.refl a s.heap) R (fun _ => rfl) fun n => absurd kL n))
  | none =>
    have kL : k ∉ L := fun z => by
      obtain ⟨e, he, h⟩ := mem.mp z
      have c := List.findIdx?_eq_none_iff.mp hf e he
      rw [h] at c
      cases c
    dsimp only
    have pm := layNew_perm t es ((TxK P w).hash k) (.str k u)
    have f1 := layNew_fits t es ((TxK P w).hash k) (.str k u)
    have r1 := layNew_ris t es ((TxK P w).hash k) (.str k u) ris
    have d1 := layNew_led t es ((TxK P w).hash k) (.str k u)
    generalize layNew t es ((TxK P w).hash k) (.str k u) = Z at pm f1 r1 d1 ⊢
    obtain ⟨es1, t1, wd, gv⟩ := Z
    dsimp only at pm f1 r1 d1 ⊢
    rw [Array.toList_push] at pm
    have pc : es1.toList.Perm (((TxK P w).hash k, Value.str k u) :: es.toList) := pm.trans (List.perm_append_singleton ..)
    have els1 : ∀ e ∈ es1.toList, ∃ k u, e = ((TxK P w).hash k, Value.str k u) := fun e he => by
      cases pc.mem_iff.mp he with
      | head => exact ⟨k, u, rfl⟩
      | tail _ he => exact els e he
    have pk : (es1.toList.map fun e => strOf e.2).Perm (k :: L) := by
      rw [← key]
      exact pc.map _
    have z1 : es1.size = L.length + 1 := by rw [← Array.length_toList, pc.length_eq, List.length_cons, Array.length_toList, zl]
    have led1 : w.params.followText "set-order" = true ∨ t1.led = true := by
      rw [d1]
      exact led
    have tail : ∀ t2 : SetTable, t2.fits es1.size = true → Ris t2.place.toList → (w.params.followText "set-order" = true ∨ t2.led = true) → ∀ g : Bool → Sem Unit, (∀ (b : Bool) (s1 : Shared) (Q' : Unit → Shared → Prop), Q' () s1 → wpAny (model P w) A (g b) Q' E s1) →
        ∀ {R' : Option Bool → Shared → Prop}, (∀ h' L' es' ep' t', Heap.SameBut a s.heap h' → SS P w h' a L' es' ep' t' → L'.Perm (k :: L) → R' (some true) { s with heap := h' }) →
        wpAny (model P w) A (storeSet a es1 t2 >>= fun _ => if (!wd && t2.tooFull) = true then g (relayAll t2 es1 (SetTable.grown es1.size)).2.2 >>= fun _ => storeSet a (relayAll t2 es1 (SetTable.grown es1.size)).1 (relayAll t2 es1 (SetTable.grown es1.size)).2.1 >>= fun _ => pure (some true) else pure (some true)) R' E s := by
      intro t2 f2 r2 l2 g hg R' fin'
      apply wpAny_bind
      refine wpAny_storeSet_of og od ?_ (fits_of_scanBound (by omega))
      have sb : Heap.SameBut a s.heap (s.heap.update a (Obj.putSet es1 t2)) := .update ..
      have og1 := store_at (es' := es1) (t' := t2) og od
      split
      · have q1 := relayAll_perm t2 es1 (SetTable.grown es1.size)
        have q2 := relayAll_fits t2 es1 (SetTable.grown es1.size)
        have q3 := relayAll_ris t2 es1 (SetTable.grown es1.size)
        have q4 := relayAll_led t2 es1 (SetTable.grown es1.size)
        generalize relayAll t2 es1 (SetTable.grown es1.size) = Z at q1 q2 q3 q4 ⊢
        obtain ⟨es2, t3, gv3⟩ := Z
        dsimp only at q1 q2 q3 q4 ⊢
        have z2 : es2.size = es1.size := by rw [← Array.length_toList, q1.length_eq, Array.length_toList]
        apply wpAny_bind; apply hg; apply wpAny_bind
        refine wpAny_storeSet_of og1 rfl ?_ (fits_of_scanBound (by omega))
        refine wpAny_pure (fin' _ _ es2 _ t3 (sb.trans (.update ..)) ⟨⟨_, store_at og1 rfl, ox, rfl⟩, fun e he => els1 e (q1.mem_iff.mp he), rfl, ?_, by omega, q2, q3, by rw [q4]; exact l2⟩ ((q1.map _).trans pk))
        exact ((q1.map _).trans pk).nodup_iff.mpr (List.nodup_cons.mpr ⟨kL, dis⟩)
      · exact wpAny_pure (fin' _ _ es1 _ t2 sb ⟨⟨_, og1, ox, rfl⟩, els1, rfl, pk.nodup_iff.mpr (List.nodup_cons.mpr ⟨kL, dis⟩), by omega, f2, r2, l2⟩ pk)
    apply wpAny_bind; apply quiet_if
    split
    · apply wpAny_bind
      rw [hashByValue_scannable 8 sc]
      apply wpAny_pure
      refine tail _ ?_ ?_ ?_ _ (fun b s1 Q' q => quiet_if b q) fun h' L' es' ep' t' sb R' pm' => wpAny_pure (fin true h' L' es' ep' t' sb R' (fun y => absurd y kL) fun _ => pm')
      · first | exact SetTable.fits_plain_off f1 | (split <;> first | exact f1 | exact SetTable.fits_plain_off f1)
      · first | exact r1 | (split <;> exact r1)
      · first | exact led1 | (split <;> exact led1)
    · apply wpAny_bind; apply wpAny_pure
      simp only [if_true]
      exact tail t1 f1 r1 led1 _ (fun b s1 Q' q => quiet_if b q) fun h' L' es' ep' t' sb R' pm' => wpAny_pure (fin true h' L' es' ep' t' sb R' (fun y => absurd y kL) fun _ => pm')
end
end ND
/-! ND26: set(list or tuple of texts). -/
namespace ND
open PySem PySem.Spec PyProof.Rows L2
structure Gx (ks : List Str) (i : Nat) (L : List Str) : Prop where
  key : ∀ z, z ∈ L ↔ z ∈ ks.take i
  len : L.length ≤ i
theorem Gx.zero (ks : List Str) : Gx ks 0 [] := ⟨fun z => by simp, Nat.le_refl 0⟩
theorem Gx.next {ks L L' : List Str} {i : Nat} {q : Str} (g : Gx ks i L) (e : ks[i]? = some q) (same : q ∈ L → L' = L) (more : q ∉ L → L'.Perm (q :: L)) : Gx ks (i + 1) L' := by
  have tk : ks.take (i + 1) = ks.take i ++ [q] := by rw [List.take_succ, e]; rfl
  by_cases c : q ∈ L
  · rw [same c]
    refine ⟨fun z => ?_, Nat.le_succ_of_le g.len⟩
    rw [tk, List.mem_append, ← g.key, List.mem_singleton]
    exact ⟨.inl, fun h => h.elim id fun h => h ▸ c⟩
  · have pm := more c
    refine ⟨fun z => ?_, ?_⟩
    · rw [tk, List.mem_append, ← g.key, pm.mem_iff, List.mem_cons, List.mem_singleton]
      exact or_comm
    · rw [pm.length_eq]
      exact Nat.succ_le_succ g.len
section
variable {P : Program} {w : World} {A : Around} {E : Value → Shared → Prop} {s : Shared}
theorem SS.kept {h h' : Heap} {a : Addr} {L : List Str} {es : Array (Int × Value)} {ep : Nat} {t : SetTable} (R : SS P w h a L es ep t) (ha : ∀ o, h.get? a = some o → h'.get? a = some o) : SS P w h' a L es ep t := by
  obtain ⟨⟨ob, og, r⟩, r2, r3, r4, r5, r6, r7, r8⟩ := R
  exact ⟨⟨ob, ha _ og, r⟩, r2, r3, r4, r5, r6, r7, r8⟩
theorem ss_new {h : Heap} {a : Addr} (og : h.get? a = some (newSet w)) : SS P w h a [] #[] 0 (.fresh 0 0 (!w.params.followText "set-order")) := by
  refine ⟨⟨_, og, ⟨rfl, rfl, rfl⟩, rfl⟩, fun e he => by simp at he, rfl, .nil, by decide, rfl, .nil, ?_⟩
  show _ ∨ (!w.params.followText "set-order") = true
  cases w.params.followText "set-order"
  · exact .inr rfl
  · exact .inl rfl
/-- the loop of set.update over texts -/
theorem fillx {I : Addr} {fp wr : List Addr} {G : Array GenState → Array GenState → Prop} {n : Nat} {Pv : Nat → Value → Prop} {St : Nat → Shared → Prop} {R : Result → Shared → Prop} (W : WalksS P w A.in1 I fp wr G n Pv St)
    (S : Addr) (Sf : S ∉ fp) {ks : List Str} (hn : n = ks.length) (few : ks.length + 1 < scanBound) (val : ∀ i v, Pv i v → ∃ q u, ks[i]? = some q ∧ v = .str q u) {h0 : Heap} (S0 : h0.get? S = none) (w0 : ∀ b ∈ wr, h0.get? b = none) :
    ∀ (m i : Nat) (s : Shared), n - i = m → i ≤ n → St i s → Old h0 s.heap → (∃ L es ep t, SS P w s.heap S L es ep t ∧ Gx ks i L) →
      (∀ s' L es ep t, Moved (S :: wr) G s s' → SS P w s'.heap S L es ep t → Gx ks n L → Old h0 s'.heap → R (.ok (.ret .none)) s') →
      codeAny (model P w) A (.builtin "set.update.loop" ⟨[.ref S, .ref I], []⟩) R s := by
  have Sw : S ∉ wr := fun h => Sf (W.sub _ h)
  have up : ∀ b ∈ wr, b ∈ S :: wr := fun _ h => .tail _ h
  have still : ∀ {s s' : Shared}, Moved wr G s s' → Old h0 s.heap → Old h0 s'.heap := fun mv old b o e => mv.heap b o (fun hb => by cases (w0 b hb).symm.trans e) (old b o e)
  intro m
  induction m with
  | zero =>
    intro i s e hi st old ⟨L, es, ep, t, R0, g⟩ fin
    obtain rfl : i = n := by omega
    apply codeAny_builtin F.entry_set_update_loop; rw [Around.under_plainId F.plain_set_update_loop _]
    apply wpAny_bind
    refine W.done s _ _ st fun s1 mv => wpAny_pure ?_
    exact fin s1 L es ep t (mv.mono up) (R0.kept fun o => mv.heap S o Sw) g (still mv old)
  | succ m ih =>
    intro i s e hi st old ⟨L, es, ep, t, R0, g⟩ fin
    have lt : i < n := by omega
    apply codeAny_builtin F.entry_set_update_loop; rw [Around.under_plainId F.plain_set_update_loop _]
    apply wpAny_bind
    refine W.item i s _ _ lt st fun v s1 pv st1 mv => ?_
    obtain ⟨q, u, eq, rfl⟩ := val i v pv
    have old1 := still mv old
    have R1 : SS P w s1.heap S L es ep t := R0.kept fun o => mv.heap S o Sw
    show wpAny _ A.in1 (holding [.str q u] (setAdd S (.str q u)) >>= _) _ _ s1
    apply wpAny_bind
    apply wpAny_holding
    unfold setAdd
    apply wpAny_holding
    apply wpAny_bind
    apply (TxK P w).pyHash (isTx q u)
    refine put_tx (s := { s1 with toks := s1.toks + 1 }) R1 (by have := g.len; omega) fun v h2 L2 es2 ep2 t2 sb R2 c1 c2 => ?_
    have off : ∀ {b : Addr}, b ≠ S → h2.get? b = s1.heap.get? b := fun ne => sb.2 _ ne
    have old2 : Old h0 h2 := fun b o e => (off fun z => by rw [z, S0] at e; cases e).trans (old1 b o e)
    refine wpAny_pure ⟨plainId_quiet F.plain_set_update_loop _, ih (i + 1) _ (by omega) lt (W.frame _ s1 _ _ st1 (Nat.le_add_right ..) fun b hb o e => (off fun z => Sf (z ▸ hb)).trans e) old2
      ⟨L2, es2, ep2, t2, R2, g.next eq c1 c2⟩ fun s3 L3 es3 ep3 t3 mv3 R3 g3 old3 => ?_⟩
    refine fin s3 L3 es3 ep3 t3 (.trans W.gtrans ((mv.mono up).then_heap (Nat.le_add_right ..) fun b o hb e => ?_) mv3) R3 g3 old3
    exact (off fun z => hb (z ▸ .head _)).trans e
def SetMadeX (P : Program) (w : World) (ks : List Str) (s s' : Shared) : Prop :=
  ∃ h' tk L es ep t, s' = { s with heap := h', toks := tk } ∧ SS P w h' s.heap.objs.size L es ep t ∧ Gx ks ks.length L ∧ Old s.heap h'
def Txs (its : List Value) (ks : List Str) : Prop := its.length = ks.length ∧ ∀ (i : Nat) (v : Value), its[i]? = some v → ∃ q u, ks[i]? = some q ∧ v = .str q u
/-- the new set's __init__, over a list -/
theorem setx_init {l : Addr} {its : Array Value} {ks : List Str} (hh : A.handled = none) (hl : s.heap.IsList l its) (ei : Txs its.toList ks) (few : ks.length + 1 < scanBound) :
    wpAny (model P w) A (Builtin.«set.__init__» ⟨[.ref s.heap.objs.size, .ref l], []⟩) (fun f s' => f = .done (.ret .none) ∧ SetMadeX P w ks s s') E (withSet w s) := by
  have zi : its.size = ks.length := by rw [← Array.length_toList, ei.1]
  obtain ⟨ol, og, oc, nl, od⟩ := hl
  obtain ⟨oc', odict, odata, oslots⟩ := ol
  cases oc
  cases od
  have lS : l < s.heap.objs.size := Heap.lt_size og
  have gS : (withSet w s).heap.get? s.heap.objs.size = some (newSet w) := Heap.get?_push_size _ rfl
  have tS : Shared.TypeIs (withSet w s) (.ref s.heap.objs.size) "set" := ⟨_, gS, rfl⟩
  have zp : (withSet w s).heap.objs.size = s.heap.objs.size + 1 := Heap.size_push ..
  have og1 : (withSet w s).heap.get? l = some { cls := .type "list", dict := odict, data := .seq its nl, slots := oslots } := Heap.get?_push_of_some _ og
  have isl : (withSet w s).heap.IsList l its := ⟨_, og1, rfl, nl, rfl⟩
  have f1 := F.sub_list_set
  have f2 := F.sub_list_frozenset
  have f3 : (Value.type "list" == Value.type "dict") = false := rfl
  unfold Builtin.«set.__init__» noKeywords Builtin.Frozenset.updateFrom
  generalize pi : pyIter = PI
  wp_walk
  subst pi
  apply wpAny_pyIter_list isl
  apply wpAny_bind
  apply wpAny_runValue
  have h1 : A.in1.handled = none := by simp [hh]
  have ne : l ≠ (withSet w s).heap.objs.size := zp ▸ Nat.ne_of_lt (Nat.lt_succ_of_lt lS)
  have Sf : s.heap.objs.size ∉ [(withSet w s).heap.objs.size, l] := by
    rw [zp]
    intro z
    rcases List.mem_cons.mp z with z | z
    · exact absurd z (Nat.ne_of_lt (Nat.lt_succ_self _))
    · exact Nat.ne_of_gt lS (List.mem_singleton.mp z)
  refine fillx ((Walks.list h1 _ l ne its).toS) s.heap.objs.size Sf zi few (fun i v e => ei.2 i v (by rw [Array.getElem?_toList]; exact e)) (not_yet (Nat.le_refl _)) (fun b hb => not_yet ?_) its.size 0 _ (Nat.sub_zero _) (Nat.zero_le _)
    ⟨⟨_, Heap.get?_push_size _ rfl, rfl, rfl⟩, isl.push _⟩ (fun b o e => Heap.get?_push_of_some _ (Heap.get?_push_of_some _ e)) ⟨[], #[], 0, _, ss_new (Heap.get?_push_of_some _ gS), .zero ks⟩ fun s1 L es ep t mv R g old => ?_
  · rw [List.mem_singleton.mp hb, zp]
    exact Nat.le_succ _
  · obtain ⟨h1, g1, d1, t1, o1⟩ := s1
    obtain rfl : g1 = s.gens := mv.gens
    obtain rfl : d1 = s.drawn := mv.drawn
    obtain rfl : o1 = s.os := mv.os
    rw [zi] at g
    exact wpAny_pure (wpAny_pure ⟨rfl, h1, t1, L, es, ep, t, rfl, R, g, old⟩)
/-- set(x), once the __init__ is told -/
theorem setx_call {l : Addr} {Z : Shared → Shared → Prop} {Q : Value → Shared → Prop} (init : wpAny (model P w) A.in1.in1 (Builtin.«set.__init__» ⟨[.ref s.heap.objs.size, .ref l], []⟩) (fun f s' => f = .done (.ret .none) ∧ Z s s') E (withSet w s))
    (fin : ∀ s', Z s s' → Q (.ref s.heap.objs.size) s') : wpAny (model P w) A (call (.type "set") [.ref l]) Q E s := by
  obtain ⟨c, tl, mro⟩ := F.called_set.mro
  have a1 := F.called_set.made
  have a2 := F.called_set.sub
  have a3 := F.called_set.notType
  have a4 := F.called_set.canCreate
  have a5 := F.typeCall_set_1 (.ref l)
  apply wpAny_call
  apply codeAny_of_tree
  show wpAny _ _ (callAny (.type "set") ⟨[.ref l], []⟩) _ _ s
  refine wpAny_pure ⟨Code.quiet_builtin _ (by decide +kernel), codeAny_builtin (F.entry_type_call) ?_⟩
  rw [Around.under_plain (weight_type_call_type "set" [.ref l] []) rfl]
  repeat (any_goals first | assumption | wp_step)
  refine codeAny_mono (code_set_led1 (.ref l) (E := E) (Q₁ := fun v s1 => v = .ref s.heap.objs.size ∧ s1 = withSet w s) ⟨rfl, rfl⟩) fun r s1 h1 => ?_
  rcases r with e | r
  · exact h1
  cases r with
  | ret v =>
    obtain ⟨rfl, rfl⟩ := h1
    have tS : Shared.TypeIs (withSet w s) (.ref s.heap.objs.size) "set" := ⟨_, Heap.get?_push_size _ rfl, rfl⟩
    have b1 := F.called_set.init.lookup
    have b2 := F.called_set.init.bind (.ref s.heap.objs.size)
    repeat (any_goals first | assumption | wp_step)
    refine codeAny_mono (codeAny_call_builtin (R := wants (fun v s2 => v = .none ∧ Z s s2) E) F.called_set.init.plain F.entry_set_init (check_set_init_1 tS ?_)) fun r s2 h2 => ?_
    · exact wpAny_mono init (fun f s2 ⟨e, z⟩ => by subst e; exact ⟨rfl, z⟩) fun _ _ z => z
    · rcases r with e | r
      · exact h2
      cases r with
      | ret v =>
        obtain ⟨rfl, h2⟩ := h2
        repeat (any_goals first | assumption | wp_step)
        exact fin s2 h2
      | _ => exact h2.elim
  | _ => exact h1.elim
end
end ND
/-! ND27: sorted(set(..)) of texts, as data. -/
namespace ND
open PySem PySem.Spec PyProof.Rows L2
section
variable {P : Program} {w : World} {A : Around} {E : Value → Shared → Prop} {s : Shared}
/-- the new set's __init__, over a tuple -/
theorem setx_initT {l : Addr} {its : Array Value} {ks : List Str} (hh : A.handled = none) (hl : s.heap.IsTuple l its) (ei : Txs its.toList ks) (few : ks.length + 1 < scanBound) :
    wpAny (model P w) A (Builtin.«set.__init__» ⟨[.ref s.heap.objs.size, .ref l], []⟩) (fun f s' => f = .done (.ret .none) ∧ SetMadeX P w ks s s') E (withSet w s) := by
  have zi : its.size = ks.length := by rw [← Array.length_toList, ei.1]
  obtain ⟨ol, og, oc, nl, od⟩ := hl
  obtain ⟨oc', odict, odata, oslots⟩ := ol
  cases oc
  cases od
  have lS : l < s.heap.objs.size := Heap.lt_size og
  have gS : (withSet w s).heap.get? s.heap.objs.size = some (newSet w) := Heap.get?_push_size _ rfl
  have tS : Shared.TypeIs (withSet w s) (.ref s.heap.objs.size) "set" := ⟨_, gS, rfl⟩
  have zp : (withSet w s).heap.objs.size = s.heap.objs.size + 1 := Heap.size_push ..
  have og1 : (withSet w s).heap.get? l = some { cls := .type "tuple", dict := odict, data := .seq its nl, slots := oslots } := Heap.get?_push_of_some _ og
  have isl : (withSet w s).heap.IsTuple l its := ⟨_, og1, rfl, nl, rfl⟩
  have f1 := F.sub_tuple_set
  have f2 := F.sub_tuple_frozenset
  have f3 : (Value.type "tuple" == Value.type "dict") = false := rfl
  unfold Builtin.«set.__init__» noKeywords Builtin.Frozenset.updateFrom
  generalize pi : pyIter = PI
  wp_walk
  subst pi
  apply wpAny_pyIter_tuple isl
  apply wpAny_bind
  apply wpAny_runValue
  have h1 : A.in1.handled = none := by simp [hh]
  have ne : l ≠ (withSet w s).heap.objs.size := zp ▸ Nat.ne_of_lt (Nat.lt_succ_of_lt lS)
  have Sf : s.heap.objs.size ∉ [(withSet w s).heap.objs.size, l] := by
    rw [zp]
    intro z
    rcases List.mem_cons.mp z with z | z
    · exact absurd z (Nat.ne_of_lt (Nat.lt_succ_self _))
    · exact Nat.ne_of_gt lS (List.mem_singleton.mp z)
  refine fillx ((Walks.tuple h1 _ l ne its).toS) s.heap.objs.size Sf zi few (fun i v e => ei.2 i v (by rw [Array.getElem?_toList]; exact e)) (not_yet (Nat.le_refl _)) (fun b hb => not_yet ?_) its.size 0 _ (Nat.sub_zero _) (Nat.zero_le _)
    ⟨⟨_, Heap.get?_push_size _ rfl, rfl, rfl⟩, isl.at fun o e => Heap.get?_push_of_some _ e⟩ (fun b o e => Heap.get?_push_of_some _ (Heap.get?_push_of_some _ e)) ⟨[], #[], 0, _, ss_new (Heap.get?_push_of_some _ gS), .zero ks⟩ fun s1 L es ep t mv R g old => ?_
  · rw [List.mem_singleton.mp hb, zp]
    exact Nat.le_succ _
  · obtain ⟨h1, g1, d1, t1, o1⟩ := s1
    obtain rfl : g1 = s.gens := mv.gens
    obtain rfl : d1 = s.drawn := mv.drawn
    obtain rfl : o1 = s.os := mv.os
    rw [zi] at g
    exact wpAny_pure (wpAny_pure ⟨rfl, h1, t1, L, es, ep, t, rfl, R, g, old⟩)
/-- sorted(x), x a set of texts -/
theorem ss_sorted {a : Addr} {L : List Str} {es : Array (Int × Value)} {ep : Nat} {t : SetTable} (R : SS P w s.heap a L es ep t) (hh : A.handled = none) (few : L.length < 1000) (hu : A.units + 10 < cLine) {Q : Value → Shared → Prop}
    (fin : ∀ s' p (out : List Value) (c : Nat) (bs : List Str), Old s.heap s'.heap → s'.gens = s.gens → s'.os = s.os → s.heap.objs.size ≤ p → s'.heap.get? p = some (seqObj "list" out.toArray c) → bs.Perm L →
      PySem.W.EachIs (fun v (d : PyData) => ∃ k u, d = .str k ∧ v = Value.str k u) out ((bs.map PyData.str).mergeSort (PySem.W.dataLe false fun d => d)) → Q (.ref p) s') :
    wpAny (model P w) A (call (.builtin "sorted") [.ref a]) Q E s := by
  obtain ⟨⟨ob, og, ox, od⟩, els, key, dis, bd, fit, ris, led⟩ := id R
  apply Calls.call_function_entry kind_sorted plain_sorted entry_sorted (args_sorted1 _)
  unfold Builtin.«sorted»
  apply wpAny_bind
  refine wpAny_pure (wpAny_bind (collect_set (A := A.in1) hh ⟨ob, og, ox.1, od⟩ fit bd ris led fun s1 vs k1 hz g1 o1 pm => ?_))
  have lv : vs.length = L.length := by rw [pm.length_eq, List.length_map, ← key, List.length_map]
  have sv : ∀ v ∈ vs, ∃ k u, v = Value.str k u := fun v hv => by
    obtain ⟨e, he, rfl⟩ := List.mem_map.mp (pm.mem_iff.mp hv)
    obtain ⟨k, u, rfl⟩ := els e he
    exact ⟨k, u, rfl⟩
  have pb : (vs.map strOf).Perm L := by
    have := pm.map strOf
    rw [List.map_map] at this
    rw [← key]
    exact this
  have each : ∀ l : List Value, (∀ v ∈ l, ∃ k u, v = Value.str k u) → PySem.W.EachIs (fun v (d : PyData) => ∃ k u, d = .str k ∧ v = Value.str k u) l ((l.map strOf).map PyData.str) := by
    intro l
    induction l with
    | nil => exact fun _ => .nil
    | cons v l ih =>
      intro h
      obtain ⟨k, u, rfl⟩ := h v (.head _)
      exact .cons ⟨k, u, rfl, rfl⟩ (ih fun x hx => h x (.tail _ hx))
  apply wpAny_bind
  refine wpAny_newList ?_ (by rw [lv, sizeLine_eq]; omega)
  have oL : (s1.heap.push (seqObj "list" vs.toArray 0)).get? s1.heap.objs.size = some (seqObj "list" vs.toArray 0) := Heap.get?_push_size _ rfl
  apply wpAny_bind
  apply wpAny_holding
  refine PySem.W.list_sort_data (s := { s1 with heap := s1.heap.push (seqObj "list" vs.toArray 0) }) (enc := fun d => d) (bs := (vs.map strOf).map PyData.str) oL (each vs sv) (each_mono (each vs sv) fun v d ⟨k, u, e1, e2⟩ => ?_) ?_ ?_ ?_ ?_ fun out lo eo => ?_
  · subst e1
    subst e2
    exact ⟨[], .str k u, by simp⟩
  · intro d hd d' hd'
    simp only [List.map_id', List.mem_map] at hd hd'
    obtain ⟨k, _, rfl⟩ := hd
    obtain ⟨k', _, rfl⟩ := hd'
    show PySem.W.alike (.str k) (.str k') = true
    simp only [PySem.W.alike]
  · right
    intro d hd
    simp only [List.map_id', List.mem_map] at hd
    obtain ⟨k, _, rfl⟩ := hd
    exact ⟨(fun z => by cases z), (fun xs z => by cases z)⟩
  · rw [List.length_map, List.length_map, lv, sizeLine_eq]
    omega
  · intro d hd
    obtain ⟨k, _, rfl⟩ := List.mem_map.mp hd
    show A.units + 1 + 1 + _ < cLine
    simp [PyData.depth]
    omega
  · obtain ⟨c, hc⟩ := sortedHeap_at (vs := vs) (out := out.toArray) oL
    refine wpAny_pure ⟨_, rfl, fin _ _ out c _ (fun b o e => ?_) g1 o1 hz hc pb eo⟩
    have e1 := k1 b o e
    have lt := Heap.lt_size e1
    show (sortedHeap (s1.heap.push (seqObj "list" vs.toArray 0)) s1.heap.objs.size vs out.toArray).get? b = some o
    rw [sortedHeap_old (Nat.ne_of_lt lt) (by rw [Heap.size_push]; exact Nat.lt_succ_of_lt lt)]
    exact Heap.get?_push_of_some _ e1
/-! the rule -/
def leS (a b : Str) : Bool := decide (a.cps.toList ≤ b.cps.toList)
noncomputable def sortX (ks : List Str) : List Str := ks.mergeSort leS
theorem leS_trans (a b c : Str) (h : leS a b = true) (k : leS b c = true) : leS a c = true :=
  decide_eq_true (List.le_trans (of_decide_eq_true h) (of_decide_eq_true k))
theorem leS_total (a b : Str) : (leS a b || leS b a) = true := by
  rcases List.le_total a.cps.toList b.cps.toList with h | h <;> simp [leS, h]
theorem leS_anti {a b : Str} (h : leS a b = true) (k : leS b a = true) : a = b := by
  have := List.le_antisymm (of_decide_eq_true h) (of_decide_eq_true k)
  obtain ⟨⟨a⟩⟩ := a
  obtain ⟨⟨b⟩⟩ := b
  simp at this
  rw [this]
theorem sortX_perm {a b : List Str} (p : a.Perm b) : sortX a = sortX b := by
  refine List.Perm.eq_of_pairwise (le := fun x y => leS x y = true) (fun x y _ _ h k => leS_anti h k) ?_ ?_ ?_
  · exact List.pairwise_mergeSort leS_trans leS_total _
  · exact List.pairwise_mergeSort leS_trans leS_total _
  · exact (List.mergeSort_perm ..).trans (p.trans (List.mergeSort_perm ..).symm)
theorem sort_data (ks : List Str) : (ks.map PyData.str).mergeSort (PySem.W.dataLe false fun d => d) = (sortX ks).map PyData.str := by
  have e := PySem.W.dataLe_str (β := Str) fun k => k
  unfold sortX
  refine (List.map_mergeSort fun a _ b _ => ?_).symm
  have := congrFun (congrFun e a) b
  show decide _ = _
  rw [← this]
  rfl
/-! rows of texts, sorted -/
def rowL (l : List Tx) : D := .tuple (l.map T)
def leL (a b : List Tx) : Bool := decide (a ≤ b)
theorem leL_trans (a b c : List Tx) (h : leL a b = true) (k : leL b c = true) : leL a c = true :=
  decide_eq_true (List.le_trans (of_decide_eq_true h) (of_decide_eq_true k))
theorem leL_total (a b : List Tx) : (leL a b || leL b a) = true := by
  rcases List.le_total a b with h | h <;> simp [leL, h]
theorem leL_anti {a b : List Tx} (h : leL a b = true) (k : leL b a = true) : a = b := List.le_antisymm (of_decide_eq_true h) (of_decide_eq_true k)
def sortL (l : List (List Tx)) : List (List Tx) := l.mergeSort leL
theorem sortL_perm {a b : List (List Tx)} (p : a.Perm b) : sortL a = sortL b := by
  refine List.Perm.eq_of_pairwise (le := fun x y => leL x y = true) (fun x y _ _ h k => leL_anti h k) ?_ ?_ ?_
  · exact List.pairwise_mergeSort leL_trans leL_total _
  · exact List.pairwise_mergeSort leL_trans leL_total _
  · exact (List.mergeSort_perm ..).trans (p.trans (List.mergeSort_perm ..).symm)
theorem sortL_len (l : List (List Tx)) : (sortL l).length = l.length := (List.mergeSort_perm l leL).length_eq
theorem sortL_mem {l : List (List Tx)} {x : List Tx} : x ∈ sortL l ↔ x ∈ l := (List.mergeSort_perm l leL).mem_iff
theorem sortL_snoc (l : List (List Tx)) (k : List Tx) : sortL (sortL l ++ [k]) = sortL (l ++ [k]) := sortL_perm ((List.mergeSort_perm l leL).append_right [k])
theorem alike_rows : ∀ l m : List Tx, l.length = m.length → PySem.W.alikeAll (l.map T) (m.map T) = true
  | [], [], _ => by simp [PySem.W.alikeAll]
  | a :: l, b :: m, h => by
    have h : l.length = m.length := by simpa using h
    simp [PySem.W.alikeAll, PySem.W.alike, T, alike_rows l m h]
  | [], _ :: _, h => by simp at h
  | _ :: _, [], h => by simp at h
theorem lt_rows : ∀ l m : List Tx, l.length = m.length → PyProof.Rows.lexLt PyProof.Rows.itemOrd (PySem.W.keyToksAll (l.map T)) (PySem.W.keyToksAll (m.map T)) = decide (l < m)
  | [], [], _ => by simp [PySem.W.keyToksAll, PyProof.Rows.lexLt]; rfl
  | a :: l, b :: m, h => by
    have h : l.length = m.length := by simpa using h
    rw [List.map_cons, List.map_cons, PySem.W.dataLt_cons (by simp [T, PySem.W.alike]), lt_rows l m h, eqv_T]
    by_cases e : a = b
    · subst e
      simp [List.cons_lt_cons_iff]
    · have d : PySem.W.dataLt (T a) (T b) = decide (a < b) := by
        show PySem.W.dataLt (.str _) (.str _) = _
        rw [PySem.W.dataLt_str]
      rw [d]
      simp [List.cons_lt_cons_iff, e]
  | [], _ :: _, h => by simp at h
  | _ :: _, [], h => by simp at h
theorem rows_ok {n : Nat} (l : List (List Tx)) (h : ∀ x ∈ l, x.length = n + 1) : sortOk (l.map rowL) := by
  refine ⟨fun d hd d' hd' => ?_, .inl fun d hd => ?_, ?_⟩
  · obtain ⟨a, ha, rfl⟩ := List.mem_map.mp hd
    obtain ⟨b, hb, rfl⟩ := List.mem_map.mp hd'
    simp only [rowL, PySem.W.alike]
    exact alike_rows a b ((h a ha).trans (h b hb).symm)
  · obtain ⟨a, ha, rfl⟩ := List.mem_map.mp hd
    match a, h a ha with
    | x :: a, _ => exact ⟨_, _, rfl⟩
  · unfold depthOk
    rw [List.all_eq_true]
    intro d hd
    obtain ⟨a, _, rfl⟩ := List.mem_map.mp hd
    have : ∀ a : List Tx, PyData.depthAll (a.map T) ≤ 1 := fun a => by
      induction a with
      | nil => simp [PyData.depthAll]
      | cons x a ih => simp [PyData.depthAll, PyData.depth, T]; omega
    have := this a
    simp only [rowL, PyData.depth, decide_eq_true_eq]
    omega
theorem sortD_rows {n : Nat} (l : List (List Tx)) (h : ∀ x ∈ l, x.length = n + 1) : sortD (l.map rowL) = (sortL l).map rowL := by
  unfold sortD sortL
  refine (List.map_mergeSort fun a ha b hb => ?_).symm
  rw [PySem.W.dataLe_eq]
  show leL a b = (!PySem.W.dataLt (rowL b) (rowL a))
  unfold rowL
  rw [PySem.W.dataLt_tuple, lt_rows b a ((h b hb).trans (h a ha).symm)]
  unfold leL
  rw [Bool.eq_iff_iff]
  simp only [decide_eq_true_eq, Bool.not_eq_true', decide_eq_false_iff_not, List.not_lt]
theorem sorted_rowL {n : Nat} (l : List (List Tx)) (h : ∀ x ∈ l, x.length = n + 1) : fSorted [.list (l.map rowL)] = .ok (.list ((sortL l).map rowL)) := by
  unfold fSorted
  dsimp only
  rw [if_pos (rows_ok l h), sortD_rows l h]
def txs (k : List Str) : List Tx := k.map fun x => x.cps.toList
theorem txs_inj {a b : List Str} (h : txs a = txs b) : a = b := by
  unfold txs at h
  refine (List.map_inj_right (f := fun x : Str => x.cps.toList) fun x y e => ?_).mp h
  obtain ⟨⟨x⟩⟩ := x
  obtain ⟨⟨y⟩⟩ := y
  simp at e
  rw [e]
theorem row_txs (k : List Str) : (.tuple (k.map PyData.str) : D) = rowL (txs k) := by
  unfold rowL txs
  rw [List.map_map]
  rfl
def rowsOk : List (List Tx) → Bool
  | [] => true
  | k :: l => !k.isEmpty && l.all fun x => x.length == k.length
theorem rowsOk_at : ∀ {l : List (List Tx)}, rowsOk l = true → ∃ n, ∀ x ∈ l, x.length = n + 1
  | [], _ => ⟨0, fun _ h => by cases h⟩
  | k :: l, h => by
    simp only [rowsOk, Bool.and_eq_true, List.all_eq_true, beq_iff_eq] at h
    match k, h with
    | a :: k, h => exact ⟨k.length, fun x hx => (List.mem_cons.mp hx).elim (fun e => by rw [e]; rfl) fun z => h.2 x z⟩
noncomputable def sortKeys : D → R D
  | .list zs => match keysOf zs with
    | some kk => if kk.length < 64 ∧ rowsOk (kk.map txs) = true then .ok (.list ((sortL (diffs (kk.map txs))).map rowL)) else .bad
    | none => .bad
  | _ => .bad
def seqD : D → Option (List D)
  | .list zs => some zs
  | .tuple zs => some zs
  | _ => none
noncomputable def sortSet (d : D) : R D := match seqD d with
  | some zs => match txL zs with
    | some ks => if ks.length < 1000 then .ok (.list ((sortX (diffs ks)).map PyData.str)) else .bad
    | none => sortKeys d
  | none => .bad
noncomputable def gSortedSet (g : G → R D) : G → R D := fun Γ => (g Γ).bind sortSet
end
section
variable {X : Cx} {pins : List (Addr × Obj)} {σ : L2.St} {H : Hp} {s : Shared} {B : Hp} {E : L2.St → XK}
theorem txs_at {K : PySem.W.Frag} {F : Hp} : ∀ {zs : List D} {xs : List V} {us : List Value} {ks : List Str}, DpAll K F xs zs → Vals xs us → txL zs = some ks → Txs us ks
  | [], _, _, _, .nil, .nil, e => by
    cases e
    exact ⟨rfl, fun i v h => by simp at h⟩
  | .str x :: zs, _, _, _, .cons (.str _) h2, .cons ⟨t, rfl⟩ r2, e => by
    cases e2 : txL zs with
    | none =>
      rw [txL, e2] at e
      cases e
    | some k2 =>
      rw [txL, e2] at e
      cases e
      obtain ⟨a, b⟩ := txs_at h2 r2 e2
      refine ⟨by rw [List.length_cons, List.length_cons, a], fun i v h => ?_⟩
      cases i with
      | zero =>
        cases h
        exact ⟨x, t, rfl, rfl⟩
      | succ i => exact b i v h
theorem sorted_set_run (hr : RU X.A) (hc : X.calm = true) {F : Hp} {Q : VK} {L ks : List Str} {es : Array (Int × Value)} {ep : Nat} {t : SetTable} {a : Addr} (I : Inv X pins σ H s) (sm : Same F H) (R : SS X.prog X.w s.heap a L es ep t) (g : Gx ks ks.length L) (few : ks.length < 1000)
    (q : ∀ v F' H', Ext F H F' H' → Dp X.K F' v (.list ((sortX (diffs ks)).map PyData.str)) → Q v H') : wpAny (model X.prog X.w) X.A (call (.builtin "sorted") [.ref a]) (EP X pins σ Q) X.xe s := by
  refine ss_sorted R (I.ok.hd hc) (Nat.lt_of_le_of_lt g.len few) (by have := hr.un; omega) fun s' p out c bs old g1 o1 hp hg pm eo => ?_
  have pl : L.Perm (diffs ks) := (List.perm_ext_iff_of_nodup R.dis (nodup_diffs ks)).mpr fun z => by rw [g.key, List.take_length, mem_diffs]
  rw [sort_data, sortX_perm (pm.trans pl)] at eo
  obtain ⟨vs, rvs, dvs⟩ := of_each (K := X.K) (F := F) (each_mono eo fun u d ⟨k, t, e1, e2⟩ => (⟨.str k, by rw [e2]; exact ⟨t, rfl⟩, by rw [e1]; exact .str k⟩ : ∃ v, RelV v u ∧ Dp X.K F v d))
  have hn : H p = none := I.hok.fresh hp
  have hz : vs.length ≤ sizeLine := by
    have z1 := dpa_length dvs
    have z2 : (sortX (diffs ks)).length = (diffs ks).length := List.length_mergeSort ..
    have z3 := diffs_le ks
    rw [z1, List.length_map, z2, sizeLine_eq]
    omega
  have J : Inv X pins σ (upd H p (.lst vs)) { s with heap := s'.heap, gens := s'.gens, drawn := s'.drawn, toks := s'.toks } :=
    I.call (ch := []) (Un.laid old hp hn) (I.hok.laid old hp ⟨hz, out, c, rvs, hg⟩) (by rw [g1]; exact I.bare) (fun _ z => nomatch z)
  have e : s' = { s with heap := s'.heap, gens := s'.gens, drawn := s'.drawn, toks := s'.toks } := by
    cases s'; cases s; cases o1
    rfl
  rw [e]
  have fin : Fin X.K F H (.list ((sortX (diffs ks)).map PyData.str)) Q := q
  exact ⟨.ref p, _, J, rfl, fin.newL sm dvs _ hn⟩
theorem perm_map_ex {α β : Type} (f : α → β) {vs : List β} : ∀ {L : List α}, vs.Perm (L.map f) → ∃ L' : List α, L'.Perm L ∧ vs = L'.map f := by
  have key : ∀ {vs us : List β}, vs.Perm us → ∀ L : List α, us = L.map f → ∃ L' : List α, L'.Perm L ∧ vs = L'.map f := by
    intro vs us h
    induction h with
    | nil => exact fun L e => ⟨L, .refl _, e⟩
    | cons x _ ih =>
      intro L e
      match L, e with
      | a :: L, e =>
        rw [List.map_cons] at e
        injection e with e1 e2
        obtain ⟨L', p, q⟩ := ih L e2
        exact ⟨a :: L', p.cons a, by rw [List.map_cons, q, e1]⟩
    | swap x y l =>
      intro L e
      match L, e with
      | a :: b :: L, e =>
        simp only [List.map_cons, List.cons.injEq] at e
        obtain ⟨e1, e2, e3⟩ := e
        exact ⟨b :: a :: L, .swap .., by simp [e1, e2, e3]⟩
    | trans _ _ ih1 ih2 =>
      intro L e
      obtain ⟨L1, p1, e1⟩ := ih2 L e
      obtain ⟨L2, p2, e2⟩ := ih1 L1 e1
      exact ⟨L2, p2.trans p1, e2⟩
  exact fun {L} h => key h L rfl
theorem each_map2 {α : Type} {R : Value → D → Prop} {f : α → Value} {g : α → D} : ∀ {l : List α}, (∀ a ∈ l, R (f a) (g a)) → PySem.W.EachIs R (l.map f) (l.map g)
  | [], _ => .nil
  | a :: l, h => .cons (h a (.head _)) (each_map2 fun x hx => h x (.tail _ hx))
theorem sortedK_run (hr : RU X.A) (hc : X.calm = true) {F : Hp} {Q : VK} {L ks : List (Addr × List Str)} {es : Array (Int × Value)} {ep : Nat} {t : SetTable} {a : Addr} (I : Inv X pins σ H s) (sm : Same F H) (R : SK X.prog X.w s.heap a L es ep t) (g : Gt ks ks.length L)
    (dp : ∀ q ∈ ks, ∃ v, RelV v (.ref q.1) ∧ Dp X.K F v (rowL (txs q.2))) (rows : rowsOk ((ks.map (·.2)).map txs) = true)
    (q : ∀ v F' H', Ext F H F' H' → Dp X.K F' v (.list ((sortL (diffs ((ks.map (·.2)).map txs))).map rowL)) → Q v H') : wpAny (model X.prog X.w) X.A (call (.builtin "sorted") [.ref a]) (EP X pins σ Q) X.xe s := by
  obtain ⟨ob, og, ox, od⟩ := R.obj
  obtain ⟨n, hw⟩ := rowsOk_at rows
  have z := rws_size R.ents
  have few := R.sm
  apply Calls.call_function_entry kind_sorted plain_sorted entry_sorted (args_sorted1 _)
  unfold Builtin.«sorted»
  apply wpAny_bind
  refine wpAny_pure (wpAny_bind (collect_set (A := X.A.in1) (I.ok.hd hc) ⟨ob, og, ox.1, od⟩ R.fits (by unfold scanBound; omega) R.tb.ris R.led fun s1 vs k1 hz g1 o1 pm => ?_))
  rw [R.ents, List.map_map] at pm
  obtain ⟨L', pL, rfl⟩ := perm_map_ex _ pm
  have lL : L'.length = L.length := pL.length_eq
  have sub : ∀ q ∈ L', q ∈ ks := fun q hq => by
    have := g.sub q (pL.mem_iff.mp hq)
    rwa [List.take_length] at this
  have wide : ∀ x ∈ L'.map (fun q => txs q.2), x.length = n + 1 := fun x hx => by
    obtain ⟨p, hp, rfl⟩ := List.mem_map.mp hx
    exact hw _ (List.mem_map.mpr ⟨p.2, List.mem_map.mpr ⟨p, sub p hp, rfl⟩, rfl⟩)
  have bsE : L'.map (fun q => rowL (txs q.2)) = (L'.map fun q => txs q.2).map rowL := by rw [List.map_map]; rfl
  obtain ⟨hal, hso, hdp⟩ := rows_ok _ wide
  rw [← bsE] at hal hso hdp
  have e : PySem.W.EachIs (fun u (d : D) => ∃ v, RelV v u ∧ Dp X.K F v d) (L'.map fun q => Value.ref q.1) (L'.map fun q => rowL (txs q.2)) := each_map2 fun p hp => dp p (sub p hp)
  have e2 : (L'.map ((fun x : Int × Value => x.2) ∘ fun q : Addr × List Str => (hsT X.prog X.w q.2, Value.ref q.1))) = L'.map fun q => Value.ref q.1 := rfl
  rw [e2]
  apply wpAny_bind
  refine wpAny_newList ?_ (by rw [List.length_map, lL, sizeLine_eq]; omega)
  have oL : (s1.heap.push (seqObj "list" (L'.map fun q => Value.ref q.1).toArray 0)).get? s1.heap.objs.size = some (seqObj "list" (L'.map fun q => Value.ref q.1).toArray 0) := Heap.get?_push_size _ rfl
  have er : PySem.W.EachIs (fun u (d : D) => ∃ as, Reads (PySem.W.sortingHeap (s1.heap.push (seqObj "list" (L'.map fun q => Value.ref q.1).toArray 0)) s1.heap.objs.size (L'.map fun q => Value.ref q.1)) u d as) (L'.map fun q => Value.ref q.1) (L'.map fun q => rowL (txs q.2)) :=
    each_mono e fun u d ⟨v, r, k⟩ => by
      obtain ⟨as, rd⟩ := Dp.reads I d v u (dp_mono sm k) r
      exact ⟨as, PyProof.Rows.Reads.keeps (fun b o eb => by
        have e1 := k1 b o eb
        have lt := Heap.lt_size e1
        exact PySem.W.sortingHeap_old (Nat.ne_of_lt lt) (Heap.get?_push_of_some _ e1)) rd⟩
  apply wpAny_bind
  apply wpAny_holding
  have idm : (L'.map fun q => rowL (txs q.2)).map (fun d : D => d) = L'.map fun q => rowL (txs q.2) := List.map_id' _
  refine wpAny_call_entry slot_list_sort ⟨_, oL, rfl⟩ entry_list_sort (PySem.W.list_sort_vals (κ := PySem.W.dataKind (PySem.W.sortingHeap (s1.heap.push (seqObj "list" (L'.map fun q => Value.ref q.1).toArray 0)) s1.heap.objs.size (L'.map fun q => Value.ref q.1)) (L'.map fun q => rowL (txs q.2))) oL
    (PySem.W.SortsAt.data (s := { s1 with heap := PySem.W.sortingHeap (s1.heap.push (seqObj "list" (L'.map fun q => Value.ref q.1).toArray 0)) s1.heap.objs.size (L'.map fun q => Value.ref q.1) }) er hal hso fun d hd => ?_) (by rw [List.length_map, lL, sizeLine_eq]; omega) ⟨.none, rfl, ?_⟩) (args_list_sort _)
  · have h1 := List.all_eq_true.mp hdp d hd
    have h2 : d.depth ≤ 64 := of_decide_eq_true h1
    have := hr.un
    show X.A.units + 1 + 1 + d.depth < cLine
    omega
  · have eo := PySem.W.sortVals_data (enc := fun d : D => d) false e er (by rw [idm]; exact hal)
    rw [idm] at eo
    generalize PySem.W.sortVals (PySem.W.dataKind (PySem.W.sortingHeap (s1.heap.push (seqObj "list" (L'.map fun q => Value.ref q.1).toArray 0)) s1.heap.objs.size (L'.map fun q => Value.ref q.1)) (L'.map fun q => rowL (txs q.2))) false (L'.map fun q => Value.ref q.1) (L'.map fun q => Value.ref q.1) = out at eo ⊢
    have sE : (L'.map fun q => rowL (txs q.2)).mergeSort (PySem.W.dataLe false fun d => d) = (sortL (diffs ((ks.map (·.2)).map txs))).map rowL := by
      have := sortD_rows _ wide
      unfold sortD at this
      rw [bsE, this]
      congr 1
      refine sortL_perm ((List.perm_ext_iff_of_nodup ?_ (nodup_diffs _)).mpr fun x => ?_)
      · have d1 : (L'.map (·.2)).Nodup := (pL.map (·.2)).nodup_iff.mpr R.dis
        have e3 : (L'.map fun q => txs q.2) = (L'.map (·.2)).map txs := by rw [List.map_map]; rfl
        rw [e3]
        unfold List.Nodup at d1 ⊢
        rw [List.pairwise_map]
        exact d1.imp fun h e => h (txs_inj e)
      · rw [mem_diffs, List.mem_map, List.mem_map]
        constructor
        · rintro ⟨p, hp, rfl⟩
          exact ⟨p.2, List.mem_map.mpr ⟨p, sub p hp, rfl⟩, rfl⟩
        · rintro ⟨k, hk, rfl⟩
          have : k ∈ L.map (·.2) := (g.key k).mpr (by rw [List.take_length]; exact hk)
          obtain ⟨p, hp, rfl⟩ := List.mem_map.mp this
          exact ⟨p, pL.mem_iff.mpr hp, rfl⟩
    rw [sE] at eo
    obtain ⟨ws, rvs, dvs⟩ := of_each eo
    obtain ⟨c, hcc⟩ := sortedHeap_at (vs := L'.map fun q => Value.ref q.1) (out := out.toArray) oL
    have old : Old s.heap (sortedHeap (s1.heap.push (seqObj "list" (L'.map fun q => Value.ref q.1).toArray 0)) s1.heap.objs.size (L'.map fun q => Value.ref q.1) out.toArray) := fun b o eb => by
      have e1 := k1 b o eb
      have lt := Heap.lt_size e1
      rw [sortedHeap_old (Nat.ne_of_lt lt) (by rw [Heap.size_push]; exact Nat.lt_succ_of_lt lt)]
      exact Heap.get?_push_of_some _ e1
    have hn : H s1.heap.objs.size = none := I.hok.fresh hz
    have hzl : ws.length ≤ sizeLine := by
      have z1 := dpa_length dvs
      have z3 := diffs_le ((ks.map (·.2)).map txs)
      have z4 : (diffs ((ks.map (·.2)).map txs)).length = L.length := by
        have e3 := (diffs_len (l := L.map fun q => txs q.2) (m := (ks.map (·.2)).map txs) (by
          have e3 : (L.map fun q => txs q.2) = (L.map (·.2)).map txs := by rw [List.map_map]; rfl
          rw [e3]
          have d1 := R.dis
          unfold List.Nodup at d1 ⊢
          rw [List.pairwise_map]
          exact d1.imp fun h e => h (txs_inj e)) fun x => by
          rw [List.mem_map, List.mem_map]
          constructor
          · rintro ⟨p, hp, rfl⟩
            exact ⟨p.2, List.mem_map.mpr ⟨p, sub p (pL.mem_iff.mpr hp), rfl⟩, rfl⟩
          · rintro ⟨k, hk, rfl⟩
            have : k ∈ L.map (·.2) := (g.key k).mpr (by rw [List.take_length]; exact hk)
            obtain ⟨p, hp, rfl⟩ := List.mem_map.mp this
            exact ⟨p, hp, rfl⟩)
        rw [List.length_map] at e3
        exact e3.symm
      rw [z1, List.length_map, sortL_len, z4, sizeLine_eq]
      omega
    have J : Inv X pins σ (upd H s1.heap.objs.size (.lst ws)) { s with heap := sortedHeap (s1.heap.push (seqObj "list" (L'.map fun q => Value.ref q.1).toArray 0)) s1.heap.objs.size (L'.map fun q => Value.ref q.1) out.toArray, gens := s1.gens, drawn := s1.drawn, toks := s1.toks } :=
      I.call (ch := []) (Un.laid old hz hn) (I.hok.laid old hz ⟨hzl, out, c, rvs, hcc⟩) (by rw [g1]; exact I.bare) (fun _ z => nomatch z)
    obtain ⟨h1, g1', d1', t1', o1'⟩ := s1
    have o1 : o1' = s.os := o1
    subst o1
    have fin : Fin X.K F H (.list ((sortL (diffs ((ks.map (·.2)).map txs))).map rowL)) Q := q
    exact wpAny_pure ⟨_, rfl, .ref _, _, J, rfl, fin.newL sm dvs _ hn⟩
theorem tx_str : ∀ {ds : List D} {k : List Str}, txL ds = some k → ds = k.map PyData.str
  | [], _, e => by cases e; rfl
  | .str x :: ds, _, e => by
    cases e2 : txL ds with
    | none => rw [txL, e2] at e; cases e
    | some k2 =>
      rw [txL, e2] at e
      cases e
      rw [List.map_cons, tx_str e2]
theorem keys_dp {K : PySem.W.Frag} {F : Hp} : ∀ {zs : List D} {xs : List V} {us : List Value} {kk : List (List Str)} {ks : List (Addr × List Str)}, DpAll K F xs zs → Vals xs us → keysOf zs = some kk → ks.map (·.2) = kk → us = ks.map (fun q => Value.ref q.1) →
    ∀ q ∈ ks, ∃ v, RelV v (.ref q.1) ∧ Dp K F v (rowL (txs q.2))
  | [], _, _, _, ks, .nil, .nil, e, c1, _ => by
    cases e
    have := List.map_eq_nil_iff.mp c1
    subst this
    exact fun q hq => by cases hq
  | .tuple ds :: zs, _, _, _, ks, .cons (.tup (a := b) k1 k2) h2, .cons r1 r2, e, c1, c2 => by
    cases e1 : txL ds with
    | none => rw [keysOf, e1] at e; cases e
    | some k =>
      cases e2 : keysOf zs with
      | none => rw [keysOf, e1, e2] at e; cases e
      | some kk =>
        rw [keysOf, e1, e2] at e
        cases e
        match ks, c1, c2 with
        | p :: ks, c1, c2 =>
          simp only [List.map_cons, List.cons.injEq] at c1 c2
          intro q hq
          cases hq with
          | head =>
            refine ⟨.ref b, ?_, ?_⟩
            · rw [← c2.1]; exact r1
            · rw [c1.1, ← row_txs, ← tx_str e1]
              exact .tup k1 k2
          | tail _ hq => exact keys_dp h2 r2 e2 c1.2 c2.2 q hq
theorem d_sortedset {a : Expr} {p p2 q pos : Pos} {g : G → R D} (hr : RU X.A) (hc : X.calm = true) (hg : Gl X "sorted") (hm : X.mg "sorted" = none) (hg2 : Gl X "set") (hm2 : X.mg "set" = none) (ha : DE X B E a g)
    (na : starEach [a] X.env = (false, eval a X.env) :: starEach [] X.env := by rfl) : DE X B E (.Call (.Name "sorted" p) [.Call (.Name "set" p2) [a] [] q] [] pos) (gSortedSet g) := by
  refine ⟨fun pins s σ H Q I h => ?_⟩
  have hb := tD.bind (f := fun _ d => sortSet d) h
  refine Call_ (ld_blt I hg hm boot_sorted ?_) (by rfl)
  refine callWith_builtin1 (args_cons ?_ rfl) rfl rfl
  refine Call_ (ld_blt I hg2 hm2 boot_set ?_) (by rfl)
  refine callWith_type1 (args_cons (thn (ha.run pins s σ H _ I hb) fun v s1 ⟨x, H1, I1, r1, q1⟩ => args_nil ?_) na) na rfl
  obtain ⟨Γ, d, F1, sm, er, dp, o⟩ := q1
  have more : ∀ {l : Addr} {zs : List D} {ks : List Str}, v = .ref l → seqD d = some zs → txL zs = some ks → (wpAny (model X.prog X.w) X.A.in1.in1 (Builtin.«set.__init__» ⟨[.ref s1.heap.objs.size, .ref l], []⟩) (fun f s' => f = .done (.ret .none) ∧ SetMadeX X.prog X.w ks s1 s') X.xe (withSet X.w s1)) → ks.length < 1000 →
      wpAny (model X.prog X.w) X.A (call (.type "set") [v]) (fun v s2 => wpAny (model X.prog X.w) X.A (spliced (backTo pos (starEach [] X.env))) (fun vs s3 => wpAny (model X.prog X.w) X.A (call (.builtin "sorted") (v :: vs)) (EP X pins σ Q) X.xe s3) X.xe s2) X.xe s1 := by
    intro l zs ks ev ez ek init few
    subst ev
    refine setx_call (Z := SetMadeX X.prog X.w ks) init fun s2 hs => args_nil ?_
    obtain ⟨h2, tk, L, es, ep, t, rfl, R, gt, old⟩ := hs
    have I2 : Inv X pins σ H1 { s1 with heap := h2, toks := tk } := I1.kept old
    simp only [sortSet, ez, ek, few, if_true] at o
    exact sorted_set_run hr hc I2 sm R gt few o
  cases d with
  | list zs =>
    cases dp with
    | lst k1 k2 =>
      cases ek : txL zs with
      | none =>
        simp only [sortSet, seqD, ek, sortKeys] at o
        cases ekk : keysOf zs with
        | none =>
          simp only [ekk] at o
          exact o.elim
        | some kk =>
          simp only [ekk] at o
          by_cases fw : kk.length < 64 ∧ rowsOk (kk.map txs) = true
          · rw [if_pos fw] at o
            cases r1
            obtain ⟨its, rv, pl, hz⟩ := I1.list (sm.seq k1)
            obtain ⟨ks, c1, c2, c3⟩ := keys_at I1 (dpa_mono sm k2) rv ekk
            have lk : ks.length = kk.length := by rw [← c1, List.length_map]
            refine set_call (I1.ok.hd hc) pl.isList (by simpa using c2) c3 (by omega) (by have := hr.un; omega) fun s2 hs => args_nil ?_
            obtain ⟨h2, tk, L, es, ep, t, rfl, R, gt, old⟩ := hs
            have I2 : Inv X pins σ H1 { s1 with heap := h2, toks := tk } := I1.kept old
            rw [← c1] at o fw
            exact sortedK_run hr hc I2 sm R gt (keys_dp k2 rv ekk c1 c2) fw.2 o
          · rw [if_neg fw] at o
            exact o.elim
      | some ks =>
        by_cases few : ks.length < 1000
        · obtain ⟨its, rv, pl, hz⟩ := I1.list (sm.seq k1)
          refine more r1 rfl ek (setx_init (by simp [I1.ok.hd hc]) pl.isList (by simpa using txs_at k2 rv ek) (by unfold scanBound; omega)) few
        · simp only [sortSet, seqD, ek, few, if_false] at o
          exact o.elim
  | tuple zs =>
    cases dp with
    | tup k1 k2 =>
      cases ek : txL zs with
      | none =>
        simp only [sortSet, seqD, ek, sortKeys] at o
        exact o.elim
      | some ks =>
        by_cases few : ks.length < 1000
        · obtain ⟨its, rv, pl, hz⟩ := I1.tuple (same_seqT sm k1)
          refine more r1 rfl ek (setx_initT (by simp [I1.ok.hd hc]) pl (by simpa using txs_at k2 rv ek) (by unfold scanBound; omega)) few
        · simp only [sortSet, seqD, ek, few, if_false] at o
          exact o.elim
  | _ => exact o.elim
end
end ND
/-! ND28: text.replace of written texts. The library wants a token out ahead of it; a test that has read a written number has given one out. -/
namespace ND
open PySem PySem.Spec L2 PyProof.Rows
/-- tests with a token out ahead -/
def PTT (X : Cx) (e : Expr) (t : TT) : Prop :=
  ∀ (pins : List (Addr × Obj)) (s : Shared) (σ : L2.St) (H : Hp) (Q : Bool → Hp → Prop), 1 ≤ s.toks → Inv X pins σ H s → t σ H Q → wpAny (model X.prog X.w) X.A (isTrue e X.env (eval e X.env)) (TP X pins σ Q) X.xe s
def PWT (X : Cx) (e : Expr) (t : TT) : Prop :=
  ∀ (whole : Sem Value) (pins : List (Addr × Obj)) (s : Shared) (σ : L2.St) (H : Hp) (Q : Bool → Hp → Prop), 1 ≤ s.toks → Inv X pins σ H s → t σ H Q → wpAny (model X.prog X.w) X.A (isTrue e X.env whole) (TP X pins σ Q) X.xe s
/-- tests that give one out -/
def PTB (X : Cx) (e : Expr) (t : TT) : Prop :=
  ∀ (pins : List (Addr × Obj)) (s : Shared) (σ : L2.St) (H : Hp) (Q : Bool → Hp → Prop), Inv X pins σ H s → t σ H Q → wpAny (model X.prog X.w) X.A (isTrue e X.env (eval e X.env)) (fun b s' => 1 ≤ s'.toks ∧ TP X pins σ Q b s') X.xe s
/-- .. where they answer False -/
def PTM (X : Cx) (e : Expr) (t : TT) : Prop :=
  ∀ (pins : List (Addr × Obj)) (s : Shared) (σ : L2.St) (H : Hp) (Q : Bool → Hp → Prop), Inv X pins σ H s → t σ H Q → wpAny (model X.prog X.w) X.A (isTrue e X.env (eval e X.env)) (fun b s' => (b = false → 1 ≤ s'.toks) ∧ TP X pins σ Q b s') X.xe s
def PWM (X : Cx) (e : Expr) (t : TT) : Prop :=
  ∀ (whole : Sem Value) (pins : List (Addr × Obj)) (s : Shared) (σ : L2.St) (H : Hp) (Q : Bool → Hp → Prop), Inv X pins σ H s → t σ H Q → wpAny (model X.prog X.w) X.A (isTrue e X.env whole) (fun b s' => (b = false → 1 ≤ s'.toks) ∧ TP X pins σ Q b s') X.xe s
section
variable {X : Cx} {e a b c : Expr} {rest : List Expr} {pos : Pos} {t tA tB' ta' : TT} {ta tb tc te : TE}
theorem PWM.pt (h : PWM X e t) : PTM X e t := h _
theorem PTB.m (h : PTB X e t) : PTM X e t := fun pins s σ H Q I q => thn (h pins s σ H Q I q) fun b s1 z => ⟨fun _ => z.1, z.2⟩
theorem PTM.w (h : PTM X e t) : PT X e t := ⟨fun pins s σ H Q I q => thn (h pins s σ H Q I q) fun b s1 z => z.2⟩
theorem toks1 {α : Type} {M : Model} {A : Around} {s : Shared} {t : Sem α} {Q : α → Shared → Prop} {E : Value → Shared → Prop} (h0 : 1 ≤ s.toks) (h : wpAny M A t Q E s) : wpAny M A t (fun a s' => 1 ≤ s'.toks ∧ Q a s') E s :=
  wpAny_mono (wpAny_toks_of h0 h) (fun _ _ z => z) fun _ _ z => z.2
theorem ptb_chain {i : Int} {j : Nat} {p0 : Pos} {op op' : CmpOp} {r r' : R2} (ho : OpR X (compareOp op) r) (ho' : OpR X (compareOp op') r') (hb : PE X b tb) (hc : PE X c tc)
    (hm : lastMarks [op, op'] [b, c] = false := by with_unfolding_all rfl) : PTB X (.Compare (.Constant (.int i) j p0) [op, op'] [b, c] pos) (tTest (tChain r r' (tC (.int i)) tb tc)) := by
  intro pins s σ H Q I h
  refine isTrue_chain (wpAny_Constant_int ?_) hm
  refine toks1 (by show 1 ≤ s.toks + 1; omega) ?_
  refine test_link (thn (hb.run pins _ σ H _ (I.tok _) h) fun u s2 ⟨y, H2, I2, r2, q2⟩ =>
    thn (ho pins s2 σ H2 (.int i) y _ u _ I2 ⟨_, rfl⟩ r2 q2) fun d s3 ⟨z, H3, I3, r3, k, e, q3⟩ => ?_)
  subst e
  cases r3
  refine wpAny_truthy_bool ?_
  cases k with
  | false =>
    obtain ⟨k', e', q'⟩ := q3
    cases e'
    exact ite_ff ⟨H3, I3, q'⟩
  | true =>
    refine ite_tt (test_last (thn (hc.run pins s3 σ H3 _ I3 q3) fun w' s4 ⟨z', H4, I4, r4, q4⟩ => thn (ho' pins s4 σ H4 y z' u w' _ I4 r2 r4 q4) fun d' s5 ⟨z2, H5, I5, r5, k2, e2, q5⟩ => ?_))
    subst e2
    cases r5
    exact wpAny_truthy_bool ⟨H5, I5, q5⟩
theorem ptb_not (ha : PTB X a tA) : PTB X (.UnaryOp .Not a pos) (tNot tA) := fun pins s σ H Q I h => isTrue_not (ha pins s σ H (fun c H1 => Q (!c) H1) I h)
theorem ptt_not (ha : PTT X a tA) : PTT X (.UnaryOp .Not a pos) (tNot tA) := fun pins s σ H Q h0 I h => isTrue_not (ha pins s σ H (fun c H1 => Q (!c) H1) h0 I h)
theorem ptt_val (h : PET X e te) (he : ∀ whole, isTrue e X.env whole = (do let v ← whole; standAt e.pos; holding [v] (truthy v)) := by intro _; rfl) : PTT X e (tB te) := by
  intro pins s σ H Q h0 I hw
  refine isTrue_plain (thn (h pins s σ H _ h0 I hw) fun v s1 ⟨x, H1, I1, r1, q1⟩ => ?_) (he _)
  obtain ⟨d, rfl, q⟩ := q1
  cases r1
  exact wpAny_truthy_bool ⟨H1, I1, q⟩
theorem pwt_or1 (ha : PTT X a tA) : PWT X (.BoolOp .Or [a] pos) tA := by
  intro wh pins s σ H Q h0 I h
  refine isTrue_or (thn (ha pins s σ H _ h0 I h) fun c s1 q1 => ?_)
  cases c with
  | true => exact q1
  | false => exact isTrue_or_nil q1
theorem pwm_or1 (ha : PTM X a tA) : PWM X (.BoolOp .Or [a] pos) tA := by
  intro wh pins s σ H Q I h
  refine isTrue_or (thn (ha pins s σ H _ I h) fun c s1 q1 => ?_)
  cases c with
  | true => exact q1
  | false => exact isTrue_or_nil q1
/-- the first gives one out, the others need it not -/
theorem pwm_orl (ha : PTM X a tA) (hb : PW X (.BoolOp .Or (b :: rest) pos) tB') : PWM X (.BoolOp .Or (a :: b :: rest) pos) (tOr tA tB') := by
  intro wh pins s σ H Q I h
  refine isTrue_or (thn (ha pins s σ H _ I h) fun c s1 ⟨hk, H1, I1, q1⟩ => ?_)
  cases c with
  | true => exact ⟨fun z => (by cases z), H1, I1, q1⟩
  | false => exact thn (toks1 (hk rfl) (hb.run wh pins s1 σ H1 Q I1 q1)) fun b s2 z => ⟨fun _ => z.1, z.2⟩
theorem pwm_orr (ha : PT X a tA) (hb : PWM X (.BoolOp .Or (b :: rest) pos) tB') : PWM X (.BoolOp .Or (a :: b :: rest) pos) (tOr tA tB') := by
  intro wh pins s σ H Q I h
  refine isTrue_or (thn (ha.run pins s σ H _ I h) fun c s1 ⟨H1, I1, q1⟩ => ?_)
  cases c with
  | true => exact ⟨fun z => (by cases z), H1, I1, q1⟩
  | false => exact hb wh pins s1 σ H1 Q I1 q1
/-- one gives it out, the rest wants it -/
theorem pw_orT (ha : PTM X a tA) (hb : PWT X (.BoolOp .Or (b :: rest) pos) tB') : PW X (.BoolOp .Or (a :: b :: rest) pos) (tOr tA tB') := by
  refine ⟨fun wh pins s σ H Q I h => ?_⟩
  refine isTrue_or (thn (ha pins s σ H _ I h) fun c s1 ⟨hk, H1, I1, q1⟩ => ?_)
  cases c with
  | true => exact ⟨H1, I1, q1⟩
  | false => exact hb wh pins s1 σ H1 Q (hk rfl) I1 q1
theorem pet_m0 {o : Expr} {T : String} {name : Str} {id : String} {r : V → List V → Hp → VK → Prop} {to : TE} {apos cpos : Pos} (pa : PlainAttrs T) (slot : Slot T name id) (hty : typeOf (.builtin id) = pure (.type "method_descriptor")) (hm : MtR X id r) (ho : PET X o to)
    (hbase : attributeBase o name X.env (eval o X.env) = eval o X.env := by rfl) (hline : (apos.endLine == cpos.line) = true := by rfl) : PET X (.Call (.Attribute o name apos) [] [] cpos) (tBM0 X.K T r to) := by
  intro pins s σ H Q h0 I h
  refine wpAny_Call_method0_late hbase hline (thn (ho pins s σ H _ h0 I h) fun v s1 ⟨x, H1, I1, r1, ty, q1⟩ => ?_)
  obtain ⟨h1, h2⟩ := tyV_is I1 r1 ty
  exact ⟨T, id, pa, slot, hty, h1, h2, Calls.callWith_builtin rfl (PySem.evalArgs_none (hm pins s1 σ H1 x [] v [] Q I1 r1 .nil q1))⟩
theorem pst_if {c : Expr} {x y : List Stmt} {tc : TT} {t u : TS} (hc : PTT X c tc) (ha : PSs X x t) (hb : PSs X y u) : PST X (.If c x y pos) (tIfS tc t u) := by
  intro pins s σ H D h0 I h
  refine wpAny_If (thn (hc pins s σ H _ h0 I h) fun d s1 ⟨H1, I1, q1⟩ => ?_)
  cases d with
  | true => exact ha.run pins s1 σ H1 D I1 q1
  | false => exact hb.run pins s1 σ H1 D I1 q1
/-- if test: return e, behind it a token is out -/
theorem pss_guard {c : Expr} {p1 : Pos} {tc : TT} {u : TS} {sts : List Stmt} (hc : PTM X c tc) (he : PE X e te) (hr : PSsT X sts u) : PSs X (.If c [.Return (some e) p1] [] pos :: sts) (tSeq (tIfS tc (tRet te) tNext) u) := by
  refine ⟨fun pins s σ H D I h => ?_⟩
  refine wpAny_execs_cons (wpAny_If (thn (hc pins s σ H _ I h) fun d s1 ⟨hk, H1, I1, q1⟩ => ?_))
  cases d with
  | true => exact wpAny_execs_cons (wpAny_Return_some (thn (he.run pins s1 σ H1 _ I1 q1) fun v s2 ⟨x, H2, I2, r2, q2⟩ => ⟨x, σ, H2, I2, r2, q2⟩))
  | false => exact wpAny_execs_nil (hr pins s1 σ H1 D (hk rfl) I1 q1)
end
/-! ### by data -/
section
variable {X : Cx} {B F0 : Hp} {n : Nat} {E : L2.St → XK}
abbrev DET (X : Cx) (B : Hp) (E : L2.St → XK) (e : Expr) (g : G → R D) : Prop := PET X e (tD X.K X.mg B E g)
abbrev DTT (X : Cx) (B : Hp) (E : L2.St → XK) (e : Expr) (g : G → R Bool) : Prop := PTT X e (tDT X.K X.mg B E g)
abbrev DWT (X : Cx) (B : Hp) (E : L2.St → XK) (e : Expr) (g : G → R Bool) : Prop := PWT X e (tDT X.K X.mg B E g)
abbrev DTB (X : Cx) (B : Hp) (E : L2.St → XK) (e : Expr) (g : G → R Bool) : Prop := PTB X e (tDT X.K X.mg B E g)
abbrev DTM (X : Cx) (B : Hp) (E : L2.St → XK) (e : Expr) (g : G → R Bool) : Prop := PTM X e (tDT X.K X.mg B E g)
abbrev DWM (X : Cx) (B : Hp) (E : L2.St → XK) (e : Expr) (g : G → R Bool) : Prop := PWM X e (tDT X.K X.mg B E g)
theorem not_in {K : PySem.W.Frag} {mg : Str → Option Value} {g : G → R Bool} {σ : L2.St} {H : Hp} {Q : Bool → Hp → Prop} (h : tDT K mg B E (bNot g) σ H Q) : tNot (tDT K mg B E g) σ H Q := by
  obtain ⟨Γ, F, s, er, o⟩ := tDT_bind (f := fun Γ c => .ok (!c)) h
  refine ⟨Γ, F, s, er, ?_⟩
  revert o
  cases g Γ with
  | exc c => exact fun o => o
  | bad => exact fun o => o
  | ok b =>
    intro o F' H' x
    obtain ⟨Γ2, F2, s2, er2, o2⟩ := o F' H' x
    exact o2 F2 H' (Ext.refl s2)
theorem or_in {K : PySem.W.Frag} {mg : Str → Option Value} {g g' : G → R Bool} {σ : L2.St} {H : Hp} {Q : Bool → Hp → Prop} (h : tDT K mg B E (bOr g g') σ H Q) : tOr (tDT K mg B E g) (tDT K mg B E g') σ H Q := by
  obtain ⟨Γ, F, s, er, o⟩ := tDT_bind (f := fun Γ c => if c = true then .ok true else g' Γ) h
  refine ⟨Γ, F, s, er, ?_⟩
  revert o
  cases g Γ with
  | exc c => exact fun o => o
  | bad => exact fun o => o
  | ok b =>
    intro o F' H' x
    obtain ⟨Γ2, F2, s2, er2, o2⟩ := o F' H' x
    cases b with
    | true => exact iteT (o2 F2 H' (Ext.refl s2))
    | false => exact iteF ⟨Γ2, F2, s2, er2, o2⟩
theorem tb_chain {i : Int} {j : Nat} {p0 : Pos} {f f' : D → D → R D} {b c : G → R D} {eb ec : Expr} {op op' : CmpOp} {pos : Pos} (o : OpD X (compareOp op) f) (o' : OpD X (compareOp op') f') (hb : DE X B E eb b) (hc : DE X B E ec c)
    (hm : lastMarks [op, op'] [eb, ec] = false := by with_unfolding_all rfl) : DTB X B E (.Compare (.Constant (.int i) j p0) [op, op'] [eb, ec] pos) (bv (gChain f f' (gc (.int i)) b c)) := fun pins s σ H Q I h => by
  obtain ⟨Γ, F, ss, er, w⟩ := h
  have h1 := chain_in (K := X.K) (mg := X.mg) (a := gc (.int i)) (b := b) (c := c) o.calm o'.calm (Q := fun x H1 => ∃ c, x = .bl c ∧ Q c H1) ⟨Γ, F, ss, er, outB_asB w⟩
  obtain ⟨Γ1, F1, s1, er1, o1⟩ := h1
  exact ptb_chain o.op o'.op hb hc hm pins s σ H Q I (o1 (.int i) F1 H (Ext.refl s1) (.int i))
theorem tb_not {a : Expr} {pos : Pos} {g : G → R Bool} (ha : DTB X B E a g) : DTB X B E (.UnaryOp .Not a pos) (bNot g) := fun pins s σ H Q I h => ptb_not ha pins s σ H Q I (not_in h)
theorem tt_not {a : Expr} {pos : Pos} {g : G → R Bool} (ha : DTT X B E a g) : DTT X B E (.UnaryOp .Not a pos) (bNot g) := fun pins s σ H Q h0 I h => ptt_not ha pins s σ H Q h0 I (not_in h)
theorem tt_val {e : Expr} {g : G → R D} (h : DET X B E e g) (he : ∀ whole, isTrue e X.env whole = (do let v ← whole; standAt e.pos; holding [v] (truthy v)) := by intro _; rfl) : DTT X B E e (bv g) := fun pins s σ H Q h0 I w => by
  obtain ⟨Γ, F, ss, er, o⟩ := w
  exact ptt_val h he pins s σ H Q h0 I ⟨Γ, F, ss, er, outB_asB o⟩
theorem wt_or1 {a : Expr} {pos : Pos} {g : G → R Bool} (h : DTT X B E a g) : DWT X B E (.BoolOp .Or [a] pos) g := pwt_or1 h
theorem wm_or1 {a : Expr} {pos : Pos} {g : G → R Bool} (h : DTM X B E a g) : DWM X B E (.BoolOp .Or [a] pos) g := pwm_or1 h
theorem wm_orl {a b : Expr} {rest : List Expr} {pos : Pos} {g g' : G → R Bool} (ha : DTM X B E a g) (hb : DW X B E (.BoolOp .Or (b :: rest) pos) g') : DWM X B E (.BoolOp .Or (a :: b :: rest) pos) (bOr g g') := fun wh pins s σ H Q I h => pwm_orl ha hb wh pins s σ H Q I (or_in h)
theorem wm_orr {a b : Expr} {rest : List Expr} {pos : Pos} {g g' : G → R Bool} (ha : DT X B E a g) (hb : DWM X B E (.BoolOp .Or (b :: rest) pos) g') : DWM X B E (.BoolOp .Or (a :: b :: rest) pos) (bOr g g') := fun wh pins s σ H Q I h => pwm_orr ha hb wh pins s σ H Q I (or_in h)
theorem t_orT {a b : Expr} {rest : List Expr} {pos : Pos} {g g' : G → R Bool} (ha : DTM X B E a g) (hb : DWT X B E (.BoolOp .Or (b :: rest) pos) g') : DW X B E (.BoolOp .Or (a :: b :: rest) pos) (bOr g g') := pw_imp (pw_orT ha hb) fun σ H Q h => or_in h
/-- text.replace(y, z) -/
def replK (y z : Str) (x : Str) : R D := if x.length + (x.length + 1) * z.length ≤ 16777216 then .ok (.str (Txt.replace x y z)) else .bad
def gRepl (y z : Str) (go : G → R D) (Γ : G) : R D := (go Γ).bind (asS (replK y z))
theorem repl_in {K : PySem.W.Frag} {mg : Str → Option Value} {y z : Str} {go : G → R D} {σ : L2.St} {H : Hp} {Q : VK} (h : tD K mg B E (gRepl y z go) σ H Q) : CwR.tReplC (tD K mg B E go) y z σ H Q := by
  obtain ⟨Γ, F, s, er, w⟩ := tD.bind (f := fun Γ => asS (replK y z)) h
  refine ⟨Γ, F, s, er, ?_⟩
  revert w
  cases go Γ with
  | exc c => exact fun o => o
  | bad => exact fun o => o
  | ok d =>
    intro w v F1 H1 x1 dp1
    obtain ⟨Γ2, d2, F2, s2, er2, dp2, o2⟩ := w v F1 H1 x1 dp1
    cases dp2 with
    | str a =>
      simp only [asS, replK] at o2
      by_cases hz : a.length + (a.length + 1) * z.length ≤ 16777216
      · rw [if_pos hz] at o2
        exact ⟨a, rfl, hz, o2 _ F2 H1 (Ext.refl s2) (.str _)⟩
      · rw [if_neg hz] at o2
        exact o2.elim
    | _ => exact o2.elim
theorem e_repl {o : Expr} {y z : Str} {j k : Nat} {c0 c1 apos pos : Pos} {go : G → R D} (ho : DE X B E o go) (hyz : (y == z) = false := by decide)
    (hst : starEach [.Constant (.str y) j c0, .Constant (.str z) k c1] X.env = [(false, eval (.Constant (.str y) j c0) X.env), (false, eval (.Constant (.str z) k c1) X.env)] := by rfl)
    (hbase : attributeBase o "replace" X.env (eval o X.env) = eval o X.env := by rfl) (hline : (apos.endLine == pos.line) = true := by rfl) :
    DET X B E (.Call (.Attribute o "replace" apos) [.Constant (.str y) j c0, .Constant (.str z) k c1] [] pos) (gRepl y z go) := fun pins s σ H Q h0 I h => CwR.pet_replC ho hyz hst hbase hline pins s σ H Q h0 I (repl_in h)
theorem e_replT {o : Expr} {y z : Str} {j k : Nat} {c0 c1 apos pos : Pos} {go : G → R D} (ho : DET X B E o go) (hyz : (y == z) = false := by decide)
    (hst : starEach [.Constant (.str y) j c0, .Constant (.str z) k c1] X.env = [(false, eval (.Constant (.str y) j c0) X.env), (false, eval (.Constant (.str z) k c1) X.env)] := by rfl)
    (hbase : attributeBase o "replace" X.env (eval o X.env) = eval o X.env := by rfl) (hline : (apos.endLine == pos.line) = true := by rfl) :
    DET X B E (.Call (.Attribute o "replace" apos) [.Constant (.str y) j c0, .Constant (.str z) k c1] [] pos) (gRepl y z go) := fun pins s σ H Q h0 I h => CwR.pet_replT ho hyz hst hbase hline pins s σ H Q h0 I (repl_in h)
theorem e_isalnum {o : Expr} {apos pos : Pos} {go : G → R D} (ho : DET X B E o go) (hbase : attributeBase o "isalnum" X.env (eval o X.env) = eval o X.env := by rfl) (hline : (apos.endLine == pos.line) = true := by rfl) :
    DET X B E (.Call (.Attribute o "isalnum" apos) [] [] pos) (gM0 (fun a => .ok (.bool (Txt.isalnum a))) go) := fun pins s σ H Q h0 I h => by
  refine pet_m0 PySem.F.plainAttrs_str PySem.F.slot_str_isalnum PySem.F.type_str_isalnum mt_isalnum ho hbase hline pins s σ H Q h0 I ?_
  obtain ⟨Γ, F, ss, er, w⟩ := tD.bind (f := fun Γ => asS fun a => .ok (.bool (Txt.isalnum a))) h
  refine ⟨Γ, F, ss, er, ?_⟩
  revert w
  cases go Γ with
  | exc c => exact fun o => o
  | bad => exact fun o => o
  | ok d =>
    intro w v F1 H1 x1 dp1
    obtain ⟨Γ2, d2, F2, s2, er2, dp2, o2⟩ := w v F1 H1 x1 dp1
    cases dp2 with
    | str a => exact ⟨rfl, a, rfl, rfl, trivial, o2 _ F2 H1 (Ext.refl s2) (.bl _)⟩
    | _ => exact o2.elim
/-- blocks behind a token -/
structure DST (X : Cx) (B F0 : Hp) (n : Nat) (E : L2.St → XK) (st : Stmt) (g : G → R Fl) : Prop where
  ps : PST X st (tDs X.K X.mg B F0 n E g)
  keep : KeepN g
structure DSsT (X : Cx) (B F0 : Hp) (n : Nat) (E : L2.St → XK) (st : List Stmt) (g : G → R Fl) : Prop where
  ps : PSsT X st (tDs X.K X.mg B F0 n E g)
  keep : KeepN g
theorem if_in {K : PySem.W.Frag} {mg : Str → Option Value} {t : G → R Bool} {g g' : G → R Fl} {Dd : Ends} {σ : L2.St} {H : Hp} (h : tDs K mg B F0 n E (gIfS t g g') Dd σ H) :
    tIfS (tDT K mg B E t) (tDs K mg B F0 n E g) (tDs K mg B F0 n E g') Dd σ H := by
  obtain ⟨Γ, F, sh, er, hn, o⟩ := h
  refine ⟨Γ, F, sh.f, er, ?_⟩
  have o2 := OutB.toS (H := H) (σ := σ) sh (er.slen hn) (show OutS K mg B F0 n F E ((t Γ).bind fun c => if c = true then g Γ else g' Γ) Dd from o)
  revert o2
  cases t Γ with
  | exc c => exact fun o => o
  | bad => exact fun o => o
  | ok d =>
    intro o2 F' H' x
    obtain ⟨F2, e, sh2, x2, o3⟩ := o2 F' H' x
    cases d with
    | true => exact iteT ⟨Γ, F2, sh2, er.ext x2, hn, o3⟩
    | false => exact iteF ⟨Γ, F2, sh2, er.ext x2, hn, o3⟩
theorem st_if {c : Expr} {a b : List Stmt} {pos : Pos} {t : G → R Bool} {g g' : G → R Fl} (hc : DTT X B E c t) (ha : DSs X B F0 n E a g) (hb : DSs X B F0 n E b g') : DST X B F0 n E (.If c a b pos) (gIfS t g g') :=
  ⟨fun pins s σ H Dd h0 I h => pst_if hc ha.ps hb.ps pins s σ H Dd h0 I (if_in h), keep_if ha.keep hb.keep⟩
theorem seq_in {K : PySem.W.Frag} {mg : Str → Option Value} {g1 g2 : G → R Fl} (k1 : KeepN g1) {Dd : Ends} {σ : L2.St} {H : Hp} (h : tDs K mg B F0 n E (gSeq g1 g2) Dd σ H) :
    tSeq (tDs K mg B F0 n E g1) (tDs K mg B F0 n E g2) Dd σ H := by
  obtain ⟨Γ, F, sh, er, hn, o⟩ := h
  refine ⟨Γ, F, sh, er, hn, ?_⟩
  have kp := k1 Γ
  unfold gSeq at o
  revert kp o
  cases g1 Γ with
  | exc c => exact fun o kp => o
  | bad => exact fun o kp => o
  | ok f =>
    cases f with
    | rt d => exact fun o kp => o
    | bk Γ => exact fun o kp => o
    | ct Γ => exact fun o kp => o
    | nx Γ1 => exact fun o kp σ' F' H' a b c => ⟨Γ1, F', a, c, (kp.1 Γ1 rfl).trans hn, OutS.mono o b⟩
theorem sst_cons {st : Stmt} {rest : List Stmt} {g1 g2 : G → R Fl} (h : DST X B F0 n E st g1) (hs : DSs X B F0 n E rest g2) : DSsT X B F0 n E (st :: rest) (gSeq g1 g2) :=
  ⟨fun pins s σ H Dd h0 I q => psst_cons h.ps (PSsT.of hs.ps) pins s σ H Dd h0 I (seq_in h.keep q), keep_seq h.keep hs.keep⟩
/-- if test: return e; behind it a token is out -/
theorem ss_guard {c e : Expr} {p1 pos : Pos} {rest : List Stmt} {t : G → R Bool} {g : G → R D} {g2 : G → R Fl} (hc : DTM X B E c t) (he : DE X B E e g) (hs : DSsT X B F0 n E rest g2) :
    DSs X B F0 n E (.If c [.Return (some e) p1] [] pos :: rest) (gSeq (gIfS t (gRet g) gSkip) g2) :=
  ⟨pss_imp (pss_guard hc he hs.ps) fun Dd σ H q => by
    have h1 := if_in (g := gRet g) (g' := gSkip) (seq_in (keep_if keep_ret keep_skip) q)
    obtain ⟨Γ, F, ss, er, o⟩ := h1
    refine ⟨Γ, F, ss, er, ?_⟩
    revert o
    cases t Γ with
    | exc c => exact fun o => o
    | bad => exact fun o => o
    | ok d =>
      intro o F' H' x
      have o2 := o F' H' x
      cases d with
      | true =>
        refine iteT ?_
        have o3 : tDs X.K X.mg B F0 n E (gRet g) _ σ H' := o2
        obtain ⟨Γ1, F1, sh, er1, hn, o4⟩ := o3
        refine ⟨Γ1, F1, sh.f, er1, ?_⟩
        have o5 := Out.toS (H := H') (σ := σ) sh (er1.slen hn) (show OutS X.K X.mg B F0 n F1 E ((g Γ1).bind fun d => .ok (.rt d)) _ from o4)
        revert o5
        cases g Γ1 with
        | exc c => exact fun o => o
        | bad => exact fun o => o
        | ok d =>
          intro o5 v F' H' x dp
          obtain ⟨d', F2, e, sh2, x2, dp2, o6⟩ := o5 v F' H' x dp
          cases e
          exact o6 v F2 H' sh2 (Same.refl _) dp2
      | false =>
        refine iteF ?_
        have o3 : tDs X.K X.mg B F0 n E gSkip _ σ H' := o2
        obtain ⟨Γ1, F1, sh, er1, hn, o4⟩ := o3
        exact o4 σ F1 H' sh (Same.refl _) er1,
    keep_seq (keep_if keep_ret keep_skip) hs.keep⟩
end
end ND
/-! ND29: tuple * int, while, an item of a growing list put. -/
namespace ND
open PySem PySem.Spec L2
def fTMul : D → D → R D
  | .tuple xs, .int k => if xs.isEmpty = false ∧ 2 ≤ k ∧ k ≤ 1000 ∧ xs.length ≤ 1000 then .ok (.tuple (List.replicate k.toNat xs).flatten) else .bad
  | _, _ => .bad
section
variable {X : Cx} {B F0 : Hp} {n : Nat} {E : L2.St → XK}
theorem o_tmul : OpD X (binaryOp .Mult) fTMul := .mk' op_repT (fun d e c h => by unfold fTMul at h; split at h <;> first | cases h | (split at h <;> cases h)) fun x y H Q ⟨d, e, F, r, s, hx, hy, hf, q⟩ => by
  have q : Fin X.K F H r Q := q
  unfold fTMul at hf
  split at hf
  · split at hf
    · rename_i hb
      obtain ⟨b1, b2, b3, b4⟩ := hb
      cases hy
      cases hf
      cases hx with
      | tup h1 h2 =>
        have hl := dpa_length h2
        refine ⟨_, _, _, rfl, rfl, same_seqT s h1, fun e => ?_, b2, b3, by rw [hl]; exact b4, q.newT s (dpa_rep h2 _)⟩
        rw [e] at hl
        rw [List.eq_nil_of_length_eq_zero hl.symm] at b1
        cases b1
    · cases hf
  · cases hf
/-! while -/
def whGo (t : G → R Bool) (body : G → R Fl) : Nat → G → R Fl
  | 0, _ => .bad
  | k + 1, Γ => (t Γ).bind fun b => if b = true then (body Γ).bind fun f => match f with
      | .nx Γ2 => whGo t body k Γ2
      | .ct Γ2 => whGo t body k Γ2
      | .bk Γ2 => .ok (.nx Γ2)
      | .rt d => .ok (.rt d)
    else .ok (.nx Γ)
def gWhile (t : G → R Bool) (body : G → R Fl) (Γ : G) : R Fl := whGo t body 100000 Γ
theorem keep_wh {t : G → R Bool} {body : G → R Fl} (hb : KeepN body) : ∀ k, KeepN (whGo t body k)
  | 0 => fun Γ => ⟨fun _ q => (by cases q), fun _ q => (by cases q), fun _ q => (by cases q)⟩
  | k + 1 => fun Γ => by
    unfold whGo
    cases t Γ with
    | exc c => exact ⟨fun _ q => (by cases q), fun _ q => (by cases q), fun _ q => (by cases q)⟩
    | bad => exact ⟨fun _ q => (by cases q), fun _ q => (by cases q), fun _ q => (by cases q)⟩
    | ok b =>
      cases b with
      | false => exact ⟨fun _ q => (by cases q; rfl), fun _ q => (by cases q), fun _ q => (by cases q)⟩
      | true =>
        obtain ⟨a, b, c⟩ := hb Γ
        simp only [R.bind_ok, if_true]
        cases e : body Γ with
        | exc c => exact ⟨fun _ q => (by cases q), fun _ q => (by cases q), fun _ q => (by cases q)⟩
        | bad => exact ⟨fun _ q => (by cases q), fun _ q => (by cases q), fun _ q => (by cases q)⟩
        | ok f =>
          simp only [R.bind_ok]
          cases f with
          | nx Γ1 =>
            obtain ⟨a2, b2, c2⟩ := keep_wh (t := t) hb k Γ1
            have l1 := a Γ1 e
            exact ⟨fun Γ' q => (a2 Γ' q).trans l1, fun Γ' q => (b2 Γ' q).trans l1, fun Γ' q => (c2 Γ' q).trans l1⟩
          | ct Γ1 =>
            obtain ⟨a2, b2, c2⟩ := keep_wh (t := t) hb k Γ1
            have l1 := c Γ1 e
            exact ⟨fun Γ' q => (a2 Γ' q).trans l1, fun Γ' q => (b2 Γ' q).trans l1, fun Γ' q => (c2 Γ' q).trans l1⟩
          | rt d => exact ⟨fun _ q => (by cases q), fun _ q => (by cases q), fun _ q => (by cases q)⟩
          | bk Γ1 => exact ⟨fun Γ' q => (by cases q; exact b _ e), fun _ q => (by cases q), fun _ q => (by cases q)⟩
theorem s_while {c : Expr} {body : List Stmt} {pos : Pos} {t : G → R Bool} {gb : G → R Fl} (hp : PassesOwn (model X.prog X.w) X.A X.env X.xe) (hc : DT X B E c t) (hb : DSs X B F0 n E body gb) :
    DS X B F0 n E (.While c body [] pos) (gWhile t gb) :=
  ⟨ps_imp (ps_while hp hc hb.ps) fun Dd σ H ⟨Γ, F, sh, er, hn, o⟩ => by
    refine ⟨fun m σ2 H2 => ∃ Γ2 F2, SH B F0 F2 H2 ∧ ER X.K B F2 H2 σ2 Γ2 ∧ Γ2.length = n ∧ OutS X.K X.mg B F0 n F2 E (whGo t gb m Γ2) Dd, ⟨100000, Γ, F, sh, er, hn, o⟩, ?_⟩
    rintro m σ2 H2 ⟨Γ2, F2, sh2, er2, hn2, o2⟩
    cases m with
    | zero => exact o2.elim
    | succ m =>
      refine ⟨Γ2, F2, sh2.f, er2, ?_⟩
      unfold whGo at o2
      have o3 := OutB.toS (H := H2) (σ := σ2) sh2 (er2.slen hn2) o2
      revert o3
      cases t Γ2 with
      | exc c => exact fun o => o
      | bad => exact fun o => o
      | ok b =>
        intro o3 F' H' x
        obtain ⟨F3, e, sh3, x3, o4⟩ := o3 F' H' x
        cases b with
        | true =>
          refine iteT ⟨fun σ' H' => ∃ m', m' < m + 1 ∧ ∃ Γ2 F2, SH B F0 F2 H' ∧ ER X.K B F2 H' σ' Γ2 ∧ Γ2.length = n ∧ OutS X.K X.mg B F0 n F2 E (whGo t gb m' Γ2) Dd, fun σ' H' h => h, Γ2, F3, sh3, er2.ext x3, hn2, ?_⟩
          simp only [if_true] at o4
          have kp := hb.keep Γ2
          revert kp o4
          cases gb Γ2 with
          | exc c => exact fun o kp => o
          | bad => exact fun o kp => o
          | ok f =>
            cases f with
            | rt d => exact fun o kp => o
            | nx Γ4 => exact fun o4 kp σ4 F4 H4 sh4 s34 er4 => ⟨m, Nat.lt_succ_self m, Γ4, F4, sh4, er4, (kp.1 Γ4 rfl).trans hn2, OutS.mono o4 s34⟩
            | ct Γ4 => exact fun o4 kp σ4 F4 H4 sh4 s34 er4 => ⟨m, Nat.lt_succ_self m, Γ4, F4, sh4, er4, (kp.2.2 Γ4 rfl).trans hn2, OutS.mono o4 s34⟩
            | bk Γ4 => exact fun o4 kp σ4 F4 H4 sh4 s34 er4 => o4 σ4 F4 H4 sh4 s34 er4
        | false =>
          simp only [Bool.false_eq_true, if_false] at o4
          exact iteF (o4 σ2 F3 H' sh3 (Same.refl _) (er2.ext x3)), keep_wh hb.keep _⟩
end
end ND
/-! ND30: tuples compared. -/
namespace ND
open PySem PySem.Spec L2
def smallD (d e : D) : Bool := PySem.W.alike d e && isTuple d && decide (d.depth ≤ 8)
def fLtD (d e : D) : R D := if smallD d e = true then .ok (.bool (PySem.W.dataLt d e)) else .bad
def fGtD (d e : D) : R D := if smallD d e = true then .ok (.bool (PySem.W.dataLt e d)) else .bad
section
variable {X : Cx}
theorem smallD_iff {d e : D} (h : smallD d e = true) : PySem.W.alike d e = true ∧ d ≠ .none ∧ d.depth ≤ 8 := by
  unfold smallD at h
  rw [Bool.and_eq_true, Bool.and_eq_true, decide_eq_true_eq] at h
  obtain ⟨⟨h1, h2⟩, h3⟩ := h
  exact ⟨h1, (fun e => by rw [e] at h2; cases h2), h3⟩
theorem o_ltD (hr : RU X.A) : OpD X (compareOp .Lt) fLtD := ⟨(fun pins s σ H x y v u Q I rx ry h => by
    obtain ⟨d, e, F, r, s1, hx, hy, hf, q⟩ := h
    unfold fLtD at hf
    split at hf
    · rename_i hb
      cases hf
      obtain ⟨b1, b2, b3⟩ := smallD_iff hb
      obtain ⟨as, ra⟩ := Dp.reads I d x v (dp_mono s1 hx) rx
      obtain ⟨bs, rb⟩ := Dp.reads I e y u (dp_mono s1 hy) ry
      have hu := hr.un
      exact PySem.W.lt_data ra rb b1 b2 (by have := Nat.min_le_left d.depth e.depth; omega) ⟨.bl _, H, I, rfl, q _ F H (Ext.refl s1) (.bl _)⟩
    · cases hf), fun d e c h => by unfold fLtD at h; split at h <;> cases h⟩
theorem o_gtD (hr : RU X.A) : OpD X (compareOp .Gt) fGtD := ⟨(fun pins s σ H x y v u Q I rx ry h => by
    obtain ⟨d, e, F, r, s1, hx, hy, hf, q⟩ := h
    unfold fGtD at hf
    split at hf
    · rename_i hb
      cases hf
      obtain ⟨b1, b2, b3⟩ := smallD_iff hb
      obtain ⟨as, ra⟩ := Dp.reads I d x v (dp_mono s1 hx) rx
      obtain ⟨bs, rb⟩ := Dp.reads I e y u (dp_mono s1 hy) ry
      have hu := hr.un
      exact PySem.W.gt_data ra rb b1 b2 (by have := Nat.min_le_left d.depth e.depth; omega) ⟨.bl _, H, I, rfl, q _ F H (Ext.refl s1) (.bl _)⟩
    · cases hf), fun d e c h => by unfold fGtD at h; split at h <;> cases h⟩
theorem lt_bi (a b : Bool) (i j : Int) : fLtD (.tuple [.bool a, .int i]) (.tuple [.bool b, .int j]) = .ok (.bool (decide ((a = false ∧ b = true) ∨ (a = b ∧ i < j)))) := by
  have al : smallD (.tuple [.bool a, .int i]) (.tuple [.bool b, .int j]) = true := by simp [smallD, PySem.W.alike, PySem.W.alikeAll, isTuple, PyData.depth, PyData.depthAll]
  unfold fLtD
  rw [if_pos al, PySem.W.dataLt_tuple, PySem.W.dataLt_cons (by simp [PySem.W.alike]), PySem.W.dataLt_cons (by simp [PySem.W.alike])]
  simp only [PySem.W.dataLt_bool, PySem.W.dataLt_int, PyData.eqv]
  have e0 : PyProof.Rows.lexLt PyProof.Rows.itemOrd (PySem.W.keyToksAll []) (PySem.W.keyToksAll []) = false := PyProof.Rows.lex_irrefl _
  rw [e0]
  congr 2
  by_cases h2 : i = j
  · subst h2
    cases a <;> cases b <;> simp [PyProof.Rows.b2i]
  · have : (i == j) = false := by simpa using h2
    rw [this]
    cases a <;> cases b <;> simp [PyProof.Rows.b2i]
theorem lt_ii (x y i j : Int) : fGtD (.tuple [.int x, .int y]) (.tuple [.int i, .int j]) = .ok (.bool (decide (i < x ∨ (i = x ∧ j < y)))) := by
  have al : smallD (.tuple [.int x, .int y]) (.tuple [.int i, .int j]) = true := by simp [smallD, PySem.W.alike, PySem.W.alikeAll, isTuple, PyData.depth, PyData.depthAll]
  unfold fGtD
  rw [if_pos al, PySem.W.dataLt_ii]
end
/-! sorted rows of a text and a number -/
def pairTD (p : Tx × Nat) : D := .tuple [T p.1, .int (p.2 : Nat)]
open Classical in
theorem sorted_pairs {l : List (Tx × Nat)} (h : (l.map (·.1)).Pairwise (· < ·)) : fSorted [.list (l.map pairTD)] = .ok (.list (l.map pairTD)) := by
  have al : ∀ p q, PySem.W.alike (pairTD p) (pairTD q) = true := fun p q => by simp [pairTD, T, PySem.W.alike, PySem.W.alikeAll]
  have ok : sortOk (l.map pairTD) := by
    refine ⟨fun d hd d' hd' => ?_, .inl fun d hd => ?_, ?_⟩
    · obtain ⟨a, _, rfl⟩ := List.mem_map.mp hd
      obtain ⟨b, _, rfl⟩ := List.mem_map.mp hd'
      exact al a b
    · obtain ⟨a, _, rfl⟩ := List.mem_map.mp hd
      exact ⟨_, _, rfl⟩
    · unfold depthOk
      rw [List.all_eq_true]
      intro d hd
      obtain ⟨a, _, rfl⟩ := List.mem_map.mp hd
      simp [pairTD, T, PyData.depth, PyData.depthAll]
  have f : fSorted [.list (l.map pairTD)] = if sortOk (l.map pairTD) then .ok (.list (sortD (l.map pairTD))) else .bad := rfl
  rw [f, if_pos ok]
  congr 2
  unfold sortD
  refine List.mergeSort_of_pairwise ?_
  rw [List.pairwise_map]
  rw [List.pairwise_map] at h
  refine h.imp fun {p q} hpq => ?_
  rw [PySem.W.dataLe_eq]
  show (!PySem.W.dataLt (pairTD q) (pairTD p)) = true
  have e1 : PyData.eqv (T q.1) (T p.1) = false := by
    rw [eqv_T]
    refine decide_eq_false fun e => ?_
    rw [e] at hpq
    exact absurd hpq (List.lt_irrefl _)
  have e2 : PySem.W.dataLt (T q.1) (T p.1) = false := by
    unfold T
    rw [PySem.W.dataLt_str]
    exact decide_eq_false (List.lt_asymm hpq)
  unfold pairTD
  rw [PySem.W.dataLt_pair (by simp [T, PySem.W.alike]) (by simp [PySem.W.alike]), e1]
  simp [e2]
end ND
/-! ND31: one sign in the place of another; letters and figures. -/
namespace ND
open PySem PySem.Spec L2
theorem join_subst (c d : Nat) : ∀ a : Tx, TL.joinL [d] (splC c a) = a.map fun x => if x = c then d else x
  | [] => rfl
  | x :: l => by
    have ih := join_subst c d l
    unfold splC
    by_cases h : x = c
    · rw [if_pos h, List.map_cons, if_pos h, ← ih]
      cases e : splC c l with
      | nil => exact absurd e (splC_ne c l)
      | cons p ps => rfl
    · rw [if_neg h, List.map_cons, if_neg h, ← ih]
      cases e : splC c l with
      | nil => exact absurd e (splC_ne c l)
      | cons p ps =>
        cases ps with
        | nil => rfl
        | cons q r => rfl
theorem replace_T (a : Tx) {c d : Nat} (hc : c < 256) : Txt.replace (St' a) (St' [c]) (St' [d]) = St' (a.map fun x => if x = c then d else x) := by
  have h1 := PySem.StrLaws.replace_one (St' a) (St' [d]) c
  have h2 : Txt.replace (St' a) (St' [c]) (St' [d]) = Str.join (St' [d]) (Txt.split (St' a) (St' [c])) := h1
  rw [h2, split_T a hc]
  exact (TL.join_eq _ _).symm.trans ((SX.join_S [d] (splC c a)).trans (congrArg St' (join_subst c d a)))
theorem alnum_one : ∀ c : Nat, c < 128 → PySem.Unicode.isAlnum c = (decide (c ∈ SM) || (decide (c ∈ GR) || decide (c ∈ FG))) := by decide +kernel
def nSign' (c : Nat) : Bool := decide (c ∈ SM) || (decide (c ∈ GR) || (decide (c ∈ FG) || decide (c ∈ [45, 95])))
theorem alnum_T {a : Tx} (h : ∀ c ∈ a, c < 128) : Txt.isalnum (St' ((a.map fun x => if x = 45 then 95 else x).map fun x => if x = 95 then 97 else x)) = (decide (a ≠ []) && a.all nSign') := by
  unfold Txt.isalnum
  rw [len_S, List.map_map]
  have e1 : decide ((a.map ((fun x => if x = 95 then 97 else x) ∘ fun x => if x = 45 then 95 else x)).length > 0) = decide (a ≠ []) := by
    cases a <;> simp
  have e2 : (St' (a.map ((fun x => if x = 95 then 97 else x) ∘ fun x => if x = 45 then 95 else x))).cps.all PySem.Unicode.isAlnum = a.all nSign' := by
    rw [← Array.all_toList]
    show (a.map _).all _ = _
    rw [List.all_map]
    clear e1
    induction a with
    | nil => rfl
    | cons c a ih =>
      rw [List.all_cons, List.all_cons, ih fun x hx => h x (.tail _ hx)]
      congr 1
      have hc := h c (.head _)
      simp only [Function.comp]
      by_cases h1 : c = 45
      · subst h1
        rw [if_pos rfl, if_pos rfl, alnum_one 97 (by decide)]
        decide
      · rw [if_neg h1]
        by_cases h2 : c = 95
        · subst h2
          rw [if_pos rfl, alnum_one 97 (by decide)]
          decide
        · rw [if_neg h2, alnum_one c hc]
          have : decide (c ∈ [45, 95]) = false := decide_eq_false (by simp [h1, h2])
          unfold nSign'
          rw [this, Bool.or_false]
  rw [e1, e2]
def replR (y z : Str) (r : R D) : R D := r.bind (asS (replK y z))
@[simp] theorem ev_repl (y z : Str) (go : G → R D) (Γ : G) : gRepl y z go Γ = replR y z (go Γ) := (rfl)
/-- the test for a note's name, on signs below 128 -/
theorem name_test {a : Tx} (h : ∀ c ∈ a, c < 128) (hl : a.length ≤ 1000) : m0K (fun a => .ok (.bool (Txt.isalnum a))) (replR "_" "a" (replR "-" "_" (.ok (T a)))) = .ok (.bool (decide (a ≠ []) && a.all nSign')) := by
  have e1 : replR "-" "_" (.ok (T a)) = .ok (T (a.map fun x => if x = 45 then 95 else x)) := by
    show replK "-" "_" (St' a) = _
    unfold replK
    have : ("_" : Str).length = 1 := rfl
    rw [len_S, if_pos (by rw [this]; omega)]
    exact congrArg (fun x => R.ok (PyData.str x)) (replace_T a (c := 45) (d := 95) (by decide))
  have e2 : ∀ b : Tx, b.length ≤ 1000 → replR "_" "a" (.ok (T b)) = .ok (T (b.map fun x => if x = 95 then 97 else x)) := fun b hb => by
    show replK "_" "a" (St' b) = _
    unfold replK
    have : ("a" : Str).length = 1 := rfl
    rw [len_S, if_pos (by rw [this]; omega)]
    exact congrArg (fun x => R.ok (PyData.str x)) (replace_T b (c := 95) (d := 97) (by decide))
  rw [e1, e2 _ (by rw [List.length_map]; exact hl), m0K_T, alnum_T h]
end ND
/-! ND32: zip of a tuple and a list. First the turns of a zip over any two iterators, then the rule by data. -/
namespace ND
open PySem PySem.Spec PyProof.Rows L2
/-- `st k h`: in the heap h the iterator `it` over `src` stands ahead of the item k of `vs` -/
structure Its (it src : Addr) (vs : Array Value) (st : Nat → Heap → Prop) : Prop where
  obj : ∀ {k h}, st k h → ∃ o, h.get? it = some o ∧ ∀ v, o.data ≠ .cell v
  up : ∀ {k h g}, st k h → (∀ o, h.get? it = some o → g.get? it = some o) → (∀ o, h.get? src = some o → g.get? src = some o) → st k g
  one : ∀ {prog : Program} {w : World} {A : Around} {E : Value → Shared → Prop} {s : Shared} {k : Nat} {x : Value} {Q : Value → Shared → Prop}, st k s.heap → vs[k]? = some x →
    (∀ g, st (k + 1) g → Heap.SameBut it s.heap g → Q x { s with heap := g }) → wpAny (model prog w) A (Builtin.SmallTypes.nextOf (.ref it)) Q E s
  no : ∀ {prog : Program} {w : World} {A : Around} {E : Value → Shared → Prop} {s : Shared} {k : Nat} {Q : Value → Shared → Prop}, A.handled = none → st k s.heap → vs[k]? = none →
    (∀ g e, Heap.ExtBut it s.heap g → (∃ o, g.get? e = some o ∧ o.cls = .type "StopIteration") → E (.ref e) { s with heap := g }) → wpAny (model prog w) A (Builtin.SmallTypes.nextOf (.ref it)) Q E s
theorem its_list {it l : Addr} {vs : Array Value} (ne : l ≠ it) : Its it l vs (fun k h => h.IsListIter it l k ∧ h.IsList l vs) where
  obj := fun ⟨⟨o, e, _, d⟩, _⟩ => ⟨o, e, fun v q => by rw [d] at q; cases q⟩
  up := fun ⟨a, b⟩ k1 k2 => ⟨a.at k1, by obtain ⟨o, e, r⟩ := b; exact ⟨o, k2 o e, r⟩⟩
  one := fun ⟨a, b⟩ e q => wpAny_nextOf_list_item a b e fun g a2 sb => q g ⟨a2, b.extBut sb.extBut ne⟩ sb
  no := fun hh ⟨a, b⟩ e q => wpAny_nextOf_list_end hh a b e q
theorem its_tup {it l : Addr} {vs : Array Value} (ne : l ≠ it) : Its it l vs (fun k h => h.IsTupleIter it l k ∧ h.IsTuple l vs) where
  obj := fun ⟨⟨o, e, _, d⟩, _⟩ => ⟨o, e, fun v q => by rw [d] at q; cases q⟩
  up := fun ⟨a, b⟩ k1 k2 => ⟨a.at k1, by obtain ⟨o, e, r⟩ := b; exact ⟨o, k2 o e, r⟩⟩
  one := fun ⟨a, b⟩ e q => RZ.nextOf_tuple_item a b e fun g a2 sb => q g ⟨a2, b.extBut sb.extBut ne⟩ sb
  no := fun hh ⟨a, b⟩ e q => RZ.nextOf_tuple_end hh a b e q
/-- the objects that a turn may change -/
def Kp (z TO i j : Addr) (h g : Heap) : Prop := ∀ c o, c ≠ z → c ≠ TO → c ≠ i → c ≠ j → h.get? c = some o → g.get? c = some o
section
variable {prog : Program} {w : World} {A : Around} {E : Value → Shared → Prop} {s : Shared} {z TI TO i j p q : Addr} {m n : Nat} {us vs : Array Value} {u v a b : Value} {f g : Nat → Heap → Prop}
theorem zip_one {Q : Value → Shared → Prop} (D : ZipApart z TI TO i j p q) (hz : IsZip s.heap z TI TO .none) (hI : IsPair s.heap TI (.ref i) (.ref j)) (hO : IsPair s.heap TO a b)
    (S1 : Its i p us f) (S2 : Its j q vs g) (hf : f m s.heap) (hg : g n s.heap) (eu : us[m]? = some u) (ev : vs[n]? = some v)
    (ok : ∀ h', IsZip h' z TI TO (rawInt s.heap.objs.size) → IsPair h' TO u v → f (m + 1) h' → g (n + 1) h' → IsPair h' s.heap.objs.size u v → Kp z TO i j s.heap h' → Q (.ref s.heap.objs.size) { s with heap := h' }) :
    wpAny (model prog w) A (Builtin.«zip.__next__» ⟨[.ref z], []⟩) (fun r s' => ∃ x, r = .done (.ret x) ∧ Q x s') E s := by
  show wpAny _ _ (field (.ref z) 2 >>= _) _ _ _; refine wpAny_bind (wpAny_field hz rfl (x := .bool false) rfl ?_)
  show wpAny _ _ (field (.ref z) 3 >>= _) _ _ _; refine wpAny_bind (wpAny_field hz rfl (x := .ref TI) rfl (wpAny_bind (wpAny_seqItems hI rfl ?_)))
  show wpAny _ _ (Builtin.SmallTypes.ownedTupleIsFree (.ref z) >>= _) _ _ _; refine wpAny_bind ?_; unfold Builtin.SmallTypes.ownedTupleIsFree
  refine wpAny_bind (wpAny_field hz rfl (x := .none) rfl (wpAny_pure ?_)); simp only [if_true]
  refine wpAny_bind (wpAny_rule (wpAny_bind (wpAny_field hz rfl (x := .ref TO) rfl (wpAny_bind (wpAny_setField_rec hz (by simp) fun g1 z1 b1 => ?_)))))
  replace z1 : IsZip g1 z TI TO .ellipsis := z1
  refine wpAny_bind ?_; simp only [List.zipIdx_cons, List.zipIdx_nil, List.forIn_cons, List.forIn_nil]
  refine wpAny_bind (wpAny_bind (wpAny_onRaise ?_))
  show wpAny _ _ (Builtin.SmallTypes.nextOf (.ref i) >>= _) _ _ _
  have c1 : ∀ c o, c ≠ z → s.heap.get? c = some o → g1.get? c = some o := fun c o h e => b1.extBut _ _ h e
  refine wpAny_bind (S1.one (S1.up hf (fun o => c1 i o D.i1z) fun o => c1 p o D.l1z) eu fun g2 f2 b2 => wpAny_pure ?_)
  have c2 : ∀ c o, c ≠ i → g1.get? c = some o → g2.get? c = some o := fun c o h e => b2.extBut _ _ h e
  have o2 : IsPair g2 TO a b := c2 _ _ D.TOi1 (c1 _ _ D.TOz hO)
  refine wpAny_bind (wpAny_seqItems o2 rfl (wpAny_bind (wpAny_updateSeq_pair o2 fun g3 o3 b3 => ?_)))
  replace o3 : IsPair g3 TO u b := o3
  have c3 : ∀ c o, c ≠ TO → g2.get? c = some o → g3.get? c = some o := fun c o h e => b3.extBut _ _ h e
  refine wpAny_bind (wpAny_letGo (wpAny_pure (wpAny_bind (wpAny_bind (wpAny_onRaise ?_)))))
  show wpAny _ _ (Builtin.SmallTypes.nextOf (.ref j) >>= _) _ _ _
  refine wpAny_bind (S2.one (S2.up hg (fun o e => c3 j o D.TOi2.symm (c2 j o D.i12.symm (c1 j o D.i2z e))) fun o e => c3 q o D.l2TO (c2 q o D.l2i1 (c1 q o D.l2z e))) ev fun g4 f4 b4 => wpAny_pure ?_)
  have c4 : ∀ c o, c ≠ j → g3.get? c = some o → g4.get? c = some o := fun c o h e => b4.extBut _ _ h e
  have o4 : IsPair g4 TO u b := c4 _ _ D.TOi2 o3
  refine wpAny_bind (wpAny_seqItems o4 rfl (wpAny_bind (wpAny_updateSeq_pair o4 fun g5 o5 b5 => ?_)))
  replace o5 : IsPair g5 TO u v := o5
  have c5 : ∀ c o, c ≠ TO → g4.get? c = some o → g5.get? c = some o := fun c o h e => b5.extBut _ _ h e
  refine wpAny_bind (wpAny_letGo (wpAny_pure (wpAny_pure (wpAny_bind (wpAny_seqItems o5 rfl (wpAny_bind (wpAny_newTuple ?_)))))))
  have sz : g5.objs.size = s.heap.objs.size := b5.1.trans (b4.1.trans (b3.1.trans (b2.1.trans b1.1)))
  have z5 : IsZip g5 z TI TO .ellipsis := c5 _ _ D.TOz.symm (c4 _ _ D.i2z.symm (c3 _ _ D.TOz.symm (c2 _ _ D.i1z.symm z1)))
  have k5 : Kp z TO i j s.heap g5 := fun c o n1 n2 n3 n4 e => c5 c o n2 (c4 c o n4 (c3 c o n2 (c2 c o n3 (c1 c o n1 e))))
  have f5 : f (m + 1) g5 := S1.up f2 (fun o e => c5 i o D.TOi1.symm (c4 i o D.i12 (c3 i o D.TOi1.symm e))) fun o e => c5 p o D.l1TO (c4 p o D.l1i2 (c3 p o D.l1TO e))
  have g5' : g (n + 1) g5 := S2.up f4 (fun o e => c5 j o D.TOi2.symm e) fun o e => c5 q o D.l2TO e
  have lz : z < g5.objs.size := Heap.lt_size z5
  show wpAny _ _ (Builtin.SmallTypes.ownedTupleHandOut (.ref z) (.ref g5.objs.size) >>= _) _ _ _; refine wpAny_bind ?_; unfold Builtin.SmallTypes.ownedTupleHandOut
  have z6 : IsZip (g5.push { cls := .type "tuple", data := .seq #[u, v] }) z TI TO .ellipsis := Heap.get?_push_of_some _ z5
  refine wpAny_bind (wpAny_setField_rec z6 (by simp) fun g7 z7 b7 => ?_)
  replace z7 : IsZip g7 z TI TO (rawInt g5.objs.size) := z7
  refine wpAny_setField_rec z7 (by simp) fun g8 z8 b8 => ?_
  replace z8 : IsZip g8 z TI TO (rawInt g5.objs.size) := z8
  have c8 : ∀ c o, c ≠ z → g5.get? c = some o → g8.get? c = some o := fun c o h e => b8.extBut _ _ h (b7.extBut _ _ h (Heap.get?_push_of_some _ e))
  have t8 : IsPair g8 g5.objs.size u v := b8.extBut _ _ (Nat.ne_of_gt lz) (b7.extBut _ _ (Nat.ne_of_gt lz) (Heap.get?_push_size _ rfl))
  rw [sz] at z8 t8
  refine wpAny_pure ⟨_, rfl, ?_⟩
  show Q (.ref g5.objs.size) _
  rw [sz]
  exact ok g8 z8 (c8 _ _ D.TOz o5) (S1.up f5 (fun o => c8 i o D.i1z) fun o => c8 p o D.l1z) (S2.up g5' (fun o => c8 j o D.i2z) fun o => c8 q o D.l2z) t8 fun c o n1 n2 n3 n4 e => c8 c o n1 (k5 c o n1 n2 n3 n4 e)
theorem zip_no {Q : PySem.Fin → Shared → Prop} (hh : A.handled = none) (D : ZipApart z TI TO i j p q) (hz : IsZip s.heap z TI TO .none) (hI : IsPair s.heap TI (.ref i) (.ref j)) (hO : IsPair s.heap TO a b)
    (S1 : Its i p us f) (S2 : Its j q vs g) (hf : f m s.heap) (hg : g n s.heap) (end_ : us[m]? = none ∨ vs[n]? = none)
    (ok : ∀ h' e, Kp z TO i j s.heap h' → (∃ o, h'.get? e = some o ∧ o.cls = .type "StopIteration") → E (.ref e) { s with heap := h' }) :
    wpAny (model prog w) A (Builtin.«zip.__next__» ⟨[.ref z], []⟩) Q E s := by
  show wpAny _ _ (field (.ref z) 2 >>= _) _ _ _; refine wpAny_bind (wpAny_field hz rfl (x := .bool false) rfl ?_)
  show wpAny _ _ (field (.ref z) 3 >>= _) _ _ _; refine wpAny_bind (wpAny_field hz rfl (x := .ref TI) rfl (wpAny_bind (wpAny_seqItems hI rfl ?_)))
  show wpAny _ _ (Builtin.SmallTypes.ownedTupleIsFree (.ref z) >>= _) _ _ _; refine wpAny_bind ?_; unfold Builtin.SmallTypes.ownedTupleIsFree
  refine wpAny_bind (wpAny_field hz rfl (x := .none) rfl (wpAny_pure ?_)); simp only [if_true]
  refine wpAny_bind (wpAny_rule (wpAny_bind (wpAny_field hz rfl (x := .ref TO) rfl (wpAny_bind (wpAny_setField_rec hz (by simp) fun g1 z1 b1 => ?_)))))
  replace z1 : IsZip g1 z TI TO .ellipsis := z1
  refine wpAny_bind ?_; simp only [List.zipIdx_cons, List.zipIdx_nil, List.forIn_cons, List.forIn_nil]
  refine wpAny_bind (wpAny_bind (wpAny_onRaise ?_))
  show wpAny _ _ (Builtin.SmallTypes.nextOf (.ref i) >>= _) _ _ _
  have c1 : ∀ c o, c ≠ z → s.heap.get? c = some o → g1.get? c = some o := fun c o h e => b1.extBut _ _ h e
  have f1 : f m g1 := S1.up hf (fun o => c1 i o D.i1z) fun o => c1 p o D.l1z
  have stop : ∀ {h e} {y : Obj}, IsZip h z TI TO .ellipsis → h.get? e = some y → y.cls = .type "StopIteration" → e ≠ z := fun hz' hy hc q => by subst q; rw [hz'] at hy; cases hy; simp at hc
  rcases hu : us[m]? with _ | u
  · refine wpAny_bind (S1.no hh f1 hu fun g2 e x2 ⟨y, hy, hc⟩ => ?_)
    have z2 : IsZip g2 z TI TO .ellipsis := x2 _ _ D.i1z.symm z1
    exact wpAny_setField_rec z2 (by simp) fun g3 _ b3 => ok g3 e (fun c o n1 _ n3 _ e1 => b3.extBut _ _ n1 (x2 _ _ n3 (c1 _ _ n1 e1))) ⟨y, b3.extBut _ _ (stop z2 hy hc) hy, hc⟩
  · have hv : vs[n]? = none := by
      rcases end_ with h | h
      · rw [hu] at h; cases h
      · exact h
    refine wpAny_bind (S1.one f1 hu fun g2 f2 b2 => wpAny_pure ?_)
    have c2 : ∀ c o, c ≠ i → g1.get? c = some o → g2.get? c = some o := fun c o h e => b2.extBut _ _ h e
    have o2 : IsPair g2 TO a b := c2 _ _ D.TOi1 (c1 _ _ D.TOz hO)
    refine wpAny_bind (wpAny_seqItems o2 rfl (wpAny_bind (wpAny_updateSeq_pair o2 fun g3 o3 b3 => ?_)))
    have c3 : ∀ c o, c ≠ TO → g2.get? c = some o → g3.get? c = some o := fun c o h e => b3.extBut _ _ h e
    refine wpAny_bind (wpAny_letGo (wpAny_pure (wpAny_bind (wpAny_bind (wpAny_onRaise ?_)))))
    show wpAny _ _ (Builtin.SmallTypes.nextOf (.ref j) >>= _) _ _ _
    refine wpAny_bind (S2.no hh (S2.up hg (fun o e => c3 j o D.TOi2.symm (c2 j o D.i12.symm (c1 j o D.i2z e))) fun o e => c3 q o D.l2TO (c2 q o D.l2i1 (c1 q o D.l2z e))) hv fun g4 e x4 ⟨y, hy, hc⟩ => ?_)
    have z4 : IsZip g4 z TI TO .ellipsis := x4 _ _ D.i2z.symm (c3 _ _ D.TOz.symm (c2 _ _ D.i1z.symm z1))
    exact wpAny_setField_rec z4 (by simp) fun g5 _ b5 => ok g5 e (fun c o n1 n2 n3 n4 e1 => b5.extBut _ _ n1 (x4 _ _ n4 (c3 _ _ n2 (c2 _ _ n3 (c1 _ _ n1 e1))))) ⟨y, b5.extBut _ _ (stop z4 hy hc) hy, hc⟩
theorem zip_next_one {Q : Option Value → Shared → Prop} (D : ZipApart z TI TO i j p q) (hz : IsZip s.heap z TI TO .none) (hI : IsPair s.heap TI (.ref i) (.ref j)) (hO : IsPair s.heap TO a b)
    (S1 : Its i p us f) (S2 : Its j q vs g) (hf : f m s.heap) (hg : g n s.heap) (eu : us[m]? = some u) (ev : vs[n]? = some v)
    (ok : ∀ h', IsZip h' z TI TO (rawInt s.heap.objs.size) → IsPair h' TO u v → f (m + 1) h' → g (n + 1) h' → IsPair h' s.heap.objs.size u v → Kp z TO i j s.heap h' → Q (some (.ref s.heap.objs.size)) { s with heap := h' }) :
    wpAny (model prog w) A (pyNext (.ref z)) Q E s := by
  have ty : s.TypeIs (.ref z) "zip" := ⟨_, hz, rfl⟩
  unfold pyNext
  exact wpAny_bind (wpAny_attempt (wpAny_callSpecial?_slot (name := Str.ofString "__next__") ty F.slot_zip_next (wpAny_call_entry F.slot_zip_next ty F.entry_zip_next
    (zip_one D hz hI hO S1 S2 hf hg eu ev fun h' a1 a2 a3 a4 a5 a6 => wpAny_pure (ok h' a1 a2 a3 a4 a5 a6)) (F.args_zip_next_1 _))))
theorem zip_next_no {Q : Option Value → Shared → Prop} (hh : A.handled = none) (D : ZipApart z TI TO i j p q) (hz : IsZip s.heap z TI TO .none) (hI : IsPair s.heap TI (.ref i) (.ref j)) (hO : IsPair s.heap TO a b)
    (S1 : Its i p us f) (S2 : Its j q vs g) (hf : f m s.heap) (hg : g n s.heap) (end_ : us[m]? = none ∨ vs[n]? = none) (ok : ∀ h', Kp z TO i j s.heap h' → Q none { s with heap := h' }) :
    wpAny (model prog w) A (pyNext (.ref z)) Q E s := by
  have ty : s.TypeIs (.ref z) "zip" := ⟨_, hz, rfl⟩
  unfold pyNext
  refine wpAny_bind (wpAny_attempt (wpAny_callSpecial?_slot (name := Str.ofString "__next__") ty F.slot_zip_next (wpAny_call_entry F.slot_zip_next ty F.entry_zip_next
    (zip_no hh D hz hI hO S1 S2 hf hg end_ fun h' e k ⟨y, hy, hc⟩ => ?_) (F.args_zip_next_1 _))))
  exact wpAny_bind (wpAny_isInstance (T := "StopIteration") (b := true) ⟨y, hy, hc⟩ isSubtype_stop (wpAny_pure (ok _ k)))
end
/-! zip(tuple, list) made -/
def zh (h : Heap) (l m : Addr) : Heap :=
  ((((h.push { cls := .type "tuple_iterator", data := .fields #[.ref l, .int 0 0] }).push { cls := .type "list_iterator", data := .fields #[.ref m, .int 0 0] }).push { cls := .type "tuple", data := .seq #[.ref h.objs.size, .ref (h.objs.size + 1)] }).push
    { cls := .type "tuple", data := .seq #[.none, .none] }).push { cls := .type "zip", data := .fields #[.none, .bool false, .bool false, .ref (h.objs.size + 2), .ref (h.objs.size + 3)] }
theorem zh_at (h : Heap) (l m : Addr) : IsZip (zh h l m) (h.objs.size + 4) (h.objs.size + 2) (h.objs.size + 3) .none ∧ IsPair (zh h l m) (h.objs.size + 2) (.ref h.objs.size) (.ref (h.objs.size + 1)) ∧ IsPair (zh h l m) (h.objs.size + 3) .none .none ∧
    (zh h l m).IsTupleIter h.objs.size l 0 ∧ (zh h l m).IsListIter (h.objs.size + 1) m 0 ∧ ∀ c o, h.get? c = some o → (zh h l m).get? c = some o := by
  unfold zh
  refine ⟨?_, ?_, ?_, ⟨_, Heap.get?_push_of_some _ (Heap.get?_push_of_some _ (Heap.get?_push_of_some _ (Heap.get?_push_of_some _ (Heap.get?_push_size _ rfl)))), rfl, rfl⟩, ?_, fun c o e => ?_⟩
  · have e := Heap.get?_push_size ((((h.push { cls := .type "tuple_iterator", data := .fields #[.ref l, .int 0 0] }).push { cls := .type "list_iterator", data := .fields #[.ref m, .int 0 0] }).push { cls := .type "tuple", data := .seq #[.ref h.objs.size, .ref (h.objs.size + 1)] }).push
      { cls := .type "tuple", data := .seq #[.none, .none] }) (o := { cls := .type "zip", data := .fields #[.none, .bool false, .bool false, .ref (h.objs.size + 2), .ref (h.objs.size + 3)] }) rfl
    simpa only [Heap.size_push] using e
  · have e := Heap.get?_push_size ((h.push { cls := .type "tuple_iterator", data := .fields #[.ref l, .int 0 0] }).push { cls := .type "list_iterator", data := .fields #[.ref m, .int 0 0] }) (o := { cls := .type "tuple", data := .seq #[.ref h.objs.size, .ref (h.objs.size + 1)] }) rfl
    simp only [Heap.size_push] at e
    exact Heap.get?_push_of_some _ (Heap.get?_push_of_some _ e)
  · have e := Heap.get?_push_size (((h.push { cls := .type "tuple_iterator", data := .fields #[.ref l, .int 0 0] }).push { cls := .type "list_iterator", data := .fields #[.ref m, .int 0 0] }).push { cls := .type "tuple", data := .seq #[.ref h.objs.size, .ref (h.objs.size + 1)] }) (o := { cls := .type "tuple", data := .seq #[.none, .none] }) rfl
    simp only [Heap.size_push] at e
    exact Heap.get?_push_of_some _ e
  · have e := Heap.get?_push_size (h.push { cls := .type "tuple_iterator", data := .fields #[.ref l, .int 0 0] }) (o := { cls := .type "list_iterator", data := .fields #[.ref m, .int 0 0] }) rfl
    simp only [Heap.size_push] at e
    exact ⟨_, Heap.get?_push_of_some _ (Heap.get?_push_of_some _ (Heap.get?_push_of_some _ e)), rfl, rfl⟩
  · exact Heap.get?_push_of_some _ (Heap.get?_push_of_some _ (Heap.get?_push_of_some _ (Heap.get?_push_of_some _ (Heap.get?_push_of_some _ e))))
theorem zip_new (l m : Addr) (us vs : Array Value) :
    Meets (Builtin.«zip.__new__» ⟨[.type "zip", .ref l, .ref m], []⟩) (fun _ R s => s.heap.IsTuple l us ∧ s.heap.IsList m vs ∧ R (.ok (.ret (.ref (s.heap.objs.size + 4)))) { s with heap := zh s.heap l m }) :=
  .of_wp fun prog w A R s h => by
    obtain ⟨hp, gn, dr, tk, os⟩ := s
    obtain ⟨h1, h2, h⟩ := h
    have hsub := sub_zip
    have t1 : Heap.IsTuple (Shared.heap ⟨hp, gn, dr, tk, os⟩) l us := h1
    have t2 : Heap.IsList (Shared.heap ⟨hp.push { cls := .type "tuple_iterator", data := .fields #[.ref l, .int 0 0] }, gn, dr, tk, os⟩) m vs := Heap.IsList.push h2 _
    wp_walk using wpAny_pyIter_tuple t1, wpAny_pyIter_list t2
    simp only [Heap.size_push]
    exact ⟨_, rfl, h⟩
/-! the turn of a zip over a tuple and a list -/
/-- items of the tuple at a and of the list at b, in pairs -/
def ItzM (K : PySem.W.Frag) (a b : Addr) : It where
  go i H := ∃ us vs u v, SqT K H a us ∧ SqL K H b vs ∧ us[i]? = some u ∧ vs[i]? = some v
  yld i H x H' := ∃ T u v, x = .ref T ∧ H T = none ∧ H' = upd H T (.tup [u, v]) ∧ (∀ us, SqT K H a us → us[i]? = some u) ∧ ∀ vs, SqL K H b vs → vs[i]? = some v
  stop i H := ∃ us vs, SqT K H a us ∧ SqL K H b vs ∧ (us.length ≤ i ∨ vs.length ≤ i)
theorem five {c z TI TO i j : Addr} (h : c ∈ [z, TI, TO, i, j]) : c = z ∨ c = TI ∨ c = TO ∨ c = i ∨ c = j := by simpa using h
theorem kp_five {z TI TO i j : Addr} {h g : Heap} (k : Kp z TO i j h g) : ∀ c o, c ∉ [z, TI, TO, i, j] → h.get? c = some o → g.get? c = some o := fun c o n e => by
  simp only [List.mem_cons, List.not_mem_nil, or_false, not_or] at n
  exact k c o n.1 n.2.2.1 n.2.2.2.1 n.2.2.2.2 e
theorem turn_zipM {P : Program} {w : World} {K : PySem.W.Frag} {elts : List Expr} {kk : Nat} {tpos : Pos} {a b z TI TO i j : Addr} (D : ZipApart z TI TO i j a b) :
    Turn P w K (.Tuple elts kk tpos) (ItzM K a b) [z, TI, TO, i, j] z (fun k h => IsZip h z TI TO .none ∧ IsPair h TI (.ref i) (.ref j) ∧ (∃ u v, IsPair h TO u v) ∧ h.IsTupleIter i a k ∧ h.IsListIter j b k) where
  mem := .head _
  self := fun A k s Q E st q => wpAny_pyIter_zip st.1 q
  obj := fun k h st c hc => by
    obtain ⟨s1, s2, ⟨u, v, s3⟩, ⟨o4, e4, _, d4⟩, ⟨o5, e5, _, d5⟩⟩ := st
    rcases five hc with rfl | rfl | rfl | rfl | rfl
    · exact ⟨_, s1, fun v q => nomatch q⟩
    · exact ⟨_, s2, fun v q => nomatch q⟩
    · exact ⟨_, s3, fun v q => nomatch q⟩
    · exact ⟨o4, e4, fun v q => by rw [d4] at q; cases q⟩
    · exact ⟨o5, e5, fun v q => by rw [d5] at q; cases q⟩
  keep := fun k h g st up => by
    obtain ⟨s1, s2, ⟨u, v, s3⟩, s4, s5⟩ := st
    exact ⟨up z (by simp) _ s1, up TI (by simp) _ s2, ⟨u, v, up TO (by simp) _ s3⟩, s4.at fun o => up i (by simp) o, s5.at fun o => up j (by simp) o⟩
  item := by
    rintro X rfl rfl rfl hc k pins s σ H E I hf ⟨s1, s2, ⟨u0, v0, s3⟩, s4, s5⟩ ⟨us, vs, u, v, ha, hb, hu, hv⟩
    obtain ⟨l1, r1, p1, _⟩ := I.tuple ha
    obtain ⟨l2, r2, p2, _⟩ := I.list hb
    obtain ⟨x, hx, rx⟩ := r1.get hu
    obtain ⟨y, hy, ry⟩ := r2.get hv
    have lz : z < s.heap.objs.size := Heap.lt_size s1
    refine zip_next_one D s1 s2 s3 (its_tup D.l1i1) (its_list D.l2i2) ⟨s4, p1⟩ ⟨s5, p2.isList⟩ (by simpa using hx : l1.toArray[k]? = some x) (by simpa using hy : l2.toArray[k]? = some y) fun g z1 o1 f1 f2 t1 kp => ?_
    refine ⟨_, rfl, wpAny_letOwnedTupleGo_zip (s := { s with heap := g }) z1 fun g2 z2 b2 => ?_⟩
    have up : ∀ c o, c ∉ [z, TI, TO, i, j] → s.heap.get? c = some o → g2.get? c = some o := fun c o n e => (b2.2 _ fun q => n (by simp [q])).trans (kp_five (TI := TI) kp c o n e)
    have t2 : g2.get? s.heap.objs.size = some { cls := .type "tuple", data := .seq #[x, y] } := (b2.2 _ (Nat.ne_of_gt lz)).trans t1
    have new : ObjOk X.prog X.w (upd H s.heap.objs.size (.tup [u, v])) g2 s.heap.objs.size (.tup [u, v]) := ⟨by show 2 ≤ sizeLine; decide, [x, y], .cons rx (.cons ry .nil), ⟨_, t2, rfl, _, rfl⟩⟩
    have I1 : Inv X pins σ (upd H s.heap.objs.size (.tup [u, v])) { s with heap := g2 } := I.turnedNew (t' := s.toks) (ch := [z, TI, TO, i, j]) up hf (Nat.le_refl _) new
    refine ⟨.ref s.heap.objs.size, _, I1, rfl, ⟨_, u, v, rfl, I.hok.fresh (Nat.le_refl _), rfl, fun l hl => by rw [I.tuple_inj hl ha]; exact hu, fun l hl => by rw [I.list_inj hl hb]; exact hv⟩, ⟨z2, ?_, ⟨x, y, ?_⟩, ?_, ?_⟩, fun c hcm => ?_⟩
    · exact (b2.2 _ D.TIz).trans (kp _ _ D.TIz D.TITO D.TIi1 D.TIi2 s2)
    · exact (b2.2 _ D.TOz).trans o1
    · exact f1.1.at fun o q => (b2.2 _ D.i1z).trans q
    · exact f2.1.at fun o q => (b2.2 _ D.i2z).trans q
    · have lt : c < s.heap.objs.size := by
        obtain ⟨o4, e4, _⟩ := s4
        obtain ⟨o5, e5, _⟩ := s5
        rcases five hcm with rfl | rfl | rfl | rfl | rfl
        · exact lz
        · exact Heap.lt_size s2
        · exact Heap.lt_size s3
        · exact Heap.lt_size e4
        · exact Heap.lt_size e5
      rw [upd_ne (Nat.ne_of_lt lt)]
      exact (hf c hcm).1
  done := by
    rintro X rfl rfl rfl hc k pins s σ H E I hf ⟨s1, s2, ⟨u0, v0, s3⟩, s4, s5⟩ ⟨us, vs, ha, hb, he⟩
    obtain ⟨l1, r1, p1, _⟩ := I.tuple ha
    obtain ⟨l2, r2, p2, _⟩ := I.list hb
    have n1 := r1.length
    have n2 := r2.length
    have e1 : l1.toArray[k]? = none ∨ l2.toArray[k]? = none := he.imp (fun q => by simp; omega) fun q => by simp; omega
    exact zip_next_no (I.ok.hd hc) D s1 s2 s3 (its_tup D.l1i1) (its_list D.l2i2) ⟨s4, p1⟩ ⟨s5, p2.isList⟩ e1 fun g kp => ⟨rfl, I.turnedL (t' := s.toks) (ch := [z, TI, TO, i, j]) (kp_five kp) hf⟩
def iZipM (K : PySem.W.Frag) (ta : TA) : TI := fun σ H Rr => ta σ H fun vs H1 => ∃ a b us ws, vs = [.ref a, .ref b] ∧ SqT K H1 a us ∧ SqL K H1 b ws ∧ Rr (ItzM K a b) H1
theorem pi_zipM {X : Cx} {e e2 : Expr} {ta : TA} {p pos tpos : Pos} {elts : List Expr} {kk : Nat} (hg : Gl X "zip") (hm : X.mg "zip" = none) (ha : PA X [e, e2] ta)
    (hs : starEach [e, e2] X.env = (false, eval e X.env) :: starEach [e2] X.env := by rfl) (hpl : (backTo pos (starEach [e2] X.env)).any (·.1) = false := by rfl) :
    PI X (.Tuple elts kk tpos) (.Call (.Name "zip" p) [e, e2] [] pos) (iZipM X.K ta) := by
  refine ⟨fun pins s σ H Rr I h => Call_ (ld_blt I hg hm PyProof.Rows.boot_zip (PyProof.Rows.callWith_type1 (thn (ha.run pos pins s σ H _ I h) fun xs s1 ⟨vs, H1, I1, r1, a, b, us, ws, ev, qa, qb, q⟩ => ?_) hs hpl))⟩
  subst ev
  cases r1 with | cons r r' => cases r' with | cons r' r'' =>
  cases r''; cases r; cases r'
  obtain ⟨l1, r1, p1, _⟩ := I1.tuple qa
  obtain ⟨l2, r2, p2, _⟩ := I1.list qb
  obtain ⟨o1, ho1, _⟩ := id p1
  obtain ⟨h1, h2, h3, h4, h5, h6⟩ := zh_at s1.heap a b
  refine callType_new F.called_zip (by decide) (F.typeCall_zip_2 _ _) (F.newCall_zip_2 _ _) (fun obj => F.args_object_init_3 obj _ _) F.entry_zip_new (zip_new a b l1.toArray l2.toArray) ⟨p1, p2.isList, ⟨_, h1, rfl⟩, wpAny_pyIter_zip h1 ?_⟩
  have I2 : Inv X pins σ H1 { s1 with heap := zh s1.heap a b } := I1.kept (t' := s1.toks) h6
  have fr : ∀ c, c ∈ [s1.heap.objs.size + 4, s1.heap.objs.size + 2, s1.heap.objs.size + 3, s1.heap.objs.size, s1.heap.objs.size + 1] → FpOk X pins H1 c := fun c hcm => by
    have le : s1.heap.objs.size ≤ c := by
      rcases five hcm with e | e | e | e | e <;> rw [e] <;> first | exact Nat.le_add_right _ _ | exact Nat.le_refl _
    exact I1.fpOk le (I1.hok.fresh le)
  exact ⟨s1.heap.objs.size + 4, _, _, _, H1, rfl, I2, turn_zipM (PySem.W.ktu_apart s1.heap.objs.size a b (Heap.lt_size ho1) p2.lt), ⟨h1, h2, ⟨_, _, h3⟩, h4, h5⟩, fr, q⟩
/-! by data -/
def zp2 : List D → R (List D)
  | [.tuple xs, .list ys] => .ok (zipL xs ys)
  | _ => .bad
def gZip2 (gs : G → R (List D)) (Γ : G) : R (List D) := (gs Γ).bind zp2
@[simp] theorem ev_zip2 (gs : G → R (List D)) (Γ : G) : gZip2 gs Γ = appL zp2 (gs Γ) := (rfl)
@[simp] theorem zp2_tl (xs ys : List D) : zp2 [.tuple xs, .list ys] = .ok (zipL xs ys) := (rfl)
theorem walk_zipM {K : PySem.W.Frag} {a b : Addr} {xs ys : List V} {n : Nat} (hn : n = min xs.length ys.length) : Walk (ItzM K a b) n (fun H => SqT K H a xs ∧ SqL K H b ys) (YPair (fun i => xs[i]?) (fun i => ys[i]?)) := by
  subst hn
  refine ⟨fun i _ hi q => ?_, fun _ q => ⟨xs, ys, q.1, q.2, by omega⟩, fun i H v H' _ q y => ?_⟩
  · exact ⟨xs, ys, xs[i]'(by omega), ys[i]'(by omega), q.1, q.2, List.getElem?_eq_getElem _, List.getElem?_eq_getElem _⟩
  · obtain ⟨T, x, z, h1, h2, h3, h4, h5⟩ := y
    exact ⟨T, x, z, h1, h2, h3, h4 xs q.1, h5 ys q.2⟩
theorem wd_zipM {K : PySem.W.Frag} {F : Hp} {a b : Addr} {vs ws : List V} {ds es : List D} (h : SqT K F a vs) (k : DpAll K F vs ds) (h2 : SqL K F b ws) (k2 : DpAll K F ws es) : WalkD K F (ItzM K a b) (zipL ds es) := by
  refine ⟨_, _, walk_zipM (xs := vs) (ys := ws) (by rw [zipL_length, dpa_length k, dpa_length k2]), fun H s => ⟨same_seqT s h, s.seq h2⟩, fun i H x H' d F2 s s2 e y => ?_⟩
  obtain ⟨T, u, w, rfl, hT, rfl, eu, ew⟩ := y
  obtain ⟨z1, z2, e1, e2, rfl⟩ := zipL_get ds es i d e
  obtain ⟨z', e', dp⟩ := dpa_getv k eu
  rw [e1] at e'; cases e'
  obtain ⟨z', e', dp2⟩ := dpa_getv k2 ew
  rw [e2] at e'; cases e'
  exact pair_new s2 hT (dp_mono s dp) (dp_mono s dp2)
section
variable {X : Cx} {B : Hp} {E : L2.St → XK}
theorem i_zip2 {e e2 : Expr} {p pos tpos : Pos} {elts : List Expr} {kk : Nat} {gs : G → R (List D)} (hg : Gl X "zip") (hm : X.mg "zip" = none) (ha : DA X B E [e, e2] gs)
    (hs : starEach [e, e2] X.env = (false, eval e X.env) :: starEach [e2] X.env := by rfl) (hpl : (backTo pos (starEach [e2] X.env)).any (·.1) = false := by rfl) :
    DI X B E (.Tuple elts kk tpos) (.Call (.Name "zip" p) [e, e2] [] pos) (gZip2 gs) :=
  pi_imp (pi_zipM hg hm ha hs hpl) fun σ H Rr ⟨Γ, F, s, er, o⟩ => by
    refine ⟨Γ, F, s, er, ?_⟩
    unfold gZip2 at o
    revert o
    cases gs Γ with
    | exc c => exact fun o => o
    | bad => exact fun o => o
    | ok ds =>
      intro o vs F' H' x dp
      simp only [R.bind_ok] at o
      unfold zp2 at o
      split at o
      · rename_i heq
        split at heq
        · cases heq
          cases dp with | cons h1 h2 => cases h2 with | cons h3 h4 =>
          cases h4
          cases h1 with | tup k1 k2 => cases h3 with | lst l1 l2 =>
          exact ⟨_, _, _, _, rfl, same_seqT x.fh k1, x.fh.seq l1, o _ F' H' x (wd_zipM k1 k2 l1 l2)⟩
        · cases heq
      · rename_i heq
        split at heq <;> cases heq
      · exact o.elim
end
end ND
/-! ND33: lists of one's own: made of any fresh list, an item put, one removed, read in between. -/
namespace ND
open PySem PySem.Spec PyProof.Rows L2
section
variable {X : Cx} {B F0 : Hp} {n : Nat} {E : L2.St → XK}
/-! ### an expression whose answer is a new list -/
def OutN (K : PySem.W.Frag) (mg : Str → Option Value) (F H : Hp) (E : XK) (r : R D) (Q : VK) : Prop := match r with
  | .ok (.list ds) => ∀ p vs F' H', Ext F H F' H' → H p = none → H' p = some (.lst vs) → F' p = none → DpAll K F' vs ds → Q (.ref p) H'
  | .ok _ => False
  | .exc c => ∀ C F' H', mg c = some (.ref C) → Ext F H F' H' → E (.ref C) none H'
  | .bad => False
def tDN (K : PySem.W.Frag) (mg : Str → Option Value) (B : Hp) (E : L2.St → XK) (g : G → R D) : TE := fun σ H Q => ∃ Γ F, Same F H ∧ ER K B F H σ Γ ∧ OutN K mg F H (E σ) (g Γ) Q
abbrev DN (X : Cx) (B : Hp) (E : L2.St → XK) (e : Expr) (g : G → R D) : Prop := PE X e (tDN X.K X.mg B E g)
theorem new_ext {F H : Hp} {p : Addr} (s : Same F H) (hp : H p = none) (o : HO) : Ext F H F (upd H p o) :=
  ⟨Same.refl _, fun b u e => by rw [upd_ne (ne_of_none e hp)]; exact e, fun b u e => by rw [upd_ne (ne_of_none (s _ _ e) hp)]; exact s _ _ e, fun b h _ => h⟩
/-- [e, ..] -/
theorem n_lst {es : List Expr} {pos : Pos} {gs : G → R (List D)} (h : DA X B E es gs) : DN X B E (.List es pos) (gLst gs) :=
  pe_imp (pe_lst h) fun σ H Q ⟨Γ, F, s, er, o⟩ => by
    refine ⟨Γ, F, s, er, ?_⟩
    unfold gLst at o
    revert o
    cases gs Γ with
    | exc c => exact fun o => o
    | bad => exact fun o => o
    | ok ds =>
      intro o vs F' H' x dp
      simp only [R.bind_ok, mkL] at o
      by_cases hz : ds.length ≤ sizeLine
      · rw [if_pos hz] at o
        refine ⟨by rw [dpa_length dp]; exact hz, fun p hp => ?_⟩
        have hHp : H p = none := by
          cases q : H p with
          | none => rfl
          | some u => rw [x.h _ _ q] at hp; cases hp
        exact o p vs F' _ (x.trans (new_ext x.fh hp _)) hHp upd_same (x.fh.free hp) dp
      · rw [if_neg hz] at o; exact o.elim
/-- list(e) -/
theorem n_list {e : Expr} {p pos : Pos} {gs : G → R (List D)} (hg : Gl X "list") (hm : X.mg "list" = none) (ha : DA X B E [e] gs) (he : starEach [e] X.env = (false, eval e X.env) :: starEach [] X.env := by rfl) (hpl : (backTo pos (starEach [] X.env)).any (·.1) = false := by rfl) :
    DN X B E (.Call (.Name "list" p) [e] [] pos) (gCall fList gs) :=
  pe_imp (pe_callTy call_list_of hg hm bb_list ha (by decide) (by decide) he hpl) fun σ H Q ⟨Γ, F, s, er, o⟩ => by
    refine ⟨Γ, F, s, er, ?_⟩
    unfold gCall at o
    revert o
    cases gs Γ with
    | exc c => exact fun o => o
    | bad => exact fun o => o
    | ok ds =>
      intro o vs F' H' x dp
      simp only [R.bind_ok] at o
      have fin : ∀ (ys : List V) (zs : List D), DpAll X.K F' ys zs → OutN X.K X.mg F H (E σ) (.ok (.list zs)) Q → ∀ l, H' l = none → Q (.ref l) (upd H' l (.lst ys)) := fun ys zs d o l hl => by
        have hHp : H l = none := by
          cases q : H l with
          | none => rfl
          | some u => rw [x.h _ _ q] at hl; cases hl
        exact o l ys F' _ (x.trans (new_ext x.fh hl _)) hHp upd_same (x.fh.free hl) d
      unfold fList at o
      split at o
      · cases dp with | cons h1 h2 => cases h2; cases h1 with | lst k1 k2 => exact ⟨_, _, rfl, .inl (x.fh.seq k1), fin _ _ k2 o⟩
      · cases dp with | cons h1 h2 => cases h2; cases h1 with | tup k1 k2 => exact ⟨_, _, rfl, .inr (same_seqT x.fh k1), fin _ _ k2 o⟩
      · exact o.elim
/-- a comprehension -/
theorem lc_readN {K : PySem.W.Frag} {mg : Str → Option Value} {vs is : List Nat} {st : D → G → R G} {gi : G → R (List D)} {gt : G → R Bool} {ge : G → R D} (his : ∀ i ∈ is, i ∈ vs) (hst : ∀ d Γ Γ', st d Γ = .ok Γ' → Γ'.length = Γ.length) {σ : L2.St} {H : Hp} {Q : VK}
    (h : tDN K mg B E (gLc vs st gi gt ge) σ H Q) :
    tLc (iD K mg B E gi) (tgD K B is st) (tDT K mg B E0S gt) (tD K mg B E0S ge) vs σ H Q := by
  obtain ⟨Γ, F, s, er, o⟩ := h
  refine ⟨Γ, F, s, er, ?_⟩
  unfold gLc at o
  revert o
  cases gi Γ with
  | exc c => exact fun o => o
  | bad => exact fun o => o
  | ok ds =>
    intro o J F1 H1 x1 wd Da hD
    simp only [R.bind_ok] at o
    split at o
    · rename_i hlen
      cases eg : lcGo (wipeG Γ vs) st gt ge ds with
      | exc c => rw [eg] at o; exact o.elim
      | bad => rw [eg] at o; exact o.elim
      | ok ys =>
        rw [eg] at o
        have o : OutN K mg F H (E σ) (.ok (.list ys)) Q := o
        obtain ⟨W, Y, wk, wst, wy⟩ := wd
        -- the invariant: what is made so far, and what is still made of the rest
        have hF1D : F1 Da = none := x1.fh.free hD
        refine lc_it wk (fun i H2 => i ≤ ds.length ∧ ∃ F2 acc dacc rest, Same F1 F2 ∧ Same F2 H2 ∧ Same H1 H2 ∧ (∀ p, F1 p = none → H1 p ≠ none → F2 p = none) ∧ F2 Da = none ∧ H2 Da = some (.lst acc) ∧ DpAll K F2 acc dacc ∧ acc.length ≤ i ∧
          lcGo (wipeG Γ vs) st gt ge (ds.drop i) = .ok rest ∧ ys = dacc ++ rest) ?_ ?_ ?_ ?_
        · refine ⟨Nat.zero_le _, F1, [], [], ys, Same.refl _, fun b u e => ?_, fun b u e => ?_, fun _ h _ => h, hF1D, upd_same, .nil, Nat.le_refl _, by simpa using eg, rfl⟩
          · rw [upd_ne (ne_of_none e hF1D)]; exact x1.fh _ _ e
          · rw [upd_ne (ne_of_none e hD)]; exact e
        · rintro i H2 hi ⟨_, F2, acc, dacc, rest, s12, s2, _⟩
          exact wst H2 (s12.trans s2)
        · rintro i x H2 H3 hi ⟨_, F2, acc, dacc, rest, s12, s2, sH, no, hF2D, hH2D, dpacc, hal, erest, eys⟩ y
          obtain ⟨F3, x3, dpx⟩ := wy i H2 x H3 ds[i] F2 s12 s2 (by simp [hi]) y
          have hH3D : H3 Da = some (.lst acc) := x3.h _ _ hH2D
          have hF3D : F3 Da = none := x3.no Da hF2D (by rw [hH2D]; simp)
          rw [List.drop_eq_getElem_cons hi] at erest
          unfold lcGo at erest
          -- the state of the slots
          have er3 : ER K B F3 H3 (L2.wipe σ vs) (wipeG Γ vs) := by
            have e1 : ER K B F1 H1 σ Γ := er.ext x1
            have e2 : ER K B F2 H2 σ Γ := e1.ext ⟨s12, sH, s2, no⟩
            exact (e2.ext x3).wipe vs
          cases est : st ds[i] (wipeG Γ vs) with
          | exc c => rw [est] at erest; cases erest
          | bad => rw [est] at erest; cases erest
          | ok Γ1 =>
            rw [est] at erest
            simp only [R.bind_ok] at erest
            refine ⟨wipeG Γ vs, F3, ds[i], Γ1, x3.fh, er3, dpx, est, hst _ _ _ est, fun σ' er' hl' hk' => ⟨?_, Γ1, F3, x3.fh, er', ?_⟩⟩
            · rw [wipe_eq (σ := L2.wipe σ vs) hl' fun i hi => hk' i fun z => hi (his i z), wipe_wipe]
            · cases egt : gt Γ1 with
              | exc c => rw [egt] at erest; cases erest
              | bad => rw [egt] at erest; cases erest
              | ok b =>
                rw [egt] at erest
                simp only [noexc, R.bind_ok] at erest
                intro F4 H4 x4
                have hH4D : H4 Da = some (.lst acc) := x4.h _ _ hH3D
                have hF4D : F4 Da = none := x4.no Da hF3D (by rw [hH3D]; simp)
                have x14 : Ext F2 H2 F4 H4 := x3.trans x4
                have no4 : ∀ p, F1 p = none → H1 p ≠ none → F4 p = none := fun p h1 h2 => x14.no p (no p h1 h2) (by
                  cases q : H1 p with
                  | none => exact absurd q h2
                  | some u => rw [sH _ _ q]; simp)
                cases b with
                | false =>
                  simp only [Bool.false_eq_true, if_false] at erest
                  refine iteF ⟨hi, F4, acc, dacc, rest, s12.trans x14.f, x14.fh, sH.trans x14.h, no4, hF4D, hH4D, dpa_mono x14.f dpacc, Nat.le_succ_of_le hal, erest, eys⟩
                | true =>
                  simp only [if_true] at erest
                  refine iteT ⟨Γ1, F4, x4.fh, er'.ext x4, ?_⟩
                  cases ege : ge Γ1 with
                  | exc c => rw [ege] at erest; cases erest
                  | bad => rw [ege] at erest; cases erest
                  | ok yd =>
                    rw [ege] at erest
                    simp only [noexc, R.bind_ok] at erest
                    intro v F5 H5 x5 dp5
                    have hH5D : H5 Da = some (.lst acc) := x5.h _ _ hH4D
                    have hF5D : F5 Da = none := x5.no Da hF4D (by rw [hH4D]; simp)
                    have x15 : Ext F2 H2 F5 H5 := x14.trans x5
                    cases erest2 : lcGo (wipeG Γ vs) st gt ge (ds.drop (i + 1)) with
                    | exc c => rw [erest2] at erest; cases erest
                    | bad => rw [erest2] at erest; cases erest
                    | ok ys2 =>
                      rw [erest2] at erest
                      simp only [R.bind_ok] at erest
                      cases erest
                      refine ⟨acc, hH5D, Nat.lt_of_le_of_lt hal (Nat.lt_of_lt_of_le hi hlen), hi, F5, acc ++ [v], dacc ++ [yd], ys2, s12.trans x15.f, fun b u e => ?_, fun b u e => ?_, fun p h1 h2 => x5.no p (no4 p h1 h2) (by
                        cases q : H1 p with
                        | none => exact absurd q h2
                        | some u => rw [x14.h _ _ (sH _ _ q)]; simp), hF5D, upd_same, dpa_append (dpa_mono x15.f dpacc) (.cons dp5 .nil), by simp; omega, rfl, by simp [eys]⟩
                      · rw [upd_ne (ne_of_none e hF5D)]; exact x5.fh _ _ e
                      · have hb : b ≠ Da := fun z => by rw [z, hD] at e; cases e
                        rw [upd_ne hb]; exact x15.h _ _ (sH _ _ e)
        · rintro H2 ⟨_, F2, acc, dacc, rest, s12, s2, sH, no, hF2D, hH2D, dpacc, hal, erest, eys⟩
          rw [List.drop_length] at erest
          unfold lcGo at erest
          cases erest
          rw [List.append_nil] at eys
          subst eys
          have hHD : H Da = none := by
            cases q : H Da with
            | none => rfl
            | some u => rw [x1.h _ _ q] at hD; cases hD
          refine o Da acc F2 H2 ⟨x1.f.trans s12, x1.h.trans sH, s2, fun p h1 h2 => ?_⟩ hHD hH2D hF2D dpacc
          have h3 : F1 p = none := x1.no p h1 h2
          have h4 : H1 p ≠ none := by
            cases q : H p with
            | none => exact absurd q h2
            | some u => rw [x1.h _ _ q]; simp
          exact no p h3 h4
    · exact o.elim
theorem ER.adopt {K : PySem.W.Frag} {F H F' H' : Hp} {σ : L2.St} {Γ : G} (er : ER K B F H σ Γ) (x : Ext F H F' H') (i : Nat) {p : Addr} {vs : List V} {ds : List D} (hp : H p = none) (hp' : H' p = some (.lst vs)) (hf : F' p = none) (hb : B p = none) (dp : DpAll K F' vs ds) :
    ER K B F' H' (σ.set i (some (.ref p))) (Γ.set i (.own ds)) := by
  have keep : ∀ (j : Nat) (ds : List D), Γ[j]? = some (.own ds) → σ[j]? ≠ some (some (.ref p)) := fun j ds h e => by
    obtain ⟨q, ws, a, _, _, c, _⟩ := er.ok j _ h
    rw [a] at e
    cases e
    rw [hp] at c
    cases c
  have er2 := er.ext x
  refine ⟨by rw [List.length_set, List.length_set]; exact er.len, fun j s q => ?_, fun a b ds1 ds2 q h1 h2 h3 h4 => ?_, fun a b ds1 ds2 q h1 h2 h3 h4 => ?_⟩
  · rw [List.getElem?_set] at q
    by_cases hij : i = j
    · subst hij
      rw [if_pos rfl] at q
      split at q
      · rename_i hl
        cases q
        exact ⟨p, vs, by rw [List.getElem?_set_self (by rw [er.len]; exact hl)], hb, hf, hp', dp⟩
      · cases q
    · rw [if_neg hij] at q
      have := er2.ok j s q
      cases s with
      | un => trivial
      | exn a =>
        show (List.set _ _ _)[_]? = _
        rw [List.getElem?_set_ne hij]
        exact this
      | dat d => obtain ⟨v, a, b⟩ := this; exact ⟨v, by rw [List.getElem?_set_ne hij]; exact a, b⟩
      | own ds =>
        obtain ⟨p2, xs, a, b0, b1, c, d⟩ := this
        exact ⟨p2, xs, by rw [List.getElem?_set_ne hij]; exact a, b0, b1, c, d⟩
      | cel k =>
        obtain ⟨p2, u, a, b0, b1, c, d⟩ := this
        exact ⟨p2, u, by rw [List.getElem?_set_ne hij]; exact a, b0, b1, c, d⟩
  · rw [List.getElem?_set] at h1 h2 h3 h4
    by_cases ha : i = a <;> by_cases hb : i = b
    · exact ha.symm.trans hb
    · subst ha
      rw [if_pos rfl] at h3
      rw [if_neg hb] at h2 h4
      split at h3
      · cases h3
        exact (keep b _ h2 h4).elim
      · cases h3
    · subst hb
      rw [if_neg ha] at h1 h3
      rw [if_pos rfl] at h4
      split at h4
      · cases h4
        exact (keep a _ h1 h3).elim
      · cases h4
    · rw [if_neg ha] at h1 h3
      rw [if_neg hb] at h2 h4
      exact er.apart a b _ _ q h1 h2 h3 h4
  · have un : ∀ (a : Nat) (k : Cel), (Γ.set i (.own ds))[a]? = some (.cel k) → i ≠ a ∧ Γ[a]? = some (.cel k) := fun a k h => by
      rw [List.getElem?_set] at h
      by_cases z : i = a
      · rw [if_pos z] at h
        split at h <;> cases h
      · rw [if_neg z] at h
        exact ⟨z, h⟩
    obtain ⟨na, ga⟩ := un _ _ h1
    obtain ⟨nb, gb⟩ := un _ _ h2
    rw [List.getElem?_set_ne na] at h3
    rw [List.getElem?_set_ne nb] at h4
    exact er.apartC a b _ _ q ga gb h3 h4
def gOwnN (i : Nat) (g : G → R D) (Γ : G) : R Fl := (g Γ).bind fun d => match d with
  | .list ds => .ok (.nx (Γ.set i (.own ds)))
  | _ => .bad
theorem keep_ownN {i : Nat} {g : G → R D} : KeepN (gOwnN i g) := fun Γ => by
  unfold gOwnN
  cases g Γ with
  | exc c => exact ⟨fun _ q => (by cases q), fun _ q => (by cases q), fun _ q => (by cases q)⟩
  | bad => exact ⟨fun _ q => (by cases q), fun _ q => (by cases q), fun _ q => (by cases q)⟩
  | ok d => cases d <;> exact ⟨fun _ q => (by cases q <;> exact List.length_set ..), fun _ q => (by cases q), fun _ q => (by cases q)⟩
/-- what a new list does to the slots -/
theorem ownN_in {K : PySem.W.Frag} {mg : Str → Option Value} {i : Nat} {g : G → R D} {σ : L2.St} {H : Hp} {Dd : Ends} (h : tDs K mg B F0 n E (gOwnN i g) Dd σ H) :
    tDN K mg B E g σ H (fun v H1 => Dd.nx (σ.set i (some v)) H1) := by
  obtain ⟨Γ, F, sh, er, hn, o⟩ := h
  refine ⟨Γ, F, sh.f, er, ?_⟩
  unfold gOwnN at o
  revert o
  cases g Γ with
  | exc c => exact fun o C F' H' m x => o σ C F' H' (er.slen hn) m (sh.ext x) x.f
  | bad => exact fun o => o
  | ok d =>
    intro o
    cases d with
    | list ds =>
      intro p vs F' H' x hp hp' hf dp
      have hB : B p = none := by
        cases q : B p with
        | none => rfl
        | some u => rw [sh.b _ _ q] at hp; cases hp
      exact o _ F' H' (sh.ext x) x.f (er.adopt x i hp hp' hf hB dp)
    | _ => exact o.elim
theorem s_ownN {x : Str} {e : Expr} {pos pos' : Pos} {g : G → R D} (i : Nat) (nd : X.N.Nodup) (h : DN X B E e g) (hi : X.N[i]? = some x := by rfl) (hx : Loc X.env.scope x := by first | exact Or.inl rfl | exact Or.inr rfl)
    (hf : X.fn x = true ∨ X.env.scope.names.lookup x = some .local := by first | exact .inl rfl | exact .inr rfl)
    (hs : swapsWithSole [.Name x pos'] e pos.line X.env = pure false := by rfl) (hw : swappedStores [.Name x pos'] e X.env = pure none := by rfl) (h1 : (assignEach [.Name x pos'] X.env).map (·.2) = [assign (.Name x pos') X.env] := by rfl) :
    DS X B F0 n E (.Assign [.Name x pos'] e pos) (gOwnN i g) :=
  ⟨ps_imp (ps_asg h (pg_name nd hi hx hf) hs hw h1) fun Dd σ H h => ownN_in h, keep_ownN⟩
/-- name = [comprehension] on one line, that may change on -/
theorem s_ownlc {x : Str} {p' : Pos} {elt tg iter : Expr} {ifs : List Expr} {scope : Scope} {pos spos : Pos} {is : List Nat} {st : D → G → R G} {gi : G → R (List D)} {gt : G → R Bool} {ge : G → R D} (i : Nat) (own : List (Str × Nat)) (hc : X.calm = true) (hN : X.N.Nodup) (ok : BlkOk X.N X.env.scope scope own) (hi : DI X B E tg iter gi)
    (hg : ∀ (s : Shared) (H : Hp) (C : Addr) (cl : List (Str × Addr)) (fp : List Addr), DG (X.blk s H scope (compEnvC scope cl C X.env) fp) B tg is st)
    (ht : ∀ (s : Shared) (H : Hp) (C : Addr) (cl : List (Str × Addr)) (fp : List Addr), DTs (X.blk s H scope (compEnvC scope cl C X.env) fp) B ifs gt)
    (he : ∀ (s : Shared) (H : Hp) (C : Addr) (cl : List (Str × Addr)) (fp : List Addr), DE (X.blk s H scope (compEnvC scope cl C X.env) fp) B E0S elt ge)
    (hst : ∀ d Γ Γ', st d Γ = .ok Γ' → Γ'.length = Γ.length) (hx : X.N[i]? = some x := by rfl) (hxl : X.env.scope.names.lookup x = some .local := by rfl)
    (hsw : swapsWith (.ListComp elt [⟨tg, iter, ifs, 0⟩] scope pos) (some (.Name x p')) spos.line X.env = pure true := by exact sw_true rfl rfl rfl rfl) (his : ∀ i ∈ is, i ∈ own.map (·.2) := by decide) (hs : ∀ x, foldedSetIterable iter X.env x = pure x := by intro _; rfl) :
    DS X B F0 n E (.Assign [.Name x p'] (.ListComp elt [⟨tg, iter, ifs, 0⟩] scope pos) spos) (gOwnN i (gLc (own.map (·.2)) st gi gt ge)) :=
  ⟨ps_imp (ps_setLc hc hN hx hxl hsw hi ok (fun s H C cl fp => (hg s H C cl fp).pg) ht he hs) fun Dd σ H h => by
    show tLc _ _ _ _ _ σ H (fun x H1 => gName i x σ H1 Dd.nx)
    exact lc_readN (gt := gt) (ge := ge) his hst (ownN_in h), keep_ownN⟩
/-! ### an item put, one removed -/
def putAt (i : Nat) (Γ : G) (ds : List D) (d : D) : D → R Fl
  | .int j => (match ixN ds.length j with | some m => .ok (.nx (Γ.set i (.own (ds.set m d)))) | none => .bad)
  | _ => .bad
def gPut (i : Nat) (gk g : G → R D) (Γ : G) : R Fl := (g Γ).bind fun d => match Γ[i]? with
  | some (.own ds) => (gk Γ).bind (putAt i Γ ds d)
  | _ => .bad
theorem keep_put {i : Nat} {gk g : G → R D} : KeepN (gPut i gk g) := fun Γ => by
  unfold gPut
  cases g Γ with
  | exc c => exact ⟨fun _ q => (by cases q), fun _ q => (by cases q), fun _ q => (by cases q)⟩
  | bad => exact ⟨fun _ q => (by cases q), fun _ q => (by cases q), fun _ q => (by cases q)⟩
  | ok d =>
    simp only [R.bind_ok]
    split
    · cases gk Γ with
      | exc c => exact ⟨fun _ q => (by cases q), fun _ q => (by cases q), fun _ q => (by cases q)⟩
      | bad => exact ⟨fun _ q => (by cases q), fun _ q => (by cases q), fun _ q => (by cases q)⟩
      | ok k =>
        simp only [R.bind_ok]
        unfold putAt
        split
        · split
          · exact ⟨fun _ q => (by cases q; simp), fun _ q => (by cases q), fun _ q => (by cases q)⟩
          · exact ⟨fun _ q => (by cases q), fun _ q => (by cases q), fun _ q => (by cases q)⟩
        · exact ⟨fun _ q => (by cases q), fun _ q => (by cases q), fun _ q => (by cases q)⟩
    · exact ⟨fun _ q => (by cases q), fun _ q => (by cases q), fun _ q => (by cases q)⟩
theorem dpa_set {K : PySem.W.Frag} {F : Hp} {v : V} {d : D} (h : Dp K F v d) : ∀ {vs : List V} {ds : List D} (m : Nat), DpAll K F vs ds → DpAll K F (vs.set m v) (ds.set m d)
  | _, _, _, .nil => .nil
  | _, _, 0, .cons _ b => .cons h b
  | _, _, m + 1, .cons a b => .cons a (dpa_set h m b)
theorem s_place {x : Str} {k e : Expr} {p1 p2 pos : Pos} {gk g : G → R D} (i : Nat) (he : DE X B E e g) (hk : DE X B E k gk) (hN : X.N[i]? = some x := by rfl) (hv : Vis X.env.scope x := by first | exact Or.inl rfl | exact Or.inr (Or.inl rfl) | exact Or.inr (Or.inr rfl)) (hd : (x == ("__debug__" : Str)) = false := by decide)
    (hcd : (x == ("__classdict__" : Str)) = false := by decide)
    (ha : ∀ v, assign (.Subscript (.Name x p1) k p2) X.env v = (do
      let ov ← holding [v] (eval (.Name x p1) X.env)
      let iv ← holding [v, ov] (eval k X.env)
      standAt p2
      holding [v, ov, iv] (setItem ov iv v)
      release [v, ov, iv] []) := by intro _; rfl)
    (hs : swapsWithSole [.Subscript (.Name x p1) k p2] e pos.line X.env = pure false := by rfl) (hw : swappedStores [.Subscript (.Name x p1) k p2] e X.env = pure none := by rfl)
    (h1 : (assignEach [.Subscript (.Name x p1) k p2] X.env).map (·.2) = [assign (.Subscript (.Name x p1) k p2) X.env] := by rfl) :
    DS X B F0 n E (.Assign [.Subscript (.Name x p1) k p2] e pos) (gPut i gk g) :=
  ⟨ps_imp (ps_asg he (pg_sub (pe_var hN hv hd hcd) hk set_list ha) hs hw h1) fun Dd σ H ⟨Γ, F, sh, er, hn, o⟩ => by
    refine ⟨Γ, F, sh.f, er, ?_⟩
    unfold gPut at o
    revert o
    cases g Γ with
    | exc c => exact fun o C F' H' m x => o σ C F' H' (er.slen hn) m (sh.ext x) x.f
    | bad => exact fun o => o
    | ok d =>
      intro o v F1 H1 x1 dp
      simp only [R.bind_ok] at o
      split at o
      · rename_i ds hg
        have er1 := er.ext x1
        have sh1 := sh.ext x1
        obtain ⟨p, vs, a, hB, hF, hH, dpa⟩ := er1.ok i _ hg
        refine ⟨.ref p, a, Γ, F1, sh1.f, er1, ?_⟩
        revert o
        cases gk Γ with
        | exc c => exact fun o C F' H' m x => o σ C F' H' (er.slen hn) m (sh1.ext x) (x1.f.trans x.f)
        | bad => exact fun o => o
        | ok kd =>
          intro o u F2 H2 x2 dpk
          simp only [R.bind_ok] at o
          unfold putAt at o
          split at o
          · rename_i j
            split at o
            · rename_i m hm
              cases dpk
              have sh2 := sh1.ext x2
              have hF2 : F2 p = none := x2.no p hF (by rw [hH]; simp)
              have hH2 := x2.h _ _ hH
              refine ⟨p, vs, j, m, rfl, rfl, hH2, by rw [dpa_length dpa]; exact hm, ?_⟩
              refine o σ F2 _ ⟨fun b u q => ?_, fun b u q => ?_, sh2.f0, sh2.no⟩ (x1.f.trans x2.f) ((er1.ext x2).growOwn i hg a hB hF2 (dpa_set (dp_mono x2.f dp) m (dpa_mono x2.f dpa)))
              · rw [upd_ne (fun z => by rw [z, hB] at q; cases q)]; exact sh2.b _ _ q
              · rw [upd_ne (fun z => by rw [z, hF2] at q; cases q)]; exact sh2.f _ _ q
            · exact o.elim
          · exact o.elim
      · exact o.elim, keep_put⟩
def remAt (i : Nat) (Γ : G) (ds : List D) : D → R Fl
  | .int k => (match intsOf ds with | some ns => if k ∈ ns then .ok (.nx (Γ.set i (.own ((ns.erase k).map .int)))) else .bad | none => .bad)
  | _ => .bad
def gRem (i : Nat) (g : G → R D) (Γ : G) : R Fl := match Γ[i]? with
  | some (.own ds) => (g Γ).bind (remAt i Γ ds)
  | _ => .bad
theorem keep_rem {i : Nat} {g : G → R D} : KeepN (gRem i g) := fun Γ => by
  unfold gRem
  split
  · cases g Γ with
    | exc c => exact ⟨fun _ q => (by cases q), fun _ q => (by cases q), fun _ q => (by cases q)⟩
    | bad => exact ⟨fun _ q => (by cases q), fun _ q => (by cases q), fun _ q => (by cases q)⟩
    | ok d =>
      simp only [R.bind_ok]
      unfold remAt
      split
      · split
        · split
          · exact ⟨fun _ q => (by cases q; simp), fun _ q => (by cases q), fun _ q => (by cases q)⟩
          · exact ⟨fun _ q => (by cases q), fun _ q => (by cases q), fun _ q => (by cases q)⟩
        · exact ⟨fun _ q => (by cases q), fun _ q => (by cases q), fun _ q => (by cases q)⟩
      · exact ⟨fun _ q => (by cases q), fun _ q => (by cases q), fun _ q => (by cases q)⟩
  · exact ⟨fun _ q => (by cases q), fun _ q => (by cases q), fun _ q => (by cases q)⟩
theorem dpa_intv {K : PySem.W.Frag} {F : Hp} : ∀ (ns : List Int), DpAll K F (ns.map V.int) (ns.map PyData.int)
  | [] => .nil
  | n :: ns => .cons (.int n) (dpa_intv ns)
theorem s_remove {x : Str} {e : Expr} {p1 apos cpos pos : Pos} {g : G → R D} (i : Nat) (hc : X.calm = true) (tk : Takes X (fun cls d σ H => E σ cls d H)) (he : DE X B E e g) (hN : X.N[i]? = some x := by rfl) (hv : Vis X.env.scope x := by first | exact Or.inl rfl | exact Or.inr (Or.inl rfl) | exact Or.inr (Or.inr rfl)) (hd : (x == ("__debug__" : Str)) = false := by decide)
    (hcd : (x == ("__classdict__" : Str)) = false := by decide)
    (hbase : attributeBase (.Name x p1) "remove" X.env (eval (.Name x p1) X.env) = eval (.Name x p1) X.env := by rfl)
    (hfew : ((backTo cpos (starEach [e] X.env)).all (fun x => !x.1) && (backToKw cpos (keywordEach [] X.env)).all (fun x => x.1.isSome)
      && decide ([e].length + ([] : List Keyword).length + (if ([] : List Keyword).isEmpty then 0 else 1) < 30)) = true := by rfl)
    (hline : (apos.endLine == cpos.line) = true := by rfl) (hs : starEach [e] X.env = (false, eval e X.env) :: starEach [] X.env := by rfl) (hplain : (backTo cpos (starEach [] X.env)).any (·.1) = false := by rfl)
    (hsw : swapsWith (.Call (.Attribute (.Name x p1) "remove" apos) [e] [] cpos) none pos.line X.env = pure false := by rfl) :
    DS X B F0 n E (.Expr (.Call (.Attribute (.Name x p1) "remove" apos) [e] [] cpos) pos) (gRem i g) :=
  ⟨ps_imp (ps_expr (pe_remX hc tk (pe_var hN hv hd hcd) he hbase hfew hline hs hplain) hsw) fun Dd σ H ⟨Γ, F, sh, er, hn, o⟩ => by
    unfold gRem at o
    split at o
    · rename_i ds hg
      obtain ⟨p, vs, a, hB, hF, hH, dpa⟩ := er.ok i _ hg
      refine ⟨.ref p, a, .inl ⟨rfl, vs, .inl (.inl hH)⟩, Γ, F, sh.f, er, ?_⟩
      revert o
      cases g Γ with
      | exc c => exact fun o C F' H' m x => o σ C F' H' (er.slen hn) m (sh.ext x) x.f
      | bad => exact fun o => o
      | ok d =>
        intro o v F' H' x dp
        simp only [R.bind_ok] at o
        unfold remAt at o
        split at o
        · rename_i k
          split at o
          · rename_i ns hns
            split at o
            · rename_i hk
              cases dp
              have eds := intsOf_eq hns
              subst eds
              have evs := dpa_ints ns dpa
              subst evs
              have er2 := er.ext x
              have sh2 := sh.ext x
              have hF' : F' p = none := x.no p hF (by rw [hH]; simp)
              refine ⟨p, ns, k, rfl, rfl, x.h _ _ hH, fun _ => ?_, fun q => absurd hk q⟩
              refine o σ F' _ ⟨fun b u q => ?_, fun b u q => ?_, sh2.f0, sh2.no⟩ x.f (er2.growOwn i hg a hB hF' (dpa_intv _))
              · rw [upd_ne (fun z => by rw [z, hB] at q; cases q)]; exact sh2.b _ _ q
              · rw [upd_ne (fun z => by rw [z, hF'] at q; cases q)]; exact sh2.f _ _ q
            · exact o.elim
          · exact o.elim
        · exact o.elim
    · exact o.elim, keep_rem⟩
/-! ### read in between -/
theorem dp_flat {K : PySem.W.Frag} {F F' : Hp} {v : V} {d : D} (h : Dp K F v d) (f : flatD d = true) : Dp K F' v d := by
  cases h with
  | non => exact .non
  | bl b => exact .bl b
  | int i => exact .int i
  | str s => exact .str s
  | _ => cases f
def gPeekX (i : Nat) (g : G → R D) (Γ : G) : R D := match Γ[i]? with
  | some (.own ds) => (g (Γ.set i (.dat (.list ds)))).bind fun d => if flatD d = true then .ok d else .bad
  | _ => g Γ
theorem d_peek {e : Expr} {g : G → R D} (i : Nat) (h : DE X B E e g) : DE X B E e (gPeekX i g) :=
  pe_imp h fun σ H Q ⟨Γ, F, s, er, o⟩ => by
    unfold gPeekX at o
    split at o
    · rename_i ds hg
      obtain ⟨F1, s1, er1, back⟩ := er_frz s er hg
      refine ⟨_, F1, s1, er1, ?_⟩
      revert o
      cases g (Γ.set i (.dat (.list ds))) with
      | ok d =>
        intro o v F2 H2 x dp
        simp only [R.bind_ok] at o
        obtain ⟨F3, y⟩ := back F2 H2 x
        by_cases hf : flatD d = true
        · rw [if_pos hf] at o
          exact o v F3 H2 y (dp_flat dp hf)
        · rw [if_neg hf] at o
          exact o.elim
      | exc c => exact fun o C F2 H2 m x => let ⟨F3, y⟩ := back F2 H2 x; o C F3 H2 m y
      | bad => exact fun o => o
    · exact ⟨Γ, F, s, er, o⟩
/-! ### for t in x: body, x a list of one's own that the body leaves alone -/
open Classical in
noncomputable def gForOwn (i : Nat) (st : D → G → R G) (body : G → R Fl) (Γ : G) : R Fl := match Γ[i]? with
  | some (.own ds) => if h : ∃ Γ' : G, Γ'.length = Γ.length ∧ ∀ p, forGo st body ds (Γ.set i (.exn p)) = .ok (.nx (Γ'.set i (.exn p))) then .ok (.nx ((Classical.choose h).set i (.own ds))) else .bad
  | _ => .bad
open Classical in
theorem forOwn_eq {i : Nat} {st : D → G → R G} {body : G → R Fl} {Γ Γ' : G} {ds : List D} (hg : Γ[i]? = some (.own ds)) (hl : Γ'.length = Γ.length) (h : ∀ p, forGo st body ds (Γ.set i (.exn p)) = .ok (.nx (Γ'.set i (.exn p)))) :
    gForOwn i st body Γ = .ok (.nx (Γ'.set i (.own ds))) := by
  have ex : ∃ Γ' : G, Γ'.length = Γ.length ∧ ∀ p, forGo st body ds (Γ.set i (.exn p)) = .ok (.nx (Γ'.set i (.exn p))) := ⟨Γ', hl, h⟩
  unfold gForOwn
  rw [hg]
  show (if h : _ then _ else _) = _
  rw [dif_pos ex]
  have c := (Classical.choose_spec ex).2 0
  rw [h 0] at c
  have c2 : Γ'.set i (.exn 0) = (Classical.choose ex).set i (.exn 0) := by
    injection c with c
    injection c
  have c3 := congrArg (fun z : G => z.set i (.own ds)) c2
  simp only [List.set_set] at c3
  rw [c3]
theorem keep_forOwn {i : Nat} {st : D → G → R G} {body : G → R Fl} : KeepN (gForOwn i st body) := fun Γ => by
  unfold gForOwn
  split
  · split
    · rename_i h
      exact ⟨fun _ q => (by cases q; rw [List.length_set]; exact (Classical.choose_spec h).1), fun _ q => (by cases q), fun _ q => (by cases q)⟩
    · exact ⟨fun _ q => (by cases q), fun _ q => (by cases q), fun _ q => (by cases q)⟩
  · exact ⟨fun _ q => (by cases q), fun _ q => (by cases q), fun _ q => (by cases q)⟩
/-- the list's place becomes a part of what stood before -/
theorem er_pin {K : PySem.W.Frag} {F H : Hp} {σ : L2.St} {Γ : G} {i : Nat} {p : Addr} {vs : List V} {ds : List D} (er : ER K B F H σ Γ) (hg : Γ[i]? = some (.own ds)) (a : σ[i]? = some (some (.ref p))) :
    ER K (upd B p (.lst vs)) F H σ (Γ.set i (.exn p)) := by
  refine ⟨by rw [List.length_set]; exact er.len, fun j s q => ?_, fun a1 b1 ds1 ds2 q h1 h2 h3 h4 => ?_, fun a1 b1 ds1 ds2 q h1 h2 h3 h4 => ?_⟩
  · rw [List.getElem?_set] at q
    by_cases hij : i = j
    · subst hij
      rw [if_pos rfl] at q
      split at q
      · cases q
        exact a
      · cases q
    · rw [if_neg hij] at q
      have := er.ok j s q
      cases s with
      | un => trivial
      | exn a => exact this
      | dat d => exact this
      | own es =>
        obtain ⟨p2, xs, a1, b0, b1, c, d⟩ := this
        have hne : p2 ≠ p := fun z => hij (er.apart i j _ _ p hg q a (by rw [a1, z]))
        exact ⟨p2, xs, a1, by rw [upd_ne hne]; exact b0, b1, c, d⟩
      | cel k =>
        obtain ⟨p2, u, a1, b0, b1, c, d⟩ := this
        obtain ⟨p3, ws, e1, _, _, e4, _⟩ := er.ok i _ hg
        rw [a] at e1
        cases e1
        have hne : p2 ≠ p := fun z => by rw [z, e4] at c; cases c; exact d.nolst
        exact ⟨p2, u, a1, by rw [upd_ne hne]; exact b0, b1, c, d⟩
  · have own : ∀ (a : Nat) (ds1 : List D), (Γ.set i (.exn p))[a]? = some (.own ds1) → Γ[a]? = some (.own ds1) := fun a ds1 h => by
      rw [List.getElem?_set] at h
      by_cases hia : i = a
      · rw [if_pos hia] at h
        split at h <;> cases h
      · rw [if_neg hia] at h
        exact h
    exact er.apart a1 b1 _ _ q (own _ _ h1) (own _ _ h2) h3 h4
  · have un : ∀ (a : Nat) (k : Cel), (Γ.set i (.exn p))[a]? = some (.cel k) → i ≠ a ∧ Γ[a]? = some (.cel k) := fun a k h => by
      rw [List.getElem?_set] at h
      by_cases z : i = a
      · rw [if_pos z] at h
        split at h <;> cases h
      · rw [if_neg z] at h
        exact ⟨z, h⟩
    exact er.apartC a1 b1 _ _ q (un _ _ h1).2 (un _ _ h2).2 h3 h4
theorem er_unpin {K : PySem.W.Frag} {F H : Hp} {σ : L2.St} {Γ : G} {i : Nat} {p : Addr} {vs : List V} {ds : List D} (er : ER K (upd B p (.lst vs)) F H σ (Γ.set i (.exn p))) (hi : i < Γ.length) (hB : B p = none) (hF : F p = none) (hH : H p = some (.lst vs)) (dp : DpAll K F vs ds) :
    ER K B F H σ (Γ.set i (.own ds)) := by
  have at_i : σ[i]? = some (some (.ref p)) := er.ok i (.exn p) (by rw [List.getElem?_set]; simp [hi])
  have ge : ∀ j s, j ≠ i → (Γ.set i (.own ds))[j]? = some s → (Γ.set i (.exn p))[j]? = some s := fun j s n h => by
    rw [List.getElem?_set_ne (fun z => n z.symm)] at h ⊢
    exact h
  have nb : ∀ {q : Addr}, upd B p (.lst vs) q = none → B q = none ∧ q ≠ p := fun {q} h => by
    by_cases e : q = p
    · rw [e, upd_same] at h; cases h
    · rw [upd_ne e] at h; exact ⟨h, e⟩
  refine ⟨by rw [List.length_set]; have := er.len; rwa [List.length_set] at this, fun j s q => ?_, fun a1 b1 ds1 ds2 q h1 h2 h3 h4 => ?_, fun a1 b1 ds1 ds2 q h1 h2 h3 h4 => ?_⟩
  · by_cases hij : j = i
    · subst hij
      rw [List.getElem?_set] at q
      simp only [if_true] at q
      split at q
      · cases q
        exact ⟨p, vs, at_i, hB, hF, hH, dp⟩
      · exact absurd hi ‹_›
    · have := er.ok j s (ge j s hij q)
      cases s with
      | un => trivial
      | exn a => exact this
      | dat d => exact this
      | own es =>
        obtain ⟨p2, xs, a1, b0, b1, c, d⟩ := this
        exact ⟨p2, xs, a1, (nb b0).1, b1, c, d⟩
      | cel k =>
        obtain ⟨p2, xs, a1, b0, b1, c, d⟩ := this
        exact ⟨p2, xs, a1, (nb b0).1, b1, c, d⟩
  · by_cases ha : a1 = i <;> by_cases hb : b1 = i
    · exact ha.trans hb.symm
    · subst ha
      obtain ⟨p2, xs, e1, b0, _⟩ := er.ok b1 _ (ge b1 _ hb h2)
      rw [at_i] at h3
      rw [e1] at h4
      cases h3; cases h4
      exact absurd rfl (nb b0).2
    · subst hb
      obtain ⟨p2, xs, e1, b0, _⟩ := er.ok a1 _ (ge a1 _ ha h1)
      rw [at_i] at h4
      rw [e1] at h3
      cases h3; cases h4
      exact absurd rfl (nb b0).2
    · exact er.apart a1 b1 _ _ q (ge _ _ ha h1) (ge _ _ hb h2) h3 h4
  · have un : ∀ (a : Nat) (k : Cel), (Γ.set i (.own ds))[a]? = some (.cel k) → (Γ.set i (.exn p))[a]? = some (.cel k) := fun a k h => by
      rw [List.getElem?_set] at h ⊢
      by_cases z : i = a
      · rw [if_pos z] at h
        split at h <;> cases h
      · rw [if_neg z] at h ⊢
        exact h
    exact er.apartC a1 b1 _ _ q (un _ _ h1) (un _ _ h2) h3 h4
theorem s_forOwn {x : Str} {tg : Expr} {body : List Stmt} {p1 pos : Pos} {is : List Nat} {st : D → G → R G} {gb : G → R Fl} (i : Nat) (hp : PassesOwn (model X.prog X.w) X.A X.env X.xe) (hc : X.calm = true) (hgB : ∀ B', DG X B' tg is st)
    (hst : ∀ d Γ Γ', st d Γ = .ok Γ' → Γ'.length = Γ.length) (hne : ∀ d Γ c, st d Γ ≠ .exc c) (hb : ∀ B', DSs X B' F0 n E body gb) (hN : X.N[i]? = some x := by rfl) (hv : Vis X.env.scope x := by first | exact Or.inl rfl | exact Or.inr (Or.inl rfl) | exact Or.inr (Or.inr rfl)) (hd : (x == ("__debug__" : Str)) = false := by decide)
    (hcd : (x == ("__classdict__" : Str)) = false := by decide) (hs : ∀ z, foldedSetIterable (.Name x p1) X.env z = pure z := by intro _; rfl) : DS X B F0 n E (.For tg (.Name x p1) body [] pos) (gForOwn i st gb) := by
  refine ⟨⟨fun pins s σ H Q I h => ?_⟩, keep_forOwn⟩
  obtain ⟨Γ, F, sh, er, hn, o⟩ := h
  cases hg0 : Γ[i]? with
  | none => unfold gForOwn at o; rw [hg0] at o; exact o.elim
  | some sv =>
    cases sv with
    | un => unfold gForOwn at o; rw [hg0] at o; exact o.elim
    | dat _ => unfold gForOwn at o; rw [hg0] at o; exact o.elim
    | exn _ => unfold gForOwn at o; rw [hg0] at o; exact o.elim
    | cel _ => unfold gForOwn at o; rw [hg0] at o; exact o.elim
    | own ds =>
      have ex : ∃ Γ' : G, Γ'.length = Γ.length ∧ ∀ p, forGo st gb ds (Γ.set i (.exn p)) = .ok (.nx (Γ'.set i (.exn p))) := Classical.byContradiction fun z => by
        unfold gForOwn at o
        rw [hg0] at o
        simp only [dif_neg z] at o
        exact o.elim
      obtain ⟨Γ', hl', hrun⟩ := ex
      rw [forOwn_eq hg0 hl' hrun] at o
      obtain ⟨p, vs, a, hB, hF, hH, dpa⟩ := er.ok i _ hg0
      have hi : i < Γ.length := (List.getElem?_eq_some_iff.mp hg0).1
      have hlen := dpa_length dpa
      have run := ps_for (pos := pos) hp hc (pi_list (pe_var (pos := p1) hN hv hd hcd)) (hgB (upd B p (.lst vs))).pg (hb (upd B p (.lst vs))).ps hs
      refine run.run pins s σ H Q I ?_
      refine ⟨.ref p, a, p, rfl, ⟨vs, .inl (.inl hH)⟩, ?_⟩
      have shB : SH (upd B p (.lst vs)) F0 F H := ⟨fun b u q => by
        by_cases e : b = p
        · rw [e, upd_same] at q; cases q; rw [e]; exact hH
        · rw [upd_ne e] at q; exact sh.b _ _ q, sh.f, sh.f0, fun b h1 h2 => by
        by_cases e : b = p
        · rw [e]; exact hF
        · exact sh.no b h1 (by rw [upd_ne e] at h2; exact h2)⟩
      have fin : ∀ σ' H', (∃ F', SH (upd B p (.lst vs)) F0 F' H' ∧ Same F F' ∧ ER X.K (upd B p (.lst vs)) F' H' σ' (Γ'.set i (.exn p))) → Q.nx σ' H' := fun σ' H' ⟨F', s1, s2, e⟩ => by
        have hF' : F' p = none := s1.no p (by
          cases q : F0 p with
          | none => rfl
          | some u => rw [sh.f0 _ _ q] at hF; cases hF) (by rw [upd_same]; simp)
        have hH' : H' p = some (.lst vs) := s1.b _ _ upd_same
        refine o σ' F' H' ⟨fun b u q => s1.b _ _ (by rw [upd_ne (fun z => by rw [z, hB] at q; cases q)]; exact q), s1.f, s1.f0, fun b h1 h2 => s1.no b h1 (by
          by_cases z : b = p
          · rw [z, upd_same]; simp
          · rw [upd_ne z]; exact h2)⟩ s2 (er_unpin e (by rw [hl']; exact hi) hB hF' hH' (dpa_mono s2 dpa))
      have wk := walk_list (K := X.K) (a := p) (xs := vs)
      rw [hlen] at wk
      refine for_it wk (fun j σ2 H2 => j ≤ ds.length ∧ ∃ Γ2 F2, SH (upd B p (.lst vs)) F0 F2 H2 ∧ Same F F2 ∧ ER X.K (upd B p (.lst vs)) F2 H2 σ2 Γ2 ∧ Γ2.length = n ∧
          OutS X.K X.mg (upd B p (.lst vs)) F0 n F2 E (forGo st gb (ds.drop j) Γ2) { Q with nx := fun σ' H' => ∃ F', SH (upd B p (.lst vs)) F0 F' H' ∧ Same F F' ∧ ER X.K (upd B p (.lst vs)) F' H' σ' (Γ'.set i (.exn p)) })
        ⟨Nat.zero_le _, Γ.set i (.exn p), F, shB, Same.refl _, er_pin er hg0 a, by rw [List.length_set]; exact hn, ?_⟩ ?_ ?_ ?_
      · rw [List.drop_zero, hrun p]
        exact fun σ' F' H' s1 s2 e => ⟨F', s1, s2, e⟩
      · rintro j σ2 H2 hj ⟨_, Γ2, F2, sh2, _⟩
        exact .inl (.inl (sh2.b _ _ upd_same))
      · rintro j y σ2 H2 H3 hj ⟨_, Γ2, F2, sh2, s12, er2, hn2, o2⟩ ⟨rfl, hy⟩
        obtain ⟨d, hd, dpd⟩ := dpa_getv dpa hy
        rw [List.drop_eq_getElem_cons hj] at o2
        have hdj : ds[j] = d := by rw [List.getElem?_eq_getElem hj] at hd; cases hd; rfl
        unfold forGo at o2
        rw [hdj] at o2
        cases est : st d Γ2 with
        | exc c => exact (hne _ _ _ est).elim
        | bad => rw [est] at o2; exact o2.elim
        | ok Γ3 =>
          rw [est] at o2
          simp only [R.bind_ok] at o2
          have l3 := hst _ _ _ est
          refine ⟨Γ2, F2, d, Γ3, sh2.f, er2, dp_mono s12 dpd, est, l3, fun σ' er' hl' hk' => ⟨Γ3, F2, sh2, er', l3.trans hn2, ?_⟩⟩
          have kp := (hb (upd B p (.lst vs))).keep Γ3
          revert kp o2
          cases gb Γ3 with
          | exc c => exact fun o kp => o
          | bad => exact fun o kp => o
          | ok f =>
            cases f with
            | rt d => exact fun o kp => o
            | nx Γ4 => exact fun o3 kp σ4 F4 H4 sh4 s34 er4 => ⟨hj, Γ4, F4, sh4, s12.trans s34, er4, (kp.1 Γ4 rfl).trans (l3.trans hn2), OutS.mono o3 s34⟩
            | ct Γ4 => exact fun o3 kp σ4 F4 H4 sh4 s34 er4 => ⟨hj, Γ4, F4, sh4, s12.trans s34, er4, (kp.2.2 Γ4 rfl).trans (l3.trans hn2), OutS.mono o3 s34⟩
            | bk Γ4 => exact fun o3 kp σ4 F4 H4 sh4 s34 er4 => fin _ _ (o3 σ4 F4 H4 sh4 s34 er4)
      · rintro σ2 H2 ⟨_, Γ2, F2, sh2, s12, er2, hn2, o2⟩
        rw [List.drop_length] at o2
        exact fin _ _ (o2 σ2 F2 H2 sh2 (Same.refl _) er2)
/-! evaluation -/
def ownNK (i : Nat) (Γ : G) (r : R D) : R Fl := r.bind fun d => match d with
  | .list ds => .ok (.nx (Γ.set i (.own ds)))
  | _ => .bad
@[simp] theorem ev_ownN (i : Nat) (g : G → R D) (Γ : G) : gOwnN i g Γ = ownNK i Γ (g Γ) := (rfl)
@[simp] theorem ownNK_list (i : Nat) (Γ : G) (ds : List D) : ownNK i Γ (.ok (.list ds)) = .ok (.nx (Γ.set i (.own ds))) := (rfl)
def putK (i : Nat) (Γ : G) (gk : G → R D) (d : D) : Option Sv → R Fl
  | some (.own ds) => (gk Γ).bind (putAt i Γ ds d)
  | _ => .bad
def put0K (i : Nat) (Γ : G) (gk : G → R D) (r : R D) : R Fl := r.bind fun d => putK i Γ gk d Γ[i]?
@[simp] theorem ev_put (i : Nat) (gk g : G → R D) (Γ : G) : gPut i gk g Γ = put0K i Γ gk (g Γ) := by
  unfold gPut put0K putK
  rfl
@[simp] theorem put0K_ok (i : Nat) (Γ : G) (gk : G → R D) (d : D) : put0K i Γ gk (.ok d) = putK i Γ gk d Γ[i]? := (rfl)
def put1K (i : Nat) (Γ : G) (ds : List D) (d : D) (r : R D) : R Fl := r.bind (putAt i Γ ds d)
@[simp] theorem putK_own (i : Nat) (Γ : G) (gk : G → R D) (d : D) (ds : List D) : putK i Γ gk d (some (.own ds)) = put1K i Γ ds d (gk Γ) := (rfl)
theorem put1K_nat (i : Nat) (Γ : G) {ds : List D} (d : D) {m : Nat} (h : m < ds.length) : put1K i Γ ds d (.ok (.int (m : Nat))) = .ok (.nx (Γ.set i (.own (ds.set m d)))) := by
  have e : ixN ds.length (m : Nat) = some m := by
    unfold ixN
    simp
    omega
  show (match ixN ds.length (m : Nat) with | some m => R.ok (Fl.nx (Γ.set i (.own (ds.set m d)))) | none => .bad) = _
  rw [e]
def remK (i : Nat) (Γ : G) (g : G → R D) : Option Sv → R Fl
  | some (.own ds) => (g Γ).bind (remAt i Γ ds)
  | _ => .bad
@[simp] theorem ev_rem (i : Nat) (g : G → R D) (Γ : G) : gRem i g Γ = remK i Γ g Γ[i]? := by
  unfold gRem remK
  split <;> rfl
def rem1K (i : Nat) (Γ : G) (ds : List D) (r : R D) : R Fl := r.bind (remAt i Γ ds)
@[simp] theorem remK_own (i : Nat) (Γ : G) (g : G → R D) (ds : List D) : remK i Γ g (some (.own ds)) = rem1K i Γ ds (g Γ) := (rfl)
theorem rem1K_ints (i : Nat) (Γ : G) {ns : List Int} {k : Int} (h : k ∈ ns) : rem1K i Γ (ns.map .int) (.ok (.int k)) = .ok (.nx (Γ.set i (.own ((ns.erase k).map .int)))) := by
  show (match intsOf (ns.map .int) with | some ns => (if k ∈ ns then R.ok (Fl.nx (Γ.set i (.own ((ns.erase k).map .int)))) else .bad) | none => .bad) = _
  rw [intsOf_map]
  exact if_pos h
def peekxK (i : Nat) (g : G → R D) (Γ : G) : Option Sv → R D
  | some (.own ds) => (g (Γ.set i (.dat (.list ds)))).bind fun d => if flatD d = true then .ok d else .bad
  | _ => g Γ
@[simp] theorem ev_peekx (i : Nat) (g : G → R D) (Γ : G) : gPeekX i g Γ = peekxK i g Γ Γ[i]? := by
  unfold gPeekX peekxK
  split <;> rfl
def flatK (r : R D) : R D := r.bind fun d => if flatD d = true then .ok d else .bad
@[simp] theorem peekxK_own (i : Nat) (g : G → R D) (Γ : G) (ds : List D) : peekxK i g Γ (some (.own ds)) = flatK (g (Γ.set i (.dat (.list ds)))) := (rfl)
@[simp] theorem flatK_int (i : Int) : flatK (.ok (.int i)) = .ok (.int i) := (rfl)
@[simp] theorem flatK_bool (i : Bool) : flatK (.ok (.bool i)) = .ok (.bool i) := (rfl)
@[simp] theorem flatK_T (a : Tx) : flatK (.ok (T a)) = .ok (T a) := (rfl)
@[simp] theorem flatK_none : flatK (.ok .none) = .ok .none := (rfl)
/-! while -/
theorem wh_stop {t : G → R Bool} {body : G → R Fl} {k : Nat} {Γ : G} (h : t Γ = .ok false) : whGo t body (k + 1) Γ = .ok (.nx Γ) := by
  unfold whGo
  rw [h]
  rfl
theorem wh_turn {t : G → R Bool} {body : G → R Fl} {k : Nat} {Γ Γ2 : G} (h : t Γ = .ok true) (hb : body Γ = .ok (.nx Γ2)) : whGo t body (k + 1) Γ = whGo t body k Γ2 := by
  rw [whGo, h]
  simp only [R.bind_ok, if_true, hb]
/-- a while by an invariant and a measure -/
theorem wh_inv {t : G → R Bool} {body : G → R Fl} (I : Nat → G → Prop) (h0 : ∀ Γ, I 0 Γ → t Γ = .ok false) (hs : ∀ m Γ, I (m + 1) Γ → t Γ = .ok true ∧ ∃ Γ2, body Γ = .ok (.nx Γ2) ∧ I m Γ2) :
    ∀ (m k : Nat) (Γ : G), m < k → I m Γ → ∃ Γ', whGo t body k Γ = .ok (.nx Γ') ∧ I 0 Γ'
  | 0, 0, _, h, _ => absurd h (Nat.lt_irrefl 0)
  | 0, k + 1, Γ, _, hI => ⟨Γ, wh_stop (h0 Γ hI), hI⟩
  | m + 1, 0, _, h, _ => absurd h (Nat.not_lt_zero _)
  | m + 1, k + 1, Γ, h, hI => by
    obtain ⟨e, Γ2, e2, hI2⟩ := hs m Γ hI
    obtain ⟨Γ', e3, h3⟩ := wh_inv I h0 hs m k Γ2 (by omega) hI2
    exact ⟨Γ', by rw [wh_turn e e2]; exact e3, h3⟩
@[simp] theorem ev_while (t : G → R Bool) (body : G → R Fl) (Γ : G) : gWhile t body Γ = whGo t body 100000 Γ := (rfl)
end
end ND
/-! ND34: one of three defs called by its place in a list; list(range(n)). -/
namespace ND
open PySem PySem.Spec PyProof.Rows L2
section
variable {X : Cx} {B F0 : Hp} {n : Nat} {E : L2.St → XK}
theorem FK.up {P : Program} {w : World} {K : PySem.W.Frag} {mg : Str → Option Value} {base : Heap} {j k : Nat} {x : Str} {g : List D → R D} (F : FK P w K mg base j x g) (h : j ≤ k) : FK P w K mg base k x g := by
  obtain ⟨f, fd, ps, ok, a, b, c⟩ := F.ex
  exact ⟨f, fd, ps, ok.mono h, a, b, c⟩
def sel3 (f1 f2 f3 : List D → R D) (r : R (List D)) : D → R D
  | .int i => if i = 0 then r.bind f1 else if i = 1 then r.bind f2 else if i = 2 then r.bind f3 else .bad
  | _ => .bad
def gSel3 (f1 f2 f3 : List D → R D) (gi : G → R D) (gs : G → R (List D)) (Γ : G) : R D := (gi Γ).bind (sel3 f1 f2 f3 (gs Γ))
theorem d_callSel {j k : Nat} {x1 x2 x3 : Str} {f1 f2 f3 : List D → R D} {p1 p2 p3 lp sp pos : Pos} {ei e : Expr} {es : List Expr} {gi : G → R D} {gs : G → R (List D)} (F1 : FK X.prog X.w X.K X.mg X.base j x1 f1) (F2 : FK X.prog X.w X.K X.mg X.base j x2 f2) (F3 : FK X.prog X.w X.K X.mg X.base j x3 f3)
    (hr : Room k X.A) (hx : ∀ σ, PassesAt (L2.CX X.prog X.w) X σ (E σ)) (hi : DE X B E ei gi) (ha : DA X B E (e :: es) gs) (hix : PlainIx ei := by exact fun _ _ => rfl)
    (hk : j ≤ k := by decide) (h1 : Gl X x1 := by rfl) (h2 : Gl X x2 := by rfl) (h3 : Gl X x3 := by rfl) (hd1 : (x1 == ("__debug__" : Str)) = false := by decide) (hd2 : (x2 == ("__debug__" : Str)) = false := by decide) (hd3 : (x3 == ("__debug__" : Str)) = false := by decide)
    (hn1 : starEach [.Name x1 p1, .Name x2 p2, .Name x3 p3] X.env = (false, eval (.Name x1 p1) X.env) :: starEach [.Name x2 p2, .Name x3 p3] X.env := by rfl) (hn2 : starEach [.Name x2 p2, .Name x3 p3] X.env = (false, eval (.Name x2 p2) X.env) :: starEach [.Name x3 p3] X.env := by rfl)
    (hn3 : starEach [.Name x3 p3] X.env = (false, eval (.Name x3 p3) X.env) :: starEach [] X.env := by rfl)
    (he : starEach (e :: es) X.env = (false, eval e X.env) :: starEach es X.env := by rfl) (hpl : (backTo pos (starEach es X.env)).any (·.1) = false := by rfl)
    (hc : eval (.Call (.Subscript (.List [.Name x1 p1, .Name x2 p2, .Name x3 p3] lp) ei sp) (e :: es) [] pos) X.env = (do callWith pos (← eval (.Subscript (.List [.Name x1 p1, .Name x2 p2, .Name x3 p3] lp) ei sp) X.env) [] (backTo pos (starEach (e :: es) X.env)) (backToKw pos (keywordEach [] X.env))) := by rfl) :
    DE X B E (.Call (.Subscript (.List [.Name x1 p1, .Name x2 p2, .Name x3 p3] lp) ei sp) (e :: es) [] pos) (gSel3 f1 f2 f3 gi gs) := by
  obtain ⟨a1, fd1, ps1, ok1, m1, k1, b1⟩ := F1.ex
  obtain ⟨a2, fd2, ps2, ok2, m2, k2, b2⟩ := F2.ex
  obtain ⟨a3, fd3, ps3, ok3, m3, k3, b3⟩ := F3.ex
  have lst : PE X (.List [.Name x1 p1, .Name x2 p2, .Name x3 p3] lp) _ := pe_lst (pa_cons (pe_glob h1 m1 (v := .ref a1) rfl hd1) (pa_cons (pe_glob h2 m2 (v := .ref a2) rfl hd2) (pa_cons (pe_glob h3 m3 (v := .ref a3) rfl hd3) pa_nil hn3) hn2) hn1)
  have fe := pe_ix (pos := sp) ix_list lst hi hix
  refine ⟨fun pins s σ H Q I ⟨Γ, F, sm, er, o⟩ => Call_ ?_ hc⟩
  unfold gSel3 at o
  -- one of the three is called
  have go : ∀ (f : Addr) (fd : FuncData) (ps : List Str) (g : List D → R D), FnOk X.prog X.w X.K X.mg X.base (L2.CX X.prog X.w) j f fd ps (spD X.K X.mg g) → PySem.W.keepIn X.K (.ref f) = true → Binds X.K fd ps [] →
      ∀ (s1 : Shared) (H1 : Hp) (F1 : Hp), Inv X pins σ H1 s1 → Ext F H F1 H1 → Out X.K X.mg F H (E σ) ((gs Γ).bind g) Q →
      wpAny (model X.prog X.w) X.A (callWith pos (.ref f) [] (backTo pos (starEach (e :: es) X.env)) []) (EP X pins σ Q) X.xe s1 := fun f fd ps g ok kp hb s1 H1 F1 I1 x1 o => by
    refine PySem.W.callWith_K (h₀ := X.base) I1.ok.mod.kin kp (thn (ha.run pos pins s1 σ H1 (fun vs H2 => spD X.K X.mg g vs H2 Q (E σ)) I1 ⟨Γ, F1, x1.fh, er.ext x1, ?_⟩) fun us s2 ⟨vs, H2, I2, r, q⟩ => ⟨I2.kIn, ?_⟩) he hpl
    · revert o
      cases gs Γ with
      | exc c => exact fun o C F' H' m x => o C F' H' m (x1.trans x)
      | bad => exact fun o => o
      | ok ds => exact fun o vs F' H' x dp => ⟨ds, F', x.fh, dp, Out.ext (Out.ext o x1) x⟩
    · exact run_fnS ok (hr.mono hk) hb (hx σ) I2 r q
  refine thn (fe.run pins s σ H (fun v H1 => (v = .ref a1 ∧ ∃ F1, Ext F H F1 H1 ∧ Out X.K X.mg F H (E σ) ((gs Γ).bind f1) Q) ∨ (v = .ref a2 ∧ ∃ F1, Ext F H F1 H1 ∧ Out X.K X.mg F H (E σ) ((gs Γ).bind f2) Q) ∨ (v = .ref a3 ∧ ∃ F1, Ext F H F1 H1 ∧ Out X.K X.mg F H (E σ) ((gs Γ).bind f3) Q)) I ?_) fun u s1 ⟨v, H1, I1, ru, q⟩ => ?_
  · refine ⟨by show 3 ≤ sizeLine; decide, fun l hl => ?_⟩
    have x1 : Ext F H F (upd H l (.lst [.ref a1, .ref a2, .ref a3])) := new_ext sm hl _
    refine ⟨Γ, F, x1.fh, er.ext x1, ?_⟩
    revert o
    cases gi Γ with
    | exc c => exact fun o C F' H' m x => o C F' H' m (x1.trans x)
    | bad => exact fun o => o
    | ok i =>
      intro o w F' H' x dp
      have xx := x1.trans x
      have hL : SqL X.K H' l [.ref a1, .ref a2, .ref a3] := .inl (.inl (x.h _ _ upd_same))
      simp only [R.bind_ok] at o
      unfold sel3 at o
      split at o
      · rename_i i
        cases dp
        split at o
        · rename_i e0
          subst e0
          exact ⟨l, _, 0, .ref a1, rfl, rfl, hL, rfl, .inl ⟨rfl, F', xx, o⟩⟩
        · split at o
          · rename_i e1
            subst e1
            exact ⟨l, _, 1, .ref a2, rfl, rfl, hL, rfl, .inr (.inl ⟨rfl, F', xx, o⟩)⟩
          · split at o
            · rename_i e2
              subst e2
              exact ⟨l, _, 2, .ref a3, rfl, rfl, hL, rfl, .inr (.inr ⟨rfl, F', xx, o⟩)⟩
            · exact o.elim
      · exact o.elim
  · rcases q with ⟨rfl, F1, x, o⟩ | ⟨rfl, F1, x, o⟩ | ⟨rfl, F1, x, o⟩
    · cases ru; exact go a1 fd1 ps1 f1 ok1 k1 b1 s1 H1 F1 I1 x o
    · cases ru; exact go a2 fd2 ps2 f2 ok2 k2 b2 s1 H1 F1 I1 x o
    · cases ru; exact go a3 fd3 ps3 f3 ok3 k3 b3 s1 H1 F1 I1 x o
def selK (f1 f2 f3 : List D → R D) (ri : R D) (r : R (List D)) : R D := ri.bind (sel3 f1 f2 f3 r)
@[simp] theorem ev_sel3 (f1 f2 f3 : List D → R D) (gi : G → R D) (gs : G → R (List D)) (Γ : G) : gSel3 f1 f2 f3 gi gs Γ = selK f1 f2 f3 (gi Γ) (gs Γ) := (rfl)
theorem selK_0 (f1 f2 f3 : List D → R D) (ds : List D) : selK f1 f2 f3 (.ok (.int 0)) (.ok ds) = f1 ds := (rfl)
theorem selK_1 (f1 f2 f3 : List D → R D) (ds : List D) : selK f1 f2 f3 (.ok (.int 1)) (.ok ds) = f2 ds := (rfl)
theorem selK_2 (f1 f2 f3 : List D → R D) (ds : List D) : selK f1 f2 f3 (.ok (.int 2)) (.ok ds) = f3 ds := (rfl)
/-! list(range(n)) -/
def lrg : D → R D
  | .int j => if 0 ≤ j ∧ j ≤ 1000000 then .ok (.list (rangeL 0 j.toNat)) else .bad
  | _ => .bad
def gLRg (g : G → R D) (Γ : G) : R D := (g Γ).bind lrg
theorem dpa_rg {K : PySem.W.Frag} {F : Hp} {j : Int} : DpAll K F (rgV 0 j) (rangeL 0 j.toNat) := by
  unfold rgV rangeL
  rw [show (j - 0) = j by omega]
  generalize List.range j.toNat = l
  induction l with
  | nil => exact .nil
  | cons a l ih => exact .cons (.int _) ih
theorem d_listRg {e : Expr} {p p2 pos rpos : Pos} {g : G → R D} (hc : X.calm = true) (hg : Gl X "list") (hm : X.mg "list" = none) (hg2 : Gl X "range") (hm2 : X.mg "range" = none) (he : DE X B E e g)
    (na : starEach [e] X.env = (false, eval e X.env) :: starEach [] X.env := by rfl) (nb : starEach [.Call (.Name "range" p2) [e] [] rpos] X.env = (false, eval (.Call (.Name "range" p2) [e] [] rpos) X.env) :: starEach [] X.env := by rfl) :
    DE X B E (.Call (.Name "list" p) [.Call (.Name "range" p2) [e] [] rpos] [] pos) (gLRg g) :=
  pe_imp (pe_listRg hc hg hm (prg_1 hg2 hm2 he na) nb) fun σ H Q h => by
    obtain ⟨Γ, F, s, er, w⟩ := tD.bind (f := fun Γ => lrg) h
    refine ⟨Γ, F, s, er, ?_⟩
    revert w
    cases g Γ with
    | exc c => exact fun o => o
    | bad => exact fun o => o
    | ok d =>
      intro w v F1 H1 x1 dp1
      obtain ⟨Γ2, d2, F2, s2, er2, dp2, o2⟩ := w v F1 H1 x1 dp1
      unfold lrg at o2
      split at o2
      · rename_i j
        split at o2
        · rename_i hb
          cases dp2
          refine ⟨j, rfl, ⟨by omega, by omega, by omega, by omega, by omega⟩, fun q hq => ?_⟩
          exact o2 _ _ _ (Ext.new s2 hq _) (dp_newL s2 hq dpa_rg)
        · exact o2.elim
      · exact o2.elim
def lrgK (r : R D) : R D := r.bind lrg
@[simp] theorem ev_lrg (g : G → R D) (Γ : G) : gLRg g Γ = lrgK (g Γ) := (rfl)
theorem lrgK_nat (n : Nat) (h : n ≤ 1000000) : lrgK (.ok (.int (n : Nat))) = .ok (.list ((List.range n).map fun i => PyData.int (i : Nat))) := by
  have c : (0 : Int) ≤ (n : Int) ∧ (n : Int) ≤ 1000000 := by omega
  show (if (0 : Int) ≤ (n : Int) ∧ (n : Int) ≤ 1000000 then R.ok (PyData.list (rangeL 0 (n : Int).toNat)) else .bad) = _
  rw [if_pos c]
  unfold rangeL
  simp
end
end ND
/-! ND35: dicts by texts, of one's own. -/
namespace ND
open PySem PySem.Spec PyProof.Rows L2
section
variable {X : Cx} {B F0 : Hp} {n : Nat} {E : L2.St → XK}
/-! ### slots that hold a thing of one's own -/
theorem ER.adoptC {K : PySem.W.Frag} {F H F' H' : Hp} {σ : L2.St} {Γ : G} (er : ER K B F H σ Γ) (x : Ext F H F' H') (i : Nat) {p : Addr} {u : HO} {k : Cel} (hp : H p = none) (hp' : H' p = some u) (hf : F' p = none) (hb : B p = none) (dp : CelOk K F' u k) :
    ER K B F' H' (σ.set i (some (.ref p))) (Γ.set i (.cel k)) := by
  have keep : ∀ (j : Nat) (l : Cel), Γ[j]? = some (.cel l) → σ[j]? ≠ some (some (.ref p)) := fun j l h e => by
    obtain ⟨q, ws, a, _, _, c, _⟩ := er.ok j _ h
    rw [a] at e
    cases e
    rw [hp] at c
    cases c
  have er2 := er.ext x
  refine ⟨by rw [List.length_set, List.length_set]; exact er.len, fun j s q => ?_, fun a b ds1 ds2 q h1 h2 h3 h4 => ?_, fun a b ds1 ds2 q h1 h2 h3 h4 => ?_⟩
  · rw [List.getElem?_set] at q
    by_cases hij : i = j
    · subst hij
      rw [if_pos rfl] at q
      split at q
      · rename_i hl
        cases q
        exact ⟨p, u, by rw [List.getElem?_set_self (by rw [er.len]; exact hl)], hb, hf, hp', dp⟩
      · cases q
    · rw [if_neg hij] at q
      have := er2.ok j s q
      cases s with
      | un => trivial
      | exn a =>
        show (List.set _ _ _)[_]? = _
        rw [List.getElem?_set_ne hij]
        exact this
      | dat d => obtain ⟨v, a, b⟩ := this; exact ⟨v, by rw [List.getElem?_set_ne hij]; exact a, b⟩
      | own ds =>
        obtain ⟨p2, xs, a, b0, b1, c, d⟩ := this
        exact ⟨p2, xs, by rw [List.getElem?_set_ne hij]; exact a, b0, b1, c, d⟩
      | cel k =>
        obtain ⟨p2, u, a, b0, b1, c, d⟩ := this
        exact ⟨p2, u, by rw [List.getElem?_set_ne hij]; exact a, b0, b1, c, d⟩
  · have un : ∀ (a : Nat) (ds : List D), (Γ.set i (.cel k))[a]? = some (.own ds) → i ≠ a ∧ Γ[a]? = some (.own ds) := fun a k h => by
      rw [List.getElem?_set] at h
      by_cases z : i = a
      · rw [if_pos z] at h
        split at h <;> cases h
      · rw [if_neg z] at h
        exact ⟨z, h⟩
    obtain ⟨na, ga⟩ := un _ _ h1
    obtain ⟨nb, gb⟩ := un _ _ h2
    rw [List.getElem?_set_ne na] at h3
    rw [List.getElem?_set_ne nb] at h4
    exact er.apart a b _ _ q ga gb h3 h4
  · rw [List.getElem?_set] at h1 h2 h3 h4
    by_cases ha : i = a <;> by_cases hb : i = b
    · exact ha.symm.trans hb
    · subst ha
      rw [if_pos rfl] at h3
      rw [if_neg hb] at h2 h4
      split at h3
      · cases h3
        exact (keep b _ h2 h4).elim
      · cases h3
    · subst hb
      rw [if_neg ha] at h1 h3
      rw [if_pos rfl] at h4
      split at h4
      · cases h4
        exact (keep a _ h1 h3).elim
      · cases h4
    · rw [if_neg ha] at h1 h3
      rw [if_neg hb] at h2 h4
      exact er.apartC a b _ _ q h1 h2 h3 h4
theorem ER.putC {K : PySem.W.Frag} {F H : Hp} {σ : L2.St} {Γ : G} (er : ER K B F H σ Γ) (i : Nat) {p : Addr} {u0 u : HO} {k0 k : Cel} (hg : Γ[i]? = some (.cel k0)) (hs : σ[i]? = some (some (.ref p))) (hb : B p = none) (hf : F p = none) (dp : CelOk K F u k) :
    ER K B F (upd H p u) σ (Γ.set i (.cel k)) := by
  have hl : i < Γ.length := (List.getElem?_eq_some_iff.mp hg).1
  obtain ⟨p3, u3, e1, _, _, e4, e5⟩ := er.ok i _ hg
  rw [hs] at e1
  cases e1
  refine ⟨by rw [List.length_set]; exact er.len, fun j s q => ?_, fun a b ds1 ds2 q h1 h2 h3 h4 => ?_, fun a b ds1 ds2 q h1 h2 h3 h4 => ?_⟩
  · rw [List.getElem?_set] at q
    by_cases hij : i = j
    · subst hij
      rw [if_pos rfl, if_pos hl] at q
      cases q
      exact ⟨p, u, hs, hb, hf, by rw [upd_same], dp⟩
    · rw [if_neg hij] at q
      have := er.ok j s q
      cases s with
      | un => trivial
      | exn a => exact this
      | dat d => exact this
      | own ds =>
        obtain ⟨p2, xs, a, b0, b1, c, d⟩ := this
        have hne : p2 ≠ p := fun z => by rw [z, e4] at c; cases c; exact e5.nolst
        exact ⟨p2, xs, a, b0, b1, by rw [upd_ne hne]; exact c, d⟩
      | cel l =>
        obtain ⟨p2, u2, a, b0, b1, c, d⟩ := this
        have hne : p2 ≠ p := fun z => hij (er.apartC i j _ _ p hg q hs (by rw [a, z]))
        exact ⟨p2, u2, a, b0, b1, by rw [upd_ne hne]; exact c, d⟩
  · have un : ∀ (a : Nat) (ds : List D), (Γ.set i (.cel k))[a]? = some (.own ds) → Γ[a]? = some (.own ds) := fun a k h => by
      rw [List.getElem?_set] at h
      by_cases z : i = a
      · rw [if_pos z] at h
        split at h <;> cases h
      · rw [if_neg z] at h
        exact h
    exact er.apart a b _ _ q (un _ _ h1) (un _ _ h2) h3 h4
  · have own : ∀ (a : Nat) (l : Cel), (Γ.set i (.cel k))[a]? = some (.cel l) → ∃ l, Γ[a]? = some (.cel l) := fun a l h => by
      rw [List.getElem?_set] at h
      by_cases hia : i = a
      · exact ⟨k0, hia ▸ hg⟩
      · rw [if_neg hia] at h
        exact ⟨l, h⟩
    obtain ⟨_, g1⟩ := own a _ h1
    obtain ⟨_, g2⟩ := own b _ h2
    exact er.apartC a b _ _ q g1 g2 h3 h4
/-! ### entries -/
def valD (kvs : List (Str × D)) (k : Str) : Option D := (kvs.find? fun kv => decide (kv.1 = k)).map (·.2)
def putD (kvs : List (Str × D)) (k : Str) (d : D) : List (Str × D) :=
  if (kvs.any fun kv => decide (kv.1 = k)) = true then kvs.map (fun kv => if kv.1 = k then (kv.1, d) else kv) else kvs ++ [(k, d)]
theorem kv_length {K : PySem.W.Frag} {F : Hp} : ∀ {r : List (Key × V)} {l : List (Str × D)}, KvOk K F r l → r.length = l.length
  | _, _, .nil => rfl
  | _, _, .cons _ t => by simp [kv_length t]
theorem kv_keys {K : PySem.W.Frag} {F : Hp} : ∀ {r : List (Key × V)} {l : List (Str × D)}, KvOk K F r l → r.map (·.1) = (l.map (·.1)).map Sum.inr
  | _, _, .nil => rfl
  | _, _, .cons _ t => by simp [kv_keys t]
/-- what stands at a key -/
theorem kv_val {K : PySem.W.Frag} {F : Hp} (k : Str) : ∀ {r : List (Key × V)} {l : List (Str × D)}, KvOk K F r l →
    (valV r (.inr k) = none ∧ valD l k = none) ∨ ∃ v d, valV r (.inr k) = some v ∧ valD l k = some d ∧ Dp K F v d
  | _, _, .nil => .inl ⟨rfl, rfl⟩
  | _, _, .cons (k := k2) (v := v) (d := d) h t => by
    by_cases e : k2 = k
    · subst e
      exact .inr ⟨v, d, by simp [valV], by simp [valD], h⟩
    · rcases kv_val k t with ⟨a, b⟩ | ⟨v, d, a, b, c⟩
      · exact .inl ⟨by rw [valV_neg (fun z => e (by injection z))]; exact a, by unfold valD at *; simpa [e] using b⟩
      · exact .inr ⟨v, d, by rw [valV_neg (fun z => e (by injection z))]; exact a, by unfold valD at *; simpa [e] using b, c⟩
theorem kv_map {K : PySem.W.Frag} {F : Hp} {k : Str} {v : V} {d : D} (h : Dp K F v d) : ∀ {r : List (Key × V)} {l : List (Str × D)}, KvOk K F r l →
    KvOk K F (r.map fun kv => if kv.1 = .inr k then (kv.1, v) else kv) (l.map fun kv => if kv.1 = k then (kv.1, d) else kv)
  | _, _, .nil => .nil
  | _, _, .cons (k := k2) h2 t => by
    rw [List.map_cons, List.map_cons]
    by_cases e : k2 = k
    · subst e
      rw [if_pos rfl, if_pos rfl]
      exact .cons h (kv_map h t)
    · rw [if_neg (fun z => e (by injection z)), if_neg e]
      exact .cons h2 (kv_map h t)
theorem kv_snoc {K : PySem.W.Frag} {F : Hp} {k : Str} {v : V} {d : D} (h : Dp K F v d) : ∀ {r : List (Key × V)} {l : List (Str × D)}, KvOk K F r l → KvOk K F (r ++ [(.inr k, v)]) (l ++ [(k, d)])
  | _, _, .nil => .cons h .nil
  | _, _, .cons h2 t => .cons h2 (kv_snoc h t)
theorem kv_any {K : PySem.W.Frag} {F : Hp} (k : Str) : ∀ {r : List (Key × V)} {l : List (Str × D)}, KvOk K F r l → (r.any fun kv => decide (kv.1 = .inr k)) = (l.any fun kv => decide (kv.1 = k))
  | _, _, .nil => rfl
  | _, _, .cons (k := k2) _ t => by
    rw [List.any_cons, List.any_cons, kv_any k t]
    congr 1
    by_cases e : k2 = k
    · subst e; simp
    · have e2 : ¬ ((Sum.inr k2 : Key) = Sum.inr k) := fun z => e (by injection z)
      simp [e, e2]
theorem kv_put {K : PySem.W.Frag} {F : Hp} {k : Str} {v : V} {d : D} (h : Dp K F v d) {r : List (Key × V)} {l : List (Str × D)} (t : KvOk K F r l) : KvOk K F (L2.putK r (.inr k) v) (putD l k d) := by
  unfold L2.putK putD
  rw [kv_any k t]
  split
  · exact kv_map h t
  · exact kv_snoc h t
/-! ### x = {}, x = {..} -/
def gDNew (i : Nat) (Γ : G) : R Fl := .ok (.nx (Γ.set i (.cel (.dct []))))
theorem keep_dnew {i : Nat} : KeepN (gDNew i) := fun Γ => ⟨fun _ q => (by cases q; exact List.length_set ..), fun _ q => (by cases q), fun _ q => (by cases q)⟩
theorem shNone {F H : Hp} {p : Addr} (sh : SH B F0 F H) (hp : H p = none) : B p = none := by
  cases q : B p with
  | none => rfl
  | some u => rw [sh.b _ _ q] at hp; cases hp
theorem s_dnew {x : Str} {dp pos pos' : Pos} (i : Nat) (nd : X.N.Nodup) (hi : X.N[i]? = some x := by rfl) (hx : Loc X.env.scope x := by first | exact Or.inl rfl | exact Or.inr rfl)
    (hf : X.fn x = true ∨ X.env.scope.names.lookup x = some .local := by first | exact .inl rfl | exact .inr rfl)
    (hs : swapsWithSole [.Name x pos'] (.Dict [] [] dp) pos.line X.env = pure false := by rfl) (hw : swappedStores [.Name x pos'] (.Dict [] [] dp) X.env = pure none := by rfl) (h1 : (assignEach [.Name x pos'] X.env).map (·.2) = [assign (.Name x pos') X.env] := by rfl) :
    DS X B F0 n E (.Assign [.Name x pos'] (.Dict [] [] dp) pos) (gDNew i) :=
  ⟨ps_imp (ps_asg pe_dnewK (pg_name nd hi hx hf) hs hw h1) fun Dd σ H ⟨Γ, F, sh, er, hn, o⟩ => by
    intro p hp
    have x := new_ext sh.f hp (.dK [])
    exact o _ F _ (sh.ext x) (Same.refl _) (er.adoptC x i hp upd_same (sh.f.free hp) (shNone sh hp) .nil), keep_dnew⟩
/-! ### x[k] = e -/
def gDPut (i : Nat) (gk g : G → R D) (Γ : G) : R Fl := (g Γ).bind fun d => match Γ[i]? with
  | some (.cel (.dct kvs)) => (gk Γ).bind fun kd => match kd with
    | .str k => if kvs.length < sizeLine then .ok (.nx (Γ.set i (.cel (.dct (putD kvs k d))))) else .bad
    | _ => .bad
  | _ => .bad
theorem keep_dput {i : Nat} {gk g : G → R D} : KeepN (gDPut i gk g) := fun Γ => by
  unfold gDPut
  cases g Γ with
  | exc c => exact ⟨fun _ q => (by cases q), fun _ q => (by cases q), fun _ q => (by cases q)⟩
  | bad => exact ⟨fun _ q => (by cases q), fun _ q => (by cases q), fun _ q => (by cases q)⟩
  | ok d =>
    simp only [R.bind_ok]
    split
    · cases gk Γ with
      | exc c => exact ⟨fun _ q => (by cases q), fun _ q => (by cases q), fun _ q => (by cases q)⟩
      | bad => exact ⟨fun _ q => (by cases q), fun _ q => (by cases q), fun _ q => (by cases q)⟩
      | ok k =>
        simp only [R.bind_ok]
        split
        · split
          · exact ⟨fun _ q => (by cases q; simp), fun _ q => (by cases q), fun _ q => (by cases q)⟩
          · exact ⟨fun _ q => (by cases q), fun _ q => (by cases q), fun _ q => (by cases q)⟩
        · exact ⟨fun _ q => (by cases q), fun _ q => (by cases q), fun _ q => (by cases q)⟩
    · exact ⟨fun _ q => (by cases q), fun _ q => (by cases q), fun _ q => (by cases q)⟩
theorem celok_dct {K : PySem.W.Frag} {F : Hp} {u : HO} {kvs : List (Str × D)} (h : CelOk K F u (.dct kvs)) : ∃ raw, u = .dK raw ∧ KvOk K F raw kvs := by
  cases u <;> first | exact ⟨_, rfl, h⟩ | exact h.elim
theorem s_dput {x : Str} {k e : Expr} {p1 p2 pos : Pos} {gk g : G → R D} (i : Nat) (ru : RU X.A) (he : DE X B E e g) (hk : DE X B E k gk) (hN : X.N[i]? = some x := by rfl) (hv : Vis X.env.scope x := by first | exact Or.inl rfl | exact Or.inr (Or.inl rfl) | exact Or.inr (Or.inr rfl)) (hd : (x == ("__debug__" : Str)) = false := by decide)
    (hcd : (x == ("__classdict__" : Str)) = false := by decide)
    (hs : swapsWith e (some (.Subscript (.Name x p1) k p2)) pos.line X.env = pure false := by rfl) :
    DS X B F0 n E (.Assign [.Subscript (.Name x p1) k p2] e pos) (gDPut i gk g) :=
  ⟨ps_imp (ps_dput (Nat.lt_of_le_of_lt (Nat.add_le_add_left (by decide : 1 ≤ 200) _) ru.un) (pe_var hN hv hd hcd) hk he hs) fun Dd σ H ⟨Γ, F, sh, er, hn, o⟩ => by
    refine ⟨Γ, F, sh.f, er, ?_⟩
    unfold gDPut at o
    revert o
    cases g Γ with
    | exc c => exact fun o C F' H' m x => o σ C F' H' (er.slen hn) m (sh.ext x) x.f
    | bad => exact fun o => o
    | ok d =>
      intro o v F1 H1 x1 dp
      simp only [R.bind_ok] at o
      split at o
      · rename_i kvs hg
        have er1 := er.ext x1
        have sh1 := sh.ext x1
        obtain ⟨p, u, a, hB, hF, hH, ck⟩ := er1.ok i _ hg
        obtain ⟨raw, rfl, hk⟩ := celok_dct ck
        refine ⟨.ref p, a, Γ, F1, sh1.f, er1, ?_⟩
        revert o
        cases gk Γ with
        | exc c => exact fun o C F' H' m x => o σ C F' H' (er.slen hn) m (sh1.ext x) (x1.f.trans x.f)
        | bad => exact fun o => o
        | ok kd =>
          intro o u F2 H2 x2 dpk
          simp only [R.bind_ok] at o
          split at o
          · rename_i ks
            split at o
            · rename_i hz
              cases dpk
              have sh2 := sh1.ext x2
              have hF2 : F2 p = none := x2.no p hF (by rw [hH]; simp)
              have hH2 := x2.h _ _ hH
              refine ⟨p, _, rfl, DPut.k (k := .inr ks) hH2 (by rw [kv_length hk]; exact hz), ?_⟩
              refine o σ F2 _ ⟨fun b u q => ?_, fun b u q => ?_, sh2.f0, sh2.no⟩ (x1.f.trans x2.f) ((er1.ext x2).putC (u0 := .dK raw) i hg a hB hF2 (show KvOk _ _ _ _ from kv_put (dp_mono x2.f dp) (hk.mono x2.f)))
              · rw [upd_ne (fun z => by rw [z, hB] at q; cases q)]; exact sh2.b _ _ q
              · rw [upd_ne (fun z => by rw [z, hF2] at q; cases q)]; exact sh2.f _ _ q
            · exact o.elim
          · exact o.elim
      · exact o.elim, keep_dput⟩
/-! ### x[k], x.get(k), x.get(k, d) -/
def gDSub (i : Nat) (gk : G → R D) (Γ : G) : R D := match Γ[i]? with
  | some (.cel (.dct kvs)) => (gk Γ).bind fun kd => match kd with
    | .str k => (match valD kvs k with | some d => .ok d | none => .bad)
    | _ => .bad
  | _ => .bad
theorem d_dsub {x : Str} {k : Expr} {p1 pos : Pos} {gk : G → R D} (i : Nat) (ru : RU X.A) (hk : DE X B E k gk) (hN : X.N[i]? = some x := by rfl) (hv : Vis X.env.scope x := by first | exact Or.inl rfl | exact Or.inr (Or.inl rfl) | exact Or.inr (Or.inr rfl)) (hd : (x == ("__debug__" : Str)) = false := by decide)
    (hcd : (x == ("__classdict__" : Str)) = false := by decide) (hs : NoSl k := by exact fun _ _ => rfl) : DE X B E (.Subscript (.Name x p1) k pos) (gDSub i gk) :=
  pe_imp (pe_dget (Nat.lt_of_le_of_lt (Nat.add_le_add_left (by decide : 1 ≤ 200) _) ru.un) (pe_var hN hv hd hcd) hk hs) fun σ H Q ⟨Γ, F, s, er, o⟩ => by
    unfold gDSub at o
    split at o
    · rename_i kvs hg
      obtain ⟨p, u, a, hB, hF, hH, ck⟩ := er.ok i _ hg
      obtain ⟨raw, rfl, hk⟩ := celok_dct ck
      refine ⟨.ref p, a, Γ, F, s, er, ?_⟩
      revert o
      cases gk Γ with
      | exc c => exact fun o => o
      | bad => exact fun o => o
      | ok kd =>
        intro o u F2 H2 x2 dpk
        simp only [R.bind_ok] at o
        split at o
        · rename_i ks
          cases dpk
          rcases kv_val ks hk with ⟨e1, e2⟩ | ⟨v, d, e1, e2, e3⟩
          · rw [e2] at o; exact o.elim
          · rw [e2] at o
            refine ⟨p, v, rfl, ?_, o v F2 H2 x2 (dp_mono x2.f e3)⟩
            have g := DGet.k (k := .inr ks) (x2.h _ _ hH)
            rw [e1] at g
            exact g
        · exact o.elim
    · exact o.elim
def gDGet (i : Nat) (gk ge : G → R D) (Γ : G) : R D := match Γ[i]? with
  | some (.cel (.dct kvs)) => (gk Γ).bind fun kd => (ge Γ).bind fun e => match kd with
    | .str k => .ok ((valD kvs k).getD e)
    | _ => .bad
  | _ => .bad
theorem d_dget2 {x : Str} {k e : Expr} {p1 apos cpos : Pos} {gk ge : G → R D} (i : Nat) (ru : RU X.A) (hk : DE X B E k gk) (he : DE X B E e ge) (m : M2 X (.Name x p1) "get" apos k e cpos) (hN : X.N[i]? = some x := by rfl) (hv : Vis X.env.scope x := by first | exact Or.inl rfl | exact Or.inr (Or.inl rfl) | exact Or.inr (Or.inr rfl)) (hd : (x == ("__debug__" : Str)) = false := by decide)
    (hcd : (x == ("__classdict__" : Str)) = false := by decide) : DE X B E (.Call (.Attribute (.Name x p1) "get" apos) [k, e] [] cpos) (gDGet i gk ge) :=
  pe_imp (pe_dget2 (Nat.lt_of_le_of_lt (Nat.add_le_add_left (by decide : 1 ≤ 200) _) ru.un) (pe_var hN hv hd hcd) hk he m) fun σ H Q ⟨Γ, F, s, er, o⟩ => by
    unfold gDGet at o
    split at o
    · rename_i kvs hg
      obtain ⟨p, u, a, hB, hF, hH, ck⟩ := er.ok i _ hg
      obtain ⟨raw, rfl, hk⟩ := celok_dct ck
      refine ⟨.ref p, a, p, rfl, .inl ⟨raw, .inl hH⟩, Γ, F, s, er, ?_⟩
      revert o
      cases gk Γ with
      | exc c => exact fun o => o
      | bad => exact fun o => o
      | ok kd =>
        intro o u F1 H1 x1 dpk
        simp only [R.bind_ok] at o
        refine ⟨Γ, F1, x1.fh, er.ext x1, ?_⟩
        revert o
        cases ge Γ with
        | exc c => exact fun o C F' H' m x => o C F' H' m (x1.trans x)
        | bad => exact fun o => o
        | ok ed =>
          intro o w F2 H2 x2 dpe
          simp only [R.bind_ok] at o
          split at o
          · rename_i ks
            cases dpk
            have g := DGet.k (k := .inr ks) (x2.h _ _ (x1.h _ _ hH))
            rcases kv_val ks hk with ⟨e1, e2⟩ | ⟨v, d, e1, e2, e3⟩
            · rw [e2] at o
              rw [e1] at g
              exact ⟨none, g, o w F2 H2 (x1.trans x2) dpe⟩
            · rw [e2] at o
              rw [e1] at g
              exact ⟨some v, g, o v F2 H2 (x1.trans x2) (dp_mono (x1.f.trans x2.f) e3)⟩
          · exact o.elim
    · exact o.elim
def gDGet1 (i : Nat) (gk : G → R D) (Γ : G) : R D := match Γ[i]? with
  | some (.cel (.dct kvs)) => (gk Γ).bind fun kd => match kd with
    | .str k => .ok ((valD kvs k).getD .none)
    | _ => .bad
  | _ => .bad
theorem d_dget1 {x : Str} {k : Expr} {p1 apos cpos : Pos} {gk : G → R D} (i : Nat) (ru : RU X.A) (hk : DE X B E k gk) (m : M1 X (.Name x p1) "get" apos k cpos) (hN : X.N[i]? = some x := by rfl) (hv : Vis X.env.scope x := by first | exact Or.inl rfl | exact Or.inr (Or.inl rfl) | exact Or.inr (Or.inr rfl)) (hd : (x == ("__debug__" : Str)) = false := by decide)
    (hcd : (x == ("__classdict__" : Str)) = false := by decide) : DE X B E (.Call (.Attribute (.Name x p1) "get" apos) [k] [] cpos) (gDGet1 i gk) :=
  pe_imp (pe_dget1 (Nat.lt_of_le_of_lt (Nat.add_le_add_left (by decide : 1 ≤ 200) _) ru.un) (pe_var hN hv hd hcd) hk m) fun σ H Q ⟨Γ, F, s, er, o⟩ => by
    unfold gDGet1 at o
    split at o
    · rename_i kvs hg
      obtain ⟨p, u, a, hB, hF, hH, ck⟩ := er.ok i _ hg
      obtain ⟨raw, rfl, hk⟩ := celok_dct ck
      refine ⟨.ref p, a, p, rfl, .inl ⟨raw, .inl hH⟩, Γ, F, s, er, ?_⟩
      revert o
      cases gk Γ with
      | exc c => exact fun o => o
      | bad => exact fun o => o
      | ok kd =>
        intro o u F1 H1 x1 dpk
        simp only [R.bind_ok] at o
        split at o
        · rename_i ks
          cases dpk
          have g := DGet.k (k := .inr ks) (x1.h _ _ hH)
          rcases kv_val ks hk with ⟨e1, e2⟩ | ⟨v, d, e1, e2, e3⟩
          · rw [e2] at o
            rw [e1] at g
            exact ⟨none, g, o .non F1 H1 x1 .non⟩
          · rw [e2] at o
            rw [e1] at g
            exact ⟨some v, g, o v F1 H1 x1 (dp_mono x1.f e3)⟩
        · exact o.elim
    · exact o.elim
/-! ### sorted(x) -/
theorem dpa_strv {K : PySem.W.Frag} {F : Hp} : ∀ (ks : List Str), DpAll K F (ks.map V.str) (ks.map PyData.str)
  | [] => .nil
  | k :: ks => .cons (.str k) (dpa_strv ks)
theorem rising_le : ∀ (p : Str) (r : List Str), risingS p r = true → (p :: r).Pairwise fun a b => leS a b = true
  | p, [], _ => List.pairwise_singleton ..
  | p, x :: r, h => by
    unfold risingS at h
    rw [Bool.and_eq_true] at h
    have h1 : leS p x = true := by
      have := h.1
      rw [ltCps_eq] at this
      exact decide_eq_true (List.not_lt.mp (by simpa using this))
    have ih := rising_le x r h.2
    refine List.pairwise_cons.mpr ⟨fun z hz => ?_, ih⟩
    rcases List.mem_cons.mp hz with rfl | hz
    · exact h1
    · exact leS_trans _ _ _ h1 ((List.pairwise_cons.mp ih).1 z hz)
theorem sortX_id : ∀ {ys : List Str}, sortedS ys = true → sortX ys = ys
  | [], _ => by simp [sortX]
  | x :: r, h => List.mergeSort_of_pairwise (rising_le x r h)
noncomputable def gDSorted (i : Nat) (Γ : G) : R D := match Γ[i]? with
  | some (.cel (.dct kvs)) => if kvs.length < 64 then .ok (.list ((sortX (kvs.map (·.1))).map PyData.str)) else .bad
  | _ => .bad
theorem d_dsorted {x : Str} {p p1 pos : Pos} (i : Nat) (hc : X.calm = true) (hg : Gl X "sorted") (hm : X.mg "sorted" = none) (hN : X.N[i]? = some x := by rfl) (hv : Vis X.env.scope x := by first | exact Or.inl rfl | exact Or.inr (Or.inl rfl) | exact Or.inr (Or.inr rfl)) (hd : (x == ("__debug__" : Str)) = false := by decide)
    (hcd : (x == ("__classdict__" : Str)) = false := by decide) (he : starEach [.Name x p1] X.env = (false, eval (.Name x p1) X.env) :: starEach [] X.env := by rfl) (hpl : (backTo pos (starEach [] X.env)).any (·.1) = false := by rfl) :
    DE X B E (.Call (.Name "sorted" p) [.Name x p1] [] pos) (gDSorted i) :=
  pe_imp (pe_callB (call_sortedD hc) hg hm boot_sorted (pa_cons (pe_var (pos := p1) hN hv hd hcd) pa_nil he) (by decide) (by decide) he hpl) fun σ H Q ⟨Γ, F, s, er, o⟩ => by
    unfold gDSorted at o
    split at o
    · rename_i kvs hg
      split at o
      · rename_i h64
        obtain ⟨p, u, a, hB, hF, hH, ck⟩ := er.ok i _ hg
        obtain ⟨raw, rfl, hk⟩ := celok_dct ck
        refine ⟨.ref p, a, p, raw, kvs.map (·.1), rfl, .inl hH, kv_keys hk, by simpa using h64, fun ys q pm so hq => ?_⟩
        have e : ys = sortX (kvs.map (·.1)) := by
          rw [← sortX_perm pm]
          exact (sortX_id so).symm
        subst e
        refine o _ (upd F q _) _ ⟨fun b u q1 => ?_, fun b u q1 => ?_, fun b u q1 => ?_, fun b h1 h2 => ?_⟩ (.lst (.inl (.inl upd_same)) (dpa_strv _))
        · rw [upd_ne (fun z => by rw [z, s.free hq] at q1; cases q1)]; exact q1
        · rw [upd_ne (ne_of_none q1 hq)]; exact q1
        · by_cases hb : b = q
          · subst hb; rw [upd_same] at q1; cases q1; exact upd_same
          · rw [upd_ne hb] at q1 ⊢; exact s _ _ q1
        · rw [upd_ne (fun z => h2 (by rw [z]; exact hq))]; exact h1
      · exact o.elim
    · exact o.elim
/-! evaluation -/
@[simp] theorem ev_dnew (i : Nat) (Γ : G) : gDNew i Γ = .ok (.nx (Γ.set i (.cel (.dct [])))) := (rfl)
def dputAt (i : Nat) (Γ : G) (kvs : List (Str × D)) (d : D) : D → R Fl
  | .str k => if kvs.length < sizeLine then .ok (.nx (Γ.set i (.cel (.dct (putD kvs k d))))) else .bad
  | _ => .bad
def dputK (i : Nat) (Γ : G) (gk : G → R D) (d : D) : Option Sv → R Fl
  | some (.cel (.dct kvs)) => (gk Γ).bind (dputAt i Γ kvs d)
  | _ => .bad
def dput0K (i : Nat) (Γ : G) (gk : G → R D) (r : R D) : R Fl := r.bind fun d => dputK i Γ gk d Γ[i]?
@[simp] theorem ev_dput (i : Nat) (gk g : G → R D) (Γ : G) : gDPut i gk g Γ = dput0K i Γ gk (g Γ) := by
  unfold gDPut dput0K dputK
  rfl
@[simp] theorem dput0K_ok (i : Nat) (Γ : G) (gk : G → R D) (d : D) : dput0K i Γ gk (.ok d) = dputK i Γ gk d Γ[i]? := (rfl)
def dput1K (i : Nat) (Γ : G) (kvs : List (Str × D)) (d : D) (r : R D) : R Fl := r.bind (dputAt i Γ kvs d)
@[simp] theorem dputK_dct (i : Nat) (Γ : G) (gk : G → R D) (d : D) (kvs : List (Str × D)) : dputK i Γ gk d (some (.cel (.dct kvs))) = dput1K i Γ kvs d (gk Γ) := (rfl)
/-- entries by lists of signs -/
def tkv (l : List (Tx × D)) : List (Str × D) := l.map fun p => (St' p.1, p.2)
def valT (l : List (Tx × D)) (k : Tx) : Option D := (l.find? fun p => decide (p.1 = k)).map (·.2)
def putT (l : List (Tx × D)) (k : Tx) (d : D) : List (Tx × D) := if (l.any fun p => decide (p.1 = k)) = true then l.map (fun p => if p.1 = k then (p.1, d) else p) else l ++ [(k, d)]
theorem St'_inj {a b : Tx} (h : St' a = St' b) : a = b := by
  have := congrArg (fun x : Str => x.cps.toList) h
  simpa [St'] using this
theorem St'_iff {a b : Tx} : St' a = St' b ↔ a = b := ⟨St'_inj, fun h => by rw [h]⟩
theorem valD_tkv (l : List (Tx × D)) (k : Tx) : valD (tkv l) (St' k) = valT l k := by
  unfold valD valT tkv
  rw [List.find?_map, Option.map_map]
  congr 1
  congr 1
  funext p
  simp [St'_iff]
theorem putD_tkv (l : List (Tx × D)) (k : Tx) (d : D) : putD (tkv l) (St' k) d = tkv (putT l k d) := by
  unfold putD putT tkv
  rw [List.any_map]
  have e : ((fun kv : Str × D => decide (kv.1 = St' k)) ∘ fun p : Tx × D => (St' p.1, p.2)) = fun p => decide (p.1 = k) := by
    funext p; simp [St'_iff]
  rw [e]
  split
  · rw [List.map_map, List.map_map]
    congr 1
    funext p
    simp only [Function.comp, St'_iff]
    split <;> rfl
  · rw [List.map_append]
    rfl
theorem tkv_length (l : List (Tx × D)) : (tkv l).length = l.length := List.length_map ..
theorem dput1K_T (i : Nat) (Γ : G) {l : List (Tx × D)} (d : D) (k : Tx) (h : l.length < 16777216) : dput1K i Γ (tkv l) d (.ok (T k)) = .ok (.nx (Γ.set i (.cel (.dct (tkv (putT l k d)))))) := by
  show (if (tkv l).length < sizeLine then R.ok (Fl.nx (Γ.set i (.cel (.dct (putD (tkv l) (St' k) d))))) else .bad) = _
  rw [tkv_length, if_pos (by rw [sizeLine_eq]; exact h), putD_tkv]
def dsubAt (kvs : List (Str × D)) : D → R D
  | .str k => (match valD kvs k with | some d => .ok d | none => .bad)
  | _ => .bad
def dsubK (gk : G → R D) (Γ : G) : Option Sv → R D
  | some (.cel (.dct kvs)) => (gk Γ).bind (dsubAt kvs)
  | _ => .bad
@[simp] theorem ev_dsub (i : Nat) (gk : G → R D) (Γ : G) : gDSub i gk Γ = dsubK gk Γ Γ[i]? := by
  unfold gDSub dsubK
  split
  · rename_i h
    first | rfl | congr 1
  · first
    | rfl
    | (split
       · rename_i h _ _ h2
         exact absurd h2 (h _)
       · rfl)
def dsub1K (kvs : List (Str × D)) (r : R D) : R D := r.bind (dsubAt kvs)
@[simp] theorem dsubK_dct (gk : G → R D) (Γ : G) (kvs : List (Str × D)) : dsubK gk Γ (some (.cel (.dct kvs))) = dsub1K kvs (gk Γ) := (rfl)
theorem dsub1K_T {l : List (Tx × D)} {k : Tx} {d : D} (h : valT l k = some d) : dsub1K (tkv l) (.ok (T k)) = .ok d := by
  show (match valD (tkv l) (St' k) with | some d => R.ok d | none => .bad) = _
  rw [valD_tkv, h]
def dgetAt (kvs : List (Str × D)) (e : D) : D → R D
  | .str k => .ok ((valD kvs k).getD e)
  | _ => .bad
def dgetK (gk ge : G → R D) (Γ : G) : Option Sv → R D
  | some (.cel (.dct kvs)) => (gk Γ).bind fun kd => (ge Γ).bind fun e => dgetAt kvs e kd
  | _ => .bad
@[simp] theorem ev_dget (i : Nat) (gk ge : G → R D) (Γ : G) : gDGet i gk ge Γ = dgetK gk ge Γ Γ[i]? := by
  unfold gDGet dgetK
  split
  · rename_i h
    first | rfl | congr 1
  · first
    | rfl
    | (split
       · rename_i h _ _ h2
         exact absurd h2 (h _)
       · rfl)
def dget2K (kvs : List (Str × D)) (kd : D) (r : R D) : R D := r.bind fun e => dgetAt kvs e kd
def dget1K (kvs : List (Str × D)) (ge : G → R D) (Γ : G) (r : R D) : R D := r.bind fun kd => dget2K kvs kd (ge Γ)
@[simp] theorem dgetK_dct (gk ge : G → R D) (Γ : G) (kvs : List (Str × D)) : dgetK gk ge Γ (some (.cel (.dct kvs))) = dget1K kvs ge Γ (gk Γ) := (rfl)
@[simp] theorem dget1K_ok (kvs : List (Str × D)) (ge : G → R D) (Γ : G) (kd : D) : dget1K kvs ge Γ (.ok kd) = dget2K kvs kd (ge Γ) := (rfl)
@[simp] theorem dget2K_T (l : List (Tx × D)) (k : Tx) (e : D) : dget2K (tkv l) (T k) (.ok e) = .ok ((valT l k).getD e) := by
  show R.ok ((valD (tkv l) (St' k)).getD e) = _
  rw [valD_tkv]
def dgetK1 (gk : G → R D) (Γ : G) : Option Sv → R D
  | some (.cel (.dct kvs)) => (gk Γ).bind (dgetAt kvs .none)
  | _ => .bad
@[simp] theorem ev_dget1 (i : Nat) (gk : G → R D) (Γ : G) : gDGet1 i gk Γ = dgetK1 gk Γ Γ[i]? := by
  unfold gDGet1 dgetK1
  split
  · rename_i h
    first | rfl | congr 1
  · first
    | rfl
    | (split
       · rename_i h _ _ h2
         exact absurd h2 (h _)
       · rfl)
def dgetK2 (kvs : List (Str × D)) (r : R D) : R D := r.bind (dgetAt kvs .none)
@[simp] theorem dgetK1_dct (gk : G → R D) (Γ : G) (kvs : List (Str × D)) : dgetK1 gk Γ (some (.cel (.dct kvs))) = dgetK2 kvs (gk Γ) := (rfl)
@[simp] theorem dgetK2_T (l : List (Tx × D)) (k : Tx) : dgetK2 (tkv l) (.ok (T k)) = .ok ((valT l k).getD .none) := by
  show R.ok ((valD (tkv l) (St' k)).getD .none) = _
  rw [valD_tkv]
noncomputable def dsortK : Option Sv → R D
  | some (.cel (.dct kvs)) => if kvs.length < 64 then .ok (.list ((sortX (kvs.map (·.1))).map PyData.str)) else .bad
  | _ => .bad
@[simp] theorem ev_dsorted (i : Nat) (Γ : G) : gDSorted i Γ = dsortK Γ[i]? := by
  unfold gDSorted dsortK
  split <;> rfl
theorem dsortK_T {l : List (Tx × D)} (h : l.length < 64) : dsortK (some (.cel (.dct (tkv l)))) = .ok (.list ((sortX ((l.map (·.1)).map St')).map PyData.str)) := by
  show (if (tkv l).length < 64 then R.ok (PyData.list ((sortX ((tkv l).map (·.1))).map PyData.str)) else .bad) = _
  rw [tkv_length, if_pos h]
  congr 4
  unfold tkv
  rw [List.map_map, List.map_map]
  rfl
end
end ND
/-! ND36: a or b, by value. -/
namespace ND
open PySem PySem.Spec PyProof.Rows L2
section
variable {X : Cx} {B F0 : Hp} {n : Nat} {E : L2.St → XK}
def truD : D → Option Bool
  | .none => some false
  | .bool b => some b
  | .int i => some (i != 0)
  | _ => none
def gOrV (a b : G → R D) (Γ : G) : R D := (a Γ).bind fun x => match truD x with
  | some true => .ok x
  | some false => b Γ
  | none => .bad
theorem d_orV {a b : Expr} {rest : List Expr} {pos : Pos} {g g' : G → R D} (ha : DE X B E a g) (hb : DE X B E (.BoolOp .Or (b :: rest) pos) g') : DE X B E (.BoolOp .Or (a :: b :: rest) pos) (gOrV g g') :=
  pe_imp (pe_orT ha hb) fun σ H Q ⟨Γ, F, s, er, o⟩ => by
    refine ⟨Γ, F, s, er, ?_⟩
    unfold gOrV at o
    revert o
    cases g Γ with
    | exc c => exact fun o => o
    | bad => exact fun o => o
    | ok d =>
      intro o v F' H' x dp
      simp only [R.bind_ok] at o
      have er2 := er.ext x
      cases ht : truD d with
      | none => rw [ht] at o; exact o.elim
      | some k =>
        rw [ht] at o
        have tv : TruV X.K v H' k := by
          cases dp <;> first | (simp only [truD] at ht; cases ht; done) | (simp only [truD, Option.some.injEq] at ht; subst ht; first | rfl | exact rfl)
        refine ⟨k, tv, ?_⟩
        cases k with
        | true => exact iteT (o v F' H' x dp)
        | false => exact iteF ⟨Γ, F', x.fh, er2, Out.ext o x⟩
def orVK (b : G → R D) (Γ : G) (r : R D) : R D := r.bind fun x => match truD x with
  | some true => .ok x
  | some false => b Γ
  | none => .bad
@[simp] theorem ev_orV (a b : G → R D) (Γ : G) : gOrV a b Γ = orVK b Γ (a Γ) := (rfl)
@[simp] theorem orVK_none (b : G → R D) (Γ : G) : orVK b Γ (.ok .none) = b Γ := (rfl)
theorem orVK_zero (b : G → R D) (Γ : G) : orVK b Γ (.ok (.int 0)) = b Γ := (rfl)
theorem orVK_int (b : G → R D) (Γ : G) {i : Int} (h : i ≠ 0) : orVK b Γ (.ok (.int i)) = .ok (.int i) := by
  have : (i != 0) = true := by simpa using h
  show (match some (i != 0) with | some true => R.ok (PyData.int i) | some false => b Γ | none => .bad) = _
  rw [this]
end
end ND
/-! ND37: things of one's own that are handed about (instances, dicts, lists): a store beside the slots; readings by what is wished behind them. -/
namespace ND
open PySem PySem.Spec PyProof.Rows L2
/-- a thing handed about: data, or the place of a thing in the store -/
inductive Ar where
  | d (x : D)
  | o (p : Addr)
/-- a thing in the store -/
inductive Ob where
  | dct (kvs : List (Str × D))
  | ins (c : Str) (fs : List (Str × Ar))
  | lst (ds : List D)
abbrev Wd := List (Addr × Ob)
def ArOk (K : PySem.W.Frag) (F : Hp) (v : V) : Ar → Prop
  | .d x => Dp K F v x
  | .o p => v = .ref p
inductive ArsOk (K : PySem.W.Frag) (F : Hp) : List V → List Ar → Prop
  | nil : ArsOk K F [] []
  | cons {v : V} {a : Ar} {vs : List V} {as : List Ar} (h : ArOk K F v a) (t : ArsOk K F vs as) : ArsOk K F (v :: vs) (a :: as)
inductive FaOk (K : PySem.W.Frag) (F : Hp) : List (Str × V) → List (Str × Ar) → Prop
  | nil : FaOk K F [] []
  | cons {k : Str} {v : V} {a : Ar} {r : List (Str × V)} {l : List (Str × Ar)} (h : ArOk K F v a) (t : FaOk K F r l) : FaOk K F ((k, v) :: r) ((k, a) :: l)
def ObOk (K : PySem.W.Frag) (F : Hp) : HO → Ob → Prop
  | .dK raw, .dct kvs => KvOk K F raw kvs
  | .ins C _ raw, .ins c fs => C = He.ga K c ∧ FaOk K F raw fs
  | .lst vs, .lst ds => DpAll K F vs ds
  | _, _ => False
theorem ArOk.mono {K : PySem.W.Frag} {F F' : Hp} (s : Same F F') {v : V} : ∀ {a : Ar}, ArOk K F v a → ArOk K F' v a
  | .d _, h => dp_mono s h
  | .o _, h => h
theorem FaOk.mono {K : PySem.W.Frag} {F F' : Hp} (s : Same F F') : ∀ {r : List (Str × V)} {l : List (Str × Ar)}, FaOk K F r l → FaOk K F' r l
  | _, _, .nil => .nil
  | _, _, .cons h t => .cons (h.mono s) (FaOk.mono s t)
theorem ArsOk.mono {K : PySem.W.Frag} {F F' : Hp} (s : Same F F') : ∀ {r : List V} {l : List Ar}, ArsOk K F r l → ArsOk K F' r l
  | _, _, .nil => .nil
  | _, _, .cons h t => .cons (h.mono s) (ArsOk.mono s t)
theorem ArsOk.length {K : PySem.W.Frag} {F : Hp} : ∀ {r : List V} {l : List Ar}, ArsOk K F r l → r.length = l.length
  | _, _, .nil => rfl
  | _, _, .cons _ t => by simp [ArsOk.length t]
theorem ObOk.mono {K : PySem.W.Frag} {F F' : Hp} (s : Same F F') : ∀ {u : HO} {k : Ob}, ObOk K F u k → ObOk K F' u k
  | u, k, h => by
    unfold ObOk at *
    split at h
    · exact KvOk.mono s h
    · exact ⟨h.1, FaOk.mono s h.2⟩
    · exact dpa_mono s h
    · exact h.elim
/-- the store's places are left alone by what knows nothing of them -/
def pinW (B H : Hp) (W : Wd) : Hp := fun a => if a ∈ W.map (·.1) then H a else B a
section
variable {K : PySem.W.Frag} {mg : Str → Option Value} {B F0 F H F' H' : Hp} {σ : L2.St} {Γ : G} {W : Wd} {n : Nat}
theorem pin_in {a : Addr} (h : a ∈ W.map (·.1)) : pinW B H W a = H a := if_pos h
theorem pin_out {a : Addr} (h : a ∉ W.map (·.1)) : pinW B H W a = B a := if_neg h
structure RH (K : PySem.W.Frag) (B F0 F H : Hp) (W : Wd) : Prop where
  sh : SH (pinW B H W) F0 F H
  nd : (W.map (·.1)).Nodup
  ok : ∀ p k, (p, k) ∈ W → B p = none ∧ F p = none ∧ ∃ u, H p = some u ∧ ObOk K F u k
structure RelW (K : PySem.W.Frag) (B F0 F H : Hp) (σ : L2.St) (Γ : G) (W : Wd) (n : Nat) : Prop extends RH K B F0 F H W where
  er : ER K (pinW B H W) F H σ Γ
  hn : Γ.length = n
theorem RH.at (r : RH K B F0 F H W) {a : Addr} (h : a ∈ W.map (·.1)) : B a = none ∧ F a = none ∧ ∃ u, H a = some u := by
  obtain ⟨e, he, rfl⟩ := List.mem_map.mp h
  obtain ⟨h1, h2, u, h3, _⟩ := r.ok e.1 e.2 he
  exact ⟨h1, h2, u, h3⟩
theorem RH.pinE (r : RH K B F0 F H W) (s : Same H H') : pinW B H' W = pinW B H W := by
  funext a
  by_cases h : a ∈ W.map (·.1)
  · obtain ⟨_, _, u, e⟩ := r.at h
    rw [pin_in h, pin_in h, e, s _ _ e]
  · rw [pin_out h, pin_out h]
theorem RH.ext (r : RH K B F0 F H W) (x : Ext F H F' H') : RH K B F0 F' H' W := by
  refine ⟨by rw [r.pinE x.h]; exact r.sh.ext x, r.nd, fun p k h => ?_⟩
  obtain ⟨h1, h2, u, h3, h4⟩ := r.ok p k h
  exact ⟨h1, x.no p h2 (by rw [h3]; simp), u, x.h _ _ h3, h4.mono x.f⟩
theorem RelW.ext (r : RelW K B F0 F H σ Γ W n) (x : Ext F H F' H') : RelW K B F0 F' H' σ Γ W n :=
  ⟨r.toRH.ext x, by rw [r.pinE x.h]; exact r.er.ext x, r.hn⟩
/-- behind a statement that knows nothing of the store -/
theorem RH.after (r : RH K B F0 F H W) (sh : SH (pinW B H W) F0 F' H') (s : Same F F') : RH K B F0 F' H' W := by
  have hp : pinW B H' W = pinW B H W := by
    funext a
    by_cases h : a ∈ W.map (·.1)
    · obtain ⟨_, _, u, e⟩ := r.at h
      have := sh.b a u (by rw [pin_in h]; exact e)
      rw [pin_in h, pin_in h, e, this]
    · rw [pin_out h, pin_out h]
  refine ⟨by rw [hp]; exact sh, r.nd, fun p k h => ?_⟩
  obtain ⟨h1, h2, u, h3, h4⟩ := r.ok p k h
  have hm : p ∈ W.map (·.1) := List.mem_map.mpr ⟨_, h, rfl⟩
  have hF0 : F0 p = none := by
    cases q : F0 p with
    | none => rfl
    | some u => rw [r.sh.f0 _ _ q] at h2; cases h2
  exact ⟨h1, sh.no p hF0 (by rw [pin_in hm, h3]; simp), u, sh.b _ _ (by rw [pin_in hm]; exact h3), h4.mono s⟩
theorem RelW.after {σ' : L2.St} {Γ' : G} (r : RelW K B F0 F H σ Γ W n) (sh : SH (pinW B H W) F0 F' H') (s : Same F F') (er : ER K (pinW B H W) F' H' σ' Γ') (hl : Γ'.length = Γ.length) : RelW K B F0 F' H' σ' Γ' W n := by
  have hp : pinW B H' W = pinW B H W := by
    funext a
    by_cases h : a ∈ W.map (·.1)
    · obtain ⟨_, _, u, e⟩ := r.at h
      have := sh.b a u (by rw [pin_in h]; exact e)
      rw [pin_in h, pin_in h, e, this]
    · rw [pin_out h, pin_out h]
  exact ⟨r.toRH.after sh s, by rw [hp]; exact er, hl.trans r.hn⟩
/-! the store looked at, changed -/
def getW (W : Wd) (p : Addr) : Option Ob := (W.find? fun e => decide (e.1 = p)).map (·.2)
def setW (W : Wd) (p : Addr) (k : Ob) : Wd := W.map fun e => if e.1 = p then (p, k) else e
theorem getW_mem {p : Addr} {k : Ob} (h : getW W p = some k) : (p, k) ∈ W := by
  unfold getW at h
  obtain ⟨e, he, rfl⟩ := Option.map_eq_some_iff.mp h
  have h1 := List.mem_of_find?_eq_some he
  have h2 : e.1 = p := by
    have := List.find?_some he
    simpa using this
  rw [← h2]
  exact h1
theorem setW_dom (W : Wd) (p : Addr) (k : Ob) : (setW W p k).map (·.1) = W.map (·.1) := by
  unfold setW
  rw [List.map_map]
  refine List.map_congr_left fun e _ => ?_
  show (if e.1 = p then (p, k) else e).1 = e.1
  split
  · rename_i h; exact h.symm
  · rfl
theorem er_putPin {p : Addr} {u : HO} (er : ER K B F H σ Γ) (hB : B p ≠ none) : ER K (upd B p u) F (upd H p u) σ Γ := by
  refine ⟨er.len, fun i s h => ?_, er.apart, er.apartC⟩
  have := er.ok i s h
  cases s with
  | un => trivial
  | dat d => exact this
  | exn a => exact this
  | own ds =>
    obtain ⟨q, vs, a, b0, b, c, d⟩ := this
    have hne : q ≠ p := fun z => hB (by rw [← z]; exact b0)
    exact ⟨q, vs, a, by rw [upd_ne hne]; exact b0, b, by rw [upd_ne hne]; exact c, d⟩
  | cel k =>
    obtain ⟨q, vs, a, b0, b, c, d⟩ := this
    have hne : q ≠ p := fun z => hB (by rw [← z]; exact b0)
    exact ⟨q, vs, a, by rw [upd_ne hne]; exact b0, b, by rw [upd_ne hne]; exact c, d⟩
theorem er_pinNew {p : Addr} {u : HO} (er : ER K B F H σ Γ) (hH : ∀ (i : Nat) (q : Addr), σ[i]? = some (some (V.ref q)) → ((∃ ds, Γ[i]? = some (Sv.own ds)) ∨ ∃ k, Γ[i]? = some (Sv.cel k)) → q ≠ p) : ER K (upd B p u) F H σ Γ := by
  refine ⟨er.len, fun i s h => ?_, er.apart, er.apartC⟩
  have := er.ok i s h
  cases s with
  | un => trivial
  | dat d => exact this
  | exn a => exact this
  | own ds =>
    obtain ⟨q, vs, a, b0, b, c, d⟩ := this
    have hne : q ≠ p := hH i q a (.inl ⟨ds, h⟩)
    exact ⟨q, vs, a, by rw [upd_ne hne]; exact b0, b, c, d⟩
  | cel k =>
    obtain ⟨q, vs, a, b0, b, c, d⟩ := this
    have hne : q ≠ p := hH i q a (.inr ⟨k, h⟩)
    exact ⟨q, vs, a, by rw [upd_ne hne]; exact b0, b, c, d⟩
theorem pin_put {p : Addr} {u : HO} {k : Ob} (hm : p ∈ W.map (·.1)) : pinW B (upd H p u) (setW W p k) = upd (pinW B H W) p u := by
  funext a
  unfold pinW
  rw [setW_dom]
  by_cases h : a = p
  · subst h
    rw [if_pos hm, upd_same, upd_same]
  · rw [upd_ne h, upd_ne h]
theorem RH.put (r : RH K B F0 F H W) {p : Addr} {k0 k : Ob} {u : HO} (hm : (p, k0) ∈ W) (ob : ObOk K F u k) : RH K B F0 F (upd H p u) (setW W p k) := by
  obtain ⟨h1, h2, u0, h3, _⟩ := r.ok p k0 hm
  have hd : p ∈ W.map (·.1) := List.mem_map.mpr ⟨_, hm, rfl⟩
  refine ⟨?_, by rw [setW_dom]; exact r.nd, fun q l hq => ?_⟩
  · rw [pin_put hd]
    refine ⟨fun a v e => ?_, fun a v e => ?_, r.sh.f0, fun a e1 e2 => ?_⟩
    · by_cases h : a = p
      · subst h; rw [upd_same] at e ⊢; exact e
      · rw [upd_ne h] at e ⊢; exact r.sh.b _ _ e
    · rw [upd_ne (fun z => by rw [z, h2] at e; cases e)]; exact r.sh.f _ _ e
    · by_cases h : a = p
      · rw [h]; exact h2
      · rw [upd_ne h] at e2; exact r.sh.no a e1 e2
  · unfold setW at hq
    obtain ⟨e, he, e2⟩ := List.mem_map.mp hq
    by_cases h : e.1 = p
    · rw [if_pos h] at e2
      cases e2
      exact ⟨h1, h2, u, upd_same, ob⟩
    · rw [if_neg h] at e2
      subst e2
      obtain ⟨g1, g2, v, g3, g4⟩ := r.ok _ _ he
      exact ⟨g1, g2, v, by rw [upd_ne h]; exact g3, g4⟩
theorem RelW.put (r : RelW K B F0 F H σ Γ W n) {p : Addr} {k0 k : Ob} {u : HO} (hm : (p, k0) ∈ W) (ob : ObOk K F u k) : RelW K B F0 F (upd H p u) σ Γ (setW W p k) n := by
  have hd : p ∈ W.map (·.1) := List.mem_map.mpr ⟨_, hm, rfl⟩
  obtain ⟨_, _, u0, h3⟩ := r.at hd
  refine ⟨r.toRH.put hm ob, ?_, r.hn⟩
  rw [pin_put hd]
  exact er_putPin r.er (by rw [pin_in hd, h3]; simp)
theorem RelW.new (r : RelW K B F0 F H σ Γ W n) (x : Ext F H F' H') {p : Addr} {u : HO} {k : Ob} (hp : H p = none) (hp' : H' p = some u) (hf : F' p = none) (ob : ObOk K F' u k) : RelW K B F0 F' H' σ Γ (W ++ [(p, k)]) n := by
  have np : p ∉ W.map (·.1) := fun h => by
    obtain ⟨_, _, u, e⟩ := r.at h
    rw [hp] at e; cases e
  have hB : B p = none := by
    have := r.sh.b p
    rw [pin_out np] at this
    cases q : B p with
    | none => rfl
    | some u => rw [this u q] at hp; cases hp
  have pE : pinW B H' (W ++ [(p, k)]) = upd (pinW B H W) p u := by
    funext a
    by_cases h : a = p
    · subst h
      rw [upd_same, pin_in (by simp), hp']
    · rw [upd_ne h]
      by_cases hm : a ∈ W.map (·.1)
      · obtain ⟨_, _, v, e⟩ := r.at hm
        rw [pin_in hm, pin_in (by simp at hm ⊢; exact .inl hm), e, x.h _ _ e]
      · rw [pin_out hm, pin_out (by simp at hm ⊢; exact ⟨hm, h⟩)]
  have sx := r.sh.ext x
  refine ⟨⟨?_, ?_, fun q l hq => ?_⟩, ?_, r.hn⟩
  · rw [pE]
    refine ⟨fun a v e => ?_, sx.f, sx.f0, fun a e1 e2 => ?_⟩
    · by_cases h : a = p
      · subst h; rw [upd_same] at e; cases e; exact hp'
      · rw [upd_ne h] at e; exact sx.b _ _ e
    · by_cases h : a = p
      · rw [h]; exact hf
      · rw [upd_ne h] at e2; exact sx.no a e1 e2
  · rw [List.map_append, List.nodup_append]
    exact ⟨r.nd, by simp, fun a ha b hb => by
      simp at hb
      subst hb
      exact fun e => np (e ▸ ha)⟩
  · rcases List.mem_append.mp hq with h | h
    · exact (r.toRH.ext x).ok q l h
    · rw [List.mem_singleton] at h
      cases h
      exact ⟨hB, hf, u, hp', ob⟩
  · rw [pE]
    refine er_pinNew (r.er.ext x) fun i q h2 h3 => ?_
    intro z
    subst z
    rcases h3 with ⟨ds, h3⟩ | ⟨k2, h3⟩
    · obtain ⟨q2, vs, a, _, _, c, _⟩ := r.er.ok i _ h3
      rw [h2] at a
      cases a
      rw [hp] at c
      cases c
    · obtain ⟨q2, vs, a, _, _, c, _⟩ := r.er.ok i _ h3
      rw [h2] at a
      cases a
      rw [hp] at c
      cases c
end
/-! ### readings -/
inductive RX where
  | v (a : Ar)
  | ex (c : Str)
abbrev TeW := G → Wd → (RX → Wd → Prop) → Prop
section
variable (K : PySem.W.Frag) (mg : Str → Option Value) (B F0 : Hp) (n : Nat)
def FinE (F : Hp) (E : XK) (σ : L2.St) (Γ : G) (Q : VK) : RX → Wd → Prop
  | .v a, W' => ∀ v F' H', RelW K B F0 F' H' σ Γ W' n → Same F F' → ArOk K F' v a → Q v H'
  | .ex c, W' => ∀ C F' H', mg c = some (.ref C) → RelW K B F0 F' H' σ Γ W' n → Same F F' → E (.ref C) none H'
def tEW (E : L2.St → XK) (T : TeW) : TE := fun σ H Q => ∃ Γ W F post, RelW K B F0 F H σ Γ W n ∧ T Γ W post ∧ ∀ r W', post r W' → FinE K mg B F0 n F (E σ) σ Γ Q r W'
inductive RXs where
  | vs (as : List Ar)
  | ex (c : Str)
abbrev TaW := G → Wd → (RXs → Wd → Prop) → Prop
def FinA (F : Hp) (E : XK) (σ : L2.St) (Γ : G) (Q : List V → Hp → Prop) : RXs → Wd → Prop
  | .vs as, W' => ∀ vs F' H', RelW K B F0 F' H' σ Γ W' n → Same F F' → ArsOk K F' vs as → Q vs H'
  | .ex c, W' => ∀ C F' H', mg c = some (.ref C) → RelW K B F0 F' H' σ Γ W' n → Same F F' → E (.ref C) none H'
def tAW (E : L2.St → XK) (T : TaW) : TA := fun σ H Q => ∃ Γ W F post, RelW K B F0 F H σ Γ W n ∧ T Γ W post ∧ ∀ r W', post r W' → FinA K mg B F0 n F (E σ) σ Γ Q r W'
inductive RB where
  | b (c : Bool)
  | ex (c : Str)
abbrev TtW := G → Wd → (RB → Wd → Prop) → Prop
def FinB (F : Hp) (E : XK) (σ : L2.St) (Γ : G) (Q : Bool → Hp → Prop) : RB → Wd → Prop
  | .b c, W' => ∀ F' H', RelW K B F0 F' H' σ Γ W' n → Same F F' → Q c H'
  | .ex c, W' => ∀ C F' H', mg c = some (.ref C) → RelW K B F0 F' H' σ Γ W' n → Same F F' → E (.ref C) none H'
def tTW (E : L2.St → XK) (T : TtW) : TT := fun σ H Q => ∃ Γ W F post, RelW K B F0 F H σ Γ W n ∧ T Γ W post ∧ ∀ r W', post r W' → FinB K mg B F0 n F (E σ) σ Γ Q r W'
end
section
variable {K : PySem.W.Frag} {mg : Str → Option Value} {B F0 F F1 : Hp} {n : Nat} {σ : L2.St} {Γ : G} {E : XK}
theorem FinE.mono {Q : VK} {r : RX} {W : Wd} (h : FinE K mg B F0 n F E σ Γ Q r W) (s : Same F F1) : FinE K mg B F0 n F1 E σ Γ Q r W := by
  cases r with
  | v a => exact fun v F' H' a b c => h v F' H' a (s.trans b) c
  | ex c => exact fun C F' H' m a b => h C F' H' m a (s.trans b)
theorem FinA.mono {Q : List V → Hp → Prop} {r : RXs} {W : Wd} (h : FinA K mg B F0 n F E σ Γ Q r W) (s : Same F F1) : FinA K mg B F0 n F1 E σ Γ Q r W := by
  cases r with
  | vs a => exact fun v F' H' a b c => h v F' H' a (s.trans b) c
  | ex c => exact fun C F' H' m a b => h C F' H' m a (s.trans b)
theorem FinB.mono {Q : Bool → Hp → Prop} {r : RB} {W : Wd} (h : FinB K mg B F0 n F E σ Γ Q r W) (s : Same F F1) : FinB K mg B F0 n F1 E σ Γ Q r W := by
  cases r with
  | b c => exact fun F' H' a b => h F' H' a (s.trans b)
  | ex c => exact fun C F' H' m a b => h C F' H' m a (s.trans b)
end
abbrev EW (X : Cx) (B F0 : Hp) (n : Nat) (E : L2.St → XK) (e : Expr) (T : TeW) : Prop := PE X e (tEW X.K X.mg B F0 n E T)
abbrev AW (X : Cx) (B F0 : Hp) (n : Nat) (E : L2.St → XK) (e : List Expr) (T : TaW) : Prop := PA X e (tAW X.K X.mg B F0 n E T)
abbrev TW (X : Cx) (B F0 : Hp) (n : Nat) (E : L2.St → XK) (e : Expr) (T : TtW) : Prop := PT X e (tTW X.K X.mg B F0 n E T)
section
variable {X : Cx} {B F0 : Hp} {n : Nat} {E : L2.St → XK}
/-! ### expressions -/
def ePure (g : G → R D) : TeW := fun Γ W post => match g Γ with
  | .ok d => post (.v (.d d)) W
  | .exc c => post (.ex c) W
  | .bad => False
theorem ew_pure {e : Expr} {g : G → R D} (h : ∀ B', DE X B' E e g) : EW X B F0 n E e (ePure g) := by
  refine ⟨fun pins s σ H Q I w => ?_⟩
  obtain ⟨Γ, W, F, post, rel, t, fin⟩ := w
  refine (h (pinW B H W)).run pins s σ H Q I ⟨Γ, F, rel.sh.f, rel.er, ?_⟩
  unfold ePure at t
  revert t
  cases g Γ with
  | ok d => exact fun t v F' H' x dp => fin _ _ t v F' H' (rel.ext x) x.f dp
  | exc c => exact fun t C F' H' m x => fin _ _ t C F' H' m (rel.ext x) x.f
  | bad => exact fun t => t.elim
/-- a slot's thing -/
def eVar (i : Nat) : TeW := fun Γ W post => match Γ[i]? with
  | some (.dat d) => post (.v (.d d)) W
  | some (.exn p) => post (.v (.o p)) W
  | _ => False
theorem ew_var {x : Str} {pos : Pos} (i : Nat) (hN : X.N[i]? = some x := by rfl) (hv : Vis X.env.scope x := by first | exact Or.inl rfl | exact Or.inr (Or.inl rfl) | exact Or.inr (Or.inr rfl)) (hd : (x == ("__debug__" : Str)) = false := by decide)
    (hcd : (x == ("__classdict__" : Str)) = false := by decide) : EW X B F0 n E (.Name x pos) (eVar i) :=
  pe_imp (pe_var hN hv hd hcd) fun σ H Q ⟨Γ, W, F, post, rel, t, fin⟩ => by
    unfold eVar at t
    split at t
    · rename_i d e
      obtain ⟨v, a, b⟩ := rel.er.ok i _ e
      exact ⟨v, a, fin _ _ t v F H rel (Same.refl _) b⟩
    · rename_i p e
      exact ⟨.ref p, rel.er.ok i _ e, fin _ _ t _ F H rel (Same.refl _) rfl⟩
    · exact t.elim
/-- what comes of an expression's value -/
def onV (k : D → Wd → Prop) (post : RX → Wd → Prop) : RX → Wd → Prop
  | .v (.d x), W => k x W
  | .v (.o _), _ => False
  | .ex c, W => post (.ex c) W
def fR (r : R D) (W : Wd) (post : RX → Wd → Prop) : Prop := match r with
  | .ok d => post (.v (.d d)) W
  | .exc c => post (.ex c) W
  | .bad => False
def eOp (f : D → D → R D) (Ta Tb : TeW) : TeW := fun Γ W post => Ta Γ W (onV (fun x W1 => Tb Γ W1 (onV (fun y W2 => fR (f x y) W2 post) post)) post)
theorem ew_op2 {f : D → D → R D} {Ta Tb : TeW} {r : R2} (hf : Calm2 f) (hr : ∀ x y H Q, rD2 X.K f x y H Q → r x y H Q) (σ : L2.St) (H : Hp) (Q : VK) (h : tEW X.K X.mg B F0 n E (eOp f Ta Tb) σ H Q) :
    tOp r (tEW X.K X.mg B F0 n E Ta) (tEW X.K X.mg B F0 n E Tb) σ H Q := by
  obtain ⟨Γ, W, F, post, rel, t, fin⟩ := h
  refine ⟨Γ, W, F, _, rel, t, fun r1 W1 h1 => ?_⟩
  match r1, h1 with
  | .ex c, h1 => exact fin (.ex c) W1 h1
  | .v (.d d), h1 =>
    intro v F1 H1 rel1 s1 dp1
    refine ⟨Γ, W1, F1, _, rel1, h1, fun r2 W2 h2 => ?_⟩
    match r2, h2 with
    | .ex c, h2 => exact (fin (.ex c) W2 h2).mono s1
    | .v (.d e), h2 =>
      intro v2 F2 H2 rel2 s2 dp2
      have h2 : fR (f d e) W2 post := h2
      refine hr _ _ _ _ ?_
      unfold fR at h2
      cases ef : f d e with
      | bad => rw [ef] at h2; exact h2.elim
      | exc c => exact (hf _ _ _ ef).elim
      | ok z =>
        rw [ef] at h2
        exact ⟨d, e, F2, z, rel2.sh.f, dp_mono s2 dp1, dp2, ef, fun v3 F3 H3 x dp3 => fin _ _ h2 v3 F3 H3 (rel2.ext x) (s1.trans (s2.trans x.f)) dp3⟩
/-! arguments -/
def aNilW : TaW := fun _ W post => post (.vs []) W
def onA (k : List Ar → Wd → Prop) (post : RXs → Wd → Prop) : RXs → Wd → Prop
  | .vs as, W => k as W
  | .ex c, W => post (.ex c) W
def onVA (k : Ar → Wd → Prop) (post : RXs → Wd → Prop) : RX → Wd → Prop
  | .v a, W => k a W
  | .ex c, W => post (.ex c) W
def aConsW (T : TeW) (Ts : TaW) : TaW := fun Γ W post => T Γ W (onVA (fun a W1 => Ts Γ W1 (onA (fun as W2 => post (.vs (a :: as)) W2) post)) post)
theorem aw_nil : AW X B F0 n E [] aNilW := pa_imp pa_nil fun σ H Q ⟨Γ, W, F, post, rel, t, fin⟩ => fin _ _ t [] F H rel (Same.refl _) .nil
theorem aw_cons {e : Expr} {es : List Expr} {T : TeW} {Ts : TaW} (h : EW X B F0 n E e T) (hs : AW X B F0 n E es Ts) (hst : starEach (e :: es) X.env = (false, eval e X.env) :: starEach es X.env := by rfl) : AW X B F0 n E (e :: es) (aConsW T Ts) :=
  pa_imp (pa_cons h hs hst) fun σ H Q ⟨Γ, W, F, post, rel, t, fin⟩ => by
    refine ⟨Γ, W, F, _, rel, t, fun r1 W1 h1 => ?_⟩
    match r1, h1 with
    | .ex c, h1 => exact fin (.ex c) W1 h1
    | .v a, h1 =>
      intro v F1 H1 rel1 s1 ar
      refine ⟨Γ, W1, F1, _, rel1, h1, fun r2 W2 h2 => ?_⟩
      match r2, h2 with
      | .ex c, h2 => exact (fin (.ex c) W2 h2).mono s1
      | .vs as, h2 =>
        intro vs F2 H2 rel2 s2 ars
        exact fin _ _ h2 (v :: vs) F2 H2 rel2 (s1.trans s2) (.cons (ar.mono s2) ars)
end
end ND
/-! ND38: the store layer: expressions, tests. -/
namespace ND
open PySem PySem.Spec PyProof.Rows L2
section
variable {X : Cx} {B F0 : Hp} {n : Nat} {E : L2.St → XK}
theorem ew_bin {f : D → D → R D} {Ta Tb : TeW} {ea eb : Expr} {op : Operator} {pos : Pos} (o : OpD X (binaryOp op) f) (ha : EW X B F0 n E ea Ta) (hb : EW X B F0 n E eb Tb) : EW X B F0 n E (.BinOp ea op eb pos) (eOp f Ta Tb) :=
  pe_imp (pe_op o.op ha hb) (ew_op2 o.calm fun _ _ _ _ h => h)
theorem ew_cmp {f : D → D → R D} {Ta Tb : TeW} {ea eb : Expr} {op : CmpOp} {pos : Pos} (o : OpD X (compareOp op) f) (ha : EW X B F0 n E ea Ta) (hb : EW X B F0 n E eb Tb) (hm : behindInMarks op eb = false := by first | exact nobehind _ (by decide) (by decide) | rfl) :
    EW X B F0 n E (.Compare ea [op] [eb] pos) (eOp f Ta Tb) := pe_imp (pe_cmpR o.op ha hb hm) (ew_op2 o.calm fun _ _ _ _ h => h)
theorem ew_ix {Ta Tb : TeW} {ea eb : Expr} {pos : Pos} (ha : EW X B F0 n E ea Ta) (hb : EW X B F0 n E eb Tb) (hs : PlainIx eb := by exact fun _ _ => rfl) : EW X B F0 n E (.Subscript ea eb pos) (eOp fIx Ta Tb) :=
  pe_imp (pe_ix ix_seq ha hb hs) (ew_op2 calmIx (fun x y H Q ⟨d, e, F, r, s, hx, hy, hf, q⟩ => by
    unfold fIx at hf
    split at hf
    · split at hf
      · rename_i hz
        split at hf
        · rename_i c hc
          cases hx; cases hy; cases hf
          exact .inr (.inr ⟨_, _, _, rfl, rfl, hz, hc, Fin.here q s (.str _)⟩)
        · cases hf
      · cases hf
    · split at hf
      · rename_i c hc
        cases hx with
        | lst h1 h2 =>
          cases hy; cases hf
          obtain ⟨v, e1, e2⟩ := atI_dp h2 hc
          exact .inl ⟨_, _, _, _, rfl, rfl, s.seq h1, e1, Fin.here q s e2⟩
      · cases hf
    · split at hf
      · rename_i c hc
        cases hx with
        | tup h1 h2 =>
          cases hy; cases hf
          obtain ⟨v, e1, e2⟩ := atI_dp h2 hc
          exact .inr (.inl ⟨_, _, _, _, rfl, rfl, same_seqT s h1, e1, Fin.here q s e2⟩)
      · cases hf
    · cases hf))
/-! slices -/
def eSl (T : TeW) (gl gh : G → R (Option Int)) : TeW := fun Γ W post => T Γ W (onV (fun d W1 => fR ((gl Γ).bind fun l => (gh Γ).bind fun h => fSl d l h) W1 post) post)
def slR3 (K : PySem.W.Frag) : V → Option Int → Option Int → Hp → VK → Prop := fun x lo hi H Q => rSlS x lo hi H Q ∨ rSlL K x lo hi H Q ∨ rSlA K x lo hi H Q
theorem slice_in {gl gh : G → R (Option Int)} {σ : L2.St} {Γ : G} {F2 H1 : Hp} {v : V} {d2 : D} {Q : VK} (s2 : Same F2 H1) (er2 : ER X.K B F2 H1 σ Γ) (dp2 : Dp X.K F2 v d2)
    (o2 : Out X.K X.mg F2 H1 (E σ) ((gl Γ).bind fun l => (gh Γ).bind fun h => fSl d2 l h) Q) :
    tDO X.K X.mg B E gl σ H1 fun l H2 => tDO X.K X.mg B E gh σ H2 fun u H3 => slR3 X.K v l u H3 Q := by
  refine ⟨Γ, F2, s2, er2, ?_⟩
  revert o2
  cases gl Γ with
  | exc c => exact fun o => o
  | bad => exact fun o => o
  | ok l =>
    intro o2 F3 H3 x3
    refine ⟨Γ, F3, x3.fh, er2.ext x3, ?_⟩
    simp only [R.bind_ok] at o2
    revert o2
    cases gh Γ with
    | exc c => exact fun o C F4 H4 m x4 => o C F4 H4 m (x3.trans x4)
    | bad => exact fun o => o
    | ok u =>
      intro o2 F4 H4 x4
      simp only [R.bind_ok] at o2
      have x34 := x3.trans x4
      have q : ∀ r, fSl d2 l u = .ok r → Fin X.K F4 H4 r Q := fun r e => by
        rw [e] at o2
        exact fun v F5 H5 x5 d5 => o2 v F5 H5 (x34.trans x5) d5
      have nb : fSl d2 l u ≠ .bad := fun e => by rw [e] at o2; exact o2
      have dp4 : Dp X.K F4 v d2 := dp_mono x34.f dp2
      cases dp4 with
      | str z =>
        by_cases hz : z.length ≤ sizeLine
        · exact .inl ⟨z, rfl, hz, (q _ (if_pos hz)).here x4.fh (.str _)⟩
        · exact (nb (if_neg hz)).elim
      | lst k1 k2 => exact .inr (.inl ⟨_, _, rfl, x4.fh.seq k1, (q _ rfl).newL x4.fh (dpa_cut k2 l u)⟩)
      | @tup a vs zs k1 k2 =>
        refine .inr (.inr ⟨_, _, rfl, same_seqT x4.fh k1, fun e => ?_, fun _ => (q _ rfl).newT x4.fh (dpa_cut k2 l u)⟩)
        refine (q _ rfl).here x4.fh ?_
        have ec : cutG zs l u = zs := by
          have h1 := dpa_length k2
          unfold cutG
          rw [← h1, e.1, e.2]
          simp [h1]
        rw [ec]
        exact .tup k1 k2
      | _ => exact (nb rfl).elim
theorem ew_slice {e : Expr} {lo hi : Option Expr} {p2 pos : Pos} {T : TeW} {gl gh : G → R (Option Int)} (he : EW X B F0 n E e T) (hl : ∀ B', DO X B' E lo gl) (hh : ∀ B', DO X B' E hi gh) : EW X B F0 n E (.Subscript e (.Slice lo hi none p2) pos) (eSl T gl gh) := by
  have pl : PO X lo (fun σ H Q => ∃ B', tDO X.K X.mg B' E gl σ H Q) := ⟨fun pins s σ H Q I ⟨B', w⟩ => (hl B').run pins s σ H Q I w⟩
  have ph : PO X hi (fun σ H Q => ∃ B', tDO X.K X.mg B' E gh σ H Q) := ⟨fun pins s σ H Q I ⟨B', w⟩ => (hh B').run pins s σ H Q I w⟩
  refine pe_imp (pe_slice (r := slR3 X.K) (sl_str.or (sl_list.or sl_tupA)) he pl ph) fun σ H Q ⟨Γ, W, F, post, rel, t, fin⟩ => ?_
  refine ⟨Γ, W, F, _, rel, t, fun r1 W1 h1 => ?_⟩
  match r1, h1 with
  | .ex c, h1 => exact fin (.ex c) W1 h1
  | .v (.d d), h1 =>
    intro v F1 H1 rel1 s1 dp1
    have h1 : fR ((gl Γ).bind fun l => (gh Γ).bind fun h => fSl d l h) W1 post := h1
    have o : Out X.K X.mg F1 H1 (E σ) ((gl Γ).bind fun l => (gh Γ).bind fun h => fSl d l h) Q := by
      revert h1
      cases (gl Γ).bind fun l => (gh Γ).bind fun h => fSl d l h with
      | ok z => exact fun h1 v2 F2 H2 x dp => fin _ _ h1 v2 F2 H2 (rel1.ext x) (s1.trans x.f) dp
      | exc c => exact fun h1 C F2 H2 m x => fin _ _ h1 C F2 H2 m (rel1.ext x) (s1.trans x.f)
      | bad => exact fun h1 => h1.elim
    have z := slice_in rel1.sh.f rel1.er dp1 o
    obtain ⟨Γ2, F2, a, b, c⟩ := z
    refine ⟨pinW B H1 W1, Γ2, F2, a, b, ?_⟩
    revert c
    cases gl Γ2 with
    | ok l => exact fun c F3 H3 x => ⟨pinW B H1 W1, c F3 H3 x⟩
    | exc c => exact fun c => c
    | bad => exact fun c => c
/-! displays, calls of what takes data -/
def allD : List Ar → Option (List D)
  | [] => some []
  | .d x :: as => (allD as).map (x :: ·)
  | .o _ :: _ => none
theorem allD_ok {K : PySem.W.Frag} {F : Hp} : ∀ {vs : List V} {as : List Ar} {ds : List D}, ArsOk K F vs as → allD as = some ds → DpAll K F vs ds
  | _, _, _, .nil, e => by cases e; exact .nil
  | _, .d x :: as, _, .cons h t, e => by
    obtain ⟨ds, e1, rfl⟩ := Option.map_eq_some_iff.mp (show (allD as).map (x :: ·) = some _ from e)
    exact .cons h (allD_ok t e1)
  | _, .o _ :: _, _, .cons _ _, e => by cases e
@[simp] theorem allD_nil : allD [] = some [] := (rfl)
@[simp] theorem allD_cons (x : D) (as : List Ar) : allD (.d x :: as) = (allD as).map (x :: ·) := (rfl)
def onD (k : List D → Wd → Prop) (post : RX → Wd → Prop) : RXs → Wd → Prop
  | .vs as, W => (match allD as with | some ds => k ds W | none => False)
  | .ex c, W => post (.ex c) W
def eDs (f : List D → R D) (Ts : TaW) : TeW := fun Γ W post => Ts Γ W (onD (fun ds W1 => fR (f ds) W1 post) post)
/-- what comes of the arguments -/
theorem eDs_in {f : List D → R D} {Ts : TaW} {σ : L2.St} {H : Hp} {Q : VK} {Q' : List V → Hp → Prop} (h : tEW X.K X.mg B F0 n E (eDs f Ts) σ H Q) (hq : ∀ vs F1 H1 ds, Same F1 H1 → DpAll X.K F1 vs ds → Out X.K X.mg F1 H1 (E σ) (f ds) Q → Q' vs H1) :
    tAW X.K X.mg B F0 n E Ts σ H Q' := by
  obtain ⟨Γ, W, F, post, rel, t, fin⟩ := h
  refine ⟨Γ, W, F, _, rel, t, fun r1 W1 h1 => ?_⟩
  match r1, h1 with
  | .ex c, h1 => exact fin (.ex c) W1 h1
  | .vs as, h1 =>
    intro vs F1 H1 rel1 s1 ars
    have h1 : (match allD as with | some ds => fR (f ds) W1 post | none => False) := h1
    cases ea : allD as with
    | none => rw [ea] at h1; exact h1.elim
    | some ds =>
      rw [ea] at h1
      refine hq vs F1 H1 ds rel1.sh.f (allD_ok ars ea) ?_
      revert h1
      show fR (f ds) W1 post → _
      cases f ds with
      | ok z => exact fun h1 v2 F2 H2 x dp => fin _ _ h1 v2 F2 H2 (rel1.ext x) (s1.trans x.f) dp
      | exc c => exact fun h1 C F2 H2 m x => fin _ _ h1 C F2 H2 m (rel1.ext x) (s1.trans x.f)
      | bad => exact fun h1 => h1.elim
theorem ew_tup {es : List Expr} {pos : Pos} {x1} {Ts : TaW} (h : AW X B F0 n E es Ts) : EW X B F0 n E (.Tuple es x1 pos) (eDs mkT Ts) :=
  pe_imp (pe_tup h) fun σ H Q w => eDs_in w fun vs F1 H1 ds s dp o => by
    unfold mkT at o
    split at o
    · rename_i hz
      refine ⟨by rw [dpa_length dp]; exact hz, fun p hp => ?_⟩
      have o : Out X.K X.mg F1 H1 (E σ) (.ok (.tuple ds)) Q := o
      exact (show Fin X.K F1 H1 (.tuple ds) Q from o).newT s dp p hp
    · exact o.elim
theorem ew_lst {es : List Expr} {pos : Pos} {Ts : TaW} (h : AW X B F0 n E es Ts) : EW X B F0 n E (.List es pos) (eDs mkL Ts) :=
  pe_imp (pe_lst h) fun σ H Q w => eDs_in w fun vs F1 H1 ds s dp o => by
    unfold mkL at o
    split at o
    · rename_i hz
      refine ⟨by rw [dpa_length dp]; exact hz, fun p hp => ?_⟩
      have o : Out X.K X.mg F1 H1 (E σ) (.ok (.list ds)) Q := o
      exact (show Fin X.K F1 H1 (.list ds) Q from o).newL s dp p hp
    · exact o.elim
theorem calm_in {f : List D → R D} (hf : Calm1 f) {σ : L2.St} {F1 H1 : Hp} {vs : List V} {ds : List D} {Q : VK} (s : Same F1 H1) (dp : DpAll X.K F1 vs ds) (o : Out X.K X.mg F1 H1 (E σ) (f ds) Q) : rDA X.K f vs H1 Q := by
  cases e : f ds with
  | exc c => exact (hf _ _ e).elim
  | bad => rw [e] at o; exact o.elim
  | ok r => rw [e] at o; exact ⟨ds, F1, r, s, dp, e, o⟩
theorem ew_callB {id : String} {x : Str} {p pos : Pos} {e : Expr} {es : List Expr} {f : List D → R D} {Ts : TaW} (c : CallD X (.builtin id) f) (hg : Gl X x) (hm : X.mg x = none) (hv : bootBuiltins x = some (.builtin id)) (ha : AW X B F0 n E (e :: es) Ts)
    (hn : x ≠ "__name__" := by decide) (hdb : (x == ("__debug__" : Str)) = false := by decide) (he : starEach (e :: es) X.env = (false, eval e X.env) :: starEach es X.env := by rfl) (hpl : (backTo pos (starEach es X.env)).any (·.1) = false := by rfl) :
    EW X B F0 n E (.Call (.Name x p) (e :: es) [] pos) (eDs f Ts) := pe_imp (pe_callB c.call hg hm hv ha hn hdb he hpl) fun σ H Q w => eDs_in w fun vs F1 H1 ds s dp o => calm_in c.calm s dp o
theorem ew_callTy {id : String} {x : Str} {p pos : Pos} {e : Expr} {es : List Expr} {f : List D → R D} {Ts : TaW} (c : CallD X (.type id) f) (hg : Gl X x) (hm : X.mg x = none) (hv : bootBuiltins x = some (.type id)) (ha : AW X B F0 n E (e :: es) Ts)
    (hn : x ≠ "__name__" := by decide) (hdb : (x == ("__debug__" : Str)) = false := by decide) (he : starEach (e :: es) X.env = (false, eval e X.env) :: starEach es X.env := by rfl) (hpl : (backTo pos (starEach es X.env)).any (·.1) = false := by rfl) :
    EW X B F0 n E (.Call (.Name x p) (e :: es) [] pos) (eDs f Ts) := pe_imp (pe_callTy c.call hg hm hv ha hn hdb he hpl) fun σ H Q w => eDs_in w fun vs F1 H1 ds s dp o => calm_in c.calm s dp o
/-- a def of data, called with what things tell -/
theorem ew_callK {j k : Nat} {x : Str} {g : List D → R D} {p pos : Pos} {e : Expr} {es : List Expr} {Ts : TaW} (F : FK X.prog X.w X.K X.mg X.base j x g) (hr : Room k X.A) (hx : ∀ σ, PassesAt (L2.CX X.prog X.w) X σ (E σ)) (ha : AW X B F0 n E (e :: es) Ts)
    (hk : j ≤ k := by decide) (hg : Gl X x := by rfl) (hdb : (x == ("__debug__" : Str)) = false := by decide) (he : starEach (e :: es) X.env = (false, eval e X.env) :: starEach es X.env := by rfl) (hpl : (backTo pos (starEach es X.env)).any (·.1) = false := by rfl) :
    EW X B F0 n E (.Call (.Name x p) (e :: es) [] pos) (eDs g Ts) := by
  obtain ⟨f, fd, ps, ok, hm, kp, hb⟩ := F.ex
  exact pe_imp (pe_callS (E := E) ok (hr.mono hk) hg hm kp hb hx ha hdb he hpl) fun σ H Q w => eDs_in w fun vs F1 H1 ds s dp o => ⟨ds, F1, s, dp, o⟩
/-! ### tests -/
def tPure (g : G → R Bool) : TtW := fun Γ W post => match g Γ with
  | .ok c => post (.b c) W
  | .exc c => post (.ex c) W
  | .bad => False
theorem tw_pure {e : Expr} {g : G → R Bool} (h : ∀ B', DT X B' E e g) : TW X B F0 n E e (tPure g) := by
  refine ⟨fun pins s σ H Q I w => ?_⟩
  obtain ⟨Γ, W, F, post, rel, t, fin⟩ := w
  refine (h (pinW B H W)).run pins s σ H Q I ⟨Γ, F, rel.sh.f, rel.er, ?_⟩
  unfold tPure at t
  revert t
  cases g Γ with
  | ok d => exact fun t F' H' x => fin _ _ t F' H' (rel.ext x) x.f
  | exc c => exact fun t C F' H' m x => fin _ _ t C F' H' m (rel.ext x) x.f
  | bad => exact fun t => t.elim
def onB (k : Bool → Wd → Prop) (ex : Str → Wd → Prop) : RX → Wd → Prop
  | .v (.d (.bool c)), W => k c W
  | .v _, _ => False
  | .ex c, W => ex c W
def tVal (T : TeW) : TtW := fun Γ W post => T Γ W (onB (fun c W1 => post (.b c) W1) (fun c W1 => post (.ex c) W1))
theorem tw_val {e : Expr} {T : TeW} (h : EW X B F0 n E e T) (he : ∀ whole, isTrue e X.env whole = (do let v ← whole; standAt e.pos; holding [v] (truthy v)) := by intro _; rfl) : TW X B F0 n E e (tVal T) :=
  pt_imp (pt_val h he) fun σ H Q ⟨Γ, W, F, post, rel, t, fin⟩ => by
    refine ⟨Γ, W, F, _, rel, t, fun r1 W1 h1 => ?_⟩
    match r1, h1 with
    | .ex c, h1 => exact fin (.ex c) W1 h1
    | .v (.d (.bool c)), h1 =>
      intro v F1 H1 rel1 s1 dp1
      have dp1 : Dp X.K F1 v (.bool c) := dp1
      cases dp1
      exact ⟨c, rfl, fin _ _ h1 F1 H1 rel1 s1⟩
def onT (k : Bool → Wd → Prop) (ex : Str → Wd → Prop) : RB → Wd → Prop
  | .b c, W => k c W
  | .ex c, W => ex c W
abbrev WW (X : Cx) (B F0 : Hp) (n : Nat) (E : L2.St → XK) (e : Expr) (T : TtW) : Prop := PW X e (tTW X.K X.mg B F0 n E T)
def tNotW (T : TtW) : TtW := fun Γ W post => T Γ W (onT (fun c W1 => post (.b (!c)) W1) (fun c W1 => post (.ex c) W1))
def tAndW (Ta Tb : TtW) : TtW := fun Γ W post => Ta Γ W (onT (fun c W1 => if c = true then Tb Γ W1 post else post (.b false) W1) (fun c W1 => post (.ex c) W1))
def tOrW (Ta Tb : TtW) : TtW := fun Γ W post => Ta Γ W (onT (fun c W1 => if c = true then post (.b true) W1 else Tb Γ W1 post) (fun c W1 => post (.ex c) W1))
theorem tw_not {a : Expr} {pos : Pos} {T : TtW} (ha : TW X B F0 n E a T) : TW X B F0 n E (.UnaryOp .Not a pos) (tNotW T) :=
  pt_imp (pt_not ha) fun σ H Q ⟨Γ, W, F, post, rel, t, fin⟩ => by
    refine ⟨Γ, W, F, _, rel, t, fun r1 W1 h1 => ?_⟩
    match r1, h1 with
    | .ex c, h1 => exact fin (.ex c) W1 h1
    | .b c, h1 => exact fun F1 H1 rel1 s1 => fin _ _ h1 F1 H1 rel1 s1
theorem ww_and1 {a : Expr} {pos : Pos} {T : TtW} (h : TW X B F0 n E a T) : WW X B F0 n E (.BoolOp .And [a] pos) T := pw_and1 h
theorem ww_or1 {a : Expr} {pos : Pos} {T : TtW} (h : TW X B F0 n E a T) : WW X B F0 n E (.BoolOp .Or [a] pos) T := pw_or1 h
theorem ww_and {a b : Expr} {rest : List Expr} {pos : Pos} {Ta Tb : TtW} (ha : TW X B F0 n E a Ta) (hb : WW X B F0 n E (.BoolOp .And (b :: rest) pos) Tb) : WW X B F0 n E (.BoolOp .And (a :: b :: rest) pos) (tAndW Ta Tb) :=
  pw_imp (pw_and ha hb) fun σ H Q ⟨Γ, W, F, post, rel, t, fin⟩ => by
    refine ⟨Γ, W, F, _, rel, t, fun r1 W1 h1 => ?_⟩
    match r1, h1 with
    | .ex c, h1 => exact fin (.ex c) W1 h1
    | .b true, h1 => exact fun F1 H1 rel1 s1 => iteT ⟨Γ, W1, F1, post, rel1, h1, fun r W2 h2 => (fin r W2 h2).mono s1⟩
    | .b false, h1 => exact fun F1 H1 rel1 s1 => iteF (fin (.b false) W1 h1 F1 H1 rel1 s1)
theorem ww_or {a b : Expr} {rest : List Expr} {pos : Pos} {Ta Tb : TtW} (ha : TW X B F0 n E a Ta) (hb : WW X B F0 n E (.BoolOp .Or (b :: rest) pos) Tb) : WW X B F0 n E (.BoolOp .Or (a :: b :: rest) pos) (tOrW Ta Tb) :=
  pw_imp (pw_or ha hb) fun σ H Q ⟨Γ, W, F, post, rel, t, fin⟩ => by
    refine ⟨Γ, W, F, _, rel, t, fun r1 W1 h1 => ?_⟩
    match r1, h1 with
    | .ex c, h1 => exact fin (.ex c) W1 h1
    | .b true, h1 => exact fun F1 H1 rel1 s1 => iteT (fin (.b true) W1 h1 F1 H1 rel1 s1)
    | .b false, h1 => exact fun F1 H1 rel1 s1 => iteF ⟨Γ, W1, F1, post, rel1, h1, fun r W2 h2 => (fin r W2 h2).mono s1⟩
/-! tests as values -/
def eAnd (Ta Tb : TeW) : TeW := fun Γ W post => Ta Γ W (onB (fun c W1 => if c = true then Tb Γ W1 post else post (.v (.d (.bool false))) W1) (fun c W1 => post (.ex c) W1))
def eOr (Ta Tb : TeW) : TeW := fun Γ W post => Ta Γ W (onB (fun c W1 => if c = true then post (.v (.d (.bool true))) W1 else Tb Γ W1 post) (fun c W1 => post (.ex c) W1))
def eNot (T : TeW) : TeW := fun Γ W post => T Γ W (onB (fun c W1 => post (.v (.d (.bool (!c)))) W1) (fun c W1 => post (.ex c) W1))
def eIf (Tt : TtW) (Ta Tb : TeW) : TeW := fun Γ W post => Tt Γ W (onT (fun c W1 => if c = true then Ta Γ W1 post else Tb Γ W1 post) (fun c W1 => post (.ex c) W1))
theorem ew_and1 {a : Expr} {op : BoolOp} {pos : Pos} {T : TeW} (h : EW X B F0 n E a T) : EW X B F0 n E (.BoolOp op [a] pos) T := pe_one h
theorem ew_and {a b : Expr} {rest : List Expr} {pos : Pos} {Ta Tb : TeW} (ha : EW X B F0 n E a Ta) (hb : EW X B F0 n E (.BoolOp .And (b :: rest) pos) Tb) : EW X B F0 n E (.BoolOp .And (a :: b :: rest) pos) (eAnd Ta Tb) :=
  pe_imp (pe_and ha hb) fun σ H Q ⟨Γ, W, F, post, rel, t, fin⟩ => by
    refine ⟨Γ, W, F, _, rel, t, fun r1 W1 h1 => ?_⟩
    match r1, h1 with
    | .ex c, h1 => exact fin (.ex c) W1 h1
    | .v (.d (.bool c)), h1 =>
      intro v F1 H1 rel1 s1 dp1
      have dp1 : Dp X.K F1 v (.bool c) := dp1
      cases dp1
      refine ⟨c, rfl, ?_⟩
      cases c with
      | true => exact iteT ⟨Γ, W1, F1, post, rel1, h1, fun r W2 h2 => (fin r W2 h2).mono s1⟩
      | false => exact iteF (fin _ _ h1 _ F1 H1 rel1 s1 (.bl _))
theorem ew_or {a b : Expr} {rest : List Expr} {pos : Pos} {Ta Tb : TeW} (ha : EW X B F0 n E a Ta) (hb : EW X B F0 n E (.BoolOp .Or (b :: rest) pos) Tb) : EW X B F0 n E (.BoolOp .Or (a :: b :: rest) pos) (eOr Ta Tb) :=
  pe_imp (pe_or ha hb) fun σ H Q ⟨Γ, W, F, post, rel, t, fin⟩ => by
    refine ⟨Γ, W, F, _, rel, t, fun r1 W1 h1 => ?_⟩
    match r1, h1 with
    | .ex c, h1 => exact fin (.ex c) W1 h1
    | .v (.d (.bool c)), h1 =>
      intro v F1 H1 rel1 s1 dp1
      have dp1 : Dp X.K F1 v (.bool c) := dp1
      cases dp1
      refine ⟨c, rfl, ?_⟩
      cases c with
      | true => exact iteT (fin _ _ h1 _ F1 H1 rel1 s1 (.bl _))
      | false => exact iteF ⟨Γ, W1, F1, post, rel1, h1, fun r W2 h2 => (fin r W2 h2).mono s1⟩
theorem ew_if {c a b : Expr} {pos : Pos} {Tt : TtW} {Ta Tb : TeW} (hc : TW X B F0 n E c Tt) (ha : EW X B F0 n E a Ta) (hb : EW X B F0 n E b Tb) : EW X B F0 n E (.IfExp c a b pos) (eIf Tt Ta Tb) :=
  pe_imp (pe_ifExp hc ha hb) fun σ H Q ⟨Γ, W, F, post, rel, t, fin⟩ => by
    refine ⟨Γ, W, F, _, rel, t, fun r1 W1 h1 => ?_⟩
    match r1, h1 with
    | .ex c, h1 => exact fin (.ex c) W1 h1
    | .b true, h1 => exact fun F1 H1 rel1 s1 => iteT ⟨Γ, W1, F1, post, rel1, h1, fun r W2 h2 => (fin r W2 h2).mono s1⟩
    | .b false, h1 => exact fun F1 H1 rel1 s1 => iteF ⟨Γ, W1, F1, post, rel1, h1, fun r W2 h2 => (fin r W2 h2).mono s1⟩
end
end ND
/-! ND39: the store layer: statements. -/
namespace ND
open PySem PySem.Spec PyProof.Rows L2
inductive FX where
  | nx (Γ : G)
  | rt (a : Ar)
  | bk (Γ : G)
  | ct (Γ : G)
  | ex (c : Str) (Γ : G)
abbrev TsW := G → Wd → (FX → Wd → Prop) → Prop
section
variable (K : PySem.W.Frag) (mg : Str → Option Value) (B F0 : Hp) (n : Nat)
def FinS (F : Hp) (E : L2.St → XK) (Dd : Ends) : FX → Wd → Prop
  | .nx Γ, W => ∀ σ F' H', RelW K B F0 F' H' σ Γ W n → Same F F' → Dd.nx σ H'
  | .bk Γ, W => ∀ σ F' H', RelW K B F0 F' H' σ Γ W n → Same F F' → Dd.bk σ H'
  | .ct Γ, W => ∀ σ F' H', RelW K B F0 F' H' σ Γ W n → Same F F' → Dd.ct σ H'
  | .rt a, W => ∀ v F' H', RH K B F0 F' H' W → Same F F' → ArOk K F' v a → Dd.rt v H'
  | .ex c Γ, W => ∀ σ C F' H', mg c = some (.ref C) → RelW K B F0 F' H' σ Γ W n → Same F F' → E σ (.ref C) none H'
def tSW (E : L2.St → XK) (T : TsW) : TS := fun Dd σ H => ∃ Γ W F post, RelW K B F0 F H σ Γ W n ∧ T Γ W post ∧ ∀ fl W', post fl W' → FinS K mg B F0 n F E Dd fl W'
end
theorem FinS.mono {K : PySem.W.Frag} {mg : Str → Option Value} {B F0 F F1 : Hp} {n : Nat} {E : L2.St → XK} {Dd : Ends} {fl : FX} {W : Wd} (h : FinS K mg B F0 n F E Dd fl W) (s : Same F F1) : FinS K mg B F0 n F1 E Dd fl W := by
  cases fl with
  | nx Γ => exact fun σ F' H' a b => h σ F' H' a (s.trans b)
  | bk Γ => exact fun σ F' H' a b => h σ F' H' a (s.trans b)
  | ct Γ => exact fun σ F' H' a b => h σ F' H' a (s.trans b)
  | rt d => exact fun v F' H' a b c => h v F' H' a (s.trans b) c
  | ex c Γ => exact fun σ C F' H' m a b => h σ C F' H' m a (s.trans b)
abbrev SW (X : Cx) (B F0 : Hp) (n : Nat) (E : L2.St → XK) (st : Stmt) (T : TsW) : Prop := PS X st (tSW X.K X.mg B F0 n E T)
abbrev SWs (X : Cx) (B F0 : Hp) (n : Nat) (E : L2.St → XK) (st : List Stmt) (T : TsW) : Prop := PSs X st (tSW X.K X.mg B F0 n E T)
def slotOf : Ar → Sv
  | .d x => .dat x
  | .o p => .exn p
section
variable {K : PySem.W.Frag} {B F0 F H : Hp} {σ : L2.St} {Γ : G} {W : Wd} {n : Nat}
theorem er_un (hl : σ.length = n) : ER K B F H σ (List.replicate n Sv.un) := by
  refine ⟨by simp [hl], fun j s e => ?_, fun j k ds es p h1 _ _ _ => ?_, fun j k ds es p h1 _ _ _ => ?_⟩
  · rw [List.getElem?_replicate] at e
    split at e
    · cases e; trivial
    · cases e
  · rw [List.getElem?_replicate] at h1
    split at h1 <;> cases h1
  · rw [List.getElem?_replicate] at h1
    split at h1 <;> cases h1
theorem er_setExn (e : ER K B F H σ Γ) (i : Nat) (p : Addr) : ER K B F H (σ.set i (some (.ref p))) (Γ.set i (.exn p)) := by
  have un : ∀ (a : Nat) (s : Sv), (Γ.set i (.exn p))[a]? = some s → (i = a ∧ s = .exn p) ∨ (i ≠ a ∧ Γ[a]? = some s) := fun a s h => by
    rw [List.getElem?_set] at h
    by_cases z : i = a
    · rw [if_pos z] at h
      split at h
      · cases h; exact .inl ⟨z, rfl⟩
      · cases h
    · rw [if_neg z] at h
      exact .inr ⟨z, h⟩
  refine ⟨by rw [List.length_set, List.length_set]; exact e.len, fun j s q => ?_, fun a b ds es q h1 h2 h3 h4 => ?_, fun a b ds es q h1 h2 h3 h4 => ?_⟩
  · rcases un j s q with ⟨rfl, rfl⟩ | ⟨hij, q2⟩
    · show (List.set _ _ _)[_]? = _
      have hl : i < σ.length := by
        rw [e.len]
        have := (List.getElem?_eq_some_iff.mp q).1
        rwa [List.length_set] at this
      rw [List.getElem?_set_self hl]
    · have := e.ok j s q2
      cases s with
      | un => trivial
      | exn a =>
        show (List.set _ _ _)[_]? = _
        rw [List.getElem?_set_ne hij]
        exact this
      | dat d => obtain ⟨v, a, b⟩ := this; exact ⟨v, by rw [List.getElem?_set_ne hij]; exact a, b⟩
      | own ds => obtain ⟨p, xs, a, b⟩ := this; exact ⟨p, xs, by rw [List.getElem?_set_ne hij]; exact a, b⟩
      | cel k => obtain ⟨p, xs, a, b⟩ := this; exact ⟨p, xs, by rw [List.getElem?_set_ne hij]; exact a, b⟩
  · rcases un _ _ h1 with ⟨_, z⟩ | ⟨na, g1⟩
    · cases z
    rcases un _ _ h2 with ⟨_, z⟩ | ⟨nb, g2⟩
    · cases z
    rw [List.getElem?_set_ne na] at h3
    rw [List.getElem?_set_ne nb] at h4
    exact e.apart a b _ _ q g1 g2 h3 h4
  · rcases un _ _ h1 with ⟨_, z⟩ | ⟨na, g1⟩
    · cases z
    rcases un _ _ h2 with ⟨_, z⟩ | ⟨nb, g2⟩
    · cases z
    rw [List.getElem?_set_ne na] at h3
    rw [List.getElem?_set_ne nb] at h4
    exact e.apartC a b _ _ q g1 g2 h3 h4
theorem RelW.setA (r : RelW K B F0 F H σ Γ W n) (i : Nat) {v : V} {a : Ar} (h : ArOk K F v a) : RelW K B F0 F H (σ.set i (some v)) (Γ.set i (slotOf a)) W n := by
  refine ⟨r.toRH, ?_, by rw [List.length_set]; exact r.hn⟩
  cases a with
  | d x => exact r.er.set i h
  | o p =>
    have h : v = .ref p := h
    subst h
    exact er_setExn r.er i p
end
section
variable {X : Cx} {B F0 : Hp} {n : Nat} {E : L2.St → XK}
def sPure (n : Nat) (g : G → R Fl) : TsW := fun Γ W post => match g Γ with
  | .ok (.nx Γ') => post (.nx Γ') W
  | .ok (.bk Γ') => post (.bk Γ') W
  | .ok (.ct Γ') => post (.ct Γ') W
  | .ok (.rt d) => post (.rt (.d d)) W
  | .exc c => post (.ex c (List.replicate n .un)) W
  | .bad => False
theorem pure_in {g : G → R Fl} {F H : Hp} {σ : L2.St} {Γ : G} {W : Wd} {post : FX → Wd → Prop} {Dd : Ends} (kp : KeepN g) (rel : RelW X.K B F0 F H σ Γ W n) (t : sPure n g Γ W post) (fin : ∀ fl W', post fl W' → FinS X.K X.mg B F0 n F E Dd fl W') :
    tDs X.K X.mg (pinW B H W) F0 n E g Dd σ H := by
  refine ⟨Γ, F, rel.sh, rel.er, rel.hn, ?_⟩
  have kp := kp Γ
  unfold sPure at t
  revert t kp
  cases g Γ with
  | ok f =>
    cases f with
    | nx Γ' => exact fun t kp σ' F' H' sh s er => fin _ _ t σ' F' H' (rel.after sh s er (kp.1 Γ' rfl)) s
    | bk Γ' => exact fun t kp σ' F' H' sh s er => fin _ _ t σ' F' H' (rel.after sh s er (kp.2.1 Γ' rfl)) s
    | ct Γ' => exact fun t kp σ' F' H' sh s er => fin _ _ t σ' F' H' (rel.after sh s er (kp.2.2 Γ' rfl)) s
    | rt d => exact fun t kp v F' H' sh s dp => fin _ _ t v F' H' (rel.toRH.after sh s) s dp
  | exc c => exact fun t kp σ' C F' H' hl m sh s => fin _ _ t σ' C F' H' m (rel.after sh s (er_un hl) (by simp [rel.hn])) s
  | bad => exact fun t kp => t.elim
theorem sw_pure {st : Stmt} {g : G → R Fl} (h : ∀ B', DS X B' F0 n E st g) : SW X B F0 n E st (sPure n g) := by
  refine ⟨fun pins s σ H Dd I w => ?_⟩
  obtain ⟨Γ, W, F, post, rel, t, fin⟩ := w
  exact (h (pinW B H W)).ps.run pins s σ H Dd I (pure_in (h B).keep rel t fin)
theorem sws_pure {st : List Stmt} {g : G → R Fl} (h : ∀ B', DSs X B' F0 n E st g) : SWs X B F0 n E st (sPure n g) := by
  refine ⟨fun pins s σ H Dd I w => ?_⟩
  obtain ⟨Γ, W, F, post, rel, t, fin⟩ := w
  exact (h (pinW B H W)).ps.run pins s σ H Dd I (pure_in (h B).keep rel t fin)
def sNil : TsW := fun Γ W post => post (.nx Γ) W
theorem sws_nil : SWs X B F0 n E [] sNil := pss_imp pss_nil fun Dd σ H ⟨Γ, W, F, post, rel, t, fin⟩ => fin _ _ t σ F H rel (Same.refl _)
theorem sws_one {st : Stmt} {T : TsW} (h : SW X B F0 n E st T) : SWs X B F0 n E [st] T := pss_one h
def onN (k : G → Wd → Prop) (post : FX → Wd → Prop) : FX → Wd → Prop
  | .nx Γ, W => k Γ W
  | fl, W => post fl W
def sSeq (T1 T2 : TsW) : TsW := fun Γ W post => T1 Γ W (onN (fun Γ1 W1 => T2 Γ1 W1 post) post)
theorem sws_cons {st : Stmt} {rest : List Stmt} {T1 T2 : TsW} (h : SW X B F0 n E st T1) (hs : SWs X B F0 n E rest T2) : SWs X B F0 n E (st :: rest) (sSeq T1 T2) :=
  pss_imp (pss_cons h hs) fun Dd σ H ⟨Γ, W, F, post, rel, t, fin⟩ => by
    refine ⟨Γ, W, F, _, rel, t, fun fl W1 h1 => ?_⟩
    cases fl with
    | nx Γ1 => exact fun σ' F' H' rel' s => ⟨Γ1, W1, F', post, rel', h1, fun fl2 W2 h2 => (fin fl2 W2 h2).mono s⟩
    | bk Γ1 => exact fin _ _ h1
    | ct Γ1 => exact fin _ _ h1
    | rt a => exact fin _ _ h1
    | ex c Γ1 => exact fin _ _ h1
/-! simple statements -/
def onE (k : Ar → Wd → Prop) (Γ : G) (post : FX → Wd → Prop) : RX → Wd → Prop
  | .v a, W => k a W
  | .ex c, W => post (.ex c Γ) W
def sExpr (T : TeW) : TsW := fun Γ W post => T Γ W (onE (fun _ W1 => post (.nx Γ) W1) Γ post)
def sRet (T : TeW) : TsW := fun Γ W post => T Γ W (onE (fun a W1 => post (.rt a) W1) Γ post)
def sSet (i : Nat) (T : TeW) : TsW := fun Γ W post => T Γ W (onE (fun a W1 => post (.nx (Γ.set i (slotOf a))) W1) Γ post)
theorem onE_ex {K : PySem.W.Frag} {mg : Str → Option Value} {F : Hp} {σ : L2.St} {Γ : G} {Dd : Ends} {Q : VK} {c : Str} {W : Wd} (f : FinS K mg B F0 n F E Dd (.ex c Γ) W) : FinE K mg B F0 n F (E σ) σ Γ Q (.ex c) W :=
  fun C F' H' m rel s => f σ C F' H' m rel s
theorem sw_expr {e : Expr} {pos : Pos} {T : TeW} (he : EW X B F0 n E e T) (hs : swapsWith e none pos.line X.env = pure false := by rfl) : SW X B F0 n E (.Expr e pos) (sExpr T) :=
  ps_imp (ps_expr he hs) fun Dd σ H ⟨Γ, W, F, post, rel, t, fin⟩ => by
    refine ⟨Γ, W, F, _, rel, t, fun r1 W1 h1 => ?_⟩
    cases r1 with
    | ex c => exact onE_ex (fin _ _ h1)
    | v a => exact fun v F1 H1 rel1 s1 ar => fin _ _ h1 σ F1 H1 rel1 s1
theorem sw_ret {e : Expr} {pos : Pos} {T : TeW} (he : EW X B F0 n E e T) : SW X B F0 n E (.Return (some e) pos) (sRet T) :=
  ps_imp (ps_ret he) fun Dd σ H ⟨Γ, W, F, post, rel, t, fin⟩ => by
    refine ⟨Γ, W, F, _, rel, t, fun r1 W1 h1 => ?_⟩
    cases r1 with
    | ex c => exact onE_ex (fin _ _ h1)
    | v a => exact fun v F1 H1 rel1 s1 ar => fin _ _ h1 v F1 H1 rel1.toRH s1 ar
theorem sw_set {x : Str} {e : Expr} {pos pos' : Pos} {T : TeW} (i : Nat) (nd : X.N.Nodup) (he : EW X B F0 n E e T) (hi : X.N[i]? = some x := by rfl) (hx : Loc X.env.scope x := by first | exact Or.inl rfl | exact Or.inr rfl)
    (hf : X.fn x = true ∨ X.env.scope.names.lookup x = some .local := by first | exact .inl rfl | exact .inr rfl)
    (hs : swapsWithSole [.Name x pos'] e pos.line X.env = pure false := by rfl) (hw : swappedStores [.Name x pos'] e X.env = pure none := by rfl) (h1 : (assignEach [.Name x pos'] X.env).map (·.2) = [assign (.Name x pos') X.env] := by rfl) :
    SW X B F0 n E (.Assign [.Name x pos'] e pos) (sSet i T) :=
  ps_imp (ps_asg he (pg_name nd hi hx hf) hs hw h1) fun Dd σ H ⟨Γ, W, F, post, rel, t, fin⟩ => by
    refine ⟨Γ, W, F, _, rel, t, fun r1 W1 h1 => ?_⟩
    cases r1 with
    | ex c => exact onE_ex (fin _ _ h1)
    | v a => exact fun v F1 H1 rel1 s1 ar => fin _ _ h1 _ F1 H1 (rel1.setA i ar) s1
/-- any target, a value of data -/
def sAsg (st : D → G → R G) (T : TeW) : TsW := fun Γ W post => T Γ W (onE (fun a W1 => match a with
  | .d x => (match st x Γ with | .ok Γ' => post (.nx Γ') W1 | _ => False)
  | .o _ => False) Γ post)
theorem sw_asg {tg e : Expr} {pos : Pos} {is : List Nat} {st : D → G → R G} {T : TeW} (he : EW X B F0 n E e T) (ht : ∀ B', DG X B' tg is st) (hst : ∀ d Γ Γ', st d Γ = .ok Γ' → Γ'.length = Γ.length)
    (hs : swapsWithSole [tg] e pos.line X.env = pure false := by rfl) (hw : swappedStores [tg] e X.env = pure none := by rfl) (h1 : (assignEach [tg] X.env).map (·.2) = [assign tg X.env] := by rfl) : SW X B F0 n E (.Assign [tg] e pos) (sAsg st T) := by
  have pg : PG X tg (fun v σ H Q => ∃ B', tgD X.K B' is st v σ H Q) := ⟨fun pins s σ H v u Q I r ⟨B', w⟩ => (ht B').pg.run pins s σ H v u Q I r w⟩
  refine ps_imp (ps_asg he pg hs hw h1) fun Dd σ H ⟨Γ, W, F, post, rel, t, fin⟩ => ?_
  refine ⟨Γ, W, F, _, rel, t, fun r1 W1 h1 => ?_⟩
  cases r1 with
  | ex c => exact onE_ex (fin _ _ h1)
  | v a =>
    cases a with
    | o p => exact h1.elim
    | d x =>
      intro v F1 H1 rel1 s1 ar
      have h1 : (match st x Γ with | .ok Γ' => post (.nx Γ') W1 | _ => False) := h1
      cases est : st x Γ with
      | exc c => rw [est] at h1; exact h1.elim
      | bad => rw [est] at h1; exact h1.elim
      | ok Γ' =>
        rw [est] at h1
        exact ⟨pinW B H1 W1, Γ, F1, x, Γ', rel1.sh.f, rel1.er, ar, est, hst _ _ _ est, fun σ' er' hl' _ => fin _ _ h1 σ' F1 H1 ⟨rel1.toRH, er', (hst _ _ _ est).trans rel1.hn⟩ s1⟩
def sIf (Tt : TtW) (Ta Tb : TsW) : TsW := fun Γ W post => Tt Γ W (onT (fun c W1 => if c = true then Ta Γ W1 post else Tb Γ W1 post) (fun c W1 => post (.ex c Γ) W1))
theorem sw_if {c : Expr} {a b : List Stmt} {pos : Pos} {Tt : TtW} {Ta Tb : TsW} (hc : TW X B F0 n E c Tt) (ha : SWs X B F0 n E a Ta) (hb : SWs X B F0 n E b Tb) : SW X B F0 n E (.If c a b pos) (sIf Tt Ta Tb) :=
  ps_imp (ps_if hc ha hb) fun Dd σ H ⟨Γ, W, F, post, rel, t, fin⟩ => by
    refine ⟨Γ, W, F, _, rel, t, fun r1 W1 h1 => ?_⟩
    match r1, h1 with
    | .ex c, h1 => exact fun C F' H' m rel' s => fin _ _ h1 σ C F' H' m rel' s
    | .b true, h1 => exact fun F1 H1 rel1 s1 => iteT ⟨Γ, W1, F1, post, rel1, h1, fun fl W2 h2 => (fin fl W2 h2).mono s1⟩
    | .b false, h1 => exact fun F1 H1 rel1 s1 => iteF ⟨Γ, W1, F1, post, rel1, h1, fun fl W2 h2 => (fin fl W2 h2).mono s1⟩
/-! for over data -/
def forW (st : D → G → R G) (body : TsW) : List D → TsW
  | [], Γ, W, post => post (.nx Γ) W
  | d :: ds, Γ, W, post => match st d Γ with
    | .ok Γ1 => body Γ1 W (fun fl W1 => match fl with
      | .nx Γ2 => forW st body ds Γ2 W1 post
      | .ct Γ2 => forW st body ds Γ2 W1 post
      | .bk Γ2 => post (.nx Γ2) W1
      | .rt a => post (.rt a) W1
      | .ex c Γ2 => post (.ex c Γ2) W1)
    | _ => False
def sFor (st : D → G → R G) (gi : G → R (List D)) (body : TsW) : TsW := fun Γ W post => match gi Γ with
  | .ok ds => forW st body ds Γ W post
  | .exc c => post (.ex c Γ) W
  | .bad => False
theorem sw_for {iter tg : Expr} {body : List Stmt} {pos : Pos} {is : List Nat} {st : D → G → R G} {gi : G → R (List D)} {Tb : TsW} (hp : PassesOwn (model X.prog X.w) X.A X.env X.xe) (hc : X.calm = true) (hi : ∀ B', DI X B' E tg iter gi) (hg : ∀ B', DG X B' tg is st)
    (hst : ∀ d Γ Γ', st d Γ = .ok Γ' → Γ'.length = Γ.length) (hb : SWs X B F0 n E body Tb) (hs : ∀ x, foldedSetIterable iter X.env x = pure x := by intro _; rfl) : SW X B F0 n E (.For tg iter body [] pos) (sFor st gi Tb) := by
  have pg : PG X tg (fun v σ H Q => ∃ B', tgD X.K B' is st v σ H Q) := ⟨fun pins s σ H v u Q I r ⟨B', w⟩ => (hg B').pg.run pins s σ H v u Q I r w⟩
  have pi : PI X tg iter (fun σ H Rr => ∃ B', iD X.K X.mg B' E gi σ H Rr) := ⟨fun pins s σ H Q I ⟨B', w⟩ => (hi B').run pins s σ H Q I w⟩
  refine ps_imp (ps_for hp hc pi pg hb hs) fun Dd σ H ⟨Γ, W, F, post, rel, t, fin⟩ => ?_
  refine ⟨pinW B H W, Γ, F, rel.sh.f, rel.er, ?_⟩
  unfold sFor at t
  revert t
  cases gi Γ with
  | exc c => exact fun t C F' H' m x => fin _ _ t σ C F' H' m (rel.ext x) x.f
  | bad => exact fun t => t.elim
  | ok ds =>
    intro t J F1 H1 x1 wd
    have t : forW st Tb ds Γ W post := t
    obtain ⟨Wk, Y, wk, wst, wy⟩ := wd
    refine for_it (g := fun v σ H Q => ∃ B', tgD X.K B' is st v σ H Q) (tb := tSW X.K X.mg B F0 n E Tb) (D := Dd) wk (fun i σ2 H2 => i ≤ ds.length ∧ ∃ Γ2 W2 F2, RelW X.K B F0 F2 H2 σ2 Γ2 W2 n ∧ Same F1 F2 ∧ forW st Tb (ds.drop i) Γ2 W2 post)
      ⟨Nat.zero_le _, Γ, W, F1, rel.ext x1, Same.refl _, by simpa using t⟩ ?_ ?_ ?_
    · rintro i σ2 H2 hi ⟨_, Γ2, W2, F2, rel2, s12, _⟩
      exact wst H2 (s12.trans rel2.sh.f)
    · rintro i x σ2 H2 H3 hi ⟨_, Γ2, W2, F2, rel2, s12, t2⟩ y
      obtain ⟨F3, x3, dpx⟩ := wy i H2 x H3 ds[i] F2 s12 rel2.sh.f (by simp [hi]) y
      rw [List.drop_eq_getElem_cons hi] at t2
      unfold forW at t2
      have rel3 := rel2.ext x3
      cases est : st ds[i] Γ2 with
      | exc c => rw [est] at t2; exact t2.elim
      | bad => rw [est] at t2; exact t2.elim
      | ok Γ3 =>
        rw [est] at t2
        have l3 := hst _ _ _ est
        refine ⟨pinW B H3 W2, Γ2, F3, ds[i], Γ3, rel3.sh.f, rel3.er, dpx, est, l3, fun σ' er' hl' hk' => ⟨Γ3, W2, F3, _, ⟨rel3.toRH, er', l3.trans rel3.hn⟩, t2, fun fl W4 h4 => ?_⟩⟩
        cases fl with
        | nx Γ4 => exact fun σ4 F4 H4 rel4 s34 => ⟨hi, Γ4, W4, F4, rel4, s12.trans (x3.f.trans s34), h4⟩
        | ct Γ4 => exact fun σ4 F4 H4 rel4 s34 => ⟨hi, Γ4, W4, F4, rel4, s12.trans (x3.f.trans s34), h4⟩
        | bk Γ4 => exact fun σ4 F4 H4 rel4 s34 => fin _ _ h4 σ4 F4 H4 rel4 (x1.f.trans (s12.trans (x3.f.trans s34)))
        | rt a => exact fun v F4 H4 rel4 s34 ar => fin _ _ h4 v F4 H4 rel4 (x1.f.trans (s12.trans (x3.f.trans s34))) ar
        | ex c Γ4 => exact fun σ4 C F4 H4 m rel4 s34 => fin _ _ h4 σ4 C F4 H4 m rel4 (x1.f.trans (s12.trans (x3.f.trans s34)))
    · rintro σ2 H2 ⟨_, Γ2, W2, F2, rel2, s12, t2⟩
      rw [List.drop_length] at t2
      exact fin _ _ t2 σ2 F2 H2 rel2 (x1.f.trans s12)
end
end ND
/-! ND40: the store layer: defs, fields, methods, instances. -/
namespace ND
open PySem PySem.Spec PyProof.Rows L2
abbrev FwT := List Ar → Wd → (RX → Wd → Prop) → Prop
/-- a def's start -/
structure EntW (K : PySem.W.Frag) (F H : Hp) (W : Wd) : Prop where
  f : Same F H
  nd : (W.map (·.1)).Nodup
  ok : ∀ p k, (p, k) ∈ W → F p = none ∧ ∃ u, H p = some u ∧ ObOk K F u k
/-- a def's end -/
structure PostW (K : PySem.W.Frag) (F H : Hp) (W : Wd) (F' H' : Hp) (W' : Wd) : Prop where
  f : Same F F'
  fh : Same F' H'
  h : ∀ a u, H a = some u → a ∉ W.map (·.1) → H' a = some u
  no : ∀ a, F a = none → H a ≠ none → F' a = none
  nd : (W'.map (·.1)).Nodup
  ok : ∀ p k, (p, k) ∈ W' → F' p = none ∧ (p ∈ W.map (·.1) ∨ H p = none) ∧ ∃ u, H' p = some u ∧ ObOk K F' u k
  sub : ∀ p, p ∈ W.map (·.1) → p ∈ W'.map (·.1)
section
variable {K : PySem.W.Frag} {mg : Str → Option Value} {B F0 F H F' H' : Hp} {σ : L2.St} {Γ : G} {W W' : Wd} {n : Nat}
theorem RelW.ent (r : RelW K B F0 F H σ Γ W n) : EntW K F H W := ⟨r.sh.f, r.nd, fun p k h => (r.ok p k h).2⟩
theorem RelW.post (r : RelW K B F0 F H σ Γ W n) (q : PostW K F H W F' H' W') : RelW K B F0 F' H' σ Γ W' n := by
  have hB : ∀ a, a ∈ W'.map (·.1) → B a = none := fun a ha => by
    obtain ⟨e, he, rfl⟩ := List.mem_map.mp ha
    obtain ⟨_, h2, _⟩ := q.ok e.1 e.2 he
    by_cases hm : e.1 ∈ W.map (·.1)
    · exact (r.at hm).1
    · have h2 := h2.resolve_left hm
      have := r.sh.b e.1
      rw [pin_out hm] at this
      cases z : B e.1 with
      | none => rfl
      | some u => rw [this u z] at h2; cases h2
  have hF : ∀ a, a ∈ W'.map (·.1) → F' a = none := fun a ha => by
    obtain ⟨e, he, rfl⟩ := List.mem_map.mp ha
    exact (q.ok e.1 e.2 he).1
  have old : ∀ a, a ∉ W.map (·.1) → H a ≠ none → a ∉ W'.map (·.1) := fun a h1 h2 h3 => by
    obtain ⟨e, he, rfl⟩ := List.mem_map.mp h3
    exact h2 ((q.ok e.1 e.2 he).2.1.resolve_left h1)
  refine ⟨⟨⟨fun a u e => ?_, q.fh, r.sh.f0.trans q.f, fun a h1 h2 => ?_⟩, q.nd, fun p k h => ?_⟩, ⟨r.er.len, fun i s h => ?_, r.er.apart, r.er.apartC⟩, r.hn⟩
  · by_cases hm : a ∈ W'.map (·.1)
    · rw [pin_in hm] at e; exact e
    · have hm2 : a ∉ W.map (·.1) := fun z => hm (q.sub a z)
      rw [pin_out hm] at e
      exact q.h a u (r.sh.b a u (by rw [pin_out hm2]; exact e)) hm2
  · by_cases hm : a ∈ W'.map (·.1)
    · exact hF a hm
    · have hm2 : a ∉ W.map (·.1) := fun z => hm (q.sub a z)
      rw [pin_out hm] at h2
      refine q.no a (r.sh.no a h1 (by rw [pin_out hm2]; exact h2)) ?_
      cases z : B a with
      | none => exact absurd z h2
      | some u => rw [r.sh.b a u (by rw [pin_out hm2]; exact z)]; simp
  · have hm : p ∈ W'.map (·.1) := List.mem_map.mpr ⟨_, h, rfl⟩
    obtain ⟨h1, _, u, h3, h4⟩ := q.ok p k h
    exact ⟨hB p hm, h1, u, h3, h4⟩
  · have := r.er.ok i s h
    cases s with
    | un => trivial
    | exn a => exact this
    | dat d =>
      obtain ⟨v, a, b⟩ := this
      exact ⟨v, a, dp_mono q.f b⟩
    | own ds =>
      obtain ⟨p, vs, a, b0, b, c, d⟩ := this
      have hm : p ∉ W.map (·.1) := fun z => by rw [pin_in z, c] at b0; cases b0
      have hm2 := old p hm (by rw [c]; simp)
      rw [pin_out hm] at b0
      exact ⟨p, vs, a, by rw [pin_out hm2]; exact b0, q.no p b (by rw [c]; simp), q.h _ _ c hm, dpa_mono q.f d⟩
    | cel k =>
      obtain ⟨p, u, a, b0, b, c, d⟩ := this
      have hm : p ∉ W.map (·.1) := fun z => by rw [pin_in z, c] at b0; cases b0
      have hm2 := old p hm (by rw [c]; simp)
      rw [pin_out hm] at b0
      exact ⟨p, u, a, by rw [pin_out hm2]; exact b0, q.no p b (by rw [c]; simp), q.h _ _ c hm, d.mono q.f⟩
/-- the frame of a def that is entered: what stands before it, but for the store -/
def entB (H : Hp) (W : Wd) : Hp := fun a => if a ∈ W.map (·.1) then none else H a
theorem pin_ent : pinW (entB H W) H W = H := by
  funext a
  by_cases h : a ∈ W.map (·.1)
  · rw [pin_in h]
  · rw [pin_out h]; exact if_neg h
theorem EntW.rh (e : EntW K F H W) : RH K (entB H W) F F H W := by
  refine ⟨by rw [pin_ent]; exact ⟨Same.refl _, e.f, Same.refl _, fun _ h _ => h⟩, e.nd, fun p k h => ?_⟩
  obtain ⟨h1, h2⟩ := e.ok p k h
  exact ⟨if_pos (List.mem_map.mpr ⟨_, h, rfl⟩), h1, h2⟩
theorem RH.post (r : RH K (entB H W) F F' H' W') (s : Same F F') (sub : ∀ p, p ∈ W.map (·.1) → p ∈ W'.map (·.1)) : PostW K F H W F' H' W' := by
  have key : ∀ a u, H a = some u → a ∉ W.map (·.1) → a ∉ W'.map (·.1) := fun a u h1 h2 h3 => by
    have := (r.at h3).1
    unfold entB at this
    rw [if_neg h2, h1] at this
    cases this
  refine ⟨s, r.sh.f, fun a u h1 h2 => ?_, fun a h1 h2 => ?_, r.nd, fun p k h => ?_, sub⟩
  · exact r.sh.b a u (by rw [pin_out (key a u h1 h2)]; exact (if_neg h2).trans h1)
  · by_cases hm : a ∈ W'.map (·.1)
    · exact (r.at hm).2.1
    · have hm2 : a ∉ W.map (·.1) := fun z => hm (sub a z)
      exact r.sh.no a h1 (by rw [pin_out hm]; unfold entB; rw [if_neg hm2]; exact h2)
  · obtain ⟨h1, h2, u, h3, h4⟩ := r.ok p k h
    refine ⟨h2, ?_, u, h3, h4⟩
    by_cases hm : p ∈ W.map (·.1)
    · exact .inl hm
    · unfold entB at h1
      rw [if_neg hm] at h1
      exact .inr h1
end
section
variable (K : PySem.W.Frag) (mg : Str → Option Value)
def FinF (F H : Hp) (W : Wd) (E : XK) (Q : VK) : RX → Wd → Prop
  | .v a, W' => ∀ v F' H', PostW K F H W F' H' W' → ArOk K F' v a → Q v H'
  | .ex c, W' => ∀ C F' H', mg c = some (.ref C) → PostW K F H W F' H' W' → E (.ref C) none H'
def spW (f : FwT) : Sp := fun vs H Q E => ∃ as W F post, EntW K F H W ∧ ArsOk K F vs as ∧ f as W post ∧ ∀ r W', post r W' → FinF K mg F H W E Q r W'
end
/-- what stood in the store stays there -/
def SubW (W W' : Wd) : Prop := ∀ p, p ∈ W.map (·.1) → p ∈ W'.map (·.1)
/-- what a def gives by its slots' start -/
def runW (n m : Nat) (T : TsW) : FwT := fun as W post => as.length = m ∧ T (as.map slotOf ++ List.replicate (n - m) .un) W fun fl W' => SubW W W' ∧ match fl with
  | .rt a => post (.v a) W'
  | .nx _ => post (.v (.d .none)) W'
  | .ex c _ => post (.ex c) W'
  | _ => False
theorem ars_get {K : PySem.W.Frag} {F : Hp} : ∀ {vs : List V} {as : List Ar} {i : Nat} {a : Ar}, ArsOk K F vs as → as[i]? = some a → ∃ v, vs[i]? = some v ∧ ArOk K F v a
  | _, _, _, _, .nil, e => by simp at e
  | _, _, 0, _, .cons h _, e => by simp at e; subst e; exact ⟨_, rfl, h⟩
  | _, _, i + 1, _, .cons _ t, e => by
    obtain ⟨v, a, b⟩ := ars_get (i := i) t (by simpa using e)
    exact ⟨v, by simpa using a, b⟩
theorem er_startW {K : PySem.W.Frag} {B F H : Hp} {as : List Ar} {vs : List V} (h : ArsOk K F vs as) (N : List Str) : ER K B F H (L2.start N vs) (as.map slotOf ++ List.replicate (N.length - as.length) Sv.un) := by
  have hl := h.length
  have key : ∀ (i : Nat) (s : Sv), (as.map slotOf ++ List.replicate (N.length - as.length) Sv.un)[i]? = some s → (∃ a, as[i]? = some a ∧ s = slotOf a) ∨ s = .un := fun i s e => by
    by_cases hi : i < as.length
    · rw [List.getElem?_append_left (by simpa using hi), List.getElem?_map] at e
      cases q : as[i]? with
      | none => rw [q] at e; cases e
      | some d => rw [q] at e; cases e; exact .inl ⟨d, rfl, rfl⟩
    · rw [List.getElem?_append_right (by simpa using Nat.le_of_not_lt hi), List.getElem?_replicate] at e
      split at e
      · cases e; exact .inr rfl
      · cases e
  have st : ∀ (i : Nat) (a : Ar), as[i]? = some a → ∃ v, (L2.start N vs)[i]? = some (some v) ∧ ArOk K F v a := fun i a e => by
    obtain ⟨v, e1, e2⟩ := ars_get h e
    refine ⟨v, ?_, e2⟩
    unfold L2.start
    have hi : i < vs.length := (List.getElem?_eq_some_iff.mp e1).1
    rw [List.getElem?_append_left (by simpa using hi), List.getElem?_map, e1]
    rfl
  refine ⟨by unfold L2.start; simp [hl], fun i s e => ?_, fun i j ds' es p h1 _ _ _ => ?_, fun i j ds' es p h1 _ _ _ => ?_⟩
  · rcases key i s e with ⟨a, e1, rfl⟩ | rfl
    · obtain ⟨v, e2, e3⟩ := st i a e1
      cases a with
      | d x => exact ⟨v, e2, e3⟩
      | o p =>
        have e3 : v = .ref p := e3
        subst e3
        exact e2
    · trivial
  · rcases key i _ h1 with ⟨a, _, q⟩ | q
    · cases a <;> cases q
    · cases q
  · rcases key i _ h1 with ⟨a, _, q⟩ | q
    · cases a <;> cases q
    · cases q
theorem fnW_of {P : Program} {w : World} {K : PySem.W.Frag} {mg : Str → Option Value} {base : Heap} {x qual : Str} {params : Arguments} {body : List Stmt} {scope : Scope} {f : Addr} {fd : FuncData} {N ps : List Str} {k : Nat} {T : TsW}
    (Fd : FunD K x qual params body scope [] [] f fd) (S : FnScope N ps scope)
    (body_ok : ∀ (cdv : Value) (A : Around) (outer : List Env) (s : Shared) (H F0 B : Hp) (E : XK), OkD (cxOf (L2.CX P w) P w K mg base N qual scope f cdv A outer s H E) (fun _ => E) k →
      SWs (cxOf (L2.CX P w) P w K mg base N qual scope f cdv A outer s H E) B F0 N.length (fun _ => E) body T) :
    FnOk P w K mg base (L2.CX P w) (k + 1) f fd ps (spW K mg (runW N.length ps.length T)) := by
  refine FunD.ok Fd S (fun vs H Q E h => ?_) (fun cdv A outer s H vs Q E hr h => ?_)
  · obtain ⟨as, W, F, post, ent, ars, t, fin⟩ := h
    rw [ars.length]
    exact t.1
  · obtain ⟨as, W, F, post, ent, ars, ⟨hl, t⟩, fin⟩ := h
    refine ⟨_, body_ok cdv A outer s H F (entB H W) E (okD_of S hr), ?_⟩
    have hN : ps.length ≤ N.length := by have := congrArg List.length S.pre; rw [List.length_take] at this; omega
    rw [← hl] at t hN
    refine ⟨_, W, F, _, ⟨ent.rh, by rw [pin_ent]; exact er_startW ars N, by simp; omega⟩, t, fun fl W' h => ?_⟩
    obtain ⟨sub, h⟩ := h
    cases fl with
    | rt a => exact fun v F' H' r s ar => fin _ _ h v F' H' (r.post s sub) ar
    | nx Γ => exact fun σ F' H' r s => fin _ _ h .non F' H' (r.toRH.post s sub) .non
    | ex c Γ => exact fun σ C F' H' m r s => fin _ _ h C F' H' m (r.toRH.post s sub)
    | bk Γ => exact h.elim
    | ct Γ => exact h.elim
structure FwK (P : Program) (w : World) (K : PySem.W.Frag) (mg : Str → Option Value) (base : Heap) (k : Nat) (x : Str) (g : FwT) : Prop where
  ex : ∃ f fd ps, FnOk P w K mg base (L2.CX P w) k f fd ps (spW K mg g) ∧ mg x = some (.ref f) ∧ PySem.W.keepIn K (.ref f) = true ∧ Binds K fd ps []
structure MwK (P : Program) (w : World) (K : PySem.W.Frag) (mg : Str → Option Value) (base : Heap) (k : Nat) (c m : Str) (g : FwT) : Prop where
  ex : ∃ f fd ps, FnOk P w K mg base (L2.CX P w) k f fd ps (spW K mg g) ∧ Meth K (He.ga K c) m f ∧ Binds K fd ps []
/-- a class that makes instances -/
structure ClsK (K : PySem.W.Frag) (mg : Str → Option Value) (c : Str) : Prop where
  cls : Cls K (He.ga K c)
  glo : mg c = some (.ref (He.ga K c))
  mkr : Mk K (He.ga K c) (He.ma K (He.ga K c) "__init__")
section
variable {X : Cx} {B F0 : Hp} {n : Nat} {E : L2.St → XK}
/-! ### fields -/
def lookA (fs : List (Str × Ar)) (f : Str) : Option Ar := fs.lookup f
theorem fa_look {K : PySem.W.Frag} {F : Hp} {f : Str} : ∀ {r : List (Str × V)} {l : List (Str × Ar)} {a : Ar}, FaOk K F r l → l.lookup f = some a → ∃ v, r.lookup f = some v ∧ ArOk K F v a
  | _, _, _, .nil, e => by cases e
  | _, _, a, .cons (k := k) (v := v) (a := b) h t, e => by
    rw [List.lookup_cons] at e ⊢
    cases hk : f == k with
    | true => rw [hk] at e; cases e; exact ⟨v, rfl, h⟩
    | false => rw [hk] at e; exact fa_look t e
theorem fa_none {K : PySem.W.Frag} {F : Hp} {f : Str} : ∀ {r : List (Str × V)} {l : List (Str × Ar)}, FaOk K F r l → l.lookup f = none → r.lookup f = none
  | _, _, .nil, _ => rfl
  | _, _, .cons (k := k) h t, e => by
    rw [List.lookup_cons] at e ⊢
    cases hk : f == k with
    | true => rw [hk] at e; cases e
    | false => rw [hk] at e; exact fa_none t e
theorem fa_length {K : PySem.W.Frag} {F : Hp} : ∀ {r : List (Str × V)} {l : List (Str × Ar)}, FaOk K F r l → r.length = l.length
  | _, _, .nil => rfl
  | _, _, .cons _ t => by simp [fa_length t]
def putA (f : Str) (a : Ar) : List (Str × Ar) → List (Str × Ar)
  | [] => [(f, a)]
  | (g, x) :: r => if g = f then (g, a) :: r else (g, x) :: putA f a r
theorem fa_put {K : PySem.W.Frag} {F : Hp} {f : Str} {v : V} {a : Ar} (h : ArOk K F v a) : ∀ {r : List (Str × V)} {l : List (Str × Ar)}, FaOk K F r l → FaOk K F (putF f v r) (putA f a l)
  | _, _, .nil => .cons h .nil
  | _, _, .cons (k := k) h2 t => by
    unfold putF putA
    by_cases e : k = f
    · rw [if_pos e, if_pos e]; exact .cons h t
    · rw [if_neg e, if_neg e]; exact .cons h2 (fa_put h t)
theorem ob_ins {K : PySem.W.Frag} {F : Hp} {u : HO} {c : Str} {fs : List (Str × Ar)} (h : ObOk K F u (.ins c fs)) : ∃ dx raw, u = .ins (He.ga K c) dx raw ∧ FaOk K F raw fs := by
  cases u with
  | ins C dx raw =>
    obtain ⟨h1, h2⟩ := (show C = He.ga K c ∧ FaOk K F raw fs from h)
    exact ⟨dx, raw, by rw [h1], h2⟩
  | _ => exact h.elim
/-- a thing of the class c: its fields -/
def insW (c : Str) (W : Wd) (p : Addr) (k : List (Str × Ar) → Prop) : Prop := match getW W p with
  | some (.ins c' fs) => c' = c ∧ k fs
  | _ => False
theorem insW_at {c : Str} {W : Wd} {p : Addr} {k : List (Str × Ar) → Prop} (h : insW c W p k) : ∃ fs, (p, Ob.ins c fs) ∈ W ∧ k fs := by
  unfold insW at h
  split at h
  · rename_i c' fs e
    obtain ⟨rfl, h⟩ := h
    exact ⟨fs, getW_mem e, h⟩
  · exact h.elim
def onO (k : Addr → Wd → Prop) (ex : Str → Wd → Prop) : RX → Wd → Prop
  | .v (.o p), W => k p W
  | .v _, _ => False
  | .ex c, W => ex c W
def eFld (c f : Str) (T : TeW) : TeW := fun Γ W post => T Γ W (onO (fun p W1 => insW c W1 p fun fs => match fs.lookup f with | some a => post (.v a) W1 | none => False) (fun e W1 => post (.ex e) W1))
theorem ew_fld {c f : Str} {e : Expr} {pos : Pos} {T : TeW} (hc : Cls X.K (He.ga X.K c)) (hn : NoAttr X.K (He.ga X.K c) f) (he : EW X B F0 n E e T) (hb : attributeBase e f X.env (eval e X.env) = eval e X.env := by rfl) : EW X B F0 n E (.Attribute e f pos) (eFld c f T) :=
  pe_imp (pe_fld he hb) fun σ H Q ⟨Γ, W, F, post, rel, t, fin⟩ => by
    refine ⟨Γ, W, F, _, rel, t, fun r1 W1 h1 => ?_⟩
    match r1, h1 with
    | .ex c, h1 => exact fin (.ex c) W1 h1
    | .v (.o p), h1 =>
      intro v F1 H1 rel1 s1 ar
      have ar : v = .ref p := ar
      subst ar
      obtain ⟨fs, hm, h2⟩ := insW_at h1
      obtain ⟨_, _, u, hu, ob⟩ := rel1.ok p _ hm
      obtain ⟨dx, raw, rfl, fa⟩ := ob_ins ob
      cases hl : fs.lookup f with
      | none => rw [hl] at h2; exact h2.elim
      | some a =>
        rw [hl] at h2
        obtain ⟨y, hy, ay⟩ := fa_look fa hl
        exact ⟨p, _, dx, raw, y, rfl, hu, hc, hn, hy, fin _ _ h2 y F1 H1 rel1 s1 ay⟩
/-- x.f = e -/
def sFldW (c f : Str) (To T : TeW) : TsW := fun Γ W post => T Γ W (onE (fun a W1 => To Γ W1 (onO (fun p W2 => insW c W2 p fun fs => fs.length < 1000 ∧ post (.nx Γ) (setW W2 p (.ins c (putA f a fs)))) (fun e W2 => post (.ex e Γ) W2))) Γ post)
theorem sw_fld {c f : Str} {o e : Expr} {pos pos' : Pos} {To T : TeW} (hc : Cls X.K (He.ga X.K c)) (hn : NoAttr X.K (He.ga X.K c) f) (ho : EW X B F0 n E o To) (he : EW X B F0 n E e T) (hs : swapsWith e (some (.Attribute o f pos')) pos.line X.env = pure false := by rfl) :
    SW X B F0 n E (.Assign [.Attribute o f pos'] e pos) (sFldW c f To T) :=
  ps_imp (ps_fld ho he hs) fun Dd σ H ⟨Γ, W, F, post, rel, t, fin⟩ => by
    refine ⟨Γ, W, F, _, rel, t, fun r1 W1 h1 => ?_⟩
    cases r1 with
    | ex c => exact onE_ex (fin _ _ h1)
    | v a =>
      intro v F1 H1 rel1 s1 ar
      refine ⟨Γ, W1, F1, _, rel1, h1, fun r2 W2 h2 => ?_⟩
      match r2, h2 with
      | .ex c, h2 => exact onE_ex ((fin _ _ h2).mono s1)
      | .v (.o p), h2 =>
        intro v2 F2 H2 rel2 s2 ar2
        have ar2 : v2 = .ref p := ar2
        subst ar2
        obtain ⟨fs, hm, hl, h3⟩ := insW_at h2
        obtain ⟨_, _, u, hu, ob⟩ := rel2.ok p _ hm
        obtain ⟨dx, raw, rfl, fa⟩ := ob_ins ob
        refine ⟨p, _, dx, raw, rfl, hu, hc, hn, by rw [fa_length fa]; exact hl, ?_⟩
        exact fin _ _ h3 σ F2 _ (rel2.put hm (k := .ins c (putA f a fs)) ⟨rfl, fa_put (ar.mono s2) fa⟩) (s1.trans s2)
/-! ### calls -/
theorem callW_in {g : FwT} {σ : L2.St} {Γ : G} {F F1 H1 : Hp} {W1 : Wd} {vs : List V} {as : List Ar} {post : RX → Wd → Prop} {Q : VK} (rel : RelW X.K B F0 F1 H1 σ Γ W1 n) (s1 : Same F F1) (ars : ArsOk X.K F1 vs as) (h : g as W1 post)
    (fin : ∀ r W', post r W' → FinE X.K X.mg B F0 n F (E σ) σ Γ Q r W') : spW X.K X.mg g vs H1 Q (E σ) := by
  refine ⟨as, W1, F1, post, rel.ent, ars, h, fun r W' hr => ?_⟩
  cases r with
  | v a => exact fun v F' H' q ar => fin _ _ hr v F' H' (rel.post q) (s1.trans q.f) ar
  | ex c => exact fun C F' H' m q => fin _ _ hr C F' H' m (rel.post q) (s1.trans q.f)
def eFn (g : FwT) (Ts : TaW) : TeW := fun Γ W post => Ts Γ W (fun r W1 => match r with
  | .vs as => g as W1 post
  | .ex c => post (.ex c) W1)
theorem ew_fn {j k : Nat} {x : Str} {g : FwT} {p pos : Pos} {e : Expr} {es : List Expr} {Ts : TaW} (F : FwK X.prog X.w X.K X.mg X.base j x g) (hr : Room k X.A) (hx : ∀ σ, PassesAt (L2.CX X.prog X.w) X σ (E σ)) (ha : AW X B F0 n E (e :: es) Ts)
    (hk : j ≤ k := by decide) (hg : Gl X x := by rfl) (hdb : (x == ("__debug__" : Str)) = false := by decide) (he : starEach (e :: es) X.env = (false, eval e X.env) :: starEach es X.env := by rfl) (hpl : (backTo pos (starEach es X.env)).any (·.1) = false := by rfl) :
    EW X B F0 n E (.Call (.Name x p) (e :: es) [] pos) (eFn g Ts) := by
  obtain ⟨f, fd, ps, ok, hm, kp, hb⟩ := F.ex
  refine pe_imp (pe_callS (E := E) ok (hr.mono hk) hg hm kp hb hx ha hdb he hpl) fun σ H Q ⟨Γ, W, F, post, rel, t, fin⟩ => ?_
  refine ⟨Γ, W, F, _, rel, t, fun r1 W1 h1 => ?_⟩
  cases r1 with
  | ex c => exact fin (.ex c) W1 h1
  | vs as => exact fun vs F1 H1 rel1 s1 ars => callW_in rel1 s1 ars h1 fin
end
end ND
/-! ND41: the store layer: methods, instances made. -/
namespace ND
open PySem PySem.Spec PyProof.Rows L2
theorem ar_o {K : PySem.W.Frag} {F : Hp} (p : Addr) : ArOk K F (.ref p) (.o p) := rfl
section
variable {X : Cx} {B F0 : Hp} {n : Nat} {E : L2.St → XK}
def tMethE (C : Addr) (m : Str) (sp : Sp) (E : L2.St → XK) (ta : TE) (t : TA) : TE := fun σ H Q => ta σ H fun x H1 => ∃ a dx fs, x = .ref a ∧ H1 a = some (.ins C dx fs) ∧ fs.lookup m = none ∧ t σ H1 fun vs H2 => sp (x :: vs) H2 Q (E σ)
theorem pe_methE {k : Nat} {C f : Addr} {fd : FuncData} {ps : List Str} {sp : Sp} {m : Str} {apos pos : Pos} {e o : Expr} {es : List Expr} {ta : TE} {t : TA} {pl : Sem Bool} (he : PE X o ta) (c : Cls X.K C) (hm : Meth X.K C m f) (F : FnOk X.prog X.w X.K X.mg X.base (L2.CX X.prog X.w) k f fd ps sp) (hr : Room k X.A) (hb : Binds X.K fd ps [])
    (hx : ∀ σ, PassesAt (L2.CX X.prog X.w) X σ (E σ)) (ha : PA X (e :: es) t) (hst : starEach (e :: es) X.env = (false, eval e X.env) :: starEach es X.env := by rfl) (hpl : (backTo pos (starEach es X.env)).any (·.1) = false := by rfl)
    (ht : eval (.Call (.Attribute o m apos) (e :: es) [] pos) X.env = (do
      let ov ← eval o X.env
      standAt apos.atName
      let (f, first) ← holding [ov] (getMethod ov m pl)
      callWith pos f first (backTo pos (starEach (e :: es) X.env)) (backToKw pos (keywordEach [] X.env))) := by rfl) :
    PE X (.Call (.Attribute o m apos) (e :: es) [] pos) (tMethE C m sp E ta t) := by
  refine ⟨fun pins s σ H Q I h => ?_⟩
  refine PySem.W.methodCall_KW (pl := pl) (thn (he.run pins s σ H _ I h) fun u s1 ⟨x, H1, I1, rx, a, dx, fs, ex, ea, l, q⟩ => ?_) ht
  subst ex
  obtain rfl : u = Value.ref a := rx
  refine getmeth_ok I1 ea c hm l ?_
  refine PySem.W.callWith_K (first := [.ref a]) (h₀ := X.base) I.ok.mod.kin hm.kp (thn (ha.run pos pins s1 σ H1 _ I1 q) fun us s2 ⟨vs, H2, I2, r, q2⟩ => ⟨I2.kIn, ?_⟩) hst hpl
  exact run_fnS (us := .ref a :: us) (vs := .ref a :: vs) F hr hb (hx σ) I2 (.cons rfl r) q2
theorem pe_methE0 {k : Nat} {C f : Addr} {fd : FuncData} {ps : List Str} {sp : Sp} {m : Str} {apos pos : Pos} {o : Expr} {ta : TE} {pl : Sem Bool} (he : PE X o ta) (c : Cls X.K C) (hm : Meth X.K C m f) (F : FnOk X.prog X.w X.K X.mg X.base (L2.CX X.prog X.w) k f fd ps sp) (hr : Room k X.A) (hb : Binds X.K fd ps [])
    (hx : ∀ σ, PassesAt (L2.CX X.prog X.w) X σ (E σ))
    (ht : eval (.Call (.Attribute o m apos) [] [] pos) X.env = (do
      let ov ← eval o X.env
      standAt apos.atName
      let (f, first) ← holding [ov] (getMethod ov m pl)
      callWith pos f first (backTo pos (starEach [] X.env)) (backToKw pos (keywordEach [] X.env))) := by rfl) :
    PE X (.Call (.Attribute o m apos) [] [] pos) (tMethE C m sp E ta tNil) := by
  refine ⟨fun pins s σ H Q I h => ?_⟩
  refine PySem.W.methodCall_KW (pl := pl) (thn (he.run pins s σ H _ I h) fun u s1 ⟨x, H1, I1, rx, a, dx, fs, ex, ea, l, q⟩ => ?_) ht
  subst ex
  obtain rfl : u = Value.ref a := rx
  refine getmeth_ok I1 ea c hm l ?_
  exact PySem.W.callWith_K0 (first := [.ref a]) I1.kIn hm.kp (run_fnS (us := [.ref a]) (vs := [.ref a]) F hr hb (hx σ) I1 (.cons rfl .nil) q)
/-- x.m(e, ..) -/
def eMeth (c m : Str) (g : FwT) (T : TeW) (Ts : TaW) : TeW := fun Γ W post => T Γ W (onO (fun p W1 => insW c W1 p fun fs => fs.lookup m = none ∧ Ts Γ W1 (fun r W2 => match r with
  | .vs as => g (.o p :: as) W2 post
  | .ex e => post (.ex e) W2)) (fun e W1 => post (.ex e) W1))
theorem ew_meth {j k : Nat} {c m : Str} {g : FwT} {o e : Expr} {es : List Expr} {apos pos : Pos} {T : TeW} {Ts : TaW} {pl : Sem Bool} (hc : Cls X.K (He.ga X.K c)) (M : MwK X.prog X.w X.K X.mg X.base j c m g) (hr : Room k X.A) (hx : ∀ σ, PassesAt (L2.CX X.prog X.w) X σ (E σ)) (ho : EW X B F0 n E o T) (ha : AW X B F0 n E (e :: es) Ts)
    (hk : j ≤ k := by decide) (hst : starEach (e :: es) X.env = (false, eval e X.env) :: starEach es X.env := by rfl) (hpl : (backTo pos (starEach es X.env)).any (·.1) = false := by rfl)
    (ht : eval (.Call (.Attribute o m apos) (e :: es) [] pos) X.env = (do
      let ov ← eval o X.env
      standAt apos.atName
      let (f, first) ← holding [ov] (getMethod ov m pl)
      callWith pos f first (backTo pos (starEach (e :: es) X.env)) (backToKw pos (keywordEach [] X.env))) := by rfl) :
    EW X B F0 n E (.Call (.Attribute o m apos) (e :: es) [] pos) (eMeth c m g T Ts) := by
  obtain ⟨f, fd, ps, ok, hm, hb⟩ := M.ex
  refine pe_imp (pe_methE (E := E) ho hc hm ok (hr.mono hk) hb hx ha hst hpl ht) fun σ H Q ⟨Γ, W, F, post, rel, t, fin⟩ => ?_
  refine ⟨Γ, W, F, _, rel, t, fun r1 W1 h1 => ?_⟩
  match r1, h1 with
  | .ex c, h1 => exact fin (.ex c) W1 h1
  | .v (.o p), h1 =>
    intro v F1 H1 rel1 s1 ar
    have ar : v = .ref p := ar
    subst ar
    obtain ⟨fs, hmm, hl, h2⟩ := insW_at h1
    obtain ⟨_, _, u, hu, ob⟩ := rel1.ok p _ hmm
    obtain ⟨dx, raw, rfl, fa⟩ := ob_ins ob
    refine ⟨p, dx, raw, rfl, hu, fa_none fa hl, Γ, W1, F1, _, rel1, h2, fun r2 W2 h3 => ?_⟩
    cases r2 with
    | ex e => exact fun C F' H' m rel' s => fin _ _ h3 C F' H' m rel' (s1.trans s)
    | vs as => exact fun vs F2 H2 rel2 s2 ars => callW_in rel2 (s1.trans s2) (.cons (ar_o p) ars) h3 fin
def eMeth0 (c m : Str) (g : FwT) (T : TeW) : TeW := fun Γ W post => T Γ W (onO (fun p W1 => insW c W1 p fun fs => fs.lookup m = none ∧ g [.o p] W1 post) (fun e W1 => post (.ex e) W1))
theorem ew_meth0 {j k : Nat} {c m : Str} {g : FwT} {o : Expr} {apos pos : Pos} {T : TeW} {pl : Sem Bool} (hc : Cls X.K (He.ga X.K c)) (M : MwK X.prog X.w X.K X.mg X.base j c m g) (hr : Room k X.A) (hx : ∀ σ, PassesAt (L2.CX X.prog X.w) X σ (E σ)) (ho : EW X B F0 n E o T)
    (hk : j ≤ k := by decide)
    (ht : eval (.Call (.Attribute o m apos) [] [] pos) X.env = (do
      let ov ← eval o X.env
      standAt apos.atName
      let (f, first) ← holding [ov] (getMethod ov m pl)
      callWith pos f first (backTo pos (starEach [] X.env)) (backToKw pos (keywordEach [] X.env))) := by rfl) :
    EW X B F0 n E (.Call (.Attribute o m apos) [] [] pos) (eMeth0 c m g T) := by
  obtain ⟨f, fd, ps, ok, hm, hb⟩ := M.ex
  refine pe_imp (pe_methE0 (E := E) ho hc hm ok (hr.mono hk) hb hx ht) fun σ H Q ⟨Γ, W, F, post, rel, t, fin⟩ => ?_
  refine ⟨Γ, W, F, _, rel, t, fun r1 W1 h1 => ?_⟩
  match r1, h1 with
  | .ex c, h1 => exact fin (.ex c) W1 h1
  | .v (.o p), h1 =>
    intro v F1 H1 rel1 s1 ar
    have ar : v = .ref p := ar
    subst ar
    obtain ⟨fs, hmm, hl, h2⟩ := insW_at h1
    obtain ⟨_, _, u, hu, ob⟩ := rel1.ok p _ hmm
    obtain ⟨dx, raw, rfl, fa⟩ := ob_ins ob
    exact ⟨p, dx, raw, rfl, hu, fa_none fa hl, callW_in rel1 s1 (.cons (ar_o p) .nil) h2 fin⟩
/-! C(e, ..) -/
def tMakeE (C : Addr) (sp : Sp) (E : L2.St → XK) (t : TA) : TE := fun σ H Q => t σ H fun vs H1 => ∀ x dx, H1 x = none → H1 dx = none → dx ≠ x → sp (.ref x :: vs) (upd (upd H1 dx (.own x)) x (.ins C dx [])) (fun v H2 => v = .non ∧ Q (.ref x) H2) (E σ)
theorem run_makeE {k : Nat} {C f : Addr} {fd : FuncData} {ps : List Str} {sp : Sp} {pins : List (Addr × Obj)} {σ : L2.St} {H : Hp} {s : Shared} {Q : VK} {us : List Value} {vs : List V} (M : Mk X.K C f) (F : FnOk X.prog X.w X.K X.mg X.base (L2.CX X.prog X.w) k f fd ps sp) (hr : Room (k + 1) X.A) (hb : Binds X.K fd ps [])
    (hx : PassesAt (L2.CX X.prog X.w) X σ (E σ)) (I : Inv X pins σ H s) (r : Vals vs us)
    (h : ∀ x dx, H x = none → H dx = none → dx ≠ x → sp (.ref x :: vs) (upd (upd H dx (.own x)) x (.ins C dx [])) (fun v H2 => v = .non ∧ Q (.ref x) H2) (E σ)) :
    wpAny (model X.prog X.w) X.A (call (.ref C) us) (EP X pins σ Q) X.xe s := by
  have hq := h (s.heap.objs.size + 1) s.heap.objs.size (I.hok.fresh (Nat.le_succ _)) (I.hok.fresh (Nat.le_refl _)) (Nat.ne_of_lt (Nat.lt_succ_self _))
  have I2 := Inv.made (C := C) I
  have r2 : Vals (V.ref (s.heap.objs.size + 1) :: vs) (Value.ref (s.heap.objs.size + 1) :: us) := .cons rfl r
  have hl : (Value.ref (s.heap.objs.size + 1) :: us).length = ps.length := by
    have e := r2.length
    rw [F.len _ _ _ _ hq] at e
    exact e.symm
  refine wpAny_call (make_map (f := f) I.kIn M.makes M.init (beq_iff_eq.mp M.fn) (codeAny_mono (F.run _ X.stack _ _ ⟨Value.ref (s.heap.objs.size + 1) :: us, []⟩ (Value.ref (s.heap.objs.size + 1) :: us) _ _ (E σ) (hr.make C us [])
    (I2.env0.make C us []) (by have := hb _ (Value.ref (s.heap.objs.size + 1) :: us) I2.kIn (by rw [List.append_nil]; exact hl); rwa [List.append_nil] at this) r2 hq) fun r s' hq' => ?_))
  cases r with
  | error e => exact hx pins _ _ e s' I2 hq'
  | ok fl =>
    cases fl with
    | ret u =>
      obtain ⟨v, H', I3, rv, ev, q3⟩ := I2.after hq'
      subst ev
      exact ⟨rv, ⟨V.ref (s.heap.objs.size + 1), H', I3, rfl, q3⟩⟩
    | next => exact False.elim hq'
    | brk => exact False.elim hq'
    | cont => exact False.elim hq'
theorem pe_makeE {k : Nat} {C f : Addr} {fd : FuncData} {ps : List Str} {sp : Sp} {x : Str} {p pos : Pos} {e : Expr} {es : List Expr} {t : TA} (M : Mk X.K C f) (F : FnOk X.prog X.w X.K X.mg X.base (L2.CX X.prog X.w) k f fd ps sp) (hr : Room (k + 1) X.A) (hg : Gl X x) (hm : X.mg x = some (.ref C)) (hb : Binds X.K fd ps []) (hx : ∀ σ, PassesAt (L2.CX X.prog X.w) X σ (E σ))
    (ha : PA X (e :: es) t) (hdb : (x == ("__debug__" : Str)) = false := by decide) (he : starEach (e :: es) X.env = (false, eval e X.env) :: starEach es X.env := by rfl) (hpl : (backTo pos (starEach es X.env)).any (·.1) = false := by rfl) :
    PE X (.Call (.Name x p) (e :: es) [] pos) (tMakeE C sp E t) := by
  refine ⟨fun pins s σ H Q I h => ?_⟩
  refine wpAny_Call_Name_kw (ld_glob I hg hm ?_ hdb)
  refine PySem.W.callWith_K (h₀ := X.base) I.ok.mod.kin M.kp (thn (ha.run pos pins s σ H _ I h) fun us s1 ⟨vs, H1, I1, r, q⟩ => ⟨I1.kIn, ?_⟩) he hpl
  exact run_makeE M F hr hb (hx σ) I1 r q
def eMake (c : Str) (g : FwT) (Ts : TaW) : TeW := fun Γ W post => Ts Γ W (fun r W1 => match r with
  | .ex e => post (.ex e) W1
  | .vs as => ∀ p, p ∉ W1.map (·.1) → g (.o p :: as) (W1 ++ [(p, .ins c [])]) (fun r W2 => match r with
    | .v (.d .none) => post (.v (.o p)) W2
    | .ex e => post (.ex e) W2
    | _ => False))
theorem ew_make {j k : Nat} {c : Str} {g : FwT} {p pos : Pos} {e : Expr} {es : List Expr} {Ts : TaW} (C : ClsK X.K X.mg c) (M : MwK X.prog X.w X.K X.mg X.base j c "__init__" g) (hr : Room k X.A) (hx : ∀ σ, PassesAt (L2.CX X.prog X.w) X σ (E σ)) (ha : AW X B F0 n E (e :: es) Ts)
    (hk : j + 1 ≤ k := by decide) (hg : Gl X c := by rfl) (hdb : (c == ("__debug__" : Str)) = false := by decide) (he : starEach (e :: es) X.env = (false, eval e X.env) :: starEach es X.env := by rfl) (hpl : (backTo pos (starEach es X.env)).any (·.1) = false := by rfl) :
    EW X B F0 n E (.Call (.Name c p) (e :: es) [] pos) (eMake c g Ts) := by
  obtain ⟨f, fd, ps, ok, hm, hb⟩ := M.ex
  have ef : f = He.ma X.K (He.ga X.K c) "__init__" := by
    have h1 := hm.at_
    rw [C.mkr.init] at h1
    have h2 := Option.some.inj (Option.some.inj h1)
    injection h2 with h3
    exact h3.symm
  subst ef
  refine pe_imp (pe_makeE (E := E) C.mkr ok (hr.mono hk) hg C.glo hb hx ha hdb he hpl) fun σ H Q ⟨Γ, W, F, post, rel, t, fin⟩ => ?_
  refine ⟨Γ, W, F, _, rel, t, fun r1 W1 h1 => ?_⟩
  cases r1 with
  | ex e => exact fin (.ex e) W1 h1
  | vs as =>
    intro vs F1 H1 rel1 s1 ars x dx hx0 hdx ne
    have nx : x ∉ W1.map (·.1) := fun z => by
      obtain ⟨_, _, u, e⟩ := rel1.at z
      rw [hx0] at e; cases e
    have x1 := new_ext rel1.sh.f hdx (.own x)
    have hx1 : upd H1 dx (.own x) x = none := by rw [upd_ne (fun z => ne z.symm)]; exact hx0
    have x2 := new_ext x1.fh hx1 (.ins (He.ga X.K c) dx [])
    have rel2 := rel1.new (x1.trans x2) (p := x) (u := .ins (He.ga X.K c) dx []) (k := .ins c []) hx0 upd_same (rel1.sh.f.free hx0) ⟨rfl, .nil⟩
    have h1 : ∀ p, p ∉ W1.map (·.1) → g (.o p :: as) (W1 ++ [(p, .ins c [])]) (fun r W2 => match r with
      | .v (.d .none) => post (.v (.o p)) W2
      | .ex e => post (.ex e) W2
      | _ => False) := h1
    refine callW_in (F := F1) (E := E) rel2 (Same.refl _) (.cons (ar_o x) ars) (h1 x nx) fun r W' hr => ?_
    match r, hr with
    | .ex e, hr => exact fun C F' H' m rel' s => fin _ _ hr C F' H' m rel' (s1.trans s)
    | .v (.d .none), hr =>
      intro v F' H' rel' s ar
      have ar : Dp X.K F' v .none := ar
      cases ar
      exact ⟨rfl, fin _ _ hr _ F' H' rel' (s1.trans s) rfl⟩
end
end ND
/-! ND42: the store layer: lists and dicts in the store; a def of data that makes things inside. -/
namespace ND
open PySem PySem.Spec PyProof.Rows L2
section
variable {X : Cx} {B F0 : Hp} {n : Nat} {E : L2.St → XK}
/-! ### [e, ..], a list that others may change -/
def eNewL (Ts : TaW) : TeW := fun Γ W post => Ts Γ W (fun r W1 => match r with
  | .ex e => post (.ex e) W1
  | .vs as => match allD as with
    | some ds => ds.length ≤ sizeLine ∧ ∀ p, p ∉ W1.map (·.1) → post (.v (.o p)) (W1 ++ [(p, .lst ds)])
    | none => False)
theorem ew_newL {es : List Expr} {pos : Pos} {Ts : TaW} (h : AW X B F0 n E es Ts) : EW X B F0 n E (.List es pos) (eNewL Ts) :=
  pe_imp (pe_lst h) fun σ H Q ⟨Γ, W, F, post, rel, t, fin⟩ => by
    refine ⟨Γ, W, F, _, rel, t, fun r1 W1 h1 => ?_⟩
    cases r1 with
    | ex e => exact fin (.ex e) W1 h1
    | vs as =>
      intro vs F1 H1 rel1 s1 ars
      have h1 : (match allD as with | some ds => ds.length ≤ sizeLine ∧ ∀ p, p ∉ W1.map (·.1) → post (.v (.o p)) (W1 ++ [(p, .lst ds)]) | none => False) := h1
      cases ea : allD as with
      | none => rw [ea] at h1; exact h1.elim
      | some ds =>
        rw [ea] at h1
        have dp := allD_ok ars ea
        refine ⟨by rw [dpa_length dp]; exact h1.1, fun p hp => ?_⟩
        have np : p ∉ W1.map (·.1) := fun z => by
          obtain ⟨_, _, u, e⟩ := rel1.at z
          rw [hp] at e; cases e
        have x := new_ext rel1.sh.f hp (.lst vs)
        exact fin _ _ (h1.2 p np) _ F1 _ (rel1.new x (u := .lst vs) (k := .lst ds) hp upd_same (rel1.sh.f.free hp) dp) s1 rfl
theorem ob_lst {K : PySem.W.Frag} {F : Hp} {u : HO} {ds : List D} (h : ObOk K F u (.lst ds)) : ∃ vs, u = .lst vs ∧ DpAll K F vs ds := by
  cases u with
  | lst vs => exact ⟨vs, rfl, h⟩
  | _ => exact h.elim
def lstW (W : Wd) (p : Addr) (k : List D → Prop) : Prop := match getW W p with
  | some (.lst ds) => k ds
  | _ => False
theorem lstW_at {W : Wd} {p : Addr} {k : List D → Prop} (h : lstW W p k) : ∃ ds, (p, Ob.lst ds) ∈ W ∧ k ds := by
  unfold lstW at h
  split at h
  · rename_i ds e
    exact ⟨ds, getW_mem e, h⟩
  · exact h.elim
def onI (k : Int → Wd → Prop) (ex : Str → Wd → Prop) : RX → Wd → Prop
  | .v (.d (.int i)), W => k i W
  | .v _, _ => False
  | .ex c, W => ex c W
def onDe (k : D → Wd → Prop) (ex : Str → Wd → Prop) : RX → Wd → Prop
  | .v (.d x), W => k x W
  | .v (.o _), _ => False
  | .ex c, W => ex c W
/-- o[k] = e, o a list of the store -/
def sPutL (To Tk T : TeW) : TsW := fun Γ W post => T Γ W (onDe (fun x W1 => To Γ W1 (onO (fun l W2 => Tk Γ W2 (onI (fun j W3 => lstW W3 l fun ds => match ixN ds.length j with
  | some m => post (.nx Γ) (setW W3 l (.lst (ds.set m x)))
  | none => False) (fun e W3 => post (.ex e Γ) W3))) (fun e W2 => post (.ex e Γ) W2))) (fun e W1 => post (.ex e Γ) W1))
theorem sw_putL {o k e : Expr} {p2 pos : Pos} {To Tk T : TeW} (he : EW X B F0 n E e T) (ho : EW X B F0 n E o To) (hk : EW X B F0 n E k Tk)
    (ha : ∀ v, assign (.Subscript o k p2) X.env v = (do
      let ov ← holding [v] (eval o X.env)
      let iv ← holding [v, ov] (eval k X.env)
      standAt p2
      holding [v, ov, iv] (setItem ov iv v)
      release [v, ov, iv] []) := by intro _; rfl)
    (hs : swapsWithSole [.Subscript o k p2] e pos.line X.env = pure false := by rfl) (hw : swappedStores [.Subscript o k p2] e X.env = pure none := by rfl)
    (h1 : (assignEach [.Subscript o k p2] X.env).map (·.2) = [assign (.Subscript o k p2) X.env] := by rfl) :
    SW X B F0 n E (.Assign [.Subscript o k p2] e pos) (sPutL To Tk T) :=
  ps_imp (ps_asg he (pg_sub ho hk set_list ha) hs hw h1) fun Dd σ H ⟨Γ, W, F, post, rel, t, fin⟩ => by
    refine ⟨Γ, W, F, _, rel, t, fun r1 W1 h1 => ?_⟩
    match r1, h1 with
    | .ex c, h1 => exact onE_ex (fin _ _ h1)
    | .v (.d x), h1 =>
      intro v F1 H1 rel1 s1 ar
      refine ⟨Γ, W1, F1, _, rel1, h1, fun r2 W2 h2 => ?_⟩
      match r2, h2 with
      | .ex c, h2 => exact onE_ex ((fin _ _ h2).mono s1)
      | .v (.o l), h2 =>
        intro v2 F2 H2 rel2 s2 ar2
        have ar2 : v2 = .ref l := ar2
        subst ar2
        refine ⟨Γ, W2, F2, _, rel2, h2, fun r3 W3 h3 => ?_⟩
        match r3, h3 with
        | .ex c, h3 => exact onE_ex ((fin _ _ h3).mono (s1.trans s2))
        | .v (.d (.int j)), h3 =>
          intro v3 F3 H3 rel3 s3 ar3
          have ar3 : Dp X.K F3 v3 (.int j) := ar3
          cases ar3
          obtain ⟨ds, hm, h4⟩ := lstW_at h3
          obtain ⟨_, _, u, hu, ob⟩ := rel3.ok l _ hm
          obtain ⟨vs, rfl, dp⟩ := ob_lst ob
          cases hx : ixN ds.length j with
          | none => rw [hx] at h4; exact h4.elim
          | some m =>
            rw [hx] at h4
            refine ⟨l, vs, j, m, rfl, rfl, hu, by rw [dpa_length dp]; exact hx, ?_⟩
            exact fin _ _ h4 σ F3 _ (rel3.put hm (k := .lst (ds.set m x)) (dpa_set (dp_mono (s2.trans s3) ar) m dp)) (s1.trans (s2.trans s3))
/-- tuple(o), o a list of the store -/
def eTupO (T : TeW) : TeW := fun Γ W post => T Γ W (onO (fun l W1 => lstW W1 l fun ds => post (.v (.d (.tuple ds))) W1) (fun e W1 => post (.ex e) W1))
theorem ew_tupO {e : Expr} {p pos : Pos} {T : TeW} (hg : Gl X "tuple") (hm : X.mg "tuple" = none) (h : EW X B F0 n E e T) (he : starEach [e] X.env = (false, eval e X.env) :: starEach [] X.env := by rfl) (hpl : (backTo pos (starEach [] X.env)).any (·.1) = false := by rfl) :
    EW X B F0 n E (.Call (.Name "tuple" p) [e] [] pos) (eTupO T) :=
  pe_imp (pe_callTy call_tuple_of hg hm bb_tuple (pa_cons h pa_nil he) (by decide) (by decide) he hpl) fun σ H Q ⟨Γ, W, F, post, rel, t, fin⟩ => by
    refine ⟨Γ, W, F, _, rel, t, fun r1 W1 h1 => ?_⟩
    match r1, h1 with
    | .ex c, h1 => exact fin (.ex c) W1 h1
    | .v (.o l), h1 =>
      intro v F1 H1 rel1 s1 ar
      have ar : v = .ref l := ar
      subst ar
      obtain ⟨ds, hm, h2⟩ := lstW_at h1
      obtain ⟨_, _, u, hu, ob⟩ := rel1.ok l _ hm
      obtain ⟨vs, rfl, dp⟩ := ob_lst ob
      refine ⟨l, vs, rfl, .inl ⟨.inl (.inl hu), fun q hq => ?_⟩⟩
      have fn : Fin X.K F1 H1 (.tuple ds) Q := fun v2 F2 H2 x2 dp2 => fin _ _ h2 v2 F2 H2 (rel1.ext x2) (s1.trans x2.f) dp2
      exact fn.newT rel1.sh.f dp q hq
end
/-! ### a def of data that makes things inside -/
def MeetsR (g : FwT) (ds : List D) (r : R D) : Prop := match r with
  | .ok d => ∀ post : RX → Wd → Prop, (∀ W, post (.v (.d d)) W) → g (ds.map .d) [] post
  | .exc c => ∀ post : RX → Wd → Prop, (∀ W, post (.ex c) W) → g (ds.map .d) [] post
  | .bad => True
theorem ars_d {K : PySem.W.Frag} {F : Hp} : ∀ {vs : List V} {ds : List D}, DpAll K F vs ds → ArsOk K F vs (ds.map .d)
  | _, _, .nil => .nil
  | _, _, .cons h t => .cons h (ars_d t)
theorem fk_of_fw {P : Program} {w : World} {K : PySem.W.Frag} {mg : Str → Option Value} {base : Heap} {k : Nat} {x : Str} {g : FwT} {f : List D → R D} (F : FwK P w K mg base k x g) (h : ∀ ds, MeetsR g ds (f ds)) : FK P w K mg base k x f := by
  obtain ⟨fa, fd, ps, ok, hm, kp, hb⟩ := F.ex
  refine ⟨fa, fd, ps, ok.imp fun vs H Q E ⟨ds, F, s, dp, o⟩ => ?_, hm, kp, hb⟩
  have ext : ∀ {F' H' W'}, PostW K F H [] F' H' W' → Ext F H F' H' := fun q => ⟨q.f, fun a u e => q.h a u e (by simp), q.fh, q.no⟩
  have hd := h ds
  revert hd o
  cases f ds with
  | ok d =>
    intro o hd
    refine ⟨_, [], F, fun r W' => r = .v (.d d), ⟨s, by simp, fun p k h => by cases h⟩, ars_d dp, hd _ fun _ => rfl, fun r W' e => ?_⟩
    subst e
    exact fun v F' H' q ar => o v F' H' (ext q) ar
  | exc c =>
    intro o hd
    refine ⟨_, [], F, fun r W' => r = .ex c, ⟨s, by simp, fun p k h => by cases h⟩, ars_d dp, hd _ fun _ => rfl, fun r W' e => ?_⟩
    subst e
    exact fun C F' H' m q => o C F' H' m (ext q)
  | bad => exact fun o => o.elim
end ND
/-! ND43: the store layer: classes and methods as they stand; what the walk of a class wants. -/
namespace ND
open PySem PySem.Spec PyProof.Rows L2
section
variable {ft : List Ft} {fn : List He.DefD} {K : PySem.W.Frag} {h : Heap} {mg : Str → Option Value}
/-- a method as it stands -/
structure MetIs (K : PySem.W.Frag) (c m q : Str) (st : Stmt) : Prop where
  ex : ∃ fd, FunD K m q (defArgs st) (defBody st) (defScope st) [] [] (He.ma K (He.ga K c) m) fd
def mkM (c m q : Str) (st : Stmt) : He.DefD := ⟨(c, some m), m, q, defArgs st, defBody st, defScope st, [], []⟩
/-- a class's j-th statement -/
def inC (st : Stmt) (j : Nat) : Stmt := match st with
  | .ClassDef _ _ _ b _ _ _ _ _ _ _ => b.getD j (.Pass ⟨0, 0, 0, 0⟩)
  | _ => .Pass ⟨0, 0, 0, 0⟩
theorem SaysN.met (X : K.In h) (G : h.Ns mainGlobals mg) (c : SaysN ft fn K) (i : Nat) {cc m q : Str} {st : Stmt} (hi : fn[i]? = some (mkM cc m q st) := by rfl) : MetIs K cc m q st := by
  have c2 := (He.ba (show ((ft.all fun f => f.ok K) && fn.all fun d => (He.Fa.glo d.at_.1).ok K && d.ok K) = true from congrArg (fun z : Obs => z.1) c)).2
  have e : fn.map (fun d => He.fnW K d.at_) = fn.map He.DefD.val := congrArg (fun z : Obs => z.2) c
  have e2 : (fn.map fun d => He.fnW K d.at_)[i]? = (fn.map He.DefD.val)[i]? := by rw [e]
  rw [List.getElem?_map, List.getElem?_map, hi] at e2
  obtain ⟨g1, g2⟩ := He.ba (List.all_eq_true.mp c2 _ (List.mem_of_getElem? hi))
  obtain ⟨fd, F⟩ := He.DefD.funD (d := mkM cc m q st) (Option.some.inj e2) g2
  exact ⟨fd, F⟩
theorem SaysN.fcls (X : K.In h) (G : h.Ns mainGlobals mg) (c : SaysN ft fn K) (i : Nat) {x : Str} (hi : ft[i]? = some (.fa (.cls x)) := by rfl) : Cls K (He.ga K x) := He.cls_ok (c.fact i hi)
theorem SaysN.fmkr (X : K.In h) (G : h.Ns mainGlobals mg) (c : SaysN ft fn K) (i : Nat) {x : Str} (hi : ft[i]? = some (.fa (.mkr x)) := by rfl) : Mk K (He.ga K x) (He.ma K (He.ga K x) "__init__") := He.mkr_ok (c.fact i hi)
theorem SaysN.fglo (X : K.In h) (G : h.Ns mainGlobals mg) (c : SaysN ft fn K) (i : Nat) {x : Str} (hi : ft[i]? = some (.fa (.glo x)) := by rfl) : mg x = some (.ref (He.ga K x)) := He.glo_ok X G (c.fact i hi)
theorem SaysN.fnoat (X : K.In h) (G : h.Ns mainGlobals mg) (c : SaysN ft fn K) (i : Nat) {x f : Str} (hi : ft[i]? = some (.fa (.noat x f)) := by rfl) : NoAttr K (He.ga K x) f := He.noat_ok (c.fact i hi)
theorem SaysN.fmeth (X : K.In h) (G : h.Ns mainGlobals mg) (c : SaysN ft fn K) (i : Nat) {x m : Str} (hi : ft[i]? = some (.fa (.meth x m)) := by rfl) : Meth K (He.ga K x) m (He.ma K (He.ga K x) m) := He.meth_ok (c.fact i hi)
end
theorem mwk_of {P : Program} {w : World} {K : PySem.W.Frag} {mg : Str → Option Value} {base : Heap} {c m q : Str} {st : Stmt} {N ps : List Str} {k : Nat} {T : TsW}
    (Ti : MetIs K c m q st) (hm : Meth K (He.ga K c) m (He.ma K (He.ga K c) m)) (S : FnScope N ps (defScope st))
    (hb : ∀ (kV doc pm : Value) (an : Option Addr) (cdv ct : Value) (us : List Value), us.length = ps.length → bindArgs (PySem.W.fnOf m q (defArgs st) (defBody st) (defScope st) .none kV doc pm an cdv ct) ⟨us, []⟩ = pure (ps.zip us))
    (body_ok : ∀ (f : Addr) (cdv : Value) (A : Around) (outer : List Env) (s : Shared) (H F0 B : Hp) (E : XK), OkD (cxOf (L2.CX P w) P w K mg base N q (defScope st) f cdv A outer s H E) (fun _ => E) k →
      SWs (cxOf (L2.CX P w) P w K mg base N q (defScope st) f cdv A outer s H E) B F0 N.length (fun _ => E) (defBody st) T) :
    MwK P w K mg base (k + 1) c m (runW N.length ps.length T) := by
  obtain ⟨fd, Fd⟩ := Ti.ex
  exact ⟨_, fd, ps, fnW_of Fd S (body_ok _), hm, Fd.bindsN hb⟩
theorem fwk_of {P : Program} {w : World} {K : PySem.W.Frag} {mg : Str → Option Value} {base : Heap} {x : Str} {st : Stmt} {N ps : List Str} {k : Nat} {T : TsW}
    (Ti : DefIs K mg x st) (S : FnScope N ps (defScope st))
    (hb : ∀ (kV doc pm : Value) (an : Option Addr) (cdv ct : Value) (us : List Value), us.length = ps.length → bindArgs (PySem.W.fnOf x x (defArgs st) (defBody st) (defScope st) .none kV doc pm an cdv ct) ⟨us, []⟩ = pure (ps.zip us))
    (body_ok : ∀ (f : Addr) (cdv : Value) (A : Around) (outer : List Env) (s : Shared) (H F0 B : Hp) (E : XK), OkD (cxOf (L2.CX P w) P w K mg base N x (defScope st) f cdv A outer s H E) (fun _ => E) k →
      SWs (cxOf (L2.CX P w) P w K mg base N x (defScope st) f cdv A outer s H E) B F0 N.length (fun _ => E) (defBody st) T) :
    FwK P w K mg base (k + 1) x (runW N.length ps.length T) := by
  obtain ⟨f, fd, Fd, hm⟩ := Ti.ex
  exact ⟨f, fd, ps, fnW_of Fd S (body_ok f), hm, Fd.kp, Fd.bindsN hb⟩
end ND
/-! ND44: the store layer: comparisons as tests; defs of data that make things inside, closed. -/
namespace ND
open PySem PySem.Spec PyProof.Rows L2
section
variable {X : Cx} {B F0 : Hp} {n : Nat} {E : L2.St → XK}
theorem tw_cmp {f : D → D → R D} {Ta Tb : TeW} {ea eb : Expr} {op : CmpOp} {pos : Pos} (o : OpD X (compareOp op) f) (ha : EW X B F0 n E ea Ta) (hb : EW X B F0 n E eb Tb) (hm : behindInMarks op eb = false := by first | exact nobehind _ (by decide) (by decide) | rfl) :
    TW X B F0 n E (.Compare ea [op] [eb] pos) (tVal (eOp f Ta Tb)) :=
  pt_imp (pt_cmpR o.op ha hb hm) fun σ H Q ⟨Γ, W, F, post, rel, t, fin⟩ => by
    have h : tEW X.K X.mg B F0 n E (eOp f Ta Tb) σ H (fun x H1 => ∃ c, x = .bl c ∧ Q c H1) := by
      refine ⟨Γ, W, F, _, rel, t, fun r1 W1 h1 => ?_⟩
      match r1, h1 with
      | .ex c, h1 => exact fin (.ex c) W1 h1
      | .v (.d (.bool c)), h1 =>
        intro v F1 H1 rel1 s1 dp1
        have dp1 : Dp X.K F1 v (.bool c) := dp1
        cases dp1
        exact ⟨c, rfl, fin _ _ h1 F1 H1 rel1 s1⟩
    exact ew_op2 o.calm (fun _ _ _ _ h => h) σ H _ h
end
/-! a def from data to data, whatever it makes inside: what it answers -/
open Classical in
noncomputable def closeF (g : FwT) (ds : List D) : R D :=
  if h : ∃ d, ∀ post : RX → Wd → Prop, (∀ W, post (.v (.d d)) W) → g (ds.map .d) [] post then .ok h.choose
  else if h : ∃ c, ∀ post : RX → Wd → Prop, (∀ W, post (.ex c) W) → g (ds.map .d) [] post then .exc h.choose
  else .bad
theorem closeF_meets (g : FwT) (ds : List D) : MeetsR g ds (closeF g ds) := by
  unfold closeF
  split
  · rename_i h; exact h.choose_spec
  · split
    · rename_i h; exact h.choose_spec
    · trivial
theorem fk_close {P : Program} {w : World} {K : PySem.W.Frag} {mg : Str → Option Value} {base : Heap} {k : Nat} {x : Str} {g : FwT} (F : FwK P w K mg base k x g) : FK P w K mg base k x (closeF g) := fk_of_fw F (closeF_meets g)
theorem closeF_ok {g : FwT} {ds : List D} {d : D} (h1 : ∀ post : RX → Wd → Prop, (∀ W, post (.v (.d d)) W) → g (ds.map .d) [] post) (h2 : ∀ post : RX → Wd → Prop, g (ds.map .d) [] post → ∃ W, post (.v (.d d)) W) : closeF g ds = .ok d := by
  have hx : ∃ d, ∀ post : RX → Wd → Prop, (∀ W, post (.v (.d d)) W) → g (ds.map .d) [] post := ⟨d, h1⟩
  unfold closeF
  rw [dif_pos hx]
  obtain ⟨W, e⟩ := h2 _ (hx.choose_spec (fun r _ => r = .v (.d hx.choose)) fun _ => rfl)
  injection e with e
  injection e with e
  rw [← e]
theorem closeF_exc {g : FwT} {ds : List D} {c : Str} (h1 : ∀ post : RX → Wd → Prop, (∀ W, post (.ex c) W) → g (ds.map .d) [] post) (h2 : ∀ post : RX → Wd → Prop, g (ds.map .d) [] post → ∃ W, post (.ex c) W) : closeF g ds = .exc c := by
  have hx : ∃ c, ∀ post : RX → Wd → Prop, (∀ W, post (.ex c) W) → g (ds.map .d) [] post := ⟨c, h1⟩
  have hn : ¬ ∃ d, ∀ post : RX → Wd → Prop, (∀ W, post (.v (.d d)) W) → g (ds.map .d) [] post := fun ⟨d, hd⟩ => by
    obtain ⟨W, e⟩ := h2 _ (hd (fun r _ => r = .v (.d d)) fun _ => rfl)
    cases e
  unfold closeF
  rw [dif_neg hn, dif_pos hx]
  obtain ⟨W, e⟩ := h2 _ (hx.choose_spec (fun r _ => r = .ex hx.choose) fun _ => rfl)
  injection e with e
  rw [← e]
end ND
namespace ND
open PySem PySem.Spec L2
/-! ### paths: the plain law -/
def pSign (c : Nat) : Bool := decide (c ∈ SM) || (decide (c ∈ FG) || decide (c ∈ OT))
def isPathL (a : Tx) : Bool := decide (1 ≤ a.length) && decide (a.length ≤ 20) && (a.head? == some 47) && a.all pSign
theorem isPathL_iff {a : Tx} : isPathL a = true ↔ (a.length ≤ 20 ∧ (∃ l, a = 47 :: l) ∧ ∀ c ∈ a, pSign c = true) := by
  unfold isPathL
  cases a with
  | nil => simp
  | cons x l => simp [and_assoc]
theorem path_ne {a : Tx} (h : isPathL a = true) : a ≠ [] := by
  obtain ⟨_, ⟨l, rfl⟩, _⟩ := isPathL_iff.mp h
  simp
theorem path_len {a : Tx} (h : isPathL a = true) : a.length ≤ 20 := (isPathL_iff.mp h).1
/-- what stands ahead of the last c -/
def upto (c : Nat) : Tx → Tx
  | [] => []
  | x :: l => if c ∈ l then x :: upto c l else []
theorem last_cut {c : Nat} : ∀ {a : Tx}, c ∈ a → ∃ post, a = upto c a ++ c :: post ∧ c ∉ post
  | [], h => by simp at h
  | x :: l, h => by
    unfold upto
    by_cases hl : c ∈ l
    · obtain ⟨post, e, hp⟩ := last_cut hl
      refine ⟨post, ?_, hp⟩
      rw [if_pos hl, List.cons_append, ← e]
    · rw [if_neg hl]
      rcases List.mem_cons.mp h with rfl | h
      · exact ⟨l, rfl, hl⟩
      · exact absurd h hl
theorem upto_app {c : Nat} {post : Tx} (h : c ∉ post) : ∀ pre : Tx, upto c (pre ++ c :: post) = pre
  | [] => by simp [upto, h]
  | x :: pre => by
    rw [List.cons_append]
    unfold upto
    rw [if_pos (by simp), upto_app h pre]
theorem splC_free {c : Nat} : ∀ {l : Tx}, c ∉ l → splC c l = [l]
  | [], _ => rfl
  | x :: l, h => by
    unfold splC
    rw [if_neg (fun e => h (by simp [e])), splC_free fun hm => h (by simp [hm])]
theorem splC_cons (c x : Nat) (l : Tx) : splC c (x :: l) = if x = c then [] :: splC c l else match splC c l with
    | p :: ps => (x :: p) :: ps
    | [] => [[x]] := rfl
theorem splC_app (c : Nat) (post : Tx) : ∀ pre : Tx, splC c (pre ++ c :: post) = splC c pre ++ splC c post
  | [] => by simp [splC]
  | x :: pre => by
    rw [List.cons_append, splC_cons, splC_cons, splC_app c post pre]
    by_cases h : x = c
    · simp [h]
    · rw [if_neg h, if_neg h]
      cases e : splC c pre with
      | nil => exact absurd e (splC_ne c pre)
      | cons p ps => rfl
theorem join_splC (c : Nat) : ∀ l : Tx, TL.joinL [c] (splC c l) = l
  | [] => rfl
  | x :: l => by
    unfold splC
    have ih := join_splC c l
    by_cases h : x = c
    · rw [if_pos h]
      cases e : splC c l with
      | nil => exact absurd e (splC_ne c l)
      | cons p ps =>
        rw [e] at ih
        show [] ++ ([c] ++ TL.joinL [c] (p :: ps)) = _
        rw [ih, h]
        rfl
    · rw [if_neg h]
      cases e : splC c l with
      | nil => exact absurd e (splC_ne c l)
      | cons p ps =>
        rw [e] at ih
        cases ps with
        | nil =>
          have ih' : p = l := ih
          show x :: p = x :: l
          rw [ih']
        | cons q qs =>
          have ih' : p ++ ([c] ++ TL.joinL [c] (q :: qs)) = l := ih
          show (x :: p) ++ ([c] ++ TL.joinL [c] (q :: qs)) = x :: l
          rw [← ih']
          rfl
theorem splC_len (c : Nat) : ∀ l : Tx, (splC c l).length = l.count c + 1
  | [] => rfl
  | x :: l => by
    unfold splC
    have ih := splC_len c l
    by_cases h : x = c
    · subst h; simp [ih]
    · rw [if_neg h, List.count_cons_of_ne (by simpa using h)]
      cases e : splC c l with
      | nil => exact absurd e (splC_ne c l)
      | cons p ps => rw [e] at ih; simpa using ih
theorem splC_pieces (c : Nat) : ∀ l : Tx, ∀ p ∈ splC c l, c ∉ p ∧ ∀ x ∈ p, x ∈ l
  | [], p, hp => by simp [splC] at hp; subst hp; simp
  | x :: l, p, hp => by
    unfold splC at hp
    have ih := splC_pieces c l
    by_cases h : x = c
    · rw [if_pos h] at hp
      rcases List.mem_cons.mp hp with rfl | hp
      · simp
      · exact ⟨(ih p hp).1, fun y hy => by simp [(ih p hp).2 y hy]⟩
    · rw [if_neg h] at hp
      cases e : splC c l with
      | nil => exact absurd e (splC_ne c l)
      | cons q qs =>
        rw [e] at hp ih
        rcases List.mem_cons.mp hp with rfl | hp
        · have := ih q (by simp)
          exact ⟨by simp [this.1, Ne.symm h], fun y hy => by
            rcases List.mem_cons.mp hy with rfl | hy
            · simp
            · simp [this.2 y hy]⟩
        · have := ih p (by simp [hp])
          exact ⟨this.1, fun y hy => by simp [this.2 y hy]⟩
theorem joinL_len (c : Nat) : ∀ ps : List Tx, (ps.map List.length).sum + ps.length ≤ (TL.joinL [c] ps).length + 1
  | [] => by simp
  | [p] => by simp [TL.joinL]
  | p :: q :: r => by
    have := joinL_len c (q :: r)
    have e : TL.joinL [c] (p :: q :: r) = p ++ ([c] ++ TL.joinL [c] (q :: r)) := rfl
    rw [e]
    simp at this ⊢
    omega
theorem sum_dropLast (ps : List Tx) : (ps.dropLast.map List.length).sum ≤ (ps.map List.length).sum := by
  rw [List.dropLast_eq_take]
  have e : ((ps.take (ps.length - 1)).map List.length).sum + ((ps.drop (ps.length - 1)).map List.length).sum = (ps.map List.length).sum := by
    rw [← List.sum_append, ← List.map_append, List.take_append_drop]
  omega
/-- a path's folder -/
def folderL (a : Tx) : Tx := if upto 47 a = [] then [47] else upto 47 a
/-- the program's folder is this, of a path -/
theorem folder_parts {a : Tx} (h : ∃ l, a = 47 :: l) : (if (splC 47 a).length = 2 then [47] else TL.joinL [47] (splC 47 a).dropLast) = folderL a := by
  obtain ⟨l, rfl⟩ := h
  obtain ⟨post, e, hp⟩ := last_cut (c := 47) (a := 47 :: l) (by simp)
  unfold folderL
  generalize upto 47 (47 :: l) = pre at e
  rw [e]
  rw [splC_app, splC_free hp, List.dropLast_concat, join_splC]
  simp only [List.length_append, splC_len, List.length_singleton]
  cases pre with
  | nil => simp
  | cons x pre =>
    injection e with e1 e2
    subst e1
    simp
def isUnderL (p t : Tx) : Bool := decide (p = t) || (t.isPrefixOf p && ((t.getLast? == some 47) || (p[t.length]? == some 47)))
theorem under_iff {p t : Tx} : isUnderL p t = true ↔ (p = t ∨ t <+: p ∧ (t.getLast? = some 47 ∨ p[t.length]? = some 47)) := by
  unfold isUnderL
  simp [List.isPrefixOf_iff_prefix]
theorem under_refl (p : Tx) : isUnderL p p = true := under_iff.mpr (.inl rfl)
theorem under_bar {p : Tx} (h : isPathL p = true) : isUnderL p [47] = true := by
  obtain ⟨_, ⟨l, rfl⟩, _⟩ := isPathL_iff.mp h
  exact under_iff.mpr (.inr ⟨by simp, .inl rfl⟩)
theorem under_trans {p t r : Tx} (h : isUnderL p t = true) (k : isUnderL t r = true) : isUnderL p r = true := by
  rw [under_iff] at h k ⊢
  rcases h with rfl | ⟨h1, h2⟩
  · exact k
  · rcases k with rfl | ⟨k1, k2⟩
    · exact .inr ⟨h1, h2⟩
    · refine .inr ⟨k1.trans h1, ?_⟩
      rcases k2 with k2 | k2
      · exact .inl k2
      · right
        obtain ⟨u, rfl⟩ := h1
        have hl : r.length < t.length := by
          rw [List.getElem?_eq_some_iff] at k2
          exact k2.1
        rw [List.getElem?_append_left hl]
        exact k2
theorem under_anti {p t : Tx} (h : isUnderL p t = true) (k : isUnderL t p = true) : p = t := by
  rw [under_iff] at h k
  rcases h with h | ⟨h1, _⟩
  · exact h
  · rcases k with k | ⟨k1, _⟩
    · exact k.symm
    · exact k1.eq_of_length (Nat.le_antisymm k1.length_le h1.length_le)
theorem folder_path {p : Tx} (h : isPathL p = true) : isPathL (folderL p) = true := by
  obtain ⟨h1, ⟨l, e⟩, h3⟩ := isPathL_iff.mp h
  obtain ⟨post, e2, hp⟩ := last_cut (c := 47) (a := p) (by simp [e])
  unfold folderL
  by_cases hn : upto 47 p = []
  · rw [if_pos hn]; decide
  · rw [if_neg hn]
    generalize upto 47 p = pre at e2 hn
    subst e2
    refine isPathL_iff.mpr ⟨by rw [List.length_append] at h1; omega, ?_, fun c hc => h3 c (by simp [hc])⟩
    cases pre with
    | nil => exact absurd rfl hn
    | cons x pre => injection e with e1 e2; exact ⟨pre, by rw [e1]⟩
theorem folder_len {p : Tx} (h : isPathL p = true) : (folderL p).length ≤ p.length ∧ ((folderL p).length < p.length ∨ p = [47]) := by
  obtain ⟨h1, ⟨l, e⟩, h3⟩ := isPathL_iff.mp h
  obtain ⟨post, e2, hp⟩ := last_cut (c := 47) (a := p) (by simp [e])
  unfold folderL
  by_cases hn : upto 47 p = []
  · rw [if_pos hn]
    subst e
    cases l with
    | nil => simp
    | cons y l => simp
  · rw [if_neg hn]
    have := congrArg List.length e2
    simp at this
    omega
theorem folder_under {p : Tx} (h : isPathL p = true) : isUnderL p (folderL p) = true := by
  obtain ⟨h1, ⟨l, e⟩, h3⟩ := isPathL_iff.mp h
  obtain ⟨post, e2, hp⟩ := last_cut (c := 47) (a := p) (by simp [e])
  unfold folderL
  by_cases hn : upto 47 p = []
  · rw [if_pos hn]; exact under_bar h
  · rw [if_neg hn]
    generalize upto 47 p = pre at e2
    subst e2
    exact under_iff.mpr (.inr ⟨List.prefix_append _ _, .inr (by simp)⟩)
theorem folder_self {p : Tx} (h : isPathL p = true) (e : folderL p = p) : p = [47] := by
  rcases (folder_len h).2 with h2 | h2
  · rw [e] at h2; omega
  · exact h2
def folders : Nat → Tx → Tx
  | 0, p => p
  | n + 1, p => folders n (folderL p)
theorem folders_path : ∀ (n : Nat) {p : Tx}, isPathL p = true → isPathL (folders n p) = true
  | 0, _, h => h
  | n + 1, p, h => folders_path n (folder_path h)
theorem folder_bar : folderL [47] = [47] := by decide
theorem folders_bar : ∀ (n : Nat) {p : Tx}, isPathL p = true → p.length ≤ n + 1 → folders n p = [47]
  | 0, p, h, hl => by
    obtain ⟨h1, ⟨l, e⟩, h3⟩ := isPathL_iff.mp h
    subst e
    cases l with
    | nil => rfl
    | cons y l => simp at hl
  | n + 1, p, h, hl => by
    show folders n (folderL p) = [47]
    refine folders_bar n (folder_path h) ?_
    rcases (folder_len h).2 with h2 | h2
    · omega
    · subst h2; rw [folder_bar]; simp
theorem under_more {p q : Tx} : isUnderL (p ++ 47 :: q) p = true := under_iff.mpr (.inr ⟨List.prefix_append _ _, .inr (by simp)⟩)
theorem under_sign {p : Tx} {c : Nat} (hc : c ≠ 47) : isUnderL (p ++ [c]) p = (p.getLast? == some 47) := by
  rw [Bool.eq_iff_iff, under_iff]
  simp [hc]
theorem folder_more {p q : Tx} (hp : p ≠ []) (hq : 47 ∉ q) : folderL (p ++ 47 :: q) = p := by
  unfold folderL
  rw [upto_app hq, if_neg hp]
theorem path_app {p q : Tx} (h : isPathL p = true) (hl : p.length + q.length ≤ 20) (hq : ∀ c ∈ q, pSign c = true) : isPathL (p ++ q) = true := by
  obtain ⟨_, ⟨l, el⟩, k3⟩ := isPathL_iff.mp h
  refine isPathL_iff.mpr ⟨by simp; omega, ⟨l ++ q, by rw [el]; rfl⟩, fun c hc => ?_⟩
  rcases List.mem_append.mp hc with hc | hc
  · exact k3 c hc
  · exact hq c hc
theorem folders_succ : ∀ (n : Nat) (x : Tx), folders (n + 1) x = folderL (folders n x)
  | 0, _ => rfl
  | n + 1, x => folders_succ n (folderL x)
/-- by begins -/
theorem under_due {p t : Tx} : isUnderL p t = (decide (p = t) || ((t ++ [47]).isPrefixOf p || ((t.getLast? == some 47) && t.isPrefixOf p))) := by
  rw [Bool.eq_iff_iff, under_iff]
  simp only [Bool.or_eq_true, Bool.and_eq_true, decide_eq_true_eq, List.isPrefixOf_iff_prefix, beq_iff_eq]
  constructor
  · rintro (h | ⟨⟨u, rfl⟩, h | h⟩)
    · exact .inl h
    · exact .inr (.inr ⟨h, List.prefix_append _ _⟩)
    · right; left
      cases u with
      | nil => simp at h
      | cons x u =>
        simp at h
        subst h
        exact ⟨u, by simp⟩
  · rintro (h | ⟨u, rfl⟩ | ⟨h1, h2⟩)
    · exact .inl h
    · exact .inr ⟨⟨47 :: u, by simp⟩, .inr (by simp)⟩
    · exact .inr ⟨h2, .inl h1⟩
end ND
namespace ND
open PySem PySem.Spec L2
/-! ### names: the plain law. A name is told by its labels P; dots P is the text. -/
abbrev dots (P : List Tx) : Tx := TL.joinL [46] P
def lSign (c : Nat) : Bool := decide (c ∈ SM) || (decide (c ∈ FG) || decide (c = 45))
def isLabelL (a : Tx) : Bool := decide (1 ≤ a.length) && decide (a.length ≤ 8) && !(decide (a.head? = some 45) || decide (a.getLast? = some 45)) && a.all lSign
def figs (a : Tx) : Bool := a.all fun c => decide (c ∈ FG)
def isNameP (P : List Tx) : Bool := decide (P ≠ []) && decide (P.length ≤ 5) && P.all isLabelL && !figs (P.getLastD [])
def isNameL (a : Tx) : Bool := isNameP (splC 46 a)
theorem isNameP_iff {P : List Tx} : isNameP P = true ↔ (P ≠ [] ∧ P.length ≤ 5 ∧ (∀ p ∈ P, isLabelL p = true) ∧ figs (P.getLastD []) = false) := by
  unfold isNameP
  simp [and_assoc]
theorem label_len {a : Tx} (h : isLabelL a = true) : 1 ≤ a.length ∧ a.length ≤ 8 := by
  unfold isLabelL at h
  simp at h
  omega
theorem label_sign {a : Tx} (h : isLabelL a = true) : ∀ c ∈ a, lSign c = true := by
  unfold isLabelL at h
  simp at h
  exact h.2
theorem label_dot {a : Tx} (h : isLabelL a = true) : 46 ∉ a := fun hm => by
  have := label_sign h 46 hm
  revert this
  decide
theorem label_uni {a : Tx} (h : isLabelL a = true) : ∀ c ∈ a, c < 128 := by
  intro c hc
  have := label_sign h c hc
  unfold lSign at this
  simp [SM, FG] at this
  omega
theorem dots_cons (p q : Tx) (r : List Tx) : dots (p :: q :: r) = p ++ (46 :: dots (q :: r)) := rfl
theorem dots_one (p : Tx) : dots [p] = p := rfl
theorem splC_join {c : Nat} : ∀ {P : List Tx}, P ≠ [] → (∀ p ∈ P, c ∉ p) → splC c (TL.joinL [c] P) = P
  | [], h, _ => absurd rfl h
  | [p], _, hp => splC_free (hp p (by simp))
  | p :: q :: r, _, hp => by
    have e : TL.joinL [c] (p :: q :: r) = p ++ c :: TL.joinL [c] (q :: r) := rfl
    rw [e, splC_app, splC_free (hp p (by simp)), splC_join (by simp) fun x hx => hp x (by simp [hx])]
    rfl
theorem name_parts {P : List Tx} (h : isNameP P = true) : splC 46 (dots P) = P := by
  obtain ⟨h1, _, h3, _⟩ := isNameP_iff.mp h
  exact splC_join h1 fun p hp => label_dot (h3 p hp)
theorem name_text {P : List Tx} (h : isNameP P = true) : isNameL (dots P) = true := by
  unfold isNameL
  rw [name_parts h]
  exact h
theorem text_name {a : Tx} (h : isNameL a = true) : ∃ P, isNameP P = true ∧ a = dots P := ⟨_, h, (join_splC 46 a).symm⟩
theorem dots_len : ∀ {P : List Tx}, (∀ p ∈ P, p.length ≤ 8) → (dots P).length ≤ 9 * P.length
  | [], _ => by simp [TL.joinL]
  | [p], h => by
    have := h p (by simp)
    show p.length ≤ _
    simp
    omega
  | p :: q :: r, h => by
    have h1 := h p (by simp)
    have ih := dots_len (P := q :: r) fun x hx => h x (by simp [hx])
    rw [dots_cons]
    simp at ih ⊢
    omega
theorem name_len {P : List Tx} (h : isNameP P = true) : (dots P).length ≤ 45 := by
  obtain ⟨_, h2, h3, _⟩ := isNameP_iff.mp h
  have := dots_len fun p hp => (label_len (h3 p hp)).2
  omega
theorem name_ne {P : List Tx} (h : isNameP P = true) : P ≠ [] := (isNameP_iff.mp h).1
theorem name_inj {P Q : List Tx} (hp : isNameP P = true) (hq : isNameP Q = true) (e : dots P = dots Q) : P = Q := by
  rw [← name_parts hp, e, name_parts hq]
theorem getLastD_suffix {α : Type} {s P : List α} (d : α) (h : s <:+ P) (hs : s ≠ []) : s.getLastD d = P.getLastD d := by
  obtain ⟨u, rfl⟩ := h
  rw [List.getLastD_eq_getLast?, List.getLastD_eq_getLast?, List.getLast?_append, List.getLast?_eq_some_getLast hs]
  rfl
theorem name_suffix {s P : List Tx} (hP : isNameP P = true) (h : s <:+ P) (hs : s ≠ []) : isNameP s = true := by
  obtain ⟨h1, h2, h3, h4⟩ := isNameP_iff.mp hP
  refine isNameP_iff.mpr ⟨hs, ?_, fun p hp => h3 p (h.subset hp), by rw [getLastD_suffix [] h hs]; exact h4⟩
  have := h.length_le
  omega
/-- all ends, as labels, the longest first -/
def sufs : List Tx → List (List Tx)
  | [] => []
  | p :: P => (p :: P) :: sufs P
theorem mem_sufs {s : List Tx} : ∀ {P : List Tx}, s ∈ sufs P ↔ s ≠ [] ∧ s <:+ P
  | [] => by simp [sufs]
  | p :: P => by
    unfold sufs
    rw [List.mem_cons, mem_sufs, List.suffix_cons_iff]
    constructor
    · rintro (rfl | ⟨h1, h2⟩)
      · exact ⟨by simp, .inl rfl⟩
      · exact ⟨h1, .inr h2⟩
    · rintro ⟨h1, h2 | h2⟩
      · exact .inl h2
      · exact .inr ⟨h1, h2⟩
theorem sufs_range : ∀ (P : List Tx), (List.range P.length).map (fun k => P.drop k) = sufs P
  | [] => rfl
  | p :: P => by
    rw [List.length_cons, List.range_succ_eq_map, List.map_cons, List.map_map]
    unfold sufs
    congr 1
    exact sufs_range P
theorem sufs_get : ∀ (P : List Tx) (i : Nat), (sufs P)[i]? = if i < P.length then some (P.drop i) else none
  | [], i => by simp [sufs]
  | p :: P, 0 => by simp [sufs]
  | p :: P, i + 1 => by
    unfold sufs
    rw [List.getElem?_cons_succ, sufs_get P i]
    simp
theorem sufs_length : ∀ P : List Tx, (sufs P).length = P.length
  | [] => rfl
  | p :: P => by simp [sufs, sufs_length P]
def endsL (P : List Tx) : List Tx := (sufs P).map dots
/-- within: an end of labels -/
theorem within_iff {P Q : List Tx} (hP : isNameP P = true) (hQ : isNameP Q = true) : dots Q ∈ endsL P ↔ Q <:+ P := by
  unfold endsL
  rw [List.mem_map]
  constructor
  · rintro ⟨s, hs, e⟩
    obtain ⟨h1, h2⟩ := mem_sufs.mp hs
    rw [← name_inj (name_suffix hP h2 h1) hQ e]
    exact h2
  · intro h
    exact ⟨Q, mem_sufs.mpr ⟨name_ne hQ, h⟩, rfl⟩
/-! rules, tables -/
def isRuleL (a : Tx) : Bool := if a.take 2 = [42, 46] then isNameL (a.drop 2) else if a.take 1 = [33] then isNameL (a.drop 1) && decide (46 ∈ a) else isNameL a
def isTableL (tb : List Tx) : Bool := decide (tb.length ≤ 8) && tb.all isRuleL && (tb.zip tb.tail).all fun p => decide (p.1 < p.2)
theorem table_rule {tb : List Tx} (h : isTableL tb = true) : ∀ r ∈ tb, isRuleL r = true := by
  unfold isTableL at h
  simp at h
  exact h.1.2
/-- a call in a table is of two labels or more -/
theorem call_two {tb : List Tx} (h : isTableL tb = true) {s : List Tx} (hs : isNameP s = true) (hm : 33 :: dots s ∈ tb) : 2 ≤ s.length := by
  have r := table_rule h _ hm
  unfold isRuleL at r
  have e1 : ¬ (33 :: dots s).take 2 = [42, 46] := by
    intro e
    cases hd : dots s <;> rw [hd] at e <;> simp at e
  rw [if_neg e1, if_pos (by simp)] at r
  simp at r
  have r2 := r.2
  match s, hs, r2 with
  | [], hs, _ => exact absurd rfl (name_ne hs)
  | [p], hs, r2 =>
    have := label_dot ((isNameP_iff.mp hs).2.2.1 p (by simp))
    exact absurd r2 this
  | p :: q :: r, _, _ => simp
def isMetP (tb : List Tx) (s : List Tx) : Bool := decide (dots s ∈ tb) || (decide (2 ≤ s.length) && decide (42 :: 46 :: dots s.tail ∈ tb))
def callP (tb : List Tx) (s : List Tx) : Bool := decide (33 :: dots s ∈ tb)
def openP (tb : List Tx) (P : List Tx) : List Tx := match (sufs P).find? (callP tb) with
  | some s => s.tail
  | none => match (sufs P).find? (isMetP tb) with
    | some s => s
    | none => P.drop (P.length - 1)
def ownP (tb : List Tx) (P : List Tx) : Option (List Tx) := if openP tb P = P then none else some (P.drop (P.length - (openP tb P).length - 1))
theorem suf_eq {α : Type} {s t P : List α} (h1 : s <:+ P) (h2 : t <:+ P) (h : s.length = t.length) : s = t := by
  have e1 := List.suffix_iff_eq_drop.mp h1
  have e2 := List.suffix_iff_eq_drop.mp h2
  rw [e1, e2, h]
theorem suf_le {α : Type} {s t P : List α} (h1 : s <:+ P) (h2 : t <:+ P) (h : s.length ≤ t.length) : s <:+ t := List.suffix_of_suffix_length_le h1 h2 h
theorem open_suf {tb P : List Tx} (ht : isTableL tb = true) (hP : isNameP P = true) : openP tb P <:+ P ∧ openP tb P ≠ [] := by
  unfold openP
  split
  · rename_i s hs
    obtain ⟨h1, h2⟩ := mem_sufs.mp (List.mem_of_find?_eq_some hs)
    have hc := List.find?_some hs
    have := call_two ht (name_suffix hP h2 h1) (by unfold callP at hc; simpa using hc)
    refine ⟨(List.tail_suffix s).trans h2, fun e => ?_⟩
    have l := congrArg List.length e
    simp at l
    omega
  · split
    · rename_i s hs
      obtain ⟨h1, h2⟩ := mem_sufs.mp (List.mem_of_find?_eq_some hs)
      exact ⟨h2, h1⟩
    · refine ⟨List.drop_suffix _ _, fun e => ?_⟩
      have l := congrArg List.length e
      have := List.length_pos_iff.mpr (name_ne hP)
      simp at l
      omega
theorem open_name {tb P : List Tx} (ht : isTableL tb = true) (hP : isNameP P = true) : isNameP (openP tb P) = true := name_suffix hP (open_suf ht hP).1 (open_suf ht hP).2
/-- the longer ends come first -/
theorem sufs_split {s : List Tx} : ∀ {P : List Tx}, s <:+ P → s ≠ [] → ∃ pre, sufs P = pre ++ sufs s ∧ ∀ t ∈ pre, s.length < t.length
  | [], h, hs => by simp at h; exact absurd h hs
  | p :: P, h, hs => by
    rcases List.suffix_cons_iff.mp h with rfl | h2
    · exact ⟨[], rfl, by simp⟩
    · obtain ⟨pre, e, hp⟩ := sufs_split h2 hs
      refine ⟨(p :: P) :: pre, by rw [sufs, e]; rfl, fun t ht => ?_⟩
      rcases List.mem_cons.mp ht with rfl | ht
      · have := h2.length_le
        simp
        omega
      · exact hp t ht
/-- an end that is longer than the open end has the same open end -/
theorem open_of_suf {tb P s : List Tx} (ht : isTableL tb = true) (hP : isNameP P = true) (h : s <:+ P) (hl : (openP tb P).length < s.length) : openP tb s = openP tb P := by
  have hs : s ≠ [] := by
    intro e
    subst e
    simp at hl
  obtain ⟨pre, e, hp⟩ := sufs_split h hs
  unfold openP at hl ⊢
  rw [e] at hl ⊢
  rw [List.find?_append] at hl ⊢
  cases e1 : pre.find? (callP tb) with
  | some x =>
    rw [e1] at hl
    simp at hl
    have hx := hp x (List.mem_of_find?_eq_some e1)
    omega
  | none =>
    rw [e1] at hl
    simp only [Option.none_or] at hl ⊢
    cases e2 : (sufs s).find? (callP tb) with
    | some x => rfl
    | none =>
      rw [e2] at hl
      simp only at hl ⊢
      rw [List.find?_append] at hl ⊢
      cases e3 : pre.find? (isMetP tb) with
      | some x =>
        rw [e3] at hl
        simp at hl
        have hx := hp x (List.mem_of_find?_eq_some e3)
        omega
      | none =>
        rw [e3] at hl
        simp only [Option.none_or] at hl ⊢
        cases e4 : (sufs s).find? (isMetP tb) with
        | some x => rfl
        | none =>
          simp only
          have h1 := List.length_pos_iff.mpr hs
          have h2 := List.length_pos_iff.mpr (name_ne hP)
          exact suf_eq (P := P) ((List.drop_suffix _ _).trans h) (List.drop_suffix _ _) (by simp; omega)
theorem own_spec {tb P : List Tx} (ht : isTableL tb = true) (hP : isNameP P = true) : (ownP tb P = none ∧ openP tb P = P) ∨ ∃ s, ownP tb P = some s ∧ s <:+ P ∧ s.length = (openP tb P).length + 1 ∧ openP tb P ≠ P ∧ isNameP s = true ∧ openP tb s = openP tb P ∧ s.tail = openP tb P := by
  unfold ownP
  obtain ⟨h1, h2⟩ := open_suf ht hP
  by_cases e : openP tb P = P
  · rw [if_pos e]
    exact .inl ⟨rfl, e⟩
  · rw [if_neg e]
    have hlt : (openP tb P).length < P.length := by
      rcases Nat.lt_or_eq_of_le h1.length_le with h | h
      · exact h
      · exact absurd (h1.eq_of_length h) e
    have hs : (P.drop (P.length - (openP tb P).length - 1)) <:+ P := List.drop_suffix _ _
    have hl : (P.drop (P.length - (openP tb P).length - 1)).length = (openP tb P).length + 1 := by
      rw [List.length_drop]
      omega
    have hne : (P.drop (P.length - (openP tb P).length - 1)) ≠ [] := by
      intro e2
      rw [e2] at hl
      simp at hl
    refine .inr ⟨_, rfl, hs, hl, e, name_suffix hP hs hne, open_of_suf ht hP hs (by omega), ?_⟩
    exact suf_eq ((List.tail_suffix _).trans hs) h1 (by rw [List.length_tail]; omega)
theorem own_own {tb P s : List Tx} (ht : isTableL tb = true) (hP : isNameP P = true) (h : ownP tb P = some s) : ownP tb s = some s := by
  rcases own_spec ht hP with ⟨h1, _⟩ | ⟨t, h1, h2, h3, h4, h5, h6, h7⟩
  · rw [h1] at h; cases h
  · rw [h1] at h
    cases h
    unfold ownP
    have : ¬ openP tb s = s := by
      intro e
      rw [h6] at e
      have := congrArg List.length e
      omega
    rw [if_neg this, h6]
    have e2 : s.length - (openP tb P).length - 1 = 0 := by omega
    rw [e2, List.drop_zero]
theorem dots_dot {s : List Tx} (h : isNameP s = true) : (46 ∈ dots s) ↔ 2 ≤ s.length := by
  obtain ⟨h1, _, h3, _⟩ := isNameP_iff.mp h
  match s, h1, h3 with
  | [p], _, h3 =>
    have := label_dot (h3 p (by simp))
    simp [dots_one, this]
  | p :: q :: r, _, _ => simp [dots_cons]
theorem dots_tail {s : List Tx} (h : isNameP s = true) (h2 : 2 ≤ s.length) : (dots s).drop ((dots s).idxOf 46) = 46 :: dots s.tail := by
  obtain ⟨h1, _, h3, _⟩ := isNameP_iff.mp h
  match s, h3, h2 with
  | p :: q :: r, h3, _ =>
    have hp := label_dot (h3 p (by simp))
    have e : (dots (p :: q :: r)).idxOf 46 = p.length := by
      rw [dots_cons]
      refine idxOf_at (by simp) fun j hj e2 => hp ?_
      rw [List.getElem?_append_left hj] at e2
      exact List.mem_of_getElem? e2
    rw [e, dots_cons, List.drop_left]
    rfl
theorem label_nil : isLabelL [] = false := by decide
theorem dots_uni {P : List Tx} (h : isNameP P = true) : Uni (dots P) := by
  obtain ⟨_, _, h3, _⟩ := isNameP_iff.mp h
  have key : ∀ (Q : List Tx), (∀ p ∈ Q, isLabelL p = true) → ∀ c ∈ dots Q, c < 0x110000 := by
    intro Q
    induction Q with
    | nil => intro _ c hc; simp [TL.joinL] at hc
    | cons p Q ih =>
      intro hQ c hc
      cases Q with
      | nil => have := label_uni (hQ p (by simp)) c hc; omega
      | cons q r =>
        rw [dots_cons] at hc
        rcases List.mem_append.mp hc with hc | hc
        · have := label_uni (hQ p (by simp)) c hc; omega
        · rcases List.mem_cons.mp hc with rfl | hc
          · decide
          · exact ih (fun x hx => hQ x (by simp [hx])) c hc
  exact key P h3
theorem open_longer {tb P : List Tx} {p : Tx} (hc : callP tb (p :: P) = false) (hm : isMetP tb (p :: P) = false) (hP : P ≠ []) : openP tb (p :: P) = openP tb P := by
  have hl := List.length_pos_iff.mpr hP
  unfold openP
  rw [sufs, List.find?_cons, hc, List.find?_cons, hm]
  have e : (p :: P).drop ((p :: P).length - 1) = P.drop (P.length - 1) := by
    rw [List.length_cons, Nat.add_sub_cancel]
    obtain ⟨n, hn⟩ : ∃ n, P.length = n + 1 := ⟨P.length - 1, by omega⟩
    rw [hn]
    rfl
  rw [e]
theorem own_longer {tb P s : List Tx} {p : Tx} (ht : isTableL tb = true) (hP : isNameP P = true) (hc : callP tb (p :: P) = false) (hm : isMetP tb (p :: P) = false) (h : ownP tb P = some s) : ownP tb (p :: P) = some s := by
  have ho := open_longer (tb := tb) (p := p) hc hm (name_ne hP)
  obtain ⟨h1, h2⟩ := open_suf ht hP
  have hle := h1.length_le
  rcases own_spec ht hP with ⟨e, _⟩ | ⟨t, e, g2, g3, g4, g5, g6, g7⟩
  · rw [e] at h; cases h
  · rw [e] at h
    cases h
    unfold ownP
    have hne : openP tb (p :: P) ≠ p :: P := by
      rw [ho]
      intro e
      have := congrArg List.length e
      simp at this
      omega
    rw [if_neg hne, ho]
    congr 1
    exact suf_eq (List.drop_suffix _ _) (g2.trans (List.suffix_cons p P)) (by rw [List.length_drop, List.length_cons]; omega)
theorem open_self {tb Q : List Tx} (h : openP tb Q = Q) (hQ : Q ≠ []) : Q.length ≤ 1 ∨ isMetP tb Q = true := by
  have hl := List.length_pos_iff.mpr hQ
  unfold openP at h
  split at h
  · rename_i s hs
    obtain ⟨h1, h2⟩ := mem_sufs.mp (List.mem_of_find?_eq_some hs)
    have := h2.length_le
    have e := congrArg List.length h
    rw [List.length_tail] at e
    omega
  · split at h
    · rename_i s hs
      have := List.find?_some hs
      rw [h] at this
      exact .inr this
    · have e := congrArg List.length h
      rw [List.length_drop] at e
      omega
theorem open_nil {P : List Tx} (hP : P ≠ []) : openP [] P = [P.getLast hP] := by
  unfold openP
  have h1 : (sufs P).find? (callP []) = none := List.find?_eq_none.mpr fun s _ => by simp [callP]
  have h2 : (sufs P).find? (isMetP []) = none := List.find?_eq_none.mpr fun s _ => by simp [isMetP]
  rw [h1]
  simp only
  rw [h2]
  have hl := List.length_pos_iff.mpr hP
  exact suf_eq (P := P) (List.drop_suffix _ _) ⟨P.dropLast, List.dropLast_concat_getLast hP⟩ (by rw [List.length_drop, List.length_singleton]; omega)
def optD : Option (List Tx) → D
  | none => .none
  | some s => T (dots s)
@[simp] theorem optD_none : optD none = .none := (rfl)
@[simp] theorem optD_some (s : List Tx) : optD (some s) = T (dots s) := (rfl)
/-- near: no origin, the same house, the same own end -/
def nearP (tb P : List Tx) (O : Option (List Tx)) : Bool := match O with
  | none => true
  | some Q => decide (Q = P) || ((ownP tb P).isSome && decide (ownP tb P = ownP tb Q))
def askD (s : Bool) (P : List Tx) (p : Tx) (O : Option (List Tx)) : D := .tuple [.bool s, T (dots P), T p, optD O]
def OptN (O : Option (List Tx)) : Prop := ∀ Q, O = some Q → isNameP Q = true
theorem dots_tail' {s : List Tx} (h : isNameP s = true) (h2 : 2 ≤ s.length) : (dots s).drop ((dots s).idxOf 46 + 1) = dots s.tail := by
  have := congrArg List.tail (dots_tail h h2)
  rwa [List.tail_cons, List.tail_drop] at this
end ND
namespace ND
open PySem PySem.Spec L2
/-! ### what is given, notes: the plain law -/
def nSign (c : Nat) : Bool := decide (c ∈ SM) || (decide (c ∈ GR) || (decide (c ∈ FG) || decide (c ∈ [45, 95])))
def isNoteNameL (a : Tx) : Bool := decide (1 ≤ a.length) && decide (a.length ≤ 10) && a.all nSign
def wSign (c : Nat) : Bool := decide (33 ≤ c) && decide (c ≤ 126) && !decide (c ∈ [59, 44, 61])
def isWorthL (a : Tx) : Bool := decide (a.length ≤ 12) && a.all wSign
theorem noteName_iff {a : Tx} : isNoteNameL a = true ↔ (1 ≤ a.length ∧ a.length ≤ 10 ∧ ∀ c ∈ a, nSign c = true) := by
  unfold isNoteNameL
  rw [Bool.and_eq_true, Bool.and_eq_true, decide_eq_true_eq, decide_eq_true_eq, List.all_eq_true, and_assoc]
theorem worth_iff {a : Tx} : isWorthL a = true ↔ (a.length ≤ 12 ∧ ∀ c ∈ a, wSign c = true) := by
  unfold isWorthL
  rw [Bool.and_eq_true, decide_eq_true_eq, List.all_eq_true]
theorem nSign_lt {c : Nat} (h : nSign c = true) : c < 128 := by
  unfold nSign SM GR FG at h
  simp at h
  omega
theorem wSign_lt {c : Nat} (h : wSign c = true) : c < 128 := by
  unfold wSign at h
  simp at h
  omega
theorem pSign_lt {c : Nat} (h : pSign c = true) : c < 128 := by
  unfold pSign SM FG OT at h
  simp at h
  omega
theorem noteName_uni {a : Tx} (h : isNoteNameL a = true) : Uni a := fun c hc => by have := nSign_lt ((noteName_iff.mp h).2.2 c hc); omega
theorem worth_uni {a : Tx} (h : isWorthL a = true) : Uni a := fun c hc => by have := wSign_lt ((worth_iff.mp h).2 c hc); omega
theorem path_uni' {a : Tx} (h : isPathL a = true) : Uni a := fun c hc => by have := pSign_lt ((isPathL_iff.mp h).2.2 c hc); omega
structure Giv where
  name : Tx
  worth : Tx
  house : Option (List Tx)
  path : Option Tx
  till : Option Int
  lasts : Option Int
  safe : Bool
  near : Bool
def Mom (o : Option Int) : Prop := ∀ i, o = some i → 0 ≤ i ∧ i ≤ 9999
structure GivOk (g : Giv) : Prop where
  name : isNoteNameL g.name = true
  worth : isWorthL g.worth = true
  house : OptN g.house
  path : ∀ q, g.path = some q → isPathL q = true
  till : Mom g.till
  lasts : Mom g.lasts
def optP (o : Option Tx) : D := match o with
  | none => .none
  | some p => T p
def optI (o : Option Int) : D := match o with
  | none => .none
  | some i => .int i
@[simp] theorem optP_none : optP none = .none := (rfl)
@[simp] theorem optP_some (p : Tx) : optP (some p) = T p := (rfl)
@[simp] theorem optI_none : optI none = .none := (rfl)
@[simp] theorem optI_some (i : Int) : optI (some i) = .int i := (rfl)
@[simp] theorem isNone_int (i : Int) : isNone (.int i) = false := (rfl)
@[simp] theorem isNone_bool (i : Bool) : isNone (.bool i) = false := (rfl)
@[simp] theorem isNone_tuple (l : List D) : isNone (.tuple l) = false := (rfl)
@[simp] theorem isNone_list (l : List D) : isNone (.list l) = false := (rfl)
@[simp] theorem isNone_optP (o : Option Tx) : isNone (optP o) = o.isNone := by cases o <;> rfl
@[simp] theorem isNone_optI (o : Option Int) : isNone (optI o) = o.isNone := by cases o <;> rfl
def reachT (b : Bool) : D := if b then T [110, 101, 97, 114] else T [97, 110, 121]
def givD (g : Giv) : D := .tuple [T g.name, T g.worth, optD g.house, optP g.path, optI g.till, optI g.lasts, .bool g.safe, reachT g.near]
def exactP (tb P : List Tx) (H : Option (List Tx)) : Bool := match H with
  | none => true
  | some Q => decide (Q = P) && decide (openP tb Q = Q)
def wForeign : Tx := [102, 111, 114, 101, 105, 103, 110]
def wOpen : Tx := [111, 112, 101, 110]
def wUnsafe : Tx := [117, 110, 115, 97, 102, 101]
def wMarked : Tx := [109, 97, 114, 107, 101, 100]
def wFar : Tx := [102, 97, 114]
/-- why it is refused -/
def whyG (tb : List Tx) (s : Bool) (P : List Tx) (O : Option (List Tx)) (g : Giv) : Option Tx :=
  if (match g.house with | none => false | some Q => !decide (Q <:+ P)) = true then some wForeign
  else if (match g.house with | none => false | some Q => !decide (Q = P) && decide (openP tb Q = Q)) = true then some wOpen
  else if (g.safe && !s) = true then some wUnsafe
  else if (decide (g.name.take 5 = [115, 97, 102, 101, 45]) && !g.safe) = true then some wMarked
  else if (decide (g.name.take 4 = [111, 119, 110, 45]) && !(g.safe && (exactP tb P g.house && decide (g.path = some [47])))) = true then some wMarked
  else if (g.near && !nearP tb P O) = true then some wFar else none
structure Nt where
  name : Tx
  worth : Tx
  house : List Tx
  exact : Bool
  path : Tx
  ends : Option Int
  safe : Bool
  near : Bool
  made : Int
  used : Int
  deriving DecidableEq
structure NtOk (n : Nt) : Prop where
  name : isNoteNameL n.name = true
  worth : isWorthL n.worth = true
  house : isNameP n.house = true
  path : isPathL n.path = true
  ends : Mom n.ends
  made : 0 ≤ n.made ∧ n.made ≤ n.used
  used : n.used ≤ 9999
def noteD (n : Nt) : D := .tuple [T n.name, T n.worth, T (dots n.house), .bool n.exact, T n.path, optI n.ends, .bool n.safe, reachT n.near, .int n.made, .int n.used]
def endOf (g : Giv) (now : Int) : Option Int := match g.lasts with
  | some l => some (if now + l < 9999 then now + l else 9999)
  | none => g.till
def madeN (tb P : List Tx) (p : Tx) (g : Giv) (now : Int) : Nt :=
  { name := g.name, worth := g.worth, house := g.house.getD P, exact := exactP tb P g.house, path := g.path.getD (folderL p), ends := endOf g now, safe := g.safe, near := g.near, made := now, used := now }
theorem madeN_ok {tb P : List Tx} {p : Tx} {g : Giv} {now : Int} (hg : GivOk g) (hP : isNameP P = true) (hp : isPathL p = true) (h0 : 0 ≤ now) (h1 : now ≤ 9999) : NtOk (madeN tb P p g now) where
  name := hg.name
  worth := hg.worth
  house := by
    show isNameP (g.house.getD P) = true
    cases e : g.house with
    | none => exact hP
    | some Q => exact hg.house Q e
  path := by
    show isPathL (g.path.getD (folderL p)) = true
    cases e : g.path with
    | none => exact folder_path hp
    | some q => exact hg.path q e
  ends := by
    show Mom (endOf g now)
    unfold endOf
    cases e : g.lasts with
    | none => exact hg.till
    | some l =>
      have := hg.lasts l e
      intro i hi
      have hi' := Option.some.inj hi
      split at hi' <;> omega
  made := ⟨h0, Int.le_refl _⟩
  used := h1
def endedN (n : Nt) (now : Int) : Bool := match n.ends with
  | none => false
  | some e => decide (e ≤ now)
def forN (n : Nt) (P : List Tx) : Bool := if n.exact then decide (n.house = P) else decide (n.house <:+ P)
def goesN (tb : List Tx) (n : Nt) (s : Bool) (P : List Tx) (p : Tx) (O : Option (List Tx)) (now : Int) : Bool :=
  !endedN n now && (forN n P && (isUnderL p n.path && (!(n.safe && !s) && (!n.near || nearP tb P O))))
def keyD (n : Nt) : D := .tuple [T n.name, T (dots n.house), T n.path]
end ND
/-! MJ: jars. -/
namespace ND
def keyT (n : Nt) : Tx × List Tx × Tx := (n.name, n.house, n.path)
def jarD (J : List Nt) : D := .tuple (J.map noteD)
structure JarOk (J : List Nt) : Prop where
  all : ∀ n ∈ J, NtOk n
  few : J.length ≤ 20
  keys : (J.map keyT).Nodup
  ord : (J.map (·.made)).Pairwise (· ≤ ·)
def sweptJ (J : List Nt) (now : Int) : List Nt := J.filter fun n => !endedN n now
def inPlace (n old : Nt) : Nt := { n with made := old.made }
def hasKey (J : List Nt) (n : Nt) : Bool := decide (keyT n ∈ J.map keyT)
def putPl (J : List Nt) (n : Nt) : List Nt := J.map fun old => if keyT old = keyT n then inPlace n old else old
def putJ (J : List Nt) (n : Nt) : List Nt := if hasKey J n = true then putPl J n else J ++ [n]
theorem keyT_inPlace (n old : Nt) : keyT (inPlace n old) = keyT n := rfl
theorem jar_sub {J J' : List Nt} (h : JarOk J) (s : J'.Sublist J) : JarOk J' :=
  ⟨fun n hn => h.all n (s.subset hn), Nat.le_trans s.length_le h.few, h.keys.sublist (s.map _), h.ord.sublist (s.map _)⟩
theorem jar_swept {J : List Nt} (h : JarOk J) (now : Int) : JarOk (sweptJ J now) := jar_sub h List.filter_sublist
theorem putPl_keys (J : List Nt) (n : Nt) : (putPl J n).map keyT = J.map keyT := by
  unfold putPl
  rw [List.map_map]
  apply List.map_congr_left
  intro old _
  simp only [Function.comp]
  split
  · rename_i e
    rw [keyT_inPlace, e]
  · rfl
theorem putPl_made (J : List Nt) (n : Nt) : (putPl J n).map (·.made) = J.map (·.made) := by
  unfold putPl
  rw [List.map_map]
  apply List.map_congr_left
  intro old _
  simp only [Function.comp]
  split <;> rfl
theorem jar_put {J : List Nt} (h : JarOk J) {n : Nt} (hn : NtOk n) (late : ∀ old ∈ J, old.made ≤ n.made) (room : J.length < 20) : JarOk (putJ J n) := by
  unfold putJ
  split
  · refine ⟨fun m hm => ?_, by unfold putPl; rw [List.length_map]; exact h.few, by rw [putPl_keys]; exact h.keys, by rw [putPl_made]; exact h.ord⟩
    unfold putPl at hm
    obtain ⟨old, ho, rfl⟩ := List.mem_map.mp hm
    split
    · have a := h.all old ho
      have b := late old ho
      exact ⟨hn.name, hn.worth, hn.house, hn.path, hn.ends, ⟨a.made.1, Int.le_trans b hn.made.2⟩, hn.used⟩
    · exact h.all old ho
  · rename_i no
    refine ⟨fun m hm => ?_, by rw [List.length_append]; exact room, ?_, ?_⟩
    · rcases List.mem_append.mp hm with k | k
      · exact h.all m k
      · rw [List.mem_singleton.mp k]
        exact hn
    · rw [List.map_append]
      refine List.nodup_append.mpr ⟨h.keys, by simp, fun a ha b hb e => ?_⟩
      simp at hb
      subst hb
      subst e
      exact no (decide_eq_true ha)
    · rw [List.map_append]
      refine List.pairwise_append.mpr ⟨h.ord, by simp, fun a ha b hb => ?_⟩
      obtain ⟨old, ho, rfl⟩ := List.mem_map.mp ha
      simp at hb
      subst hb
      exact late old ho
theorem mem_putJ {J : List Nt} {n : Nt} : ∃ m ∈ putJ J n, keyT m = keyT n := by
  unfold putJ hasKey
  split
  · rename_i h
    have h := of_decide_eq_true h
    rw [← putPl_keys J n] at h
    obtain ⟨m, hm, e⟩ := List.mem_map.mp h
    exact ⟨m, hm, e⟩
  · exact ⟨n, by simp, rfl⟩
theorem putJ_keys (J : List Nt) (n : Nt) : (putJ J n).map keyT = if hasKey J n = true then J.map keyT else J.map keyT ++ [keyT n] := by
  unfold putJ
  split
  · exact putPl_keys J n
  · simp
theorem putJ_has (J : List Nt) (n : Nt) : hasKey (putJ J n) n = true := by
  obtain ⟨m, hm, e⟩ := mem_putJ (J := J) (n := n)
  exact decide_eq_true (e ▸ List.mem_map_of_mem hm)
theorem putJ_other (J : List Nt) (n : Nt) : (putJ J n).filter (fun m => !decide (keyT m = keyT n)) = J.filter fun m => !decide (keyT m = keyT n) := by
  unfold putJ
  split
  · unfold putPl
    rename_i h
    clear h
    induction J with
    | nil => rfl
    | cons old J ih =>
      rw [List.map_cons, List.filter_cons, List.filter_cons, ih]
      by_cases e : keyT old = keyT n
      · simp [e, keyT_inPlace]
      · simp [e]
  · simp
theorem putJ_same {m n : Nt} {J : List Nt} (h : m ∈ putJ J n) (e : keyT m = keyT n) : { m with made := n.made } = n := by
  unfold putJ at h
  split at h
  · unfold putPl at h
    obtain ⟨old, _, rfl⟩ := List.mem_map.mp h
    split at e
    · rename_i k
      rw [if_pos k]
      rfl
    · rename_i k
      exact absurd e k
  · rename_i no
    rcases List.mem_append.mp h with k | k
    · exact absurd (decide_eq_true (e ▸ List.mem_map_of_mem k)) no
    · rw [List.mem_singleton.mp k]
theorem putJ_twice (J : List Nt) (n : Nt) : putJ (putJ J n) n = putJ J n := by
  have h := putJ_has J n
  have e : putJ (putJ J n) n = putPl (putJ J n) n := by
    show (if hasKey (putJ J n) n = true then putPl (putJ J n) n else putJ J n ++ [n]) = _
    rw [if_pos h]
  rw [e]
  unfold putPl
  conv => rhs; rw [← List.map_id (putJ J n)]
  apply List.map_congr_left
  intro m hm
  split
  · rename_i k
    have z := putJ_same hm k
    show inPlace n m = m
    rw [← z]
    rfl
  · rfl
end ND
/-! MT: the text of a jar. -/
namespace ND
open PySem PySem.Spec L2
def numT (i : Int) : Tx := TL.numL i.toNat
theorem num_str {i : Int} (h0 : 0 ≤ i) : (PyData.str (toString i) : D) = T (numT i) := by
  obtain ⟨n, rfl⟩ := Int.eq_ofNat_of_zero_le h0
  have := TL.tl_num n
  unfold T numT
  congr 1
  apply TL.ext_tl
  exact this
theorem numT_len {i : Int} (h1 : i ≤ 9999) : (numT i).length ≤ 4 := TL.numL_len (by decide) (by omega)
theorem numT_ne (i : Int) : numT i ≠ [] := TL.numL_ne _
theorem numT_free {i : Int} {s : Nat} (h : s < 48 ∨ 57 < s) : s ∉ numT i := TL.numL_free h
theorem numT_dig {i : Int} {c : Nat} (h : c ∈ numT i) : c ∈ FG := by
  have : 48 ≤ c ∧ c ≤ 57 := TL.numL_digits _ c h
  have e : c = 48 ∨ c = 49 ∨ c = 50 ∨ c = 51 ∨ c = 52 ∨ c = 53 ∨ c = 54 ∨ c = 55 ∨ c = 56 ∨ c = 57 := by omega
  unfold FG
  simp
  omega
theorem numT_inj {i j : Int} (hi : 0 ≤ i) (hj : 0 ≤ j) (h : numT i = numT j) : i = j := by
  have := TL.numL_inj h
  omega
theorem fStr_num {i : Int} (h0 : 0 ≤ i) (h1 : i ≤ 9999) : fStr [.int i] = .ok (T (numT i)) := by
  have e0 : fStr [.int i] = if i.natAbs.log2 < 1920 then .ok (.str (toString i)) else .bad := rfl
  have : i.natAbs.log2 < 1920 := by
    have := Nat.log2_le_self i.natAbs
    by_cases h : i.natAbs = 0
    · rw [h]; decide
    · have := (Nat.log2_lt h (k := 14)).mpr (by omega)
      omega
  rw [e0, if_pos this, num_str h0]
/-- the moment of a word -/
def momT (a : Tx) : Option Int := if 1 ≤ a.length ∧ a.length ≤ 4 ∧ a.all (fun c => decide (c ∈ FG)) = true then some ((NumText.digitsVal a : Nat) : Int) else none
theorem momT_num {i : Int} (h0 : 0 ≤ i) (h1 : i ≤ 9999) : momT (numT i) = some i := by
  unfold momT
  have hne := numT_ne i
  have hl := numT_len h1
  have hp : 1 ≤ (numT i).length := List.length_pos_iff.mpr hne
  have hd : (numT i).all (fun c => decide (c ∈ FG)) = true := List.all_eq_true.mpr fun c hc => decide_eq_true (numT_dig hc)
  rw [if_pos ⟨hp, hl, hd⟩]
  have := TL.numL_val i.toNat
  unfold numT
  rw [this]
  congr 1
  omega
theorem fig_bd {c : Nat} (h : c ∈ FG) : 48 ≤ c ∧ c ≤ 57 := by
  unfold FG at h
  simp at h
  omega
theorem fInt_figs {a : Tx} (h : a.all (fun c => decide (c ∈ FG)) = true) (h1 : 1 ≤ a.length) (h2 : a.length ≤ 4) : fInt [T a] = .ok (.int ((NumText.digitsVal a : Nat) : Int)) := by
  have e := SX.int_S (a := a) (List.all_eq_true.mpr fun c hc => by
    have := fig_bd (of_decide_eq_true (List.all_eq_true.mp h c hc))
    simp [this]) (List.length_pos_iff.mp h1) (by omega)
  have : fInt [T a] = if (St' a).length ≤ 640 then (match PySem.intText? (St' a) with | some n => .ok (.int n) | none => .bad) else .bad := rfl
  rw [this, len_S, if_pos (by omega)]
  rw [show PySem.intText? (St' a) = _ from e]
/-! lines -/
def wUntil : Tx := [117, 110, 116, 105, 108]
def wSafe : Tx := [115, 97, 102, 101]
def wNear : Tx := [110, 101, 97, 114]
def wMade : Tx := [109, 97, 100, 101]
def wUsed : Tx := [117, 115, 101, 100]
def wUnder : Tx := [117, 110, 100, 101, 114]
def wdOnly : Tx := [111, 110, 108, 121]
def wFor : Tx := [102, 111, 114]
def untilL (o : Option Int) : List Tx := match o with
  | none => []
  | some i => [wUntil ++ 32 :: numT i]
def midL (n : Nt) : List Tx := untilL n.ends ++ ((if n.safe then [wSafe] else []) ++ (if n.near then [wNear] else []))
def partsL (n : Nt) : List Tx := (n.name ++ 61 :: n.worth) :: ((if n.exact then wdOnly else wFor) ++ 32 :: dots n.house) :: (wUnder ++ 32 :: n.path) :: (midL n ++ [wMade ++ 32 :: numT n.made, wUsed ++ 32 :: numT n.used])
def bodyL (n : Nt) : Tx := TL.joinL [59, 32] (partsL n)
def lineL (n : Nt) : Tx := bodyL n ++ [10]
def textJ (J : List Nt) : Tx := (J.map lineL).flatten
theorem join_nil : ∀ ps : List Tx, TL.joinL [] ps = ps.flatten
  | [] => rfl
  | [p] => by simp [TL.joinL]
  | p :: q :: r => by
    have := join_nil (q :: r)
    show p ++ ([] ++ TL.joinL [] (q :: r)) = _
    rw [this]
    simp
theorem sign_free {a : Tx} {s : Nat} {f : Nat → Bool} (h : ∀ c ∈ a, f c = true) (hs : f s = false) : s ∉ a := fun hm => by
  have := h s hm
  rw [hs] at this
  cases this
theorem dots_sign {P : List Tx} (h : isNameP P = true) : ∀ c ∈ dots P, (lSign c || decide (c = 46)) = true := by
  have := (isNameP_iff.mp h).2.2.1
  clear h
  induction P with
  | nil => intro c hc; cases hc
  | cons p P ih =>
    intro c hc
    cases P with
    | nil =>
      have := label_sign (this p (by simp)) c hc
      simp [this]
    | cons q r =>
      rw [dots_cons] at hc
      rcases List.mem_append.mp hc with h | h
      · have := label_sign (this p (by simp)) c h
        simp [this]
      · rcases List.mem_cons.mp h with h | h
        · simp [h]
        · exact ih (fun x hx => this x (by simp at hx ⊢; right; exact hx)) c h
theorem parts_free {n : Nt} (h : NtOk n) {s : Nat} (hs : s = 59 ∨ s = 10) : ∀ p ∈ partsL n, s ∉ p := by
  have a1 : s ∉ n.name := sign_free (noteName_iff.mp h.name).2.2 (by rcases hs with rfl | rfl <;> decide)
  have a2 : s ∉ n.worth := sign_free (worth_iff.mp h.worth).2 (by rcases hs with rfl | rfl <;> decide)
  have a3 : s ∉ dots n.house := sign_free (dots_sign h.house) (by rcases hs with rfl | rfl <;> decide)
  have a4 : s ∉ n.path := sign_free (isPathL_iff.mp h.path).2.2 (by rcases hs with rfl | rfl <;> decide)
  have a5 : ∀ i, s ∉ numT i := fun i => numT_free (by rcases hs with rfl | rfl <;> decide)
  have b : ∀ w : Tx, s ∉ w → ∀ r : Tx, s ∉ r → s ∉ w ++ 32 :: r := fun w hw r hr hm => by
    rcases List.mem_append.mp hm with z | z
    · exact hw z
    · rcases List.mem_cons.mp z with z | z
      · rcases hs with rfl | rfl <;> cases z
      · exact hr z
  have w1 : s ∉ wUntil ∧ s ∉ wSafe ∧ s ∉ wNear ∧ s ∉ wMade ∧ s ∉ wUsed ∧ s ∉ wUnder ∧ s ∉ wdOnly ∧ s ∉ wFor := by
    rcases hs with rfl | rfl <;> decide
  obtain ⟨u1, u2, u3, u4, u5, u6, u7, u8⟩ := w1
  intro p hp
  unfold partsL midL at hp
  simp only [List.mem_cons, List.mem_append, List.not_mem_nil, or_false] at hp
  rcases hp with rfl | rfl | rfl | (hp | hp | hp) | rfl | rfl
  · intro hm
    rcases List.mem_append.mp hm with z | z
    · exact a1 z
    · rcases List.mem_cons.mp z with z | z
      · rcases hs with rfl | rfl <;> cases z
      · exact a2 z
  · refine b _ ?_ _ a3
    cases n.exact
    · exact u8
    · exact u7
  · exact b _ u6 _ a4
  · unfold untilL at hp
    split at hp
    · cases hp
    · rw [List.mem_singleton.mp hp]
      exact b _ u1 _ (a5 _)
  · split at hp
    · rw [List.mem_singleton.mp hp]; exact u2
    · cases hp
  · split at hp
    · rw [List.mem_singleton.mp hp]; exact u3
    · cases hp
  · exact b _ u4 _ (a5 _)
  · exact b _ u5 _ (a5 _)
theorem joinL_mem {S : Tx} {s : Nat} (hS : s ∉ S) : ∀ {ps : List Tx}, (∀ p ∈ ps, s ∉ p) → s ∉ TL.joinL S ps
  | [], _ => by simp [TL.joinL]
  | [p], h => h p (by simp)
  | p :: q :: r, h => by
    have ih := joinL_mem hS (ps := q :: r) fun x hx => h x (by simp at hx ⊢; right; exact hx)
    intro hm
    rcases List.mem_append.mp (show s ∈ p ++ (S ++ TL.joinL S (q :: r)) from hm) with z | z
    · exact h p (by simp) z
    · rcases List.mem_append.mp z with z | z
      · exact hS z
      · exact ih z
theorem body_free {n : Nt} (h : NtOk n) : 10 ∉ bodyL n := joinL_mem (by decide) (parts_free h (.inr rfl))
theorem partsL_ne (n : Nt) : partsL n ≠ [] := by simp [partsL]
theorem spl_body {n : Nt} (h : NtOk n) : TL.spl [59, 32] 0 [] (bodyL n) = partsL n := TL.spl_join (partsL_ne n) (parts_free h (.inl rfl))
theorem split_text : ∀ {J : List Nt}, (∀ n ∈ J, NtOk n) → splC 10 (textJ J) = J.map bodyL ++ [[]]
  | [], _ => rfl
  | n :: J, h => by
    have ih := split_text (J := J) fun m hm => h m (by simp [hm])
    have e : textJ (n :: J) = bodyL n ++ 10 :: textJ J := by simp [textJ, lineL]
    rw [e, splC_app, ih, splC_free (body_free (h n (by simp)))]
    rfl
theorem side_split {n : Nt} (h : NtOk n) : splC 61 (n.name ++ 61 :: n.worth) = [n.name, n.worth] := by
  have a1 : 61 ∉ n.name := sign_free (noteName_iff.mp h.name).2.2 (by decide)
  have a2 : 61 ∉ n.worth := sign_free (worth_iff.mp h.worth).2 (by decide)
  rw [splC_app, splC_free a1, splC_free a2]
  rfl
theorem part_lens {n : Nt} (h : NtOk n) : ∀ p ∈ partsL n, p.length ≤ 51 := by
  have l1 := (noteName_iff.mp h.name).2.1
  have l2 := (worth_iff.mp h.worth).1
  have l3 := name_len h.house
  have l4 := path_len h.path
  have l6 := numT_len (i := n.made) (by have := h.made; have := h.used; omega)
  have l7 := numT_len h.used
  intro p hp
  unfold partsL midL at hp
  simp only [List.mem_cons, List.mem_append, List.not_mem_nil, or_false] at hp
  rcases hp with rfl | rfl | rfl | (hp | hp | hp) | rfl | rfl
  · simp; omega
  · cases n.exact <;> simp [wdOnly, wFor] <;> omega
  · simp [wUnder]; omega
  · unfold untilL at hp
    split at hp
    · cases hp
    · rename_i i e
      have := numT_len (i := i) (h.ends i e).2
      rw [List.mem_singleton.mp hp]
      simp [wUntil]; omega
  · split at hp
    · rw [List.mem_singleton.mp hp]; decide
    · cases hp
  · split at hp
    · rw [List.mem_singleton.mp hp]; decide
    · cases hp
  · simp [wMade]; omega
  · simp [wUsed]; omega
theorem partsL_few (n : Nt) : (partsL n).length ≤ 8 := by
  unfold partsL midL untilL
  cases n.ends <;> cases n.safe <;> cases n.near <;> simp
theorem sum_le {k : Nat} : ∀ {ps : List Tx}, (∀ p ∈ ps, p.length ≤ k) → (ps.map List.length).sum ≤ ps.length * k
  | [], _ => by simp
  | p :: ps, h => by
    have ih := sum_le (ps := ps) fun x hx => h x (by simp [hx])
    have := h p (by simp)
    simp only [List.map_cons, List.sum_cons, List.length_cons, Nat.succ_mul]
    omega
theorem join_len (S : Tx) : ∀ ps : List Tx, (TL.joinL S ps).length ≤ (ps.map List.length).sum + ps.length * S.length
  | [] => by simp [TL.joinL]
  | [p] => by simp [TL.joinL]
  | p :: q :: r => by
    have ih := join_len S (q :: r)
    show (p ++ (S ++ TL.joinL S (q :: r))).length ≤ _
    simp only [List.length_append, List.map_cons, List.sum_cons, List.length_cons, Nat.succ_mul] at ih ⊢
    omega
theorem body_len {n : Nt} (h : NtOk n) : (bodyL n).length ≤ 500 := by
  have a := join_len [59, 32] (partsL n)
  have b := sum_le (part_lens h)
  have c := partsL_few n
  have d : (partsL n).length * 51 ≤ 8 * 51 := Nat.mul_le_mul_right _ c
  have e : (partsL n).length * [59, 32].length ≤ 8 * 2 := Nat.mul_le_mul_right _ c
  unfold bodyL
  omega
theorem text_len : ∀ {J : List Nt}, (∀ n ∈ J, NtOk n) → (textJ J).length ≤ J.length * 501
  | [], _ => by simp [textJ]
  | n :: J, h => by
    have ih := text_len (J := J) fun m hm => h m (by simp [hm])
    have b := body_len (h n (by simp))
    have e : textJ (n :: J) = bodyL n ++ 10 :: textJ J := by simp [textJ, lineL]
    rw [e]
    simp only [List.length_append, List.length_cons, Nat.succ_mul]
    omega
theorem fSplit_spl (a : Tx) {b : Tx} (hb : b ≠ []) (hk : b.all (· < 256) = true) (h : a.length ≤ 16000000) : fSplit (St' a) (T b) = .ok (.list ((TL.spl b 0 [] a).map T)) := by
  have e : fSplit (St' a) (T b) = if ((St' b).length == 0) = false ∧ (St' a).length + 2 ≤ sizeLine then .ok (.list ((Txt.split (St' a) (St' b)).map .str)) else .bad := rfl
  have z : ((St' b).length == 0) = false := by
    rw [len_S]
    cases b with
    | nil => exact absurd rfl hb
    | cons x y => simp
  rw [e, if_pos ⟨z, by rw [len_S, sizeLine_eq]; omega⟩, SX.split_S hb hk, List.map_map]
  rfl
theorem lSign_lt {c : Nat} (h : lSign c = true) : c < 128 := by
  unfold lSign at h
  simp only [Bool.or_eq_true, decide_eq_true_eq] at h
  rcases h with h | h | h
  · have : ∀ c ∈ SM, c < 128 := by decide
    exact this c h
  · have : ∀ c ∈ FG, c < 128 := by decide
    exact this c h
  · omega
theorem part_uni {n : Nt} (h : NtOk n) : ∀ p ∈ partsL n, Uni p := by
  have b : ∀ w r : Tx, Uni w → Uni r → Uni (w ++ 32 :: r) := fun w r hw hr c hc => by
    rcases List.mem_append.mp hc with z | z
    · exact hw c z
    · rcases List.mem_cons.mp z with z | z
      · omega
      · exact hr c z
  have u : ∀ i, Uni (numT i) := fun i c hc => by
    have := fig_bd (numT_dig hc)
    omega
  have w1 : Uni wUntil ∧ Uni wSafe ∧ Uni wNear ∧ Uni wMade ∧ Uni wUsed ∧ Uni wUnder ∧ Uni wdOnly ∧ Uni wFor := by
    unfold Uni; decide
  obtain ⟨u1, u2, u3, u4, u5, u6, u7, u8⟩ := w1
  intro p hp
  unfold partsL midL at hp
  simp only [List.mem_cons, List.mem_append, List.not_mem_nil, or_false] at hp
  rcases hp with rfl | rfl | rfl | (hp | hp | hp) | rfl | rfl
  · intro c hc
    rcases List.mem_append.mp hc with z | z
    · exact noteName_uni h.name c z
    · rcases List.mem_cons.mp z with z | z
      · omega
      · exact worth_uni h.worth c z
  · refine b _ _ ?_ (dots_uni h.house)
    cases n.exact
    · exact u8
    · exact u7
  · exact b _ _ u6 (path_uni' h.path)
  · unfold untilL at hp
    split at hp
    · cases hp
    · rw [List.mem_singleton.mp hp]
      exact b _ _ u1 (u _)
  · split at hp
    · rw [List.mem_singleton.mp hp]; exact u2
    · cases hp
  · split at hp
    · rw [List.mem_singleton.mp hp]; exact u3
    · cases hp
  · exact b _ _ u4 (u _)
  · exact b _ _ u5 (u _)
theorem text_uni : ∀ {J : List Nt}, (∀ n ∈ J, NtOk n) → Uni (textJ J)
  | [], _ => fun c hc => by cases hc
  | n :: J, h => by
    have ih := text_uni (J := J) fun m hm => h m (by simp [hm])
    have e : textJ (n :: J) = bodyL n ++ 10 :: textJ J := by simp [textJ, lineL]
    have jn : ∀ ps : List Tx, (∀ p ∈ ps, Uni p) → Uni (TL.joinL [59, 32] ps) := fun ps => by
      induction ps with
      | nil => intro _ c hc; cases hc
      | cons p ps ih2 =>
        intro hp
        cases ps with
        | nil => exact hp p (by simp)
        | cons q r =>
          intro c hc
          rcases List.mem_append.mp (show c ∈ p ++ ([59, 32] ++ TL.joinL [59, 32] (q :: r)) from hc) with z | z
          · exact hp p (by simp) c z
          · rcases List.mem_append.mp z with z | z
            · have : c = 59 ∨ c = 32 := by simpa using z
              omega
            · exact ih2 (fun x hx => hp x (by simp at hx ⊢; right; exact hx)) c z
    rw [e]
    intro c hc
    rcases List.mem_append.mp hc with z | z
    · exact jn _ (part_uni (h n (by simp))) c z
    · rcases List.mem_cons.mp z with z | z
      · omega
      · exact ih c z
end ND
namespace NJ
open PySem PySem.Spec L2 ND
def topS (i : Nat) : Stmt := PySem.Challenge.pw_notejar_k32_whole_giving.main.body.getD i (.Pass ⟨0, 0, 0, 0⟩)
abbrev s_is_label : Stmt := topS 8
abbrev s_is_name : Stmt := topS 9
abbrev s_is_path : Stmt := topS 13
abbrev s_is_moment : Stmt := topS 16
abbrev s_is_note_name : Stmt := topS 22
abbrev s_is_worth : Stmt := topS 23
abbrev s_is_given : Stmt := topS 24
abbrev s_need_given : Stmt := topS 25
abbrev s_moment_in : Stmt := topS 26
abbrev s_trimmed : Stmt := topS 28
abbrev s_Given___init__ : Stmt := inC (topS 27) 0
abbrev s_Given_hear_two : Stmt := inC (topS 27) 2
abbrev s_Given_hear : Stmt := inC (topS 27) 1
abbrev s_read_given : Stmt := topS 29
abbrev s_given_text : Stmt := topS 30
abbrev s__law_cell : Stmt := topS 32
abbrev s__law_drawn : Stmt := topS 33
abbrev s__law_name : Stmt := topS 34
abbrev s__law_path : Stmt := topS 36
abbrev s__law_given : Stmt := topS 38
abbrev s__law_text : Stmt := topS 39
abbrev s_law : Stmt := topS 40
structure Fx (K : PySem.W.Frag) (mg : Str → Option Value) : Prop where
  d_is_label : DefIs K mg "is_label" s_is_label
  d_is_name : DefIs K mg "is_name" s_is_name
  d_is_path : DefIs K mg "is_path" s_is_path
  d_is_moment : DefIs K mg "is_moment" s_is_moment
  d_is_note_name : DefIs K mg "is_note_name" s_is_note_name
  d_is_worth : DefIs K mg "is_worth" s_is_worth
  d_is_given : DefIs K mg "is_given" s_is_given
  d_need_given : DefIs K mg "need_given" s_need_given
  d_moment_in : DefIs K mg "moment_in" s_moment_in
  d_trimmed : DefIs K mg "trimmed" s_trimmed
  d_Given___init__ : MetIs K "Given" "__init__" "Given.__init__" s_Given___init__
  d_Given_hear_two : MetIs K "Given" "hear_two" "Given.hear_two" s_Given_hear_two
  d_Given_hear : MetIs K "Given" "hear" "Given.hear" s_Given_hear
  d_read_given : DefIs K mg "read_given" s_read_given
  d_given_text : DefIs K mg "given_text" s_given_text
  d__law_cell : DefIs K mg "_law_cell" s__law_cell
  d__law_drawn : DefIs K mg "_law_drawn" s__law_drawn
  d__law_name : DefIs K mg "_law_name" s__law_name
  d__law_path : DefIs K mg "_law_path" s__law_path
  d__law_given : DefIs K mg "_law_given" s__law_given
  d__law_text : DefIs K mg "_law_text" s__law_text
  d_law : DefIs K mg "law" s_law
  s_FIGURES : ∃ t, mg "FIGURES" = some (.str "0123456789" t)
  s_GREAT : ∃ t, mg "GREAT" = some (.str "ABCDEFGHIJKLMNOPQRSTUVWXYZ" t)
  i_MOST_LABELS : ∃ t, mg "MOST_LABELS" = some (.int 5 t)
  i_MOST_MOMENT : ∃ t, mg "MOST_MOMENT" = some (.int 9999 t)
  i_MOST_NAME : ∃ t, mg "MOST_NAME" = some (.int 10 t)
  i_MOST_PATH : ∃ t, mg "MOST_PATH" = some (.int 20 t)
  i_MOST_SIGNS : ∃ t, mg "MOST_SIGNS" = some (.int 8 t)
  i_MOST_WORTH : ∃ t, mg "MOST_WORTH" = some (.int 12 t)
  e_NoNote : ExcIs K mg "NoNote"
  s_OTHERS : ∃ t, mg "OTHERS" = some (.str "-_./" t)
  t_REACHES : ∃ a, mg "REACHES" = some (.ref a) ∧ ∀ H, SqT K H a (List.map V.str ["any", "near"])
  s_SMALL : ∃ t, mg "SMALL" = some (.str "abcdefghijklmnopqrstuvwxyz" t)
  b_all : mg "all" = none
  b_bool : mg "bool" = none
  b_int : mg "int" = none
  b_isinstance : mg "isinstance" = none
  b_len : mg "len" = none
  b_str : mg "str" = none
  b_tuple : mg "tuple" = none
  b_zip : mg "zip" = none
  c_Given : L2.Cls K (He.ga K "Given")
  n_Given_told : L2.NoAttr K (He.ga K "Given") "told"
  t_Given___init__ : L2.Meth K (He.ga K "Given") "__init__" (He.ma K (He.ga K "Given") "__init__")
  t_Given_hear_two : L2.Meth K (He.ga K "Given") "hear_two" (He.ma K (He.ga K "Given") "hear_two")
  t_Given_hear : L2.Meth K (He.ga K "Given") "hear" (He.ma K (He.ga K "Given") "hear")
  m_Given : L2.Mk K (He.ga K "Given") (He.ma K (He.ga K "Given") "__init__")
  o_Given : mg "Given" = some (.ref (He.ga K "Given"))
def fts : List Ft := [.str "FIGURES" "0123456789", .str "GREAT" "ABCDEFGHIJKLMNOPQRSTUVWXYZ", .int "MOST_LABELS" 5, .int "MOST_MOMENT" 9999, .int "MOST_NAME" 10, .int "MOST_PATH" 20, .int "MOST_SIGNS" 8, .int "MOST_WORTH" 12, .exc "NoNote", .str "OTHERS" "-_./", .tup "REACHES" ["any", "near"], .str "SMALL" "abcdefghijklmnopqrstuvwxyz", .free "all", .free "bool", .free "int", .free "isinstance", .free "len", .free "str", .free "tuple", .free "zip", .fa (.cls "Given"), .fa (.noat "Given" "told"), .fa (.meth "Given" "__init__"), .fa (.meth "Given" "hear_two"), .fa (.meth "Given" "hear"), .fa (.mkr "Given"), .fa (.glo "Given")]
def fns : List He.DefD := [mkD "is_label" s_is_label, mkD "is_name" s_is_name, mkD "is_path" s_is_path, mkD "is_moment" s_is_moment, mkD "is_note_name" s_is_note_name, mkD "is_worth" s_is_worth, mkD "is_given" s_is_given, mkD "need_given" s_need_given, mkD "moment_in" s_moment_in, mkD "trimmed" s_trimmed, mkM "Given" "__init__" "Given.__init__" s_Given___init__, mkM "Given" "hear_two" "Given.hear_two" s_Given_hear_two, mkM "Given" "hear" "Given.hear" s_Given_hear, mkD "read_given" s_read_given, mkD "given_text" s_given_text, mkD "_law_cell" s__law_cell, mkD "_law_drawn" s__law_drawn, mkD "_law_name" s__law_name, mkD "_law_path" s__law_path, mkD "_law_given" s__law_given, mkD "_law_text" s__law_text, mkD "law" s_law]
theorem fx_of {K : PySem.W.Frag} {h : Heap} {mg : Str → Option Value} (X : K.In h) (G : h.Ns mainGlobals mg) (c : SaysN fts fns K) : Fx K mg where
  d_is_label := c.def_ X G 0
  d_is_name := c.def_ X G 1
  d_is_path := c.def_ X G 2
  d_is_moment := c.def_ X G 3
  d_is_note_name := c.def_ X G 4
  d_is_worth := c.def_ X G 5
  d_is_given := c.def_ X G 6
  d_need_given := c.def_ X G 7
  d_moment_in := c.def_ X G 8
  d_trimmed := c.def_ X G 9
  d_Given___init__ := c.met X G 10
  d_Given_hear_two := c.met X G 11
  d_Given_hear := c.met X G 12
  d_read_given := c.def_ X G 13
  d_given_text := c.def_ X G 14
  d__law_cell := c.def_ X G 15
  d__law_drawn := c.def_ X G 16
  d__law_name := c.def_ X G 17
  d__law_path := c.def_ X G 18
  d__law_given := c.def_ X G 19
  d__law_text := c.def_ X G 20
  d_law := c.def_ X G 21
  s_FIGURES := c.str X G 0
  s_GREAT := c.str X G 1
  i_MOST_LABELS := c.int X G 2
  i_MOST_MOMENT := c.int X G 3
  i_MOST_NAME := c.int X G 4
  i_MOST_PATH := c.int X G 5
  i_MOST_SIGNS := c.int X G 6
  i_MOST_WORTH := c.int X G 7
  e_NoNote := c.exc X G 8
  s_OTHERS := c.str X G 9
  t_REACHES := c.tup X G 10
  s_SMALL := c.str X G 11
  b_all := c.free X G 12
  b_bool := c.free X G 13
  b_int := c.free X G 14
  b_isinstance := c.free X G 15
  b_len := c.free X G 16
  b_str := c.free X G 17
  b_tuple := c.free X G 18
  b_zip := c.free X G 19
  c_Given := c.fcls X G 20
  n_Given_told := c.fnoat X G 21
  t_Given___init__ := c.fmeth X G 22
  t_Given_hear_two := c.fmeth X G 23
  t_Given_hear := c.fmeth X G 24
  m_Given := c.fmkr X G 25
  o_Given := c.fglo X G 26
section
variable {P : Program} {w : World} {K : PySem.W.Frag} {mg : Str → Option Value} {base : Heap}
/-! is_label -/
theorem sc_is_label : FnScope ["thing", "sign"] ["thing"] (defScope s_is_label) := ⟨rfl, rfl, rfl, by decide +kernel, rfl, by decide +kernel, by decide +kernel⟩
noncomputable def g_is_label : G → R Fl :=
  (gSeq (gIfS (bOr (bNot (bv (gIsi "str" (gv 0)))) (bNot (bv (gChain fLe fLe (gc (.int 1)) (gCall fLen (aCons (gv 0) aNil)) (gc (.int 8))))))
    (gRet (gc (.bool false)))
    gSkip)
  (gSeq (gIfS (bOr (bv (g2 fEq (g2 fIx (gv 0) (gc (.int 0))) (gc (.str "-")))) (bv (g2 fEq (g2 fIx (gv 0) (gNeg (gc (.int 1)))) (gc (.str "-")))))
    (gRet (gc (.bool false)))
    gSkip)
  (gRet (gCall fAll (aCons (gLc [1] (sName 1) (gIt (gv 0)) bYes (gOr (g2 fIn (gv 1) (gc (.str "abcdefghijklmnopqrstuvwxyz"))) (gOr (g2 fIn (gv 1) (gc (.str "0123456789"))) (g2 fEq (gv 1) (gc (.str "-")))))) aNil)))))
noncomputable def f_is_label : List D → R D := runD 2 1 g_is_label
theorem fe_is_label (a0 : D) : f_is_label [a0] = endK (g_is_label [.dat a0, .un]) := runD_eq _ _ _ [a0] rfl
theorem ok_is_label (T : Fx K mg) : FK P w K mg base 1 "is_label" f_is_label := by
  obtain ⟨f, fd, Fd, hm⟩ := T.d_is_label.ex
  exact fk_of Fd hm sc_is_label (fun _ _ _ _ _ _ us hl => match us, hl with | [_], _ => rfl) fun cdv A outer s H F0 E o =>
   ((ss_cons (s_if (PW.pt (t_or (t_not (t_val (d_isi (by rfl) T.b_isinstance bb_isinstance (by rfl) T.b_str bb_str (d_var 0)))) (t_or1 (t_not (t_chain o_le o_le d_int (d_callB (c_len) (by rfl) T.b_len bb_len (a_cons (d_var 0) a_nil)) (d_gint T.i_MOST_SIGNS))))))
      (ss_one (s_ret d_bl))
      ss_nil)
    (ss_cons (s_if (PW.pt (t_or (t_cmp (o_eq o.ru) (d_ix (d_var 0) d_int) d_str) (t_or1 (t_cmp (o_eq o.ru) (d_ix (d_var 0) (d_neg d_int)) d_str))))
      (ss_one (s_ret d_bl))
      ss_nil)
    (ss_one (s_ret (d_callB (c_all o.calm) (by rfl) T.b_all bb_all (a_cons (d_lc [("sign", 1)] o.calm o.nd (blkOk_by (by kernel_rfl)) (i_val (d_var 0)) (fun _ _ _ _ _ => (g_name 1 o.nd)) (fun _ _ _ _ _ => ts_nil) (fun _ _ _ _ _ => (d_or (d_cmp (o_in o.ru) (d_var 1) (d_gstr T.s_SMALL)) (d_or (d_cmp (o_in o.ru) (d_var 1) (d_gstr T.s_FIGURES)) (d_and1 (d_cmp (o_eq o.ru) (d_var 1) d_str))))) (sName_len 1)) a_nil)))))))
/-! is_name -/
theorem sc_is_name : FnScope ["thing", "parts", "part", "sign"] ["thing"] (defScope s_is_name) := ⟨rfl, rfl, rfl, by decide +kernel, rfl, by decide +kernel, by decide +kernel⟩
noncomputable def g_is_name : G → R Fl :=
  (gSeq (gIfS (bNot (bv (gIsi "str" (gv 0))))
    (gRet (gc (.bool false)))
    gSkip)
  (gSeq (gSet (sName 1) (gM1 fSplit (gv 0) (gc (.str "."))))
  (gSeq (gIfS (bOr (bv (g2 fGt (gCall fLen (aCons (gv 1) aNil)) (gc (.int 5)))) (bNot (bv (gCall fAll (aCons (gLc [2] (sName 2) (gIt (gv 1)) bYes (gOwn f_is_label (aCons (gv 2) aNil))) aNil)))))
    (gRet (gc (.bool false)))
    gSkip)
  (gRet (gNot (gCall fAll (aCons (gLc [3] (sName 3) (gIt (g2 fIx (gv 1) (gNeg (gc (.int 1))))) bYes (g2 fIn (gv 3) (gc (.str "0123456789")))) aNil)))))))
noncomputable def f_is_name : List D → R D := runD 4 1 g_is_name
theorem fe_is_name (a0 : D) : f_is_name [a0] = endK (g_is_name [.dat a0, .un, .un, .un]) := runD_eq _ _ _ [a0] rfl
theorem ok_is_name (T : Fx K mg) : FK P w K mg base 2 "is_name" f_is_name := by
  obtain ⟨f, fd, Fd, hm⟩ := T.d_is_name.ex
  exact fk_of Fd hm sc_is_name (fun _ _ _ _ _ _ us hl => match us, hl with | [_], _ => rfl) fun cdv A outer s H F0 E o =>
   ((ss_cons (s_if (t_not (t_val (d_isi (by rfl) T.b_isinstance bb_isinstance (by rfl) T.b_str bb_str (d_var 0))))
      (ss_one (s_ret d_bl))
      ss_nil)
    (ss_cons (s_set 1 o.nd (d_m1 m_split (d_var 0) d_str))
    (ss_cons (s_if (PW.pt (t_or (t_cmp o_gt (d_callB (c_len) (by rfl) T.b_len bb_len (a_cons (d_var 1) a_nil)) (d_gint T.i_MOST_LABELS)) (t_or1 (t_not (t_val (d_callB (c_all o.calm) (by rfl) T.b_all bb_all (a_cons (d_lc [("part", 2)] o.calm o.nd (blkOk_by (by kernel_rfl)) (i_val (d_var 1)) (fun _ _ _ _ _ => (g_name 2 o.nd)) (fun _ _ _ _ _ => ts_nil) (fun _ _ _ _ _ => (d_call (ok_is_label T) o.hr px0 (a_cons (d_var 2) a_nil))) (sName_len 2)) a_nil)))))))
      (ss_one (s_ret d_bl))
      ss_nil)
    (ss_one (s_ret (d_not (d_callB (c_all o.calm) (by rfl) T.b_all bb_all (a_cons (d_lc [("sign", 3)] o.calm o.nd (blkOk_by (by kernel_rfl)) (i_val (d_ix (d_var 1) (d_neg d_int))) (fun _ _ _ _ _ => (g_name 3 o.nd)) (fun _ _ _ _ _ => ts_nil) (fun _ _ _ _ _ => (d_cmp (o_in o.ru) (d_var 3) (d_gstr T.s_FIGURES))) (sName_len 3)) a_nil)))))))))
/-! is_path -/
theorem sc_is_path : FnScope ["thing", "sign"] ["thing"] (defScope s_is_path) := ⟨rfl, rfl, rfl, by decide +kernel, rfl, by decide +kernel, by decide +kernel⟩
noncomputable def g_is_path : G → R Fl :=
  (gSeq (gIfS (bOr (bNot (bv (gIsi "str" (gv 0)))) (bOr (bNot (bv (gChain fLe fLe (gc (.int 1)) (gCall fLen (aCons (gv 0) aNil)) (gc (.int 20))))) (bv (g2 fNe (g2 fIx (gv 0) (gc (.int 0))) (gc (.str "/"))))))
    (gRet (gc (.bool false)))
    gSkip)
  (gRet (gCall fAll (aCons (gLc [1] (sName 1) (gIt (gv 0)) bYes (gOr (g2 fIn (gv 1) (gc (.str "abcdefghijklmnopqrstuvwxyz"))) (gOr (g2 fIn (gv 1) (gc (.str "0123456789"))) (g2 fIn (gv 1) (gc (.str "-_./")))))) aNil))))
noncomputable def f_is_path : List D → R D := runD 2 1 g_is_path
theorem fe_is_path (a0 : D) : f_is_path [a0] = endK (g_is_path [.dat a0, .un]) := runD_eq _ _ _ [a0] rfl
theorem ok_is_path (T : Fx K mg) : FK P w K mg base 1 "is_path" f_is_path := by
  obtain ⟨f, fd, Fd, hm⟩ := T.d_is_path.ex
  exact fk_of Fd hm sc_is_path (fun _ _ _ _ _ _ us hl => match us, hl with | [_], _ => rfl) fun cdv A outer s H F0 E o =>
   ((ss_cons (s_if (PW.pt (t_or (t_not (t_val (d_isi (by rfl) T.b_isinstance bb_isinstance (by rfl) T.b_str bb_str (d_var 0)))) (t_or (t_not (t_chain o_le o_le d_int (d_callB (c_len) (by rfl) T.b_len bb_len (a_cons (d_var 0) a_nil)) (d_gint T.i_MOST_PATH))) (t_or1 (t_cmp (o_ne o.ru) (d_ix (d_var 0) d_int) d_str)))))
      (ss_one (s_ret d_bl))
      ss_nil)
    (ss_one (s_ret (d_callB (c_all o.calm) (by rfl) T.b_all bb_all (a_cons (d_lc [("sign", 1)] o.calm o.nd (blkOk_by (by kernel_rfl)) (i_val (d_var 0)) (fun _ _ _ _ _ => (g_name 1 o.nd)) (fun _ _ _ _ _ => ts_nil) (fun _ _ _ _ _ => (d_or (d_cmp (o_in o.ru) (d_var 1) (d_gstr T.s_SMALL)) (d_or (d_cmp (o_in o.ru) (d_var 1) (d_gstr T.s_FIGURES)) (d_and1 (d_cmp (o_in o.ru) (d_var 1) (d_gstr T.s_OTHERS)))))) (sName_len 1)) a_nil))))))
/-! is_moment -/
theorem sc_is_moment : FnScope ["thing"] ["thing"] (defScope s_is_moment) := ⟨rfl, rfl, rfl, by decide +kernel, rfl, by decide +kernel, by decide +kernel⟩
noncomputable def g_is_moment : G → R Fl :=
  (gRet (gAnd (gIsi "int" (gv 0)) (gAnd (gNot (gIsi "bool" (gv 0))) (gChain fLe fLe (gc (.int 0)) (gv 0) (gc (.int 9999))))))
noncomputable def f_is_moment : List D → R D := runD 1 1 g_is_moment
theorem fe_is_moment (a0 : D) : f_is_moment [a0] = endK (g_is_moment [.dat a0]) := runD_eq _ _ _ [a0] rfl
theorem ok_is_moment (T : Fx K mg) : FK P w K mg base 1 "is_moment" f_is_moment := by
  obtain ⟨f, fd, Fd, hm⟩ := T.d_is_moment.ex
  exact fk_of Fd hm sc_is_moment (fun _ _ _ _ _ _ us hl => match us, hl with | [_], _ => rfl) fun cdv A outer s H F0 E o =>
   ((ss_one (s_ret (d_and (d_isi (by rfl) T.b_isinstance bb_isinstance (by rfl) T.b_int bb_int (d_var 0)) (d_and (d_not (d_isi (by rfl) T.b_isinstance bb_isinstance (by rfl) T.b_bool bb_bool (d_var 0))) (d_and1 (d_chain o_le o_le d_int (d_var 0) (d_gint T.i_MOST_MOMENT))))))))
/-! is_note_name -/
theorem sc_is_note_name : FnScope ["thing", "sign"] ["thing"] (defScope s_is_note_name) := ⟨rfl, rfl, rfl, by decide +kernel, rfl, by decide +kernel, by decide +kernel⟩
noncomputable def g_is_note_name : G → R Fl :=
  (gSeq (gIfS (bOr (bNot (bv (gIsi "str" (gv 0)))) (bNot (bv (gChain fLe fLe (gc (.int 1)) (gCall fLen (aCons (gv 0) aNil)) (gc (.int 10))))))
    (gRet (gc (.bool false)))
    gSkip)
  (gRet (gCall fAll (aCons (gLc [1] (sName 1) (gIt (gv 0)) bYes (gOr (g2 fIn (gv 1) (gc (.str "abcdefghijklmnopqrstuvwxyz"))) (gOr (g2 fIn (gv 1) (gc (.str "ABCDEFGHIJKLMNOPQRSTUVWXYZ"))) (gOr (g2 fIn (gv 1) (gc (.str "0123456789"))) (g2 fIn (gv 1) (gc (.str "-_"))))))) aNil))))
noncomputable def f_is_note_name : List D → R D := runD 2 1 g_is_note_name
theorem fe_is_note_name (a0 : D) : f_is_note_name [a0] = endK (g_is_note_name [.dat a0, .un]) := runD_eq _ _ _ [a0] rfl
theorem ok_is_note_name (T : Fx K mg) : FK P w K mg base 1 "is_note_name" f_is_note_name := by
  obtain ⟨f, fd, Fd, hm⟩ := T.d_is_note_name.ex
  exact fk_of Fd hm sc_is_note_name (fun _ _ _ _ _ _ us hl => match us, hl with | [_], _ => rfl) fun cdv A outer s H F0 E o =>
   ((ss_cons (s_if (PW.pt (t_or (t_not (t_val (d_isi (by rfl) T.b_isinstance bb_isinstance (by rfl) T.b_str bb_str (d_var 0)))) (t_or1 (t_not (t_chain o_le o_le d_int (d_callB (c_len) (by rfl) T.b_len bb_len (a_cons (d_var 0) a_nil)) (d_gint T.i_MOST_NAME))))))
      (ss_one (s_ret d_bl))
      ss_nil)
    (ss_one (s_ret (d_callB (c_all o.calm) (by rfl) T.b_all bb_all (a_cons (d_lc [("sign", 1)] o.calm o.nd (blkOk_by (by kernel_rfl)) (i_val (d_var 0)) (fun _ _ _ _ _ => (g_name 1 o.nd)) (fun _ _ _ _ _ => ts_nil) (fun _ _ _ _ _ => (d_or (d_cmp (o_in o.ru) (d_var 1) (d_gstr T.s_SMALL)) (d_or (d_cmp (o_in o.ru) (d_var 1) (d_gstr T.s_GREAT)) (d_or (d_cmp (o_in o.ru) (d_var 1) (d_gstr T.s_FIGURES)) (d_and1 (d_cmp (o_in o.ru) (d_var 1) d_str)))))) (sName_len 1)) a_nil))))))
/-! is_worth -/
theorem sc_is_worth : FnScope ["thing", "sign"] ["thing"] (defScope s_is_worth) := ⟨rfl, rfl, rfl, by decide +kernel, rfl, by decide +kernel, by decide +kernel⟩
noncomputable def g_is_worth : G → R Fl :=
  (gSeq (gIfS (bOr (bNot (bv (gIsi "str" (gv 0)))) (bv (g2 fGt (gCall fLen (aCons (gv 0) aNil)) (gc (.int 12)))))
    (gRet (gc (.bool false)))
    gSkip)
  (gRet (gCall fAll (aCons (gLc [1] (sName 1) (gIt (gv 0)) bYes (gAnd (gChain fLe fLe (gc (.str "!")) (gv 1) (gc (.str "~"))) (g2 fNotIn (gv 1) (gc (.str ";,="))))) aNil))))
noncomputable def f_is_worth : List D → R D := runD 2 1 g_is_worth
theorem fe_is_worth (a0 : D) : f_is_worth [a0] = endK (g_is_worth [.dat a0, .un]) := runD_eq _ _ _ [a0] rfl
theorem ok_is_worth (T : Fx K mg) : FK P w K mg base 1 "is_worth" f_is_worth := by
  obtain ⟨f, fd, Fd, hm⟩ := T.d_is_worth.ex
  exact fk_of Fd hm sc_is_worth (fun _ _ _ _ _ _ us hl => match us, hl with | [_], _ => rfl) fun cdv A outer s H F0 E o =>
   ((ss_cons (s_if (PW.pt (t_or (t_not (t_val (d_isi (by rfl) T.b_isinstance bb_isinstance (by rfl) T.b_str bb_str (d_var 0)))) (t_or1 (t_cmp o_gt (d_callB (c_len) (by rfl) T.b_len bb_len (a_cons (d_var 0) a_nil)) (d_gint T.i_MOST_WORTH)))))
      (ss_one (s_ret d_bl))
      ss_nil)
    (ss_one (s_ret (d_callB (c_all o.calm) (by rfl) T.b_all bb_all (a_cons (d_lc [("sign", 1)] o.calm o.nd (blkOk_by (by kernel_rfl)) (i_val (d_var 0)) (fun _ _ _ _ _ => (g_name 1 o.nd)) (fun _ _ _ _ _ => ts_nil) (fun _ _ _ _ _ => (d_and (d_chain o_le o_le d_str (d_var 1) d_str) (d_and1 (d_cmp (o_notin o.ru) (d_var 1) d_str)))) (sName_len 1)) a_nil))))))
/-! is_given -/
theorem sc_is_given : FnScope ["thing", "one"] ["thing"] (defScope s_is_given) := ⟨rfl, rfl, rfl, by decide +kernel, rfl, by decide +kernel, by decide +kernel⟩
noncomputable def g_is_given : G → R Fl :=
  (gSeq (gIfS (bOr (bNot (bv (gIsi "tuple" (gv 0)))) (bOr (bv (g2 fNe (gCall fLen (aCons (gv 0) aNil)) (gc (.int 8)))) (bOr (bNot (bv (gOwn f_is_note_name (aCons (g2 fIx (gv 0) (gc (.int 0))) aNil)))) (bNot (bv (gOwn f_is_worth (aCons (g2 fIx (gv 0) (gc (.int 1))) aNil)))))))
    (gRet (gc (.bool false)))
    gSkip)
  (gSeq (gIfS (bOr (bAnd (bv (g2 fIsNot (g2 fIx (gv 0) (gc (.int 2))) (gc .none))) (bNot (bv (gOwn f_is_name (aCons (g2 fIx (gv 0) (gc (.int 2))) aNil))))) (bAnd (bv (g2 fIsNot (g2 fIx (gv 0) (gc (.int 3))) (gc .none))) (bNot (bv (gOwn f_is_path (aCons (g2 fIx (gv 0) (gc (.int 3))) aNil))))))
    (gRet (gc (.bool false)))
    gSkip)
  (gSeq (gIfS (bNot (bv (gCall fAll (aCons (gLc [1] (sName 1) (gIt (gSl (gv 0) (oSome (gc (.int 4))) (oSome (gc (.int 6))))) bYes (gOr (g2 fIs (gv 1) (gc .none)) (gOwn f_is_moment (aCons (gv 1) aNil)))) aNil))))
    (gRet (gc (.bool false)))
    gSkip)
  (gRet (gAnd (gIsi "bool" (g2 fIx (gv 0) (gc (.int 6)))) (gAnd (gIsi "str" (g2 fIx (gv 0) (gc (.int 7)))) (g2 fIn (g2 fIx (gv 0) (gc (.int 7))) (gc (.tuple (List.map PyData.str [("any" : Str), ("near" : Str)]))))))))))
noncomputable def f_is_given : List D → R D := runD 2 1 g_is_given
theorem fe_is_given (a0 : D) : f_is_given [a0] = endK (g_is_given [.dat a0, .un]) := runD_eq _ _ _ [a0] rfl
theorem ok_is_given (T : Fx K mg) : FK P w K mg base 3 "is_given" f_is_given := by
  obtain ⟨f, fd, Fd, hm⟩ := T.d_is_given.ex
  exact fk_of Fd hm sc_is_given (fun _ _ _ _ _ _ us hl => match us, hl with | [_], _ => rfl) fun cdv A outer s H F0 E o =>
   ((ss_cons (s_if (PW.pt (t_or (t_not (t_val (d_isi (by rfl) T.b_isinstance bb_isinstance (by rfl) T.b_tuple bb_tuple (d_var 0)))) (t_or (t_cmp (o_ne o.ru) (d_callB (c_len) (by rfl) T.b_len bb_len (a_cons (d_var 0) a_nil)) d_int) (t_or (t_not (t_val (d_call (ok_is_note_name T) o.hr o.px (a_cons (d_ix (d_var 0) d_int) a_nil)))) (t_or1 (t_not (t_val (d_call (ok_is_worth T) o.hr o.px (a_cons (d_ix (d_var 0) d_int) a_nil)))))))))
      (ss_one (s_ret d_bl))
      ss_nil)
    (ss_cons (s_if (PW.pt (t_or (PW.pt (t_and (t_cmp o_isnot (d_ix (d_var 0) d_int) d_non) (t_and1 (t_not (t_val (d_call (ok_is_name T) o.hr o.px (a_cons (d_ix (d_var 0) d_int) a_nil))))))) (t_or1 (PW.pt (t_and (t_cmp o_isnot (d_ix (d_var 0) d_int) d_non) (t_and1 (t_not (t_val (d_call (ok_is_path T) o.hr o.px (a_cons (d_ix (d_var 0) d_int) a_nil))))))))))
      (ss_one (s_ret d_bl))
      ss_nil)
    (ss_cons (s_if (t_not (t_val (d_callB (c_all o.calm) (by rfl) T.b_all bb_all (a_cons (d_lc [("one", 1)] o.calm o.nd (blkOk_by (by kernel_rfl)) (i_val (d_slice (d_var 0) (o_some d_int) (o_some d_int))) (fun _ _ _ _ _ => (g_name 1 o.nd)) (fun _ _ _ _ _ => ts_nil) (fun _ _ _ _ _ => (d_or (d_cmp o_is (d_var 1) d_non) (d_and1 (d_call (ok_is_moment T) o.hr px0 (a_cons (d_var 1) a_nil))))) (sName_len 1)) a_nil))))
      (ss_one (s_ret d_bl))
      ss_nil)
    (ss_one (s_ret (d_and (d_isi (by rfl) T.b_isinstance bb_isinstance (by rfl) T.b_bool bb_bool (d_ix (d_var 0) d_int)) (d_and (d_isi (by rfl) T.b_isinstance bb_isinstance (by rfl) T.b_str bb_str (d_ix (d_var 0) d_int)) (d_and1 (d_cmp (o_in o.ru) (d_ix (d_var 0) d_int) (d_gtup T.t_REACHES)))))))))))
/-! need_given -/
theorem sc_need_given : FnScope ["given"] ["given"] (defScope s_need_given) := ⟨rfl, rfl, rfl, by decide +kernel, rfl, by decide +kernel, by decide +kernel⟩
noncomputable def g_need_given : G → R Fl :=
  (gIfS (bNot (bv (gOwn f_is_given (aCons (gv 0) aNil))))
    (gRaise "NoNote")
    gSkip)
noncomputable def f_need_given : List D → R D := runD 1 1 g_need_given
theorem fe_need_given (a0 : D) : f_need_given [a0] = endK (g_need_given [.dat a0]) := runD_eq _ _ _ [a0] rfl
theorem ok_need_given (T : Fx K mg) : FK P w K mg base 4 "need_given" f_need_given := by
  obtain ⟨f, fd, Fd, hm⟩ := T.d_need_given.ex
  exact fk_of Fd hm sc_need_given (fun _ _ _ _ _ _ us hl => match us, hl with | [_], _ => rfl) fun cdv A outer s H F0 E o =>
   ((ss_one (s_if (t_not (t_val (d_call (ok_is_given T) o.hr o.px (a_cons (d_var 0) a_nil))))
      (ss_one (s_raise T.e_NoNote.c o.calm o.tk))
      ss_nil)))
/-! moment_in -/
theorem sc_moment_in : FnScope ["word", "sign"] ["word"] (defScope s_moment_in) := ⟨rfl, rfl, rfl, by decide +kernel, rfl, by decide +kernel, by decide +kernel⟩
noncomputable def g_moment_in : G → R Fl :=
  (gSeq (gIfS (bOr (bNot (bv (gChain fLe fLe (gc (.int 1)) (gCall fLen (aCons (gv 0) aNil)) (gc (.int 4))))) (bNot (bv (gCall fAll (aCons (gLc [1] (sName 1) (gIt (gv 0)) bYes (g2 fIn (gv 1) (gc (.str "0123456789")))) aNil)))))
    (gRet (gc .none))
    gSkip)
  (gRet (gCall fInt (aCons (gv 0) aNil))))
noncomputable def f_moment_in : List D → R D := runD 2 1 g_moment_in
theorem fe_moment_in (a0 : D) : f_moment_in [a0] = endK (g_moment_in [.dat a0, .un]) := runD_eq _ _ _ [a0] rfl
theorem ok_moment_in (T : Fx K mg) : FK P w K mg base 1 "moment_in" f_moment_in := by
  obtain ⟨f, fd, Fd, hm⟩ := T.d_moment_in.ex
  exact fk_of Fd hm sc_moment_in (fun _ _ _ _ _ _ us hl => match us, hl with | [_], _ => rfl) fun cdv A outer s H F0 E o =>
   ((ss_cons (s_if (PW.pt (t_or (t_not (t_chain o_le o_le d_int (d_callB (c_len) (by rfl) T.b_len bb_len (a_cons (d_var 0) a_nil)) d_int)) (t_or1 (t_not (t_val (d_callB (c_all o.calm) (by rfl) T.b_all bb_all (a_cons (d_lc [("sign", 1)] o.calm o.nd (blkOk_by (by kernel_rfl)) (i_val (d_var 0)) (fun _ _ _ _ _ => (g_name 1 o.nd)) (fun _ _ _ _ _ => ts_nil) (fun _ _ _ _ _ => (d_cmp (o_in o.ru) (d_var 1) (d_gstr T.s_FIGURES))) (sName_len 1)) a_nil)))))))
      (ss_one (s_ret d_non))
      ss_nil)
    (ss_one (s_ret (d_callTy c_int (by rfl) T.b_int bb_int (a_cons (d_var 0) a_nil))))))
/-! trimmed -/
theorem sc_trimmed : FnScope ["text"] ["text"] (defScope s_trimmed) := ⟨rfl, rfl, rfl, by decide +kernel, rfl, by decide +kernel, by decide +kernel⟩
noncomputable def g_trimmed : G → R Fl :=
  (gSeq (gWhile (bv (g2 fEq (gSl (gv 0) oNone (oSome (gc (.int 1)))) (gc (.str " "))))
    (gSet (sName 0) (gSl (gv 0) (oSome (gc (.int 1))) oNone)))
  (gSeq (gWhile (bv (g2 fEq (gSl (gv 0) (oSome (gNeg (gc (.int 1)))) oNone) (gc (.str " "))))
    (gSet (sName 0) (gSl (gv 0) oNone (oSome (gNeg (gc (.int 1)))))))
  (gRet (gv 0))))
noncomputable def f_trimmed : List D → R D := runD 1 1 g_trimmed
theorem fe_trimmed (a0 : D) : f_trimmed [a0] = endK (g_trimmed [.dat a0]) := runD_eq _ _ _ [a0] rfl
theorem ok_trimmed (T : Fx K mg) : FK P w K mg base 1 "trimmed" f_trimmed := by
  obtain ⟨f, fd, Fd, hm⟩ := T.d_trimmed.ex
  exact fk_of Fd hm sc_trimmed (fun _ _ _ _ _ _ us hl => match us, hl with | [_], _ => rfl) fun cdv A outer s H F0 E o =>
   ((ss_cons (s_while o.own (t_cmp (o_eq o.ru) (d_slice (d_var 0) o_none (o_some d_int)) d_str)
      (ss_one (s_set 0 o.nd (d_slice (d_var 0) (o_some d_int) o_none))))
    (ss_cons (s_while o.own (t_cmp (o_eq o.ru) (d_slice (d_var 0) (o_some (d_neg d_int)) o_none) d_str)
      (ss_one (s_set 0 o.nd (d_slice (d_var 0) o_none (o_some (d_neg d_int))))))
    (ss_one (s_ret (d_var 0))))))
/-! Given___init__ -/
theorem sc_Given___init__ : FnScope ["self", "name", "worth"] ["self", "name", "worth"] (defScope s_Given___init__) := ⟨rfl, rfl, rfl, by decide +kernel, rfl, by decide +kernel, by decide +kernel⟩
noncomputable def w_Given___init__ : TsW :=
  (sFldW "Given" "told" (eVar 0) (eNewL (aConsW (ePure (gv 1)) (aConsW (ePure (gv 2)) (aConsW (ePure (gc .none)) (aConsW (ePure (gc .none)) (aConsW (ePure (gc .none)) (aConsW (ePure (gc .none)) (aConsW (ePure (gc (.bool false))) (aConsW (ePure (gc (.str "any"))) aNilW))))))))))
noncomputable def f_Given___init__ : FwT := runW 3 3 w_Given___init__
theorem ok_Given___init__ (T : Fx K mg) : MwK P w K mg base 1 "Given" "__init__" f_Given___init__ :=
  mwk_of T.d_Given___init__ T.t_Given___init__ sc_Given___init__ (fun _ _ _ _ _ _ us hl => match us, hl with | [_, _, _], _ => rfl) fun f cdv A outer s H F0 B E o =>
   ((sws_one (sw_fld T.c_Given T.n_Given_told (ew_var 0) (ew_newL (aw_cons (ew_pure fun B' => (d_var 1)) (aw_cons (ew_pure fun B' => (d_var 2)) (aw_cons (ew_pure fun B' => d_non) (aw_cons (ew_pure fun B' => d_non) (aw_cons (ew_pure fun B' => d_non) (aw_cons (ew_pure fun B' => d_non) (aw_cons (ew_pure fun B' => d_bl) (aw_cons (ew_pure fun B' => d_str) aw_nil))))))))))))
/-! Given_hear_two -/
theorem sc_Given_hear_two : FnScope ["self", "word", "thing"] ["self", "word", "thing"] (defScope s_Given_hear_two) := ⟨rfl, rfl, rfl, by decide +kernel, rfl, by decide +kernel, by decide +kernel⟩
noncomputable def w_Given_hear_two : TsW :=
  (sSeq (sIf (tPure (bAnd (bv (g2 fEq (gv 1) (gc (.str "for")))) (bv (gOwn f_is_name (aCons (gv 2) aNil)))))
    (sPutL (eFld "Given" "told" (eVar 0)) (ePure (gc (.int 2))) (ePure (gv 2)))
    sNil)
  (sSeq (sIf (tPure (bAnd (bv (g2 fEq (gv 1) (gc (.str "under")))) (bv (gOwn f_is_path (aCons (gv 2) aNil)))))
    (sPutL (eFld "Given" "told" (eVar 0)) (ePure (gc (.int 3))) (ePure (gv 2)))
    sNil)
  (sIf (tPure (bAnd (bv (g2 fIn (gv 1) (gTup (aCons (gc (.str "until")) (aCons (gc (.str "lasts")) aNil))))) (bv (g2 fIsNot (gOwn f_moment_in (aCons (gv 2) aNil)) (gc .none)))))
    (sPutL (eFld "Given" "told" (eVar 0)) (ePure (g2 fAdd (gc (.int 4)) (gCall fInt (aCons (g2 fEq (gv 1) (gc (.str "lasts"))) aNil)))) (ePure (gOwn f_moment_in (aCons (gv 2) aNil))))
    sNil)))
noncomputable def f_Given_hear_two : FwT := runW 3 3 w_Given_hear_two
theorem ok_Given_hear_two (T : Fx K mg) : MwK P w K mg base 3 "Given" "hear_two" f_Given_hear_two :=
  mwk_of T.d_Given_hear_two T.t_Given_hear_two sc_Given_hear_two (fun _ _ _ _ _ _ us hl => match us, hl with | [_, _, _], _ => rfl) fun f cdv A outer s H F0 B E o =>
   ((sws_cons (sw_if (tw_pure fun B' => (PW.pt (t_and (t_cmp (o_eq o.ru) (d_var 1) d_str) (t_and1 (t_val (d_call (ok_is_name T) o.hr o.px (a_cons (d_var 2) a_nil)))))))
      (sws_one (sw_putL (ew_pure fun B' => (d_var 2)) (ew_fld T.c_Given T.n_Given_told (ew_var 0)) (ew_pure fun B' => d_int)))
      sws_nil)
    (sws_cons (sw_if (tw_pure fun B' => (PW.pt (t_and (t_cmp (o_eq o.ru) (d_var 1) d_str) (t_and1 (t_val (d_call (ok_is_path T) o.hr o.px (a_cons (d_var 2) a_nil)))))))
      (sws_one (sw_putL (ew_pure fun B' => (d_var 2)) (ew_fld T.c_Given T.n_Given_told (ew_var 0)) (ew_pure fun B' => d_int)))
      sws_nil)
    (sws_one (sw_if (tw_pure fun B' => (PW.pt (t_and (t_cmp (o_in o.ru) (d_var 1) (d_tup (a_cons d_str (a_cons d_str a_nil)))) (t_and1 (t_cmp o_isnot (d_call (ok_moment_in T) o.hr o.px (a_cons (d_var 2) a_nil)) d_non)))))
      (sws_one (sw_putL (ew_pure fun B' => (d_call (ok_moment_in T) o.hr o.px (a_cons (d_var 2) a_nil))) (ew_fld T.c_Given T.n_Given_told (ew_var 0)) (ew_pure fun B' => (d_bin o_add d_int (d_callTy c_int (by rfl) T.b_int bb_int (a_cons (d_cmp (o_eq o.ru) (d_var 1) d_str) a_nil))))))
      sws_nil)))))
/-! Given_hear -/
theorem sc_Given_hear : FnScope ["self", "part", "words"] ["self", "part"] (defScope s_Given_hear) := ⟨rfl, rfl, rfl, by decide +kernel, rfl, by decide +kernel, by decide +kernel⟩
noncomputable def w_Given_hear : TsW :=
  (sSeq (sPure 3 (gSet (sName 2) (gM1 fSplit (gv 1) (gc (.str " ")))))
  (sSeq (sIf (tPure (bv (g2 fEq (gv 1) (gc (.str "safe")))))
    (sPutL (eFld "Given" "told" (eVar 0)) (ePure (gc (.int 6))) (ePure (gc (.bool true))))
    sNil)
  (sSeq (sIf (tPure (bv (g2 fIn (gv 1) (gc (.tuple (List.map PyData.str [("any" : Str), ("near" : Str)]))))))
    (sPutL (eFld "Given" "told" (eVar 0)) (ePure (gc (.int 7))) (ePure (gv 1)))
    sNil)
  (sIf (tPure (bv (g2 fEq (gCall fLen (aCons (gv 2) aNil)) (gc (.int 2)))))
    (sExpr (eMeth "Given" "hear_two" f_Given_hear_two (eVar 0) (aConsW (ePure (g2 fIx (gv 2) (gc (.int 0)))) (aConsW (ePure (g2 fIx (gv 2) (gc (.int 1)))) aNilW))))
    sNil))))
noncomputable def f_Given_hear : FwT := runW 3 2 w_Given_hear
theorem ok_Given_hear (T : Fx K mg) : MwK P w K mg base 4 "Given" "hear" f_Given_hear :=
  mwk_of T.d_Given_hear T.t_Given_hear sc_Given_hear (fun _ _ _ _ _ _ us hl => match us, hl with | [_, _], _ => rfl) fun f cdv A outer s H F0 B E o =>
   ((sws_cons (sw_pure fun B' => (s_set 2 o.nd (d_m1 m_split (d_var 1) d_str)))
    (sws_cons (sw_if (tw_pure fun B' => (t_cmp (o_eq o.ru) (d_var 1) d_str))
      (sws_one (sw_putL (ew_pure fun B' => d_bl) (ew_fld T.c_Given T.n_Given_told (ew_var 0)) (ew_pure fun B' => d_int)))
      sws_nil)
    (sws_cons (sw_if (tw_pure fun B' => (t_cmp (o_in o.ru) (d_var 1) (d_gtup T.t_REACHES)))
      (sws_one (sw_putL (ew_pure fun B' => (d_var 1)) (ew_fld T.c_Given T.n_Given_told (ew_var 0)) (ew_pure fun B' => d_int)))
      sws_nil)
    (sws_one (sw_if (tw_pure fun B' => (t_cmp (o_eq o.ru) (d_callB (c_len) (by rfl) T.b_len bb_len (a_cons (d_var 2) a_nil)) d_int))
      (sws_one (sw_expr (ew_meth T.c_Given (ok_Given_hear_two T) o.hr o.px (ew_var 0) (aw_cons (ew_pure fun B' => (d_ix (d_var 2) d_int)) (aw_cons (ew_pure fun B' => (d_ix (d_var 2) d_int)) aw_nil)))))
      sws_nil))))))
/-! read_given -/
theorem sc_read_given : FnScope ["text", "parts", "sides", "given", "part"] ["text"] (defScope s_read_given) := ⟨rfl, rfl, rfl, by decide +kernel, rfl, by decide +kernel, by decide +kernel⟩
noncomputable def w_read_given : TsW :=
  (sSeq (sPure 5 (gIfS (bNot (bv (gIsi "str" (gv 0))))
    (gRaise "NoNote")
    gSkip))
  (sSeq (sPure 5 (gSet (sName 1) (gLc [4] (sName 4) (gIt (gM1 fSplit (gv 0) (gc (.str ";")))) bYes (gOwn f_trimmed (aCons (gv 4) aNil)))))
  (sSeq (sPure 5 (gSet (sName 2) (gM1 fSplit (g2 fIx (gv 1) (gc (.int 0))) (gc (.str "=")))))
  (sSeq (sPure 5 (gIfS (bOr (bv (g2 fNe (gCall fLen (aCons (gv 2) aNil)) (gc (.int 2)))) (bOr (bNot (bv (gOwn f_is_note_name (aCons (g2 fIx (gv 2) (gc (.int 0))) aNil)))) (bNot (bv (gOwn f_is_worth (aCons (g2 fIx (gv 2) (gc (.int 1))) aNil))))))
    (gRaise "NoNote")
    gSkip))
  (sSeq (sSet 3 (eMake "Given" f_Given___init__ (aConsW (ePure (g2 fIx (gv 2) (gc (.int 0)))) (aConsW (ePure (g2 fIx (gv 2) (gc (.int 1)))) aNilW))))
  (sSeq (sFor (sName 4) (gIt (gSl (gv 1) (oSome (gc (.int 1))) oNone))
    (sExpr (eMeth "Given" "hear" f_Given_hear (eVar 3) (aConsW (ePure (gv 4)) aNilW))))
  (sRet (eTupO (eFld "Given" "told" (eVar 3))))))))))
noncomputable def h_read_given : FwT := runW 5 1 w_read_given
theorem okw_read_given (T : Fx K mg) : FwK P w K mg base 6 "read_given" h_read_given :=
  fwk_of T.d_read_given sc_read_given (fun _ _ _ _ _ _ us hl => match us, hl with | [_], _ => rfl) fun f cdv A outer s H F0 B E o =>
   ((sws_cons (sw_pure fun B' => (s_if (t_not (t_val (d_isi (by rfl) T.b_isinstance bb_isinstance (by rfl) T.b_str bb_str (d_var 0))))
      (ss_one (s_raise T.e_NoNote.c o.calm o.tk))
      ss_nil))
    (sws_cons (sw_pure fun B' => (s_setlc 1 [("part", 4)] o.calm o.nd (blkOk_by (by kernel_rfl)) (i_val (d_m1 m_split (d_var 0) d_str)) (fun _ _ _ _ _ => (g_name 4 o.nd)) (fun _ _ _ _ _ => ts_nil) (fun _ _ _ _ _ => (d_call (ok_trimmed T) o.hr px0 (a_cons (d_var 4) a_nil))) (sName_len 4)))
    (sws_cons (sw_pure fun B' => (s_set 2 o.nd (d_m1 m_split (d_ix (d_var 1) d_int) d_str)))
    (sws_cons (sw_pure fun B' => (s_if (PW.pt (t_or (t_cmp (o_ne o.ru) (d_callB (c_len) (by rfl) T.b_len bb_len (a_cons (d_var 2) a_nil)) d_int) (t_or (t_not (t_val (d_call (ok_is_note_name T) o.hr o.px (a_cons (d_ix (d_var 2) d_int) a_nil)))) (t_or1 (t_not (t_val (d_call (ok_is_worth T) o.hr o.px (a_cons (d_ix (d_var 2) d_int) a_nil))))))))
      (ss_one (s_raise T.e_NoNote.c o.calm o.tk))
      ss_nil))
    (sws_cons (sw_set 3 o.nd (ew_make ⟨T.c_Given, T.o_Given, T.m_Given⟩ (ok_Given___init__ T) o.hr o.px (aw_cons (ew_pure fun B' => (d_ix (d_var 2) d_int)) (aw_cons (ew_pure fun B' => (d_ix (d_var 2) d_int)) aw_nil))))
    (sws_cons (sw_for o.own o.calm (fun B' => (i_val (d_slice (d_var 1) (o_some d_int) o_none))) (fun B' => (g_name 4 o.nd)) (sName_len 4)
      (sws_one (sw_expr (ew_meth T.c_Given (ok_Given_hear T) o.hr o.px (ew_var 3) (aw_cons (ew_pure fun B' => (d_var 4)) aw_nil)))))
    (sws_one (sw_ret (ew_tupO (by rfl) T.b_tuple (ew_fld T.c_Given T.n_Given_told (ew_var 3))))))))))))
noncomputable def f_read_given : List D → R D := closeF h_read_given
theorem ok_read_given (T : Fx K mg) : FK P w K mg base 6 "read_given" f_read_given := fk_close (okw_read_given T)
/-! given_text -/
theorem sc_given_text : FnScope ["given", "name", "worth", "house", "path", "until", "lasts", "safe", "reach", "parts", "word", "thing"] ["given"] (defScope s_given_text) := ⟨rfl, rfl, rfl, by decide +kernel, rfl, by decide +kernel, by decide +kernel⟩
noncomputable def g_given_text : G → R Fl :=
  (gSeq (gExpr (gOwn f_need_given (aCons (gv 0) aNil)))
  (gSeq (gSet (sTup (ssCons 1 (ssCons 2 (ssCons 3 (ssCons 4 (ssCons 5 (ssCons 6 (ssCons 7 (ssCons 8 ssNil))))))))) (gv 0))
  (gSeq (gSetOwn 9 (aCons (g2 fAdd (g2 fAdd (gv 1) (gc (.str "="))) (gv 2)) aNil))
  (gSeq (gFor (sTup (ssCons 10 (ssCons 11 ssNil))) (gIt (gTup (aCons (gTup (aCons (gc (.str "for")) (aCons (gv 3) aNil))) (aCons (gTup (aCons (gc (.str "under")) (aCons (gv 4) aNil))) (aCons (gTup (aCons (gc (.str "until")) (aCons (gv 5) aNil))) (aCons (gTup (aCons (gc (.str "lasts")) (aCons (gv 6) aNil))) aNil))))))
    (gIfS (bv (g2 fIsNot (gv 11) (gc .none)))
    (gApp 9 (g2 fAdd (g2 fAdd (gv 10) (gc (.str " "))) (gCall fStr (aCons (gv 11) aNil))))
    gSkip))
  (gFreeze 9 (gRet (gM1 fJoin (gc (.str "; ")) (g2 fAdd (g2 fAdd (gv 9) (gRep (aCons (gc (.str "safe")) aNil) (gCall fInt (aCons (gv 7) aNil)))) (gRep (aCons (gc (.str "near")) aNil) (gCall fInt (aCons (g2 fEq (gv 8) (gc (.str "near"))) aNil)))))))))))
noncomputable def f_given_text : List D → R D := runD 12 1 g_given_text
theorem fe_given_text (a0 : D) : f_given_text [a0] = endK (g_given_text [.dat a0, .un, .un, .un, .un, .un, .un, .un, .un, .un, .un, .un]) := runD_eq _ _ _ [a0] rfl
theorem ok_given_text (T : Fx K mg) : FK P w K mg base 5 "given_text" f_given_text := by
  obtain ⟨f, fd, Fd, hm⟩ := T.d_given_text.ex
  exact fk_of Fd hm sc_given_text (fun _ _ _ _ _ _ us hl => match us, hl with | [_], _ => rfl) fun cdv A outer s H F0 E o =>
   ((ss_cons (s_expr (d_call (ok_need_given T) o.hr o.px (a_cons (d_var 0) a_nil)))
    (ss_cons (s_asg (d_var 0) (g_tup o.calm (gs_cons 1 o.nd (gs_cons 2 o.nd (gs_cons 3 o.nd (gs_cons 4 o.nd (gs_cons 5 o.nd (gs_cons 6 o.nd (gs_cons 7 o.nd (gs_cons 8 o.nd gs_nil))))))))) (sTup_len' (ssCons_len (ssCons_len (ssCons_len (ssCons_len (ssCons_len (ssCons_len (ssCons_len (ssCons_len ssNil_len))))))))) (sTup_ne (ssCons_ne (ssCons_ne (ssCons_ne (ssCons_ne (ssCons_ne (ssCons_ne (ssCons_ne (ssCons_ne ssNil_ne))))))))))
    (ss_cons (s_own 9 o.nd (a_cons (d_bin o_add (d_bin o_add (d_var 1) d_str) (d_var 2)) a_nil))
    (ss_cons (s_for o.own o.calm (i_val (d_tup (a_cons (d_tup (a_cons d_str (a_cons (d_var 3) a_nil))) (a_cons (d_tup (a_cons d_str (a_cons (d_var 4) a_nil))) (a_cons (d_tup (a_cons d_str (a_cons (d_var 5) a_nil))) (a_cons (d_tup (a_cons d_str (a_cons (d_var 6) a_nil))) a_nil)))))) (g_tup o.calm (gs_cons 10 o.nd (gs_cons 11 o.nd gs_nil))) (sTup_len' (ssCons_len (ssCons_len ssNil_len))) (sTup_ne (ssCons_ne (ssCons_ne ssNil_ne)))
      (ss_one (s_if (t_cmp o_isnot (d_var 11) d_non)
      (ss_one (s_append 9 (d_bin o_add (d_bin o_add (d_var 10) d_str) (d_callTy c_str (by rfl) T.b_str bb_str (a_cons (d_var 11) a_nil)))))
      ss_nil)))
    (ss_freeze 9 (ss_one (s_ret (d_m1 m_join d_str (d_bin o_add (d_bin o_add (d_var 9) (d_rep (a_cons d_str a_nil) (d_callTy c_int (by rfl) T.b_int bb_int (a_cons (d_var 7) a_nil)))) (d_rep (a_cons d_str a_nil) (d_callTy c_int (by rfl) T.b_int bb_int (a_cons (d_cmp (o_eq o.ru) (d_var 8) d_str) a_nil)))))))))))))
/-! _law_cell -/
theorem sc__law_cell : FnScope ["_law_script", "_law_k"] ["_law_script", "_law_k"] (defScope s__law_cell) := ⟨rfl, rfl, rfl, by decide +kernel, rfl, by decide +kernel, by decide +kernel⟩
noncomputable def g__law_cell : G → R Fl :=
  (gSeq (gIfS (bv (g2 fEq (gv 0) (gLst aNil)))
    (gRet (g2 fMul (gc (.int 7)) (gv 1)))
    gSkip)
  (gRet (g2 fAdd (g2 fIx (gv 0) (g2 fMod (gv 1) (gCall fLen (aCons (gv 0) aNil)))) (g2 fMul (gc (.int 6553)) (g2 fDiv (gv 1) (gCall fLen (aCons (gv 0) aNil)))))))
noncomputable def f__law_cell : List D → R D := runD 2 2 g__law_cell
theorem fe__law_cell (a0 a1 : D) : f__law_cell [a0, a1] = endK (g__law_cell [.dat a0, .dat a1]) := runD_eq _ _ _ [a0, a1] rfl
theorem ok__law_cell (T : Fx K mg) : FK P w K mg base 1 "_law_cell" f__law_cell := by
  obtain ⟨f, fd, Fd, hm⟩ := T.d__law_cell.ex
  exact fk_of Fd hm sc__law_cell (fun _ _ _ _ _ _ us hl => match us, hl with | [_, _], _ => rfl) fun cdv A outer s H F0 E o =>
   ((ss_cons (s_if (t_cmp (o_eq o.ru) (d_var 0) (d_lst a_nil))
      (ss_one (s_ret (d_bin o_mul d_int (d_var 1))))
      ss_nil)
    (ss_one (s_ret (d_bin o_add (d_ix (d_var 0) (d_bin o_mod (d_var 1) (d_callB (c_len) (by rfl) T.b_len bb_len (a_cons (d_var 0) a_nil)))) (d_bin o_mul d_int (d_bin o_div (d_var 1) (d_callB (c_len) (by rfl) T.b_len bb_len (a_cons (d_var 0) a_nil)))))))))
/-! _law_drawn -/
theorem sc__law_drawn : FnScope ["_law_script", "_law_k", "_law_many", "_law_cell_here"] ["_law_script", "_law_k", "_law_many"] (defScope s__law_drawn) := ⟨rfl, rfl, rfl, by decide +kernel, rfl, by decide +kernel, by decide +kernel⟩
noncomputable def g__law_drawn : G → R Fl :=
  (gSeq (gSet (sName 3) (g2 fMod (g2 fAdd (g2 fMul (g2 fMod (gOwn f__law_cell (aCons (gv 0) (aCons (gv 1) aNil))) (gc (.int 2147483563))) (gc (.int 69069))) (g2 fMul (gc (.int 104723)) (g2 fAdd (gv 1) (gc (.int 1))))) (gc (.int 2147483563))))
  (gSeq (gSet (sName 3) (g2 fMod (g2 fAdd (g2 fMul (gv 3) (gv 3)) (g2 fDiv (gv 3) (gc (.int 3)))) (gc (.int 2147483399))))
  (gRet (g2 fMod (g2 fDiv (g2 fMod (g2 fAdd (g2 fMul (gv 3) (gv 3)) (g2 fDiv (gv 3) (gc (.int 7)))) (gc (.int 2147483647))) (gc (.int 11))) (gv 2)))))
noncomputable def f__law_drawn : List D → R D := runD 4 3 g__law_drawn
theorem fe__law_drawn (a0 a1 a2 : D) : f__law_drawn [a0, a1, a2] = endK (g__law_drawn [.dat a0, .dat a1, .dat a2, .un]) := runD_eq _ _ _ [a0, a1, a2] rfl
theorem ok__law_drawn (T : Fx K mg) : FK P w K mg base 2 "_law_drawn" f__law_drawn := by
  obtain ⟨f, fd, Fd, hm⟩ := T.d__law_drawn.ex
  exact fk_of Fd hm sc__law_drawn (fun _ _ _ _ _ _ us hl => match us, hl with | [_, _, _], _ => rfl) fun cdv A outer s H F0 E o =>
   ((ss_cons (s_set 3 o.nd (d_bin o_mod (d_bin o_add (d_bin o_mul (d_bin o_mod (d_call (ok__law_cell T) o.hr o.px (a_cons (d_var 0) (a_cons (d_var 1) a_nil))) d_int) d_int) (d_bin o_mul d_int (d_bin o_add (d_var 1) d_int))) d_int))
    (ss_cons (s_set 3 o.nd (d_bin o_mod (d_bin o_add (d_bin o_mul (d_var 3) (d_var 3)) (d_bin o_div (d_var 3) d_int)) d_int))
    (ss_one (s_ret (d_bin o_mod (d_bin o_div (d_bin o_mod (d_bin o_add (d_bin o_mul (d_var 3) (d_var 3)) (d_bin o_div (d_var 3) d_int)) d_int) d_int) (d_var 2)))))))
/-! _law_name -/
theorem sc__law_name : FnScope ["_law_script", "_law_at", "_law_some"] ["_law_script", "_law_at"] (defScope s__law_name) := ⟨rfl, rfl, rfl, by decide +kernel, rfl, by decide +kernel, by decide +kernel⟩
noncomputable def g__law_name : G → R Fl :=
  (gSeq (gSet (sName 2) (gLst (aCons (gc (.str "a.b")) (aCons (gc (.str "b")) (aCons (gc (.str "x.a.b")) (aCons (gc (.str "y.x.a.b")) (aCons (gc (.str "c.uk")) (aCons (gc (.str "uk")) (aCons (gc (.str "d.c.uk")) (aCons (gc (.str "e.d.c.uk")) aNil))))))))))
  (gSeq (gSet (sName 2) (g2 fAdd (gv 2) (gLst (aCons (gc (.str "w.ck")) (aCons (gc (.str "v.w.ck")) (aCons (gc (.str "ck")) (aCons (gc (.str "g-1.a.b")) (aCons (gc (.str "7.b")) (aCons (gc (.str "p.q")) aNil)))))))))
  (gRet (g2 fIx (gv 2) (gOwn f__law_drawn (aCons (gv 0) (aCons (gv 1) (aCons (gCall fLen (aCons (gv 2) aNil)) aNil))))))))
noncomputable def f__law_name : List D → R D := runD 3 2 g__law_name
theorem fe__law_name (a0 a1 : D) : f__law_name [a0, a1] = endK (g__law_name [.dat a0, .dat a1, .un]) := runD_eq _ _ _ [a0, a1] rfl
theorem ok__law_name (T : Fx K mg) : FK P w K mg base 3 "_law_name" f__law_name := by
  obtain ⟨f, fd, Fd, hm⟩ := T.d__law_name.ex
  exact fk_of Fd hm sc__law_name (fun _ _ _ _ _ _ us hl => match us, hl with | [_, _], _ => rfl) fun cdv A outer s H F0 E o =>
   ((ss_cons (s_set 2 o.nd (d_lst (a_cons d_str (a_cons d_str (a_cons d_str (a_cons d_str (a_cons d_str (a_cons d_str (a_cons d_str (a_cons d_str a_nil))))))))))
    (ss_cons (s_set 2 o.nd (d_bin o_add (d_var 2) (d_lst (a_cons d_str (a_cons d_str (a_cons d_str (a_cons d_str (a_cons d_str (a_cons d_str a_nil)))))))))
    (ss_one (s_ret (d_ix (d_var 2) (d_call (ok__law_drawn T) o.hr o.px (a_cons (d_var 0) (a_cons (d_var 1) (a_cons (d_callB (c_len) (by rfl) T.b_len bb_len (a_cons (d_var 2) a_nil)) a_nil))))))))))
/-! _law_path -/
theorem sc__law_path : FnScope ["_law_script", "_law_at", "_law_some"] ["_law_script", "_law_at"] (defScope s__law_path) := ⟨rfl, rfl, rfl, by decide +kernel, rfl, by decide +kernel, by decide +kernel⟩
noncomputable def g__law_path : G → R Fl :=
  (gSeq (gSet (sName 2) (gLst (aCons (gc (.str "/")) (aCons (gc (.str "/x")) (aCons (gc (.str "/x/")) (aCons (gc (.str "/x/y")) (aCons (gc (.str "/xy")) (aCons (gc (.str "/x/y/z.q")) (aCons (gc (.str "//")) (aCons (gc (.str "/-_.9")) (aCons (gc (.str "/x/y/")) aNil)))))))))))
  (gRet (g2 fIx (gv 2) (gOwn f__law_drawn (aCons (gv 0) (aCons (gv 1) (aCons (gCall fLen (aCons (gv 2) aNil)) aNil)))))))
noncomputable def f__law_path : List D → R D := runD 3 2 g__law_path
theorem fe__law_path (a0 a1 : D) : f__law_path [a0, a1] = endK (g__law_path [.dat a0, .dat a1, .un]) := runD_eq _ _ _ [a0, a1] rfl
theorem ok__law_path (T : Fx K mg) : FK P w K mg base 3 "_law_path" f__law_path := by
  obtain ⟨f, fd, Fd, hm⟩ := T.d__law_path.ex
  exact fk_of Fd hm sc__law_path (fun _ _ _ _ _ _ us hl => match us, hl with | [_, _], _ => rfl) fun cdv A outer s H F0 E o =>
   ((ss_cons (s_set 2 o.nd (d_lst (a_cons d_str (a_cons d_str (a_cons d_str (a_cons d_str (a_cons d_str (a_cons d_str (a_cons d_str (a_cons d_str (a_cons d_str a_nil)))))))))))
    (ss_one (s_ret (d_ix (d_var 2) (d_call (ok__law_drawn T) o.hr o.px (a_cons (d_var 0) (a_cons (d_var 1) (a_cons (d_callB (c_len) (by rfl) T.b_len bb_len (a_cons (d_var 2) a_nil)) a_nil)))))))))
/-! _law_given -/
theorem sc__law_given : FnScope ["_law_script", "_law_at", "_law_house", "_law_name_here", "_law_worth", "_law_some", "_law_path_here", "_law_until", "_law_lasts", "_law_reach", "_law_safe"] ["_law_script", "_law_at", "_law_house"] (defScope s__law_given) := ⟨rfl, rfl, rfl, by decide +kernel, rfl, by decide +kernel, by decide +kernel⟩
noncomputable def g__law_given : G → R Fl :=
  (gSeq (gSet (sName 3) (g2 fIx (gLst (aCons (gc (.str "n")) (aCons (gc (.str "safe-a")) (aCons (gc (.str "own-b")) (aCons (gc (.str "N_2")) (aCons (gc (.str "m-1")) (aCons (gc (.str "safe-")) (aCons (gc (.str "n")) aNil)))))))) (gOwn f__law_drawn (aCons (gv 0) (aCons (gv 1) (aCons (gc (.int 7)) aNil))))))
  (gSeq (gSet (sName 4) (g2 fIx (gLst (aCons (gc (.str "5")) (aCons (gc (.str "")) (aCons (gc (.str "a!b~")) (aCons (gc (.str "x/y?z")) (aCons (gc (.str "123456789012")) aNil)))))) (gOwn f__law_drawn (aCons (gv 0) (aCons (g2 fAdd (gv 1) (gc (.int 1))) (aCons (gc (.int 5)) aNil))))))
  (gSeq (gSetOwn 5 (aCons (gc .none) (aCons (gc .none) (aCons (gv 2) (aCons (g2 fIx (gM1 fSplit (gv 2) (gc (.str "."))) (gNeg (gc (.int 1)))) (aCons (gOwn f__law_name (aCons (gv 0) (aCons (g2 fAdd (gv 1) (gc (.int 3))) aNil))) aNil))))))
  (gSeq (gApp 5 (gIf (bv (g2 fIn (gc (.str ".")) (gv 2))) (gSl (gv 2) (oSome (g2 fAdd (gM1 fSIndex (gv 2) (gc (.str "."))) (gc (.int 1)))) oNone) (gv 2)))
  (gSeq (gSet (sName 6) (g2 fIx (gLst (aCons (gc .none) (aCons (gc (.str "/")) (aCons (gOwn f__law_path (aCons (gv 0) (aCons (g2 fAdd (gv 1) (gc (.int 5))) aNil))) aNil)))) (gOwn f__law_drawn (aCons (gv 0) (aCons (g2 fAdd (gv 1) (gc (.int 4))) (aCons (gc (.int 3)) aNil))))))
  (gSeq (gSet (sName 7) (g2 fIx (gLst (aCons (gc .none) (aCons (gc .none) (aCons (gOwn f__law_drawn (aCons (gv 0) (aCons (g2 fAdd (gv 1) (gc (.int 7))) (aCons (gc (.int 60)) aNil)))) aNil)))) (gOwn f__law_drawn (aCons (gv 0) (aCons (g2 fAdd (gv 1) (gc (.int 6))) (aCons (gc (.int 3)) aNil))))))
  (gSeq (gSet (sName 8) (g2 fIx (gLst (aCons (gc .none) (aCons (gc .none) (aCons (gOwn f__law_drawn (aCons (gv 0) (aCons (g2 fAdd (gv 1) (gc (.int 9))) (aCons (gc (.int 30)) aNil)))) aNil)))) (gOwn f__law_drawn (aCons (gv 0) (aCons (g2 fAdd (gv 1) (gc (.int 8))) (aCons (gc (.int 3)) aNil))))))
  (gSeq (gSet (sName 9) (g2 fIx (gLst (aCons (gc (.str "any")) (aCons (gc (.str "near")) aNil))) (gOwn f__law_drawn (aCons (gv 0) (aCons (g2 fAdd (gv 1) (gc (.int 11))) (aCons (gc (.int 2)) aNil))))))
  (gSeq (gSet (sName 10) (g2 fEq (gOwn f__law_drawn (aCons (gv 0) (aCons (g2 fAdd (gv 1) (gc (.int 10))) (aCons (gc (.int 2)) aNil)))) (gc (.int 0))))
  (gFreeze 5 (gRet (gTup (aCons (gv 3) (aCons (gv 4) (aCons (g2 fIx (gv 5) (gOwn f__law_drawn (aCons (gv 0) (aCons (g2 fAdd (gv 1) (gc (.int 2))) (aCons (gc (.int 6)) aNil))))) (aCons (gv 6) (aCons (gv 7) (aCons (gv 8) (aCons (gv 10) (aCons (gv 9) aNil))))))))))))))))))))
noncomputable def f__law_given : List D → R D := runD 11 3 g__law_given
theorem fe__law_given (a0 a1 a2 : D) : f__law_given [a0, a1, a2] = endK (g__law_given [.dat a0, .dat a1, .dat a2, .un, .un, .un, .un, .un, .un, .un, .un]) := runD_eq _ _ _ [a0, a1, a2] rfl
theorem ok__law_given (T : Fx K mg) : FK P w K mg base 4 "_law_given" f__law_given := by
  obtain ⟨f, fd, Fd, hm⟩ := T.d__law_given.ex
  exact fk_of Fd hm sc__law_given (fun _ _ _ _ _ _ us hl => match us, hl with | [_, _, _], _ => rfl) fun cdv A outer s H F0 E o =>
   ((ss_cons (s_set 3 o.nd (d_ix (d_lst (a_cons d_str (a_cons d_str (a_cons d_str (a_cons d_str (a_cons d_str (a_cons d_str (a_cons d_str a_nil)))))))) (d_call (ok__law_drawn T) o.hr o.px (a_cons (d_var 0) (a_cons (d_var 1) (a_cons d_int a_nil))))))
    (ss_cons (s_set 4 o.nd (d_ix (d_lst (a_cons d_str (a_cons d_str (a_cons d_str (a_cons d_str (a_cons d_str a_nil)))))) (d_call (ok__law_drawn T) o.hr o.px (a_cons (d_var 0) (a_cons (d_bin o_add (d_var 1) d_int) (a_cons d_int a_nil))))))
    (ss_cons (s_own 5 o.nd (a_cons d_non (a_cons d_non (a_cons (d_var 2) (a_cons (d_ix (d_m1 m_split (d_var 2) d_str) (d_neg d_int)) (a_cons (d_call (ok__law_name T) o.hr o.px (a_cons (d_var 0) (a_cons (d_bin o_add (d_var 1) d_int) a_nil))) a_nil))))))
    (ss_cons (s_append 5 (d_if (t_cmp (o_in o.ru) d_str (d_var 2)) (d_slice (d_var 2) (o_some (d_bin o_add (d_m1 m_sindex (d_var 2) d_str) d_int)) o_none) (d_var 2)))
    (ss_cons (s_set 6 o.nd (d_ix (d_lst (a_cons d_non (a_cons d_str (a_cons (d_call (ok__law_path T) o.hr o.px (a_cons (d_var 0) (a_cons (d_bin o_add (d_var 1) d_int) a_nil))) a_nil)))) (d_call (ok__law_drawn T) o.hr o.px (a_cons (d_var 0) (a_cons (d_bin o_add (d_var 1) d_int) (a_cons d_int a_nil))))))
    (ss_cons (s_set 7 o.nd (d_ix (d_lst (a_cons d_non (a_cons d_non (a_cons (d_call (ok__law_drawn T) o.hr o.px (a_cons (d_var 0) (a_cons (d_bin o_add (d_var 1) d_int) (a_cons d_int a_nil)))) a_nil)))) (d_call (ok__law_drawn T) o.hr o.px (a_cons (d_var 0) (a_cons (d_bin o_add (d_var 1) d_int) (a_cons d_int a_nil))))))
    (ss_cons (s_set 8 o.nd (d_ix (d_lst (a_cons d_non (a_cons d_non (a_cons (d_call (ok__law_drawn T) o.hr o.px (a_cons (d_var 0) (a_cons (d_bin o_add (d_var 1) d_int) (a_cons d_int a_nil)))) a_nil)))) (d_call (ok__law_drawn T) o.hr o.px (a_cons (d_var 0) (a_cons (d_bin o_add (d_var 1) d_int) (a_cons d_int a_nil))))))
    (ss_cons (s_set 9 o.nd (d_ix (d_lst (a_cons d_str (a_cons d_str a_nil))) (d_call (ok__law_drawn T) o.hr o.px (a_cons (d_var 0) (a_cons (d_bin o_add (d_var 1) d_int) (a_cons d_int a_nil))))))
    (ss_cons (s_set 10 o.nd (d_cmp (o_eq o.ru) (d_call (ok__law_drawn T) o.hr o.px (a_cons (d_var 0) (a_cons (d_bin o_add (d_var 1) d_int) (a_cons d_int a_nil)))) d_int))
    (ss_freeze 5 (ss_one (s_ret (d_tup (a_cons (d_var 3) (a_cons (d_var 4) (a_cons (d_ix (d_var 5) (d_call (ok__law_drawn T) o.hr o.px (a_cons (d_var 0) (a_cons (d_bin o_add (d_var 1) d_int) (a_cons d_int a_nil))))) (a_cons (d_var 6) (a_cons (d_var 7) (a_cons (d_var 8) (a_cons (d_var 10) (a_cons (d_var 9) a_nil))))))))))))))))))))))
/-! _law_text -/
theorem sc__law_text : FnScope ["_law_given_here", "_law_name_here", "_law_worth", "_law_house", "_law_path_here", "_law_until", "_law_lasts", "_law_safe", "_law_reach", "_law_text_here", "_law_word", "_law_thing"] ["_law_given_here"] (defScope s__law_text) := ⟨rfl, rfl, rfl, by decide +kernel, rfl, by decide +kernel, by decide +kernel⟩
noncomputable def g__law_text : G → R Fl :=
  (gSeq (gSet (sTup (ssCons 1 (ssCons 2 (ssCons 3 (ssCons 4 ssNil))))) (gSl (gv 0) oNone (oSome (gc (.int 4)))))
  (gSeq (gSet (sTup (ssCons 5 (ssCons 6 (ssCons 7 (ssCons 8 ssNil))))) (gSl (gv 0) (oSome (gc (.int 4))) oNone))
  (gSeq (gSet (sName 9) (g2 fAdd (g2 fAdd (gv 1) (gc (.str "="))) (gv 2)))
  (gSeq (gFor (sTup (ssCons 10 (ssCons 11 ssNil))) (gZip (aCons (gTup (aCons (gc (.str "for")) (aCons (gc (.str "under")) (aCons (gc (.str "until")) (aCons (gc (.str "lasts")) aNil))))) (aCons (gSl (gv 0) (oSome (gc (.int 2))) (oSome (gc (.int 6)))) aNil)))
    (gIfS (bv (g2 fIsNot (gv 11) (gc .none)))
    (gSet (sName 9) (g2 fAdd (g2 fAdd (g2 fAdd (g2 fAdd (gv 9) (gc (.str "; "))) (gv 10)) (gc (.str " "))) (gCall fStr (aCons (gv 11) aNil))))
    gSkip))
  (gRet (g2 fAdd (g2 fAdd (gv 9) (gIf (bv (gv 7)) (gc (.str "; safe")) (gc (.str "")))) (gIf (bv (g2 fEq (gv 8) (gc (.str "near")))) (gc (.str "; near")) (gc (.str "")))))))))
noncomputable def f__law_text : List D → R D := runD 12 1 g__law_text
theorem fe__law_text (a0 : D) : f__law_text [a0] = endK (g__law_text [.dat a0, .un, .un, .un, .un, .un, .un, .un, .un, .un, .un, .un]) := runD_eq _ _ _ [a0] rfl
theorem ok__law_text (T : Fx K mg) : FK P w K mg base 1 "_law_text" f__law_text := by
  obtain ⟨f, fd, Fd, hm⟩ := T.d__law_text.ex
  exact fk_of Fd hm sc__law_text (fun _ _ _ _ _ _ us hl => match us, hl with | [_], _ => rfl) fun cdv A outer s H F0 E o =>
   ((ss_cons (s_asg (d_slice (d_var 0) o_none (o_some d_int)) (g_tup o.calm (gs_cons 1 o.nd (gs_cons 2 o.nd (gs_cons 3 o.nd (gs_cons 4 o.nd gs_nil))))) (sTup_len' (ssCons_len (ssCons_len (ssCons_len (ssCons_len ssNil_len))))) (sTup_ne (ssCons_ne (ssCons_ne (ssCons_ne (ssCons_ne ssNil_ne))))))
    (ss_cons (s_asg (d_slice (d_var 0) (o_some d_int) o_none) (g_tup o.calm (gs_cons 5 o.nd (gs_cons 6 o.nd (gs_cons 7 o.nd (gs_cons 8 o.nd gs_nil))))) (sTup_len' (ssCons_len (ssCons_len (ssCons_len (ssCons_len ssNil_len))))) (sTup_ne (ssCons_ne (ssCons_ne (ssCons_ne (ssCons_ne ssNil_ne))))))
    (ss_cons (s_set 9 o.nd (d_bin o_add (d_bin o_add (d_var 1) d_str) (d_var 2)))
    (ss_cons (s_for o.own o.calm (i_zip (by rfl) T.b_zip (a_cons (d_tup (a_cons d_str (a_cons d_str (a_cons d_str (a_cons d_str a_nil))))) (a_cons (d_slice (d_var 0) (o_some d_int) (o_some d_int)) a_nil))) (g_tup o.calm (gs_cons 10 o.nd (gs_cons 11 o.nd gs_nil))) (sTup_len' (ssCons_len (ssCons_len ssNil_len))) (sTup_ne (ssCons_ne (ssCons_ne ssNil_ne)))
      (ss_one (s_if (t_cmp o_isnot (d_var 11) d_non)
      (ss_one (s_set 9 o.nd (d_bin o_add (d_bin o_add (d_bin o_add (d_bin o_add (d_var 9) d_str) (d_var 10)) d_str) (d_callTy c_str (by rfl) T.b_str bb_str (a_cons (d_var 11) a_nil)))))
      ss_nil)))
    (ss_one (s_ret (d_bin o_add (d_bin o_add (d_var 9) (d_if (t_val (d_var 7)) d_str d_str)) (d_if (t_cmp (o_eq o.ru) (d_var 8) d_str) d_str d_str)))))))))
/-! law -/
theorem sc_law : FnScope ["_law_script", "_law_given_here", "_law_other", "_law_text_here", "_law_parts", "_law_turned", "_law_at", "_law_some", "_law_odd", "_law_ahead", "_law_again", "_law_due", "_law_mine", "_law_old"] ["_law_script"] (defScope s_law) := ⟨rfl, rfl, rfl, by decide +kernel, rfl, by decide +kernel, by decide +kernel⟩
noncomputable def g_law_b1 : G → R Fl :=
  (gApp 11 (gIf (bv (g2 fIs (gv 12) (gc .none))) (gv 13) (gv 12)))
noncomputable def g_law : G → R Fl :=
  (gSeq (gSet (sName 1) (gOwn f__law_given (aCons (gv 0) (aCons (gc (.int 0)) (aCons (gOwn f__law_name (aCons (gv 0) (aCons (gc (.int 20)) aNil))) aNil)))))
  (gSeq (gSet (sName 2) (gOwn f__law_given (aCons (gv 0) (aCons (gc (.int 30)) (aCons (gOwn f__law_name (aCons (gv 0) (aCons (gc (.int 50)) aNil))) aNil)))))
  (gSeq (gSet (sName 3) (gOwn f_given_text (aCons (gv 1) aNil)))
  (gSeq (gIfS (bOr (bv (g2 fNe (gOwn f_read_given (aCons (gv 3) aNil)) (gv 1))) (bOr (bv (g2 fNe (gv 3) (gOwn f__law_text (aCons (gv 1) aNil)))) (bNot (bv (gOwn f_is_given (aCons (gOwn f_read_given (aCons (gv 3) aNil)) aNil))))))
    (gRet (gc (.bool false)))
    gSkip)
  (gSeq (gIfS (bv (g2 fNe (g2 fEq (gOwn f_given_text (aCons (gv 2) aNil)) (gv 3)) (g2 fEq (gv 2) (gv 1))))
    (gRet (gc (.bool false)))
    gSkip)
  (gSeq (gSet (sName 4) (gM1 fSplit (gv 3) (gc (.str "; "))))
  (gSeq (gSet (sName 5) (g2 fAdd (gSl (gv 4) oNone (oSome (gc (.int 1)))) (gRevs (gSl (gv 4) (oSome (gc (.int 1))) oNone))))
  (gSeq (gIfS (bOr (bv (g2 fNe (gOwn f_read_given (aCons (gM1 fJoin (gc (.str ";")) (gv 5)) aNil)) (gv 1))) (bv (g2 fNe (gOwn f_read_given (aCons (gM1 fJoin (gc (.str "  ;  ")) (gv 4)) aNil)) (gv 1))))
    (gRet (gc (.bool false)))
    gSkip)
  (gSeq (gSet (sName 6) (g2 fAdd (gc (.int 1)) (gOwn f__law_drawn (aCons (gv 0) (aCons (gc (.int 60)) (aCons (gCall fLen (aCons (gv 4) aNil)) aNil))))))
  (gSeq (gSet (sName 7) (gLst (aCons (gc (.str "x=y")) (aCons (gc (.str "until")) (aCons (gc (.str "for A")) (aCons (gc (.str "under b")) (aCons (gc (.str "lasts 99999")) (aCons (gc (.str "SAFE")) (aCons (gc (.str "")) (aCons (gc (.str "safe near")) (aCons (gc (.str "until  7")) aNil)))))))))))
  (gSeq (gSet (sName 8) (g2 fIx (gv 7) (gOwn f__law_drawn (aCons (gv 0) (aCons (gc (.int 61)) (aCons (gc (.int 9)) aNil))))))
  (gSeq (gIfS (bv (g2 fNe (gOwn f_read_given (aCons (gM1 fJoin (gc (.str "; ")) (g2 fAdd (g2 fAdd (gSl (gv 4) oNone (oSome (gv 6))) (gLst (aCons (gv 8) aNil))) (gSl (gv 4) (oSome (gv 6)) oNone))) aNil)) (gv 1)))
    (gRet (gc (.bool false)))
    gSkip)
  (gSeq (gSet (sName 9) (g2 fAdd (g2 fAdd (gSl (gv 4) oNone (oSome (gc (.int 1)))) (gLst (aCons (gc (.str "until 17")) (aCons (gc (.str "under /q")) (aCons (gc (.str "lasts 4")) (aCons (gc (.str "for q.r")) aNil)))))) (gSl (gv 4) (oSome (gc (.int 1))) oNone)))
  (gSeq (gSet (sName 10) (gOwn f_read_given (aCons (gM1 fJoin (gc (.str "; ")) (gv 9)) aNil)))
  (gSeq (gSetOwn 11 aNil)
  (gSeq (gFor (sTup (ssCons 12 (ssCons 13 ssNil))) (gZip (aCons (gSl (gv 1) (oSome (gc (.int 2))) (oSome (gc (.int 6)))) (aCons (gTup (aCons (gc (.str "q.r")) (aCons (gc (.str "/q")) (aCons (gc (.int 17)) (aCons (gc (.int 4)) aNil))))) aNil)))
    g_law_b1)
  (gFreeze 11 (gRet (g2 fEq (gv 10) (g2 fAdd (g2 fAdd (gSl (gv 1) oNone (oSome (gc (.int 2)))) (gCall fTuple (aCons (gv 11) aNil))) (gSl (gv 1) (oSome (gc (.int 6))) oNone)))))))))))))))))))))
noncomputable def f_law : List D → R D := runD 14 1 g_law
theorem fe_law (a0 : D) : f_law [a0] = endK (g_law [.dat a0, .un, .un, .un, .un, .un, .un, .un, .un, .un, .un, .un, .un, .un]) := runD_eq _ _ _ [a0] rfl
theorem ok_law (T : Fx K mg) {fa : Addr} (hfa : mg "law" = some (.ref fa)) : ∃ fd : FuncData, (∀ (s : Shared) (u : Value), BindsTo s fd ⟨[u], []⟩ [("_law_script", u)]) ∧ ∀ base : Heap, FnOk P w K mg base (L2.CX P w) 7 fa fd ["_law_script"] (spD K mg f_law) :=
  law_fn T.d_law hfa sc_law (fun _ _ _ _ _ _ us hl => match us, hl with | [_], _ => rfl) fun base f cdv A outer s H F0 E o =>
   ((ss_cons (s_set 1 o.nd (d_call (ok__law_given T) o.hr o.px (a_cons (d_var 0) (a_cons d_int (a_cons (d_call (ok__law_name T) o.hr o.px (a_cons (d_var 0) (a_cons d_int a_nil))) a_nil)))))
    (ss_cons (s_set 2 o.nd (d_call (ok__law_given T) o.hr o.px (a_cons (d_var 0) (a_cons d_int (a_cons (d_call (ok__law_name T) o.hr o.px (a_cons (d_var 0) (a_cons d_int a_nil))) a_nil)))))
    (ss_cons (s_set 3 o.nd (d_call (ok_given_text T) o.hr o.px (a_cons (d_var 1) a_nil)))
    (ss_cons (s_if (PW.pt (t_or (t_cmp (o_ne o.ru) (d_call (ok_read_given T) o.hr o.px (a_cons (d_var 3) a_nil)) (d_var 1)) (t_or (t_cmp (o_ne o.ru) (d_var 3) (d_call (ok__law_text T) o.hr o.px (a_cons (d_var 1) a_nil))) (t_or1 (t_not (t_val (d_call (ok_is_given T) o.hr o.px (a_cons (d_call (ok_read_given T) o.hr o.px (a_cons (d_var 3) a_nil)) a_nil))))))))
      (ss_one (s_ret d_bl))
      ss_nil)
    (ss_cons (s_if (t_cmp (o_ne o.ru) (d_cmp (o_eq o.ru) (d_call (ok_given_text T) o.hr o.px (a_cons (d_var 2) a_nil)) (d_var 3)) (d_cmp (o_eq o.ru) (d_var 2) (d_var 1)))
      (ss_one (s_ret d_bl))
      ss_nil)
    (ss_cons (s_set 4 o.nd (d_m1 m_split (d_var 3) d_str))
    (ss_cons (s_set 5 o.nd (d_bin o_add (d_slice (d_var 4) o_none (o_some d_int)) (d_revs (d_slice (d_var 4) (o_some d_int) o_none))))
    (ss_cons (s_if (PW.pt (t_or (t_cmp (o_ne o.ru) (d_call (ok_read_given T) o.hr o.px (a_cons (d_m1 m_join d_str (d_var 5)) a_nil)) (d_var 1)) (t_or1 (t_cmp (o_ne o.ru) (d_call (ok_read_given T) o.hr o.px (a_cons (d_m1 m_join d_str (d_var 4)) a_nil)) (d_var 1)))))
      (ss_one (s_ret d_bl))
      ss_nil)
    (ss_cons (s_set 6 o.nd (d_bin o_add d_int (d_call (ok__law_drawn T) o.hr o.px (a_cons (d_var 0) (a_cons d_int (a_cons (d_callB (c_len) (by rfl) T.b_len bb_len (a_cons (d_var 4) a_nil)) a_nil))))))
    (ss_cons (s_set 7 o.nd (d_lst (a_cons d_str (a_cons d_str (a_cons d_str (a_cons d_str (a_cons d_str (a_cons d_str (a_cons d_str (a_cons d_str (a_cons d_str a_nil)))))))))))
    (ss_cons (s_set 8 o.nd (d_ix (d_var 7) (d_call (ok__law_drawn T) o.hr o.px (a_cons (d_var 0) (a_cons d_int (a_cons d_int a_nil))))))
    (ss_cons (s_if (t_cmp (o_ne o.ru) (d_call (ok_read_given T) o.hr o.px (a_cons (d_m1 m_join d_str (d_bin o_add (d_bin o_add (d_slice (d_var 4) o_none (o_some (d_var 6))) (d_lst (a_cons (d_var 8) a_nil))) (d_slice (d_var 4) (o_some (d_var 6)) o_none))) a_nil)) (d_var 1))
      (ss_one (s_ret d_bl))
      ss_nil)
    (ss_cons (s_set 9 o.nd (d_bin o_add (d_bin o_add (d_slice (d_var 4) o_none (o_some d_int)) (d_lst (a_cons d_str (a_cons d_str (a_cons d_str (a_cons d_str a_nil)))))) (d_slice (d_var 4) (o_some d_int) o_none)))
    (ss_cons (s_set 10 o.nd (d_call (ok_read_given T) o.hr o.px (a_cons (d_m1 m_join d_str (d_var 9)) a_nil)))
    (ss_cons (s_own 11 o.nd a_nil)
    (ss_cons (s_for o.own o.calm (i_zip (by rfl) T.b_zip (a_cons (d_slice (d_var 1) (o_some d_int) (o_some d_int)) (a_cons (d_tup (a_cons d_str (a_cons d_str (a_cons d_int (a_cons d_int a_nil))))) a_nil))) (g_tup o.calm (gs_cons 12 o.nd (gs_cons 13 o.nd gs_nil))) (sTup_len' (ssCons_len (ssCons_len ssNil_len))) (sTup_ne (ssCons_ne (ssCons_ne ssNil_ne)))
      (ss_one (s_append 11 (d_if (t_cmp o_is (d_var 12) d_non) (d_var 13) (d_var 12)))))
    (ss_freeze 11 (ss_one (s_ret (d_cmp (o_eq o.ru) (d_var 10) (d_bin o_add (d_bin o_add (d_slice (d_var 1) o_none (o_some d_int)) (d_callTy c_tuple (by rfl) T.b_tuple bb_tuple (a_cons (d_var 11) a_nil))) (d_slice (d_var 1) (o_some d_int) o_none)))))))))))))))))))))))
end
end NJ
namespace NJ
open PySem PySem.Spec L2 ND
@[simp] theorem lit_0 : (PyData.str "" : D) = T [] := rfl
@[simp] theorem lit_1 : (PyData.str " " : D) = T [32] := rfl
@[simp] theorem lit_2 : (PyData.str "  ;  " : D) = T [32, 32, 59, 32, 32] := rfl
@[simp] theorem lit_3 : (PyData.str "!" : D) = T [33] := rfl
@[simp] theorem lit_4 : (PyData.str "-" : D) = T [45] := rfl
@[simp] theorem lit_5 : (PyData.str "-_" : D) = T [45, 95] := rfl
@[simp] theorem lit_6 : (PyData.str "-_./" : D) = T OT := rfl
@[simp] theorem lit_7 : (PyData.str "." : D) = T [46] := rfl
@[simp] theorem lit_8 : (PyData.str "/" : D) = T [47] := rfl
@[simp] theorem lit_9 : (PyData.str "/-_.9" : D) = T [47, 45, 95, 46, 57] := rfl
@[simp] theorem lit_10 : (PyData.str "//" : D) = T [47, 47] := rfl
@[simp] theorem lit_11 : (PyData.str "/q" : D) = T [47, 113] := rfl
@[simp] theorem lit_12 : (PyData.str "/x" : D) = T [47, 120] := rfl
@[simp] theorem lit_13 : (PyData.str "/x/" : D) = T [47, 120, 47] := rfl
@[simp] theorem lit_14 : (PyData.str "/x/y" : D) = T [47, 120, 47, 121] := rfl
@[simp] theorem lit_15 : (PyData.str "/x/y/" : D) = T [47, 120, 47, 121, 47] := rfl
@[simp] theorem lit_16 : (PyData.str "/x/y/z.q" : D) = T [47, 120, 47, 121, 47, 122, 46, 113] := rfl
@[simp] theorem lit_17 : (PyData.str "/xy" : D) = T [47, 120, 121] := rfl
@[simp] theorem lit_18 : (PyData.str "0123456789" : D) = T FG := rfl
@[simp] theorem lit_19 : (PyData.str "123456789012" : D) = T [49, 50, 51, 52, 53, 54, 55, 56, 57, 48, 49, 50] := rfl
@[simp] theorem lit_20 : (PyData.str "5" : D) = T [53] := rfl
@[simp] theorem lit_21 : (PyData.str "7.b" : D) = T [55, 46, 98] := rfl
@[simp] theorem lit_22 : (PyData.str ";" : D) = T [59] := rfl
@[simp] theorem lit_23 : (PyData.str "; " : D) = T [59, 32] := rfl
@[simp] theorem lit_24 : (PyData.str "; near" : D) = T [59, 32, 110, 101, 97, 114] := rfl
@[simp] theorem lit_25 : (PyData.str "; safe" : D) = T [59, 32, 115, 97, 102, 101] := rfl
@[simp] theorem lit_26 : (PyData.str ";,=" : D) = T [59, 44, 61] := rfl
@[simp] theorem lit_27 : (PyData.str "=" : D) = T [61] := rfl
@[simp] theorem lit_28 : (PyData.str "ABCDEFGHIJKLMNOPQRSTUVWXYZ" : D) = T GR := rfl
@[simp] theorem lit_29 : (PyData.str "N_2" : D) = T [78, 95, 50] := rfl
@[simp] theorem lit_30 : (PyData.str "SAFE" : D) = T [83, 65, 70, 69] := rfl
@[simp] theorem lit_31 : (PyData.str "a!b~" : D) = T [97, 33, 98, 126] := rfl
@[simp] theorem lit_32 : (PyData.str "a.b" : D) = T [97, 46, 98] := rfl
@[simp] theorem lit_33 : (PyData.str "abcdefghijklmnopqrstuvwxyz" : D) = T SM := rfl
@[simp] theorem lit_34 : (PyData.str "any" : D) = T [97, 110, 121] := rfl
@[simp] theorem lit_35 : (PyData.str "b" : D) = T [98] := rfl
@[simp] theorem lit_36 : (PyData.str "c.uk" : D) = T [99, 46, 117, 107] := rfl
@[simp] theorem lit_37 : (PyData.str "ck" : D) = T [99, 107] := rfl
@[simp] theorem lit_38 : (PyData.str "d.c.uk" : D) = T [100, 46, 99, 46, 117, 107] := rfl
@[simp] theorem lit_39 : (PyData.str "e.d.c.uk" : D) = T [101, 46, 100, 46, 99, 46, 117, 107] := rfl
@[simp] theorem lit_40 : (PyData.str "for" : D) = T [102, 111, 114] := rfl
@[simp] theorem lit_41 : (PyData.str "for A" : D) = T [102, 111, 114, 32, 65] := rfl
@[simp] theorem lit_42 : (PyData.str "for q.r" : D) = T [102, 111, 114, 32, 113, 46, 114] := rfl
@[simp] theorem lit_43 : (PyData.str "g-1.a.b" : D) = T [103, 45, 49, 46, 97, 46, 98] := rfl
@[simp] theorem lit_44 : (PyData.str "lasts" : D) = T [108, 97, 115, 116, 115] := rfl
@[simp] theorem lit_45 : (PyData.str "lasts 4" : D) = T [108, 97, 115, 116, 115, 32, 52] := rfl
@[simp] theorem lit_46 : (PyData.str "lasts 99999" : D) = T [108, 97, 115, 116, 115, 32, 57, 57, 57, 57, 57] := rfl
@[simp] theorem lit_47 : (PyData.str "m-1" : D) = T [109, 45, 49] := rfl
@[simp] theorem lit_48 : (PyData.str "n" : D) = T [110] := rfl
@[simp] theorem lit_49 : (PyData.str "near" : D) = T [110, 101, 97, 114] := rfl
@[simp] theorem lit_50 : (PyData.str "own-b" : D) = T [111, 119, 110, 45, 98] := rfl
@[simp] theorem lit_51 : (PyData.str "p.q" : D) = T [112, 46, 113] := rfl
@[simp] theorem lit_52 : (PyData.str "q.r" : D) = T [113, 46, 114] := rfl
@[simp] theorem lit_53 : (PyData.str "safe" : D) = T [115, 97, 102, 101] := rfl
@[simp] theorem lit_54 : (PyData.str "safe near" : D) = T [115, 97, 102, 101, 32, 110, 101, 97, 114] := rfl
@[simp] theorem lit_55 : (PyData.str "safe-" : D) = T [115, 97, 102, 101, 45] := rfl
@[simp] theorem lit_56 : (PyData.str "safe-a" : D) = T [115, 97, 102, 101, 45, 97] := rfl
@[simp] theorem lit_57 : (PyData.str "uk" : D) = T [117, 107] := rfl
@[simp] theorem lit_58 : (PyData.str "under" : D) = T [117, 110, 100, 101, 114] := rfl
@[simp] theorem lit_59 : (PyData.str "under /q" : D) = T [117, 110, 100, 101, 114, 32, 47, 113] := rfl
@[simp] theorem lit_60 : (PyData.str "under b" : D) = T [117, 110, 100, 101, 114, 32, 98] := rfl
@[simp] theorem lit_61 : (PyData.str "until" : D) = T [117, 110, 116, 105, 108] := rfl
@[simp] theorem lit_62 : (PyData.str "until  7" : D) = T [117, 110, 116, 105, 108, 32, 32, 55] := rfl
@[simp] theorem lit_63 : (PyData.str "until 17" : D) = T [117, 110, 116, 105, 108, 32, 49, 55] := rfl
@[simp] theorem lit_64 : (PyData.str "v.w.ck" : D) = T [118, 46, 119, 46, 99, 107] := rfl
@[simp] theorem lit_65 : (PyData.str "w.ck" : D) = T [119, 46, 99, 107] := rfl
@[simp] theorem lit_66 : (PyData.str "x.a.b" : D) = T [120, 46, 97, 46, 98] := rfl
@[simp] theorem lit_67 : (PyData.str "x/y?z" : D) = T [120, 47, 121, 63, 122] := rfl
@[simp] theorem lit_68 : (PyData.str "x=y" : D) = T [120, 61, 121] := rfl
@[simp] theorem lit_69 : (PyData.str "y.x.a.b" : D) = T [121, 46, 120, 46, 97, 46, 98] := rfl
@[simp] theorem lit_70 : (PyData.str "~" : D) = T [126] := rfl
/-! ### the draws: some number below many, whatever the script -/
theorem log2_lt {n k : Nat} (h : n < 2 ^ k) (hk : 0 < k) : n.log2 < k := by
  by_cases h0 : n = 0
  · subst h0; simpa using hk
  · exact (Nat.log2_lt h0).mpr h
theorem mul_small {i j : Int} (hi : i.natAbs < 2 ^ 100) (hj : j.natAbs < 2 ^ 100) : fMul (.int i) (.int j) = .ok (.int (i * j)) := fMul_int (by
  have h1 := log2_lt hi (by decide)
  have h2 := log2_lt hj (by decide)
  omega)
theorem div_small {i j : Int} (h : 0 < j) (hj : j.natAbs < 2 ^ 100) : fDiv (.int i) (.int j) = .ok (.int (i / j)) := fDiv_int h (by
  have h2 := log2_lt hj (by decide)
  omega)
theorem sh_ints (ns : List Int) : SeqAt.shaped (.list (ns.map .int)) = true := by
  have h1 : PyData.canLayAll0 (ns.map .int) = true := by
    induction ns with
    | nil => simp [PyData.canLayAll0]
    | cons n ns ih => simp [PyData.canLayAll0, PyData.canLay0, ih]
  have h2 := PySem.W.depth_ints ns
  unfold SeqAt.shaped
  rw [Bool.and_eq_true]
  refine ⟨by simpa [PyData.canLay0] using h1, ?_⟩
  rw [decide_eq_true_eq]
  simp [PyData.depth, h2]
theorem eqv_nil (ns : List Int) : PyData.eqv (.list (ns.map .int)) (.list []) = decide (ns = []) := by
  cases ns with
  | nil => simp [PyData.eqv, PyData.eqvAll]
  | cons n ns => simp [PyData.eqv, PyData.eqvAll]
theorem eq_nil (ns : List Int) : fEq (scriptD ns) (.list []) = .ok (.bool (decide (ns = []))) := by
  unfold fEq scriptD
  rw [if_pos (.inr ⟨sh_ints ns, by have := sh_ints []; simpa using this⟩), eqv_nil]
theorem atI_in {α : Type} (xs : List α) (i : Int) (h0 : 0 ≤ i) (h1 : i < xs.length) : ∃ x, atI xs i = some x ∧ x ∈ xs := by
  obtain ⟨j, rfl⟩ := Int.eq_ofNat_of_zero_le h0
  have h2 : j < xs.length := by omega
  exact ⟨xs[j], atI_nat (by simp [h2]), by simp⟩
theorem cell_ev (ns : List Int) (k : Int) (hk : 0 ≤ k) (hk2 : k < 1000000) (hl : ns.length ≤ 63) : ∃ c, f__law_cell [scriptD ns, .int k] = .ok (.int c) := by
  rw [fe__law_cell]
  unfold g__law_cell
  simp [mkL_ok, eq_nil]
  by_cases e : ns = []
  · subst e
    simp
    rw [mul_small (by decide) (by omega)]
    exact ⟨_, rfl⟩
  · simp [e]
    have hp : 0 < ns.length := List.length_pos_iff.mpr e
    have hp' : (0 : Int) < ns.length := by omega
    simp [scriptD, fMod_int hp', div_small (i := k) hp' (by omega)]
    have hd : (k / (ns.length : Int)).natAbs < 2 ^ 100 := by
      have h1 : k / (ns.length : Int) ≤ k := Int.ediv_le_self _ hk
      have h2 : 0 ≤ k / (ns.length : Int) := Int.ediv_nonneg hk (by omega)
      omega
    rw [mul_small (by decide) hd]
    have h0 : 0 ≤ k % (ns.length : Int) := Int.emod_nonneg _ (by omega)
    have h1 : k % (ns.length : Int) < ns.length := Int.emod_lt_of_pos _ hp'
    obtain ⟨x, hx, hm⟩ := atI_in (ns.map PyData.int) (k % (ns.length : Int)) h0 (by simpa using h1)
    obtain ⟨z, _, rfl⟩ := List.mem_map.mp hm
    simp [fIx, hx]
theorem drawn_ev (ns : List Int) (k n : Int) (hk : 0 ≤ k) (hk2 : k < 1000000) (hn : 0 < n) (hl : ns.length ≤ 63) : ∃ r, f__law_drawn [scriptD ns, .int k, .int n] = .ok (.int r) ∧ 0 ≤ r ∧ r < n := by
  obtain ⟨c, hc⟩ := cell_ev ns k hk hk2 hl
  rw [fe__law_drawn]
  unfold g__law_drawn
  simp [hc]
  rw [fMod_int (by decide)]
  have c0 : 0 ≤ c % 2147483563 := Int.emod_nonneg _ (by decide)
  have c1 : c % 2147483563 < 2147483563 := Int.emod_lt_of_pos _ (by decide)
  generalize c % 2147483563 = c' at c0 c1
  simp
  rw [mul_small (by omega) (by decide), mul_small (by decide) (by omega)]
  simp
  rw [fMod_int (by decide)]
  have d0 : 0 ≤ (c' * 69069 + 104723 * (k + 1)) % 2147483563 := Int.emod_nonneg _ (by decide)
  have d1 : (c' * 69069 + 104723 * (k + 1)) % 2147483563 < 2147483563 := Int.emod_lt_of_pos _ (by decide)
  generalize (c' * 69069 + 104723 * (k + 1)) % 2147483563 = d at d0 d1
  simp
  rw [mul_small (by omega) (by omega), div_small (by decide) (by decide)]
  simp
  rw [fMod_int (by decide)]
  have e0 : 0 ≤ (d * d + d / 3) % 2147483399 := Int.emod_nonneg _ (by decide)
  have e1 : (d * d + d / 3) % 2147483399 < 2147483399 := Int.emod_lt_of_pos _ (by decide)
  generalize (d * d + d / 3) % 2147483399 = e at e0 e1
  simp
  rw [mul_small (by omega) (by omega), div_small (by decide) (by decide)]
  simp
  rw [fMod_int (by decide)]
  simp
  rw [div_small (by decide) (by decide)]
  simp
  rw [fMod_int hn]
  exact ⟨_, rfl, Int.emod_nonneg _ (by omega), Int.emod_lt_of_pos _ hn⟩
/-- the number drawn -/
noncomputable def dr (ns : List Int) (k n : Int) : Int := match f__law_drawn [scriptD ns, .int k, .int n] with
  | .ok (.int r) => r
  | _ => 0
theorem dr_ev {ns : List Int} (hl : ns.length ≤ 63) {k n : Int} (hk : 0 ≤ k) (hk2 : k < 1000000) (hn : 0 < n) : f__law_drawn [scriptD ns, .int k, .int n] = .ok (.int (dr ns k n)) := by
  obtain ⟨r, h, _⟩ := drawn_ev ns k n hk hk2 hn hl
  unfold dr
  rw [h]
theorem dr_bd {ns : List Int} (hl : ns.length ≤ 63) {k n : Int} (hk : 0 ≤ k) (hk2 : k < 1000000) (hn : 0 < n) : 0 ≤ dr ns k n ∧ dr ns k n < n := by
  obtain ⟨r, h, a, b⟩ := drawn_ev ns k n hk hk2 hn hl
  unfold dr
  rw [h]
  exact ⟨a, b⟩
/-- .. as a natural number -/
noncomputable def drN (ns : List Int) (k n : Nat) : Nat := (dr ns k n).toNat
theorem drN_ev {ns : List Int} (hl : ns.length ≤ 63) {k : Nat} (n : Nat) (hk : k < 1000000) (hn : 0 < n) : f__law_drawn [scriptD ns, .int (k : Nat), .int (n : Nat)] = .ok (.int (drN ns k n : Nat)) ∧ drN ns k n < n := by
  have h1 := dr_ev hl (k := k) (n := n) (by omega) (by omega) (by omega)
  obtain ⟨h2, h3⟩ := dr_bd hl (k := k) (n := n) (by omega) (by omega) (by omega)
  unfold drN
  rw [h1, Int.toNat_of_nonneg h2]
  exact ⟨rfl, by omega⟩
/-! ### things of any kind -/
/-- a short text, or no text -/
def Th (d : D) : Prop := (∃ a : Tx, d = T a ∧ a.length ≤ 1000 ∧ Uni a) ∨ (isStr d = false ∧ noDict d = true)
theorem th_T {a : Tx} (h : a.length ≤ 1000) (hu : Uni a) : Th (T a) := .inl ⟨a, rfl, h, hu⟩
theorem uni_app {a b : Tx} (ha : Uni a) (hb : Uni b) : Uni (a ++ b) := fun c hc => (List.mem_append.mp hc).elim (ha c) (hb c)
theorem uni_take {a : Tx} (ha : Uni a) (n : Nat) : Uni (a.take n) := fun c hc => ha c (List.mem_of_mem_take hc)
theorem uni_drop {a : Tx} (ha : Uni a) (n : Nat) : Uni (a.drop n) := fun c hc => ha c (List.mem_of_mem_drop hc)
theorem uni_one {c : Nat} (h : c < 1114112) : Uni [c] := fun x hx => by simp at hx; omega
theorem uni_mem {a : Tx} (ha : Uni a) {c : Nat} (h : c ∈ a) : c < 1114112 := ha c h
theorem uni_rep {a : Tx} (ha : Uni a) (n : Nat) : Uni (List.replicate n a).flatten := fun c hc => by
  obtain ⟨l, hl, hc⟩ := List.mem_flatten.mp hc
  rw [List.eq_of_mem_replicate hl] at hc
  exact ha c hc
theorem th_not {d : D} (h : isStr d = false) (h2 : noDict d = true) : Th d := .inr ⟨h, h2⟩
theorem get_lt {α : Type} {l : List α} {n : Nat} (h : n < l.length) : ∃ c, l[n]? = some c ∧ c ∈ l := ⟨l[n], List.getElem?_eq_getElem h, List.getElem_mem h⟩
theorem uni_of {a : Tx} (h : (a.all fun c => decide (c < 1114112)) = true) : Uni a := fun c hc => of_decide_eq_true (List.all_eq_true.mp h c hc)
/-- a list is empty, told by == -/
theorem eqv_nilD (ds : List D) : PyData.eqv (.list ds) (.list []) = decide (ds = []) := by
  cases ds <;> simp [PyData.eqv, PyData.eqvAll]
theorem fEq_nilD {k : Nat} {ds : List D} (h : ∀ d ∈ ds, Sh k d) (hk : k ≤ 60 := by decide) : fEq (.list ds) (.list []) = .ok (.bool (decide (ds = []))) := by
  rw [fEq_sh (k := k + 1) (m := k + 1) (sh_list h) sh_nil (by omega) (by omega), eqv_nilD]
theorem fNe_nilD {k : Nat} {ds : List D} (h : ∀ d ∈ ds, Sh k d) (hk : k ≤ 60 := by decide) : fNe (.list ds) (.list []) = .ok (.bool (!decide (ds = []))) := by
  rw [fNe_sh (k := k + 1) (m := k + 1) (sh_list h) sh_nil (by omega) (by omega), eqv_nilD]
theorem fNe_self {k : Nat} {d : D} (h : Sh k d) (e : PyData.eqv d d = true) (hk : k ≤ 64 := by decide) : fNe d d = .ok (.bool false) := by
  rw [fNe_sh h h hk hk, e]; rfl
theorem ref_self (i : Int) : fNe (.tuple [T [114, 101, 102, 117, 115, 101, 100], .int i]) (.tuple [T [114, 101, 102, 117, 115, 101, 100], .int i]) = .ok (.bool false) :=
  fNe_self (k := 1) (sh_tuple fun d hd => by
    simp at hd
    rcases hd with rfl | rfl
    · exact sh_T (uni_of (by decide))
    · exact sh_int _) (by simp [PyData.eqv, PyData.eqvAll])
/-! ### paths.py, told of texts -/
theorem pathGo (Γ : G) (a : Tx) (i : Nat) (hi : i < Γ.length) (h : a.length ≤ 16777216) :
    lcK Γ (sName i) bYes (gOr (g2 fIn (gv i) (gc (T SM))) (gOr (g2 fIn (gv i) (gc (T FG))) (g2 fIn (gv i) (gc (T OT))))) (.ok (a.map fun c => T [c])) = .ok (.list (a.map fun c => .bool (pSign c))) :=
  lcK_mapT _ _ _ _ _ _ a (by rw [sizeLine_eq]; exact h) fun c _ => ⟨_, rfl, rfl, by
    simp [hi]
    unfold pSign
    by_cases h1 : c ∈ SM <;> by_cases h2 : c ∈ FG <;> simp [h1, h2, hi]⟩
theorem is_path_T (a : Tx) (h : a.length ≤ 16000000) : f_is_path [T a] = .ok (.bool (isPathL a)) := by
  rw [fe_is_path]
  unfold g_is_path isPathL
  have hl : a.length ≤ 16777216 := by omega
  simp [fLen_T hl]
  by_cases h1 : 1 ≤ a.length
  · by_cases h2 : a.length ≤ 20
    · cases a with
      | nil => simp at h1
      | cons x l =>
        simp [fIx_T0 hl, h2]
        by_cases h3 : x = 47
        · subst h3
          have h2' : l.length + 1 ≤ 20 := by simpa using h2
          have e : ((l.length : Int) + 1 ≤ 20) := by omega
          have e0 : (1 : Int) ≤ (l.length : Int) + 1 := by omega
          simp [e, e0, fIx_T0 hl, wipeG]
          have g := pathGo [.dat (T (47 :: l)), .un] (47 :: l) 1 (by simp) hl
          rw [List.map_cons] at g
          rw [g]
          simp only [consK_ok, appL_ok, fAll_map]
          simp
          omega
        · have h2' : l.length + 1 ≤ 20 := by simpa using h2
          have e : ((l.length : Int) + 1 ≤ 20) := by omega
          have e0 : (1 : Int) ≤ (l.length : Int) + 1 := by omega
          simp [e, e0, fIx_T0 hl, h3]
    · have e : ¬ ((a.length : Int) ≤ 20) := by omega
      have e1 : (1 : Int) ≤ a.length := by omega
      simp [e, e1, h2]
  · have : a = [] := by
      cases a with
      | nil => rfl
      | cons x l => simp at h1
    subst this
    simp
theorem is_path_not {d : D} (h : isStr d = false) (hd : noDict d = true) : f_is_path [d] = .ok (.bool false) := by
  rw [fe_is_path]
  unfold g_is_path
  simp [tyIs_str d hd, h]
/-! ### a path drawn -/
def pathMenu : List Tx := [[47],[47,120],[47,120,47],[47,120,47,121],[47,120,121],[47,120,47,121,47,122,46,113],[47,47],[47,45,95,46,57],[47,120,47,121,47]]
noncomputable def pathAt (ns : List Int) (k : Nat) : Tx := pathMenu.getD (drN ns k 9) []
theorem law_path_ev {ns : List Int} (hl : ns.length ≤ 63) {k : Nat} (hk : k < 1000000) : f__law_path [scriptD ns, .int (k : Nat)] = .ok (T (pathAt ns k)) := by
  obtain ⟨h1, h2⟩ := drN_ev hl (k := k) 9 hk (by decide)
  rw [fe__law_path]
  unfold g__law_path pathAt
  have ml : mkL (pathMenu.map T) = .ok (.list (pathMenu.map T)) := mkL_ok (by decide)
  have e1 : [T [47], T [47, 120], T [47, 120, 47], T [47, 120, 47, 121], T [47, 120, 121], T [47, 120, 47, 121, 47, 122, 46, 113], T [47, 47], T [47, 45, 95, 46, 57], T [47, 120, 47, 121, 47]] = pathMenu.map T := rfl
  have e3 : ((pathMenu.map T).length : Int) = 9 := rfl
  have h1' : f__law_drawn [scriptD ns, .int k, .int 9] = .ok (.int (drN ns k 9 : Nat)) := h1
  simp only [ev_seq]
  rw [ev_set]
  simp [-List.length_map, -List.getD_eq_getElem?_getD, e1, ml, e3, h1', fIx_map T pathMenu [] h2]
theorem pathAt_mem {ns : List Int} (hl : ns.length ≤ 63) {k : Nat} (hk : k < 1000000) : pathAt ns k ∈ pathMenu := getD_mem [] (drN_ev hl 9 hk (by decide)).2
theorem pathMenu_ok : ∀ p ∈ pathMenu, isPathL p = true ∧ p.length ≤ 10 := by decide
theorem path_uni {a : Tx} (h : isPathL a = true) : Uni a := fun c hc => by
  have h1 := (isPathL_iff.mp h).2.2 c hc
  unfold pSign SM FG OT at h1
  simp at h1
  omega
/-! ### names.py, told of texts -/
theorem labelGo (Γ : G) (a : Tx) (i : Nat) (hi : i < Γ.length) (h : a.length ≤ 16777216) :
    lcK Γ (sName i) bYes (gOr (g2 fIn (gv i) (gc (T SM))) (gOr (g2 fIn (gv i) (gc (T FG))) (g2 fEq (gv i) (gc (T [45]))))) (.ok (a.map fun c => T [c])) = .ok (.list (a.map fun c => .bool (lSign c))) :=
  lcK_mapT _ _ _ _ _ _ a (by rw [sizeLine_eq]; exact h) fun c _ => ⟨_, rfl, rfl, by
    simp [hi]
    unfold lSign
    by_cases h1 : c ∈ SM <;> by_cases h2 : c ∈ FG <;> simp [h1, h2, hi]⟩
theorem is_label_T (a : Tx) (h : a.length ≤ 16000000) : f_is_label [T a] = .ok (.bool (isLabelL a)) := by
  rw [fe_is_label]
  unfold g_is_label isLabelL
  have hl : a.length ≤ 16777216 := by omega
  simp [fLen_T hl]
  cases a with
  | nil => simp
  | cons x l =>
    have e0 : (1 : Int) ≤ (l.length : Int) + 1 := by omega
    by_cases h2 : l.length + 1 ≤ 8
    · have e1 : (l.length : Int) + 1 ≤ 8 := by omega
      have e2 : l.length ≤ 7 := by omega
      have hg : (x :: l).getLast? = some ((x :: l).getLast (by simp)) := List.getLast?_eq_some_getLast (by simp)
      have g := labelGo [.dat (T (x :: l)), .un] (x :: l) 1 (by simp) hl
      rw [List.map_cons] at g
      by_cases hx : x = 45
      · subst hx
        simp [e0, e1, e2, fIx_T0 hl]
      · by_cases hy : (x :: l).getLast (by simp) = 45
        · simp [e0, e1, e2, fIx_T0 hl, fIx_Tl (a := x :: l) (by simp) hl, hx, hy, hg]
        · simp [e0, e1, e2, fIx_T0 hl, fIx_Tl (a := x :: l) (by simp) hl, hx, hy, hg, wipeG]
          rw [g]
          simp only [consK_ok, appL_ok, ← List.map_cons (f := fun c => PyData.bool (lSign c)), fAll_map]
          simp
    · have e1 : ¬ ((l.length : Int) + 1 ≤ 8) := by omega
      have e2 : ¬ l.length ≤ 7 := by omega
      simp [e0, e1, e2]
theorem figsGo (Γ : G) (a : Tx) (i : Nat) (hi : i < Γ.length) (h : a.length ≤ 16777216) :
    lcK Γ (sName i) bYes (g2 fIn (gv i) (gc (T FG))) (.ok (a.map fun c => T [c])) = .ok (.list (a.map fun c => .bool (decide (c ∈ FG)))) :=
  lcK_mapT _ _ _ _ _ _ a (by rw [sizeLine_eq]; exact h) fun c _ => ⟨_, rfl, rfl, by simp [hi]⟩
theorem mem_le_sum {p : Tx} : ∀ {ps : List Tx}, p ∈ ps → p.length ≤ (ps.map List.length).sum
  | q :: ps, h => by
    rw [List.map_cons, List.sum_cons]
    rcases List.mem_cons.mp h with rfl | h
    · omega
    · have := mem_le_sum h
      omega
theorem piece_len {a p : Tx} (h : p ∈ splC 46 a) : p.length ≤ a.length := by
  have hs := joinL_len 46 (splC 46 a)
  have e := join_splC 46 a
  have := mem_le_sum h
  have h1 := List.length_pos_iff.mpr (splC_ne 46 a)
  rw [e] at hs
  omega
theorem is_name_T (a : Tx) (h : a.length ≤ 15000000) : f_is_name [T a] = .ok (.bool (isNameL a)) := by
  rw [fe_is_name]
  unfold g_is_name isNameL isNameP
  have hl : a.length ≤ 16777216 := by omega
  have hn := splC_ne 46 a
  have hlen := splC_len 46 a
  have hc : List.count 46 a ≤ a.length := List.count_le_length
  have hL : (splC 46 a).getLastD [] = (splC 46 a).getLast hn := by rw [List.getLastD_eq_getLast?, List.getLast?_eq_some_getLast hn]; rfl
  have hm : (splC 46 a).getLast hn ∈ splC 46 a := List.getLast_mem hn
  have lcg := fun Γ => lcK_mapT (Γ := Γ) (st := sName 2) (gt := bYes) (ge := gOwn f_is_label (aCons (gv 2) aNil)) T (fun p => .bool (isLabelL p)) (splC 46 a) (by rw [sizeLine_eq]; omega)
  simp [fSplit_T a (c := 46) (by decide) (by omega), hn]
  by_cases h5 : (splC 46 a).length ≤ 5
  · have e5 : ¬ ((5 : Int) < (splC 46 a).length) := by omega
    simp [e5, h5, wipeG]
    rw [lcg _ fun p hp => ⟨_, rfl, rfl, by simp [is_label_T p (by have := piece_len hp; omega)]⟩]
    simp only [consK_ok, appL_ok, fAll_map]
    cases hb : (splC 46 a).all isLabelL with
    | false => simp
    | true =>
      simp [wipeG]
      have e6 : fIx (.list ((splC 46 a).map T)) (.int (-1)) = .ok (T ((splC 46 a).getLast hn)) := fIx_list (by rw [atI_neg1 (by simpa using hn), List.getLast_map])
      rw [e6]
      simp
      rw [figsGo _ _ _ (by simp) (by have := piece_len hm; omega)]
      simp only [consK_ok, appL_ok, fAll_map]
      rw [List.getLast?_eq_some_getLast hn]
      simp [figs]
  · have e5 : ((5 : Int) < (splC 46 a).length) := by omega
    simp [e5, h5]
theorem is_name_not {d : D} (h : isStr d = false) (hd : noDict d = true) : f_is_name [d] = .ok (.bool false) := by
  rw [fe_is_name]
  unfold g_is_name
  simp [tyIs_str d hd, h]
theorem is_name_P {P : List Tx} (h : isNameP P = true) : f_is_name [T (dots P)] = .ok (.bool true) := by
  rw [is_name_T _ (by have := name_len h; omega), name_text h]
theorem split_P {P : List Tx} (h : isNameP P = true) : fSplit (St' (dots P)) (T [46]) = .ok (.list (P.map T)) := by
  rw [fSplit_T _ (by decide) (by have := name_len h; omega), name_parts h]
theorem join_P {P : List Tx} (h : isNameP P = true) : fJoin (St' [46]) (.list (P.map T)) = .ok (T (dots P)) := by
  have hl := joinL_len 46 P
  have : (TL.joinL [46] P).length ≤ 45 := name_len h
  exact fJoin_T _ _ (by simp only [List.length_singleton]; omega)
/-! tables, open ends, own ends -/
def tabD (tb : List Tx) : D := .tuple (tb.map T)
/-- a table's texts are short -/
def ShortTb (tb : List Tx) : Prop := ∀ r ∈ tb, r.length ≤ 15000000
@[simp] theorem isNone_opt (o : Option (List Tx)) : isNone (optD o) = o.isNone := by cases o <;> rfl
theorem tab_nil : (PyData.tuple [] : D) = tabD [] := rfl
theorem table_nil : isTableL [] = true := by decide
theorem short_nil : ShortTb [] := fun r h => by simp at h
theorem fEq_opt {a b : Option (List Tx)} (ha : ∀ s, a = some s → isNameP s = true) (hb : ∀ s, b = some s → isNameP s = true) : fEq (optD a) (optD b) = .ok (.bool (decide (a = b))) := by
  cases a with
  | none =>
    cases b with
    | none => simp [optD, fEq, scalD, PyData.eqv]
    | some t => simp [optD, fEq, scalD, PyData.eqv, T]
  | some s =>
    cases b with
    | none => simp [optD, fEq, scalD, PyData.eqv, T]
    | some t =>
      have h : dots s = dots t ↔ s = t := ⟨fun e => name_inj (ha s rfl) (hb t rfl) e, fun e => by rw [e]⟩
      simp [optD, h]
theorem own_name {tb P : List Tx} (ht : isTableL tb = true) (hP : isNameP P = true) : ∀ s, ownP tb P = some s → isNameP s = true := by
  intro s h
  rcases own_spec ht hP with ⟨h1, _⟩ | ⟨t, h1, h2, h3, h4, h5, h6⟩
  · rw [h1] at h; cases h
  · rw [h1] at h; cases h; exact h5
/-! ### a name, a table drawn -/
def nameMenu : List (List Tx) := [[[97],[98]], [[98]], [[120],[97],[98]], [[121],[120],[97],[98]], [[99],[117,107]], [[117,107]], [[100],[99],[117,107]], [[101],[100],[99],[117,107]], [[119],[99,107]], [[118],[119],[99,107]], [[99,107]], [[103,45,49],[97],[98]], [[55],[98]], [[112],[113]]]
noncomputable def nameAt (ns : List Int) (k : Nat) : List Tx := nameMenu.getD (drN ns k 14) []
theorem law_name_ev {ns : List Int} (hl : ns.length ≤ 63) {k : Nat} (hk : k < 1000000) : f__law_name [scriptD ns, .int (k : Nat)] = .ok (T (dots (nameAt ns k))) := by
  obtain ⟨h1, h2⟩ := drN_ev hl (k := k) 14 hk (by decide)
  rw [fe__law_name]
  unfold g__law_name nameAt
  have e1 : [T [97, 46, 98], T [98], T [120, 46, 97, 46, 98], T [121, 46, 120, 46, 97, 46, 98], T [99, 46, 117, 107], T [117, 107], T [100, 46, 99, 46, 117, 107], T [101, 46, 100, 46, 99, 46, 117, 107]]
      ++ [T [119, 46, 99, 107], T [118, 46, 119, 46, 99, 107], T [99, 107], T [103, 45, 49, 46, 97, 46, 98], T [55, 46, 98], T [112, 46, 113]] = nameMenu.map fun P => T (dots P) := rfl
  have e3 : ((nameMenu.map fun P => T (dots P)).length : Int) = 14 := rfl
  have h1' : f__law_drawn [scriptD ns, .int k, .int 14] = .ok (.int (drN ns k 14 : Nat)) := h1
  simp [-List.length_map, -List.getD_eq_getElem?_getD, -List.cons_append, -List.nil_append, mkL_le, fAdd_list, e1]
  rw [e3, h1']
  simp [-List.getD_eq_getElem?_getD, fIx_map (fun P => T (dots P)) nameMenu [] h2]
theorem nameAt_mem {ns : List Int} (hl : ns.length ≤ 63) {k : Nat} (hk : k < 1000000) : nameAt ns k ∈ nameMenu := getD_mem [] (drN_ev hl 14 hk (by decide)).2
theorem nameMenu_ok : ∀ P ∈ nameMenu, isNameP P = true := by decide
def ruleMenu : List Tx := [[33,119,46,99,107], [42,46,99,107], [42,46,117,107], [97,46,98], [98], [99,46,117,107], [113], [117,107]]
noncomputable def tabAt (ns : List Int) (at_ : Nat) : List Tx := (ruleMenu.zipIdx.filter fun p => decide (drN ns (at_ + p.2) 2 = 0)).map Prod.fst
theorem tabAt_sub (ns : List Int) (k : Nat) : (tabAt ns k).Sublist ruleMenu := by
  unfold tabAt
  have h := List.Sublist.map Prod.fst (List.filter_sublist (l := ruleMenu.zipIdx) (p := fun p => decide (drN ns (k + p.2) 2 = 0)))
  rw [List.zipIdx_map_fst] at h
  exact h
theorem ruleMenu_ok : ∀ r ∈ ruleMenu, isRuleL r = true ∧ r.length ≤ 10 := by decide
theorem ruleMenu_up : ruleMenu.Pairwise (· < ·) := by decide
theorem up_zip : ∀ {l : List Tx}, l.Pairwise (· < ·) → (l.zip l.tail).all (fun p => decide (p.1 < p.2)) = true
  | [], _ => rfl
  | [_], _ => rfl
  | a :: b :: l, h => by
    have h1 := List.rel_of_pairwise_cons h (a' := b) (by simp)
    have h2 := up_zip (l := b :: l) h.tail
    simp at h2 ⊢
    exact ⟨h1, h2⟩
theorem tab_ok {tb : List Tx} (h : tb.Sublist ruleMenu) : isTableL tb = true ∧ ShortTb tb := by
  refine ⟨?_, fun r hr => by have := (ruleMenu_ok r (h.subset hr)).2; omega⟩
  unfold isTableL
  have h1 := h.length_le
  have h2 : tb.all isRuleL = true := List.all_eq_true.mpr fun r hr => (ruleMenu_ok r (h.subset hr)).1
  have h3 := up_zip (ruleMenu_up.sublist h)
  have h4 : ruleMenu.length = 8 := rfl
  rw [h2, h3]
  simp
  omega
theorem dots_app : ∀ {R Q : List Tx}, R ≠ [] → Q ≠ [] → dots (R ++ Q) = dots R ++ 46 :: dots Q
  | [p], q :: Q, _, _ => rfl
  | p :: p' :: R, Q, _, hq => by
    have ih := dots_app (R := p' :: R) (Q := Q) (by simp) hq
    rw [List.cons_append, List.cons_append, dots_cons, ← List.cons_append, ih, dots_cons]
    simp
  | _ :: _, [], _, h => absurd rfl h
  | [], _, h, _ => absurd rfl h
theorem within_text {P Q : List Tx} (hP : isNameP P = true) (hQ : isNameP Q = true) : (decide (dots P = dots Q) || (46 :: dots Q).isSuffixOf (dots P)) = decide (Q <:+ P) := by
  rw [Bool.eq_iff_iff]
  simp only [Bool.or_eq_true, decide_eq_true_eq, List.isSuffixOf_iff_suffix]
  constructor
  · rintro (h | ⟨u, hu⟩)
    · rw [name_inj hP hQ h]; exact List.suffix_refl _
    · have e := splC_app 46 (dots Q) u
      rw [hu, name_parts hP, name_parts hQ] at e
      exact ⟨_, e.symm⟩
  · rintro ⟨R, rfl⟩
    by_cases hR : R = []
    · left; rw [hR]; rfl
    · right
      rw [dots_app hR (name_ne hQ)]
      exact List.suffix_append _ _
/-! ### asks.py: near -/
theorem optN_none : OptN none := fun _ h => by cases h
theorem optN_some {Q : List Tx} (h : isNameP Q = true) : OptN (some Q) := fun _ e => by cases e; exact h
theorem near_self (tb P : List Tx) : nearP tb P (some P) = true := by simp [nearP]
theorem near_iff {tb P Q : List Tx} : nearP tb P (some Q) = true ↔ (Q = P ∨ ∃ s, ownP tb P = some s ∧ ownP tb Q = some s) := by
  unfold nearP
  cases h : ownP tb P with
  | none => simp
  | some s =>
    simp
    constructor
    · rintro (h | h)
      · exact .inl h
      · exact .inr h.symm
    · rintro (h | h)
      · exact .inl h
      · exact .inr h.symm
theorem near_comm (tb P Q : List Tx) : nearP tb P (some Q) = nearP tb Q (some P) := by
  rw [Bool.eq_iff_iff, near_iff, near_iff]
  constructor
  · rintro (h | ⟨s, h1, h2⟩)
    · exact .inl h.symm
    · exact .inr ⟨s, h2, h1⟩
  · rintro (h | ⟨s, h1, h2⟩)
    · exact .inl h.symm
    · exact .inr ⟨s, h2, h1⟩
theorem near_trans {tb P Q S : List Tx} (h : nearP tb P (some Q) = true) (k : nearP tb Q (some S) = true) : nearP tb P (some S) = true := by
  rw [near_iff] at h k ⊢
  rcases h with rfl | ⟨s, h1, h2⟩
  · exact k
  · rcases k with rfl | ⟨t, k1, k2⟩
    · exact .inr ⟨s, h1, h2⟩
    · rw [h2] at k1
      cases k1
      exact .inr ⟨s, h1, k2⟩
/-! ### an ask drawn -/
noncomputable def orgAt (ns : List Int) (k : Nat) : Option (List Tx) := if drN ns (k + 2) 3 = 0 then none else some (nameAt ns (k + 3))
noncomputable def askAt (ns : List Int) (k : Nat) : D := askD (decide (drN ns k 2 = 0)) (nameAt ns (k + 1)) (pathAt ns (k + 4)) (orgAt ns k)
theorem orgAt_ok {ns : List Int} (hl : ns.length ≤ 63) {k : Nat} (hk : k < 900000) : OptN (orgAt ns k) := by
  unfold orgAt
  split
  · exact optN_none
  · exact optN_some (nameMenu_ok _ (nameAt_mem hl (by omega)))
/-! ### things, with their shape -/
def ThS (d : D) : Prop := Th d ∧ Sh 3 d
theorem thS_T {a : Tx} (h : a.length ≤ 1000) (hu : Uni a) : ThS (T a) := ⟨th_T h hu, sh_T hu⟩
theorem thS_none : ThS .none := ⟨th_not rfl rfl, sh_none⟩
theorem thS_bool (b : Bool) : ThS (.bool b) := ⟨th_not rfl rfl, sh_bool b⟩
theorem thS_int (i : Int) : ThS (.int i) := ⟨th_not rfl rfl, sh_int i⟩
theorem thS_tup {l : List D} (h : ∀ x ∈ l, Sh 2 x) : ThS (.tuple l) := ⟨th_not rfl rfl, sh_tuple h⟩
theorem thS_list {l : List D} (h : ∀ x ∈ l, Sh 2 x) : ThS (.list l) := ⟨th_not rfl rfl, sh_list h⟩
theorem th_dict {d : D} (h : Th d) : noDict d = true := by
  rcases h with ⟨a, rfl, _⟩ | ⟨_, h⟩
  · rfl
  · exact h
def isNameD : D → Bool
  | .str x => isNameL x.cps.toList
  | _ => false
@[simp] theorem isNameD_T (a : Tx) : isNameD (T a) = isNameL a := rfl
theorem is_name_Th {d : D} (h : Th d) : f_is_name [d] = .ok (.bool (isNameD d)) := by
  rcases h with ⟨a, rfl, hl, _⟩ | ⟨h1, h2⟩
  · rw [is_name_T a (by omega)]; rfl
  · rw [is_name_not h1 h2]
    cases d <;> first | rfl | cases h1
theorem isNameD_true {d : D} (h : isNameD d = true) : ∃ P, isNameP P = true ∧ d = T (dots P) := by
  cases d with
  | str x =>
    obtain ⟨P, hP, e⟩ := text_name (a := x.cps.toList) h
    exact ⟨P, hP, by rw [← e]; rfl⟩
  | _ => cases h
def isPathD : D → Bool
  | .str x => isPathL x.cps.toList
  | _ => false
@[simp] theorem isPathD_T (a : Tx) : isPathD (T a) = isPathL a := rfl
theorem is_path_Th {d : D} (h : Th d) : f_is_path [d] = .ok (.bool (isPathD d)) := by
  rcases h with ⟨a, rfl, hl, _⟩ | ⟨h1, h2⟩
  · rw [is_path_T a (by omega)]; rfl
  · rw [is_path_not h1 h2]
    cases d <;> first | rfl | cases h1
theorem isPathD_true {d : D} (h : isPathD d = true) : ∃ p, isPathL p = true ∧ d = T p := by
  cases d with
  | str x => exact ⟨x.cps.toList, h, rfl⟩
  | _ => cases h
/-! ### what is an ask -/
def isAskL : List D → Bool
  | [x0, x1, x2, x3] => isBool x0 && isNameD x1 && isPathD x2 && (isNone x3 || isNameD x3)
  | _ => false
theorem isBool_true {d : D} (h : isBool d = true) : ∃ b, d = .bool b := by
  cases d with
  | bool b => exact ⟨b, rfl⟩
  | _ => cases h
theorem isAskL_true {l : List D} (h : isAskL l = true) : ∃ s P p O, isNameP P = true ∧ isPathL p = true ∧ OptN O ∧ PyData.tuple l = askD s P p O := by
  match l, h with
  | [x0, x1, x2, x3], h =>
    simp only [isAskL, Bool.and_eq_true, Bool.or_eq_true] at h
    obtain ⟨⟨⟨h0, h1⟩, h2⟩, h3⟩ := h
    obtain ⟨s, rfl⟩ := isBool_true h0
    obtain ⟨P, hP, rfl⟩ := isNameD_true h1
    obtain ⟨p, hp, rfl⟩ := isPathD_true h2
    rcases h3 with h3 | h3
    · have : x3 = .none := by cases x3 <;> first | rfl | cases h3
      subst this
      exact ⟨s, P, p, none, hP, hp, optN_none, rfl⟩
    · obtain ⟨Q, hQ, rfl⟩ := isNameD_true h3
      exact ⟨s, P, p, some Q, hP, hp, optN_some hQ, rfl⟩
/-! ### giving.py: what can be given -/
theorem nameGo (Γ : G) (a : Tx) (i : Nat) (hi : i < Γ.length) (h : a.length ≤ 16777216) :
    lcK Γ (sName i) bYes (gOr (g2 fIn (gv i) (gc (T SM))) (gOr (g2 fIn (gv i) (gc (T GR))) (gOr (g2 fIn (gv i) (gc (T FG))) (g2 fIn (gv i) (gc (T [45, 95])))))) (.ok (a.map fun c => T [c])) = .ok (.list (a.map fun c => .bool (nSign c))) :=
  lcK_mapT _ _ _ _ _ _ a (by rw [sizeLine_eq]; exact h) fun c _ => ⟨_, rfl, rfl, by
    simp [hi]
    unfold nSign
    by_cases h1 : c ∈ SM <;> by_cases h2 : c ∈ GR <;> by_cases h3 : c ∈ FG <;> simp [h1, h2, h3, hi]⟩
theorem is_note_name_T (a : Tx) (h : a.length ≤ 16000000) : f_is_note_name [T a] = .ok (.bool (isNoteNameL a)) := by
  rw [fe_is_note_name]
  unfold g_is_note_name isNoteNameL
  have hl : a.length ≤ 16777216 := by omega
  simp [fLen_T hl]
  by_cases h1 : 1 ≤ a.length
  · by_cases h2 : a.length ≤ 10
    · have e1 : (1 : Int) ≤ a.length := by omega
      have e2 : (a.length : Int) ≤ 10 := by omega
      simp [e1, e2, h1, h2, wipeG]
      rw [nameGo _ _ _ (by simp) hl]
      simp only [consK_ok, appL_ok, fAll_map]
      simp
    · have e1 : (1 : Int) ≤ a.length := by omega
      have e2 : ¬ (a.length : Int) ≤ 10 := by omega
      simp [e1, e2, h2]
  · have e1 : ¬ (1 : Int) ≤ a.length := by omega
    simp [e1, h1]
theorem is_note_name_not {d : D} (h : isStr d = false) (hd : noDict d = true) : f_is_note_name [d] = .ok (.bool false) := by
  rw [fe_is_note_name]
  unfold g_is_note_name
  simp [tyIs_str d hd, h]
theorem worthGo (Γ : G) (a : Tx) (i : Nat) (hi : i < Γ.length) (h : a.length ≤ 16777216) :
    lcK Γ (sName i) bYes (gAnd (gChain fLe fLe (gc (T [33])) (gv i) (gc (T [126]))) (g2 fNotIn (gv i) (gc (T [59, 44, 61])))) (.ok (a.map fun c => T [c])) = .ok (.list (a.map fun c => .bool (wSign c))) :=
  lcK_mapT _ _ _ _ _ _ a (by rw [sizeLine_eq]; exact h) fun c _ => ⟨_, rfl, rfl, by
    have q1 : ([c] < [33]) ↔ c < 33 := by simp [List.cons_lt_cons_iff]
    have q2 : ([126] < [c]) ↔ 126 < c := by simp [List.cons_lt_cons_iff]
    simp [hi, q1]
    unfold wSign
    by_cases h1 : c < 33
    · have h1' : ¬ 33 ≤ c := by omega
      simp [h1, h1']
    · have h1' : 33 ≤ c := by omega
      simp [h1, h1', hi, q2]
      by_cases h2 : 126 < c
      · have h2' : ¬ c ≤ 126 := by omega
        simp [h2, h2']
      · have h2' : c ≤ 126 := by omega
        simp [h2, h2', hi]⟩
theorem is_worth_T (a : Tx) (h : a.length ≤ 16000000) : f_is_worth [T a] = .ok (.bool (isWorthL a)) := by
  rw [fe_is_worth]
  unfold g_is_worth isWorthL
  have hl : a.length ≤ 16777216 := by omega
  simp [fLen_T hl]
  by_cases h2 : a.length ≤ 12
  · have e2 : ¬ (12 : Int) < a.length := by omega
    simp [e2, h2, wipeG]
    rw [worthGo _ _ _ (by simp) hl]
    simp only [consK_ok, appL_ok, fAll_map]
    simp
  · have e2 : (12 : Int) < a.length := by omega
    simp [e2, h2]
theorem is_worth_not {d : D} (h : isStr d = false) (hd : noDict d = true) : f_is_worth [d] = .ok (.bool false) := by
  rw [fe_is_worth]
  unfold g_is_worth
  simp [tyIs_str d hd, h]
def isNoteNameD : D → Bool
  | .str x => isNoteNameL x.cps.toList
  | _ => false
@[simp] theorem isNoteNameD_T (a : Tx) : isNoteNameD (T a) = isNoteNameL a := rfl
theorem is_note_name_Th {d : D} (h : Th d) : f_is_note_name [d] = .ok (.bool (isNoteNameD d)) := by
  rcases h with ⟨a, rfl, hl, _⟩ | ⟨h1, h2⟩
  · rw [is_note_name_T a (by omega)]; rfl
  · rw [is_note_name_not h1 h2]
    cases d <;> first | rfl | cases h1
def isWorthD : D → Bool
  | .str x => isWorthL x.cps.toList
  | _ => false
@[simp] theorem isWorthD_T (a : Tx) : isWorthD (T a) = isWorthL a := rfl
theorem is_worth_Th {d : D} (h : Th d) : f_is_worth [d] = .ok (.bool (isWorthD d)) := by
  rcases h with ⟨a, rfl, hl, _⟩ | ⟨h1, h2⟩
  · rw [is_worth_T a (by omega)]; rfl
  · rw [is_worth_not h1 h2]
    cases d <;> first | rfl | cases h1
def isMomD : D → Bool
  | .int i => decide (0 ≤ i) && decide (i ≤ 9999)
  | _ => false
theorem is_moment_any {d : D} (h : noDict d = true) : f_is_moment [d] = .ok (.bool (isMomD d)) := by
  rw [fe_is_moment]
  unfold g_is_moment
  cases d with
  | int i =>
    simp [isMomD]
    by_cases h0 : 0 ≤ i
    · simp [h0]
    · simp [h0]
  | dict _ => cases h
  | str x => simp [tyIs_int (.str x) rfl, isInt, isMomD]
  | _ => simp [isMomD]
def isReachD : D → Bool
  | .str x => decide (x.cps.toList ∈ [[97, 110, 121], [110, 101, 97, 114]])
  | _ => false
@[simp] theorem isReachD_T (a : Tx) : isReachD (T a) = (decide (a = [97, 110, 121]) || decide (a = [110, 101, 97, 114])) := by simp [isReachD, T]
def isGivenL : List D → Bool
  | [n, w, h, p, u, l, s, r] => isNoteNameD n && (isWorthD w && ((isNone h || isNameD h) && ((isNone p || isPathD p) && ((isNone u || isMomD u) && ((isNone l || isMomD l) && (isBool s && isReachD r))))))
  | _ => false
theorem isGivenL_len {l : List D} (h : l.length ≠ 8) : isGivenL l = false := by
  match l, h with
  | [], _ => rfl
  | [_], _ => rfl
  | [_, _], _ => rfl
  | [_, _, _], _ => rfl
  | [_, _, _, _], _ => rfl
  | [_, _, _, _, _], _ => rfl
  | [_, _, _, _, _, _], _ => rfl
  | [_, _, _, _, _, _, _], _ => rfl
  | [_, _, _, _, _, _, _, _], h => exact absurd rfl h
  | _ :: _ :: _ :: _ :: _ :: _ :: _ :: _ :: _ :: _, _ => rfl
theorem is_given_L (l : List D) (h : ∀ x ∈ l, Th x) : f_is_given [.tuple l] = .ok (.bool (isGivenL l)) := by
  rw [fe_is_given]
  unfold g_is_given
  simp
  by_cases h8 : l.length = 8
  · obtain ⟨n, w, hh, p, u, l0, s, r, rfl⟩ : ∃ n w hh p u l0 s r, l = [n, w, hh, p, u, l0, s, r] := by
      match l, h8 with
      | [n, w, hh, p, u, l0, s, r], _ => exact ⟨n, w, hh, p, u, l0, s, r, rfl⟩
    simp only [List.forall_mem_cons, List.not_mem_nil, false_imp_iff, implies_true, and_true] at h
    obtain ⟨tn, tw, th, tp, tu, tl, ts, tr⟩ := h
    have c46 : cutG [n, w, hh, p, u, l0, s, r] (some 4) (some 6) = [u, l0] := rfl
    have lc := fun Γ (hΓ : 1 < Γ.length) => lcK_mapT (Γ := Γ) (st := sName 1) (gt := bYes) (ge := gOr (g2 fIs (gv 1) (gc .none)) (gOwn f_is_moment (aCons (gv 1) aNil))) (fun d : D => d) (fun d => .bool (isNone d || isMomD d)) [u, l0] (by rw [sizeLine_eq]; simp) fun d hd => ⟨_, rfl, rfl, by
      have : noDict d = true := by
        simp at hd
        rcases hd with rfl | rfl
        · exact th_dict tu
        · exact th_dict tl
      cases hn : isNone d <;> simp [hΓ, hn, is_moment_any this]⟩
    simp only [List.map_id'] at lc
    simp [is_note_name_Th tn, is_worth_Th tw, isGivenL]
    cases e1 : isNoteNameD n with
    | false => simp
    | true =>
      simp [is_worth_Th tw]
      cases e2 : isWorthD w with
      | false => simp
      | true =>
        have lc2 := lc [.dat (.tuple [n, w, hh, p, u, l0, s, r]), .un] (by simp)
        have fa : fAll [.list (List.map (fun d => PyData.bool (isNone d || isMomD d)) [u, l0])] = .ok (.bool ((isNone u || isMomD u) && (isNone l0 || isMomD l0))) := by
          rw [fAll_map (fun d : D => isNone d || isMomD d)]
          simp
        have fin : ∀ v : Bool, andK (.ok v) (gAnd (gIsi "str" (g2 fIx (gv 0) (gc (.int 7)))) (g2 fIn (g2 fIx (gv 0) (gc (.int 7))) (gc (.tuple [T [97, 110, 121], T [110, 101, 97, 114]])))) [.dat (.tuple [n, w, hh, p, u, l0, s, r]), .un] = .ok (.bool (v && isReachD r)) := by
          intro v
          cases v with
          | false => simp
          | true =>
            rcases tr with ⟨a, rfl, _, _⟩ | ⟨h1, h2⟩
            · have r1 : fIn (T a) (.tuple [T [97, 110, 121], T [110, 101, 97, 114]]) = .ok (.bool (decide (a ∈ [[97, 110, 121], [110, 101, 97, 114]]))) := fIn_TT a [[97, 110, 121], [110, 101, 97, 114]]
              simp [r1]
            · have : isReachD r = false := by cases r <;> first | rfl | cases h1
              simp [tyIs_str r h2, h1, this]
        cases e3 : isNone hh <;> cases e4 : isNameD hh <;> cases e5 : isNone p <;> cases e6 : isPathD p <;> simp [is_name_Th th, is_path_Th tp, e3, e4, e5, e6, c46, wipeG]
        all_goals
          simp only [List.map_cons, List.map_nil] at lc2 fa
          rw [lc2]
          simp only [consK_ok, appL_ok, fa]
          generalize (isNone u || isMomD u) = A
          generalize (isNone l0 || isMomD l0) = B
          cases A <;> cases B <;> simp [tyIs_bool s (th_dict ts), fin]
  · have e8 : ¬ ((l.length : Int) = 8) := by omega
    simp [e8, isGivenL_len h8]
/-! ### names as texts (stands in whys, too) -/
theorem dots_iff {P Q : List Tx} (hP : isNameP P = true) (hQ : isNameP Q = true) : dots P = dots Q ↔ P = Q := ⟨fun e => name_inj hP hQ e, fun e => by rw [e]⟩
/-! ### what is given, drawn -/
theorem pickM {α : Type} (en : α → D) (l : List α) {n : Nat} (h : n < l.length) : ∃ a, a ∈ l ∧ fIx (.list (l.map en)) (.int (n : Nat)) = .ok (en a) := ⟨l[n], List.getElem_mem h, fIx_list (atI_nat (by rw [List.getElem?_map, List.getElem?_eq_getElem h]; rfl))⟩
theorem dr' {ns : List Int} (hl : ns.length ≤ 63) (k : Nat) (j n : Nat) (hk : k + j < 1000000) (hn : 0 < n) : ∃ r : Nat, f__law_drawn [scriptD ns, .int ((k : Int) + (j : Int)), .int (n : Nat)] = .ok (.int (r : Nat)) ∧ r < n := by
  have := drN_ev hl (k := k + j) n hk hn
  rw [show ((k + j : Nat) : Int) = (k : Int) + (j : Int) by omega] at this
  exact ⟨_, this⟩
theorem law_given_ev2 {ns : List Int} (hl : ns.length ≤ 63) {k : Nat} (hk : k < 900000) {P : List Tx} (hP : isNameP P = true) : ∃ g, GivOk g ∧ (∀ l, g.lasts = some l → 0 ≤ l ∧ l < 30) ∧ f__law_given [scriptD ns, .int (k : Nat), T (dots P)] = .ok (givD g) := by
  have hne := name_ne hP
  have hpl := name_len hP
  obtain ⟨n0, d0, b0⟩ : ∃ r : Nat, f__law_drawn [scriptD ns, .int (k : Int), .int 7] = .ok (.int (r : Nat)) ∧ r < 7 := ⟨_, drN_ev hl (k := k) 7 (by omega) (by decide)⟩
  obtain ⟨n1, d1, b1⟩ : ∃ r : Nat, f__law_drawn [scriptD ns, .int ((k : Int) + 1), .int 5] = .ok (.int (r : Nat)) ∧ r < 5 := dr' hl k 1 5 (by omega) (by decide)
  obtain ⟨n2, d2, b2⟩ : ∃ r : Nat, f__law_drawn [scriptD ns, .int ((k : Int) + 2), .int 6] = .ok (.int (r : Nat)) ∧ r < 6 := dr' hl k 2 6 (by omega) (by decide)
  obtain ⟨n4, d4, b4⟩ : ∃ r : Nat, f__law_drawn [scriptD ns, .int ((k : Int) + 4), .int 3] = .ok (.int (r : Nat)) ∧ r < 3 := dr' hl k 4 3 (by omega) (by decide)
  obtain ⟨n6, d6, b6⟩ : ∃ r : Nat, f__law_drawn [scriptD ns, .int ((k : Int) + 6), .int 3] = .ok (.int (r : Nat)) ∧ r < 3 := dr' hl k 6 3 (by omega) (by decide)
  obtain ⟨n7, d7, b7⟩ : ∃ r : Nat, f__law_drawn [scriptD ns, .int ((k : Int) + 7), .int 60] = .ok (.int (r : Nat)) ∧ r < 60 := dr' hl k 7 60 (by omega) (by decide)
  obtain ⟨n8, d8, b8⟩ : ∃ r : Nat, f__law_drawn [scriptD ns, .int ((k : Int) + 8), .int 3] = .ok (.int (r : Nat)) ∧ r < 3 := dr' hl k 8 3 (by omega) (by decide)
  obtain ⟨n9, d9, b9⟩ : ∃ r : Nat, f__law_drawn [scriptD ns, .int ((k : Int) + 9), .int 30] = .ok (.int (r : Nat)) ∧ r < 30 := dr' hl k 9 30 (by omega) (by decide)
  obtain ⟨n10, d10, b10⟩ : ∃ r : Nat, f__law_drawn [scriptD ns, .int ((k : Int) + 10), .int 2] = .ok (.int (r : Nat)) ∧ r < 2 := dr' hl k 10 2 (by omega) (by decide)
  obtain ⟨n11, d11, b11⟩ : ∃ r : Nat, f__law_drawn [scriptD ns, .int ((k : Int) + 11), .int 2] = .ok (.int (r : Nat)) ∧ r < 2 := dr' hl k 11 2 (by omega) (by decide)
  have eN : f__law_name [scriptD ns, .int ((k : Int) + 3)] = .ok (T (dots (nameAt ns (k + 3)))) := law_name_ev hl (k := k + 3) (by omega)
  have hQ := nameMenu_ok _ (nameAt_mem hl (k := k + 3) (by omega))
  have eP : f__law_path [scriptD ns, .int ((k : Int) + 5)] = .ok (T (pathAt ns (k + 5))) := law_path_ev hl (k := k + 5) (by omega)
  have hp := (pathMenu_ok _ (pathAt_mem hl (k := k + 5) (by omega))).1
  generalize nameAt ns (k + 3) = Q at eN hQ
  generalize pathAt ns (k + 5) = p at eP hp
  -- the names
  obtain ⟨nm, m1, i1⟩ : ∃ a, a ∈ ([[110], [115, 97, 102, 101, 45, 97], [111, 119, 110, 45, 98], [78, 95, 50], [109, 45, 49], [115, 97, 102, 101, 45], [110]] : List Tx) ∧ fIx (.list [T [110], T [115, 97, 102, 101, 45, 97], T [111, 119, 110, 45, 98], T [78, 95, 50], T [109, 45, 49], T [115, 97, 102, 101, 45], T [110]]) (.int (n0 : Nat)) = .ok (T a) := pickT (l := [[110], [115, 97, 102, 101, 45, 97], [111, 119, 110, 45, 98], [78, 95, 50], [109, 45, 49], [115, 97, 102, 101, 45], [110]]) b0
  have k1 : isNoteNameL nm = true := (by decide : ∀ a ∈ ([[110], [115, 97, 102, 101, 45, 97], [111, 119, 110, 45, 98], [78, 95, 50], [109, 45, 49], [115, 97, 102, 101, 45], [110]] : List Tx), isNoteNameL a = true) nm m1
  obtain ⟨wr, m2, i2⟩ : ∃ a, a ∈ ([[53], [], [97, 33, 98, 126], [120, 47, 121, 63, 122], [49, 50, 51, 52, 53, 54, 55, 56, 57, 48, 49, 50]] : List Tx) ∧ fIx (.list [T [53], T [], T [97, 33, 98, 126], T [120, 47, 121, 63, 122], T [49, 50, 51, 52, 53, 54, 55, 56, 57, 48, 49, 50]]) (.int (n1 : Nat)) = .ok (T a) := pickT (l := [[53], [], [97, 33, 98, 126], [120, 47, 121, 63, 122], [49, 50, 51, 52, 53, 54, 55, 56, 57, 48, 49, 50]]) b1
  have k2 : isWorthL wr = true := (by decide : ∀ a ∈ ([[53], [], [97, 33, 98, 126], [120, 47, 121, 63, 122], [49, 50, 51, 52, 53, 54, 55, 56, 57, 48, 49, 50]] : List Tx), isWorthL a = true) wr m2
  -- the houses
  have hlast : isNameP [P.getLast hne] = true := by
    have := name_suffix (s := [P.getLast hne]) hP ⟨P.dropLast, List.dropLast_concat_getLast hne⟩ (by simp)
    exact this
  obtain ⟨R, hR, eR⟩ : ∃ R, isNameP R = true ∧ ifK (.ok (decide (46 ∈ dots P))) (gSl (gv 2) (oSome (g2 fAdd (gM1 fSIndex (gv 2) (gc (T [46]))) (gc (.int 1)))) oNone) (gv 2)
      [.dat (scriptD ns), .dat (.int (k : Nat)), .dat (T (dots P)), .dat (T nm), .dat (T wr), .own [.none, .none, T (dots P), T (P.getLast hne), T (dots Q)], .un, .un, .un, .un, .un] = .ok (T (dots R)) := by
    by_cases h2 : 2 ≤ P.length
    · have hm := (dots_dot hP).mpr h2
      have ht : isNameP P.tail = true := name_suffix hP (List.tail_suffix P) (by intro e; have := congrArg List.length e; simp at this; omega)
      have hk' : (((dots P).idxOf 46 : Nat) : Int) + 1 = (((dots P).idxOf 46 + 1 : Nat) : Int) := by omega
      have hcut : cutG (dots P) (some ((((dots P).idxOf 46 : Nat) : Int) + 1)) none = dots P.tail := by rw [hk', cut_from, dots_tail' hP h2]
      exact ⟨P.tail, ht, by simp [hm, fSIndex_T hm, fSl_T (a := dots P) _ _ (by omega), hcut]⟩
    · have hm : ¬ 46 ∈ dots P := fun e => h2 ((dots_dot hP).mp e)
      exact ⟨P, hP, by simp [hm]⟩
  obtain ⟨H, m3, i3⟩ : ∃ a, a ∈ ([none, none, some P, some [P.getLast hne], some Q, some R] : List (Option (List Tx))) ∧ fIx (.list [.none, .none, T (dots P), T (P.getLast hne), T (dots Q), T (dots R)]) (.int (n2 : Nat)) = .ok (optD a) := pickM optD [none, none, some P, some [P.getLast hne], some Q, some R] b2
  have k3 : OptN H := by
    simp only [List.mem_cons, List.not_mem_nil, or_false] at m3
    rcases m3 with rfl | rfl | rfl | rfl | rfl | rfl
    · exact fun _ h => by cases h
    · exact fun _ h => by cases h
    · exact fun _ h => by cases h; exact hP
    · exact fun _ h => by cases h; exact hlast
    · exact fun _ h => by cases h; exact hQ
    · exact fun _ h => by cases h; exact hR
  obtain ⟨q, m4, i4⟩ : ∃ a, a ∈ ([none, some [47], some p] : List (Option Tx)) ∧ fIx (.list [.none, T [47], T p]) (.int (n4 : Nat)) = .ok (optP a) := pickM optP [none, some [47], some p] b4
  have k4 : ∀ x, q = some x → isPathL x = true := by
    simp only [List.mem_cons, List.not_mem_nil, or_false] at m4
    rcases m4 with rfl | rfl | rfl
    · exact fun _ h => by cases h
    · exact fun _ h => by cases h; decide
    · exact fun _ h => by cases h; exact hp
  have mom : ∀ {o : Option Int} {j m : Nat}, o ∈ ([none, none, some (j : Int)] : List (Option Int)) → j < m → m ≤ 60 → Mom o := fun {o j m} ho hj hm => by
    simp only [List.mem_cons, List.not_mem_nil, or_false] at ho
    rcases ho with rfl | rfl | rfl
    · exact fun _ h => by cases h
    · exact fun _ h => by cases h
    · exact fun _ h => by cases h; omega
  obtain ⟨u, m5, i5⟩ : ∃ a, a ∈ ([none, none, some (n7 : Int)] : List (Option Int)) ∧ fIx (.list [.none, .none, .int (n7 : Nat)]) (.int (n6 : Nat)) = .ok (optI a) := pickM optI [none, none, some (n7 : Int)] b6
  obtain ⟨l, m6, i6⟩ : ∃ a, a ∈ ([none, none, some (n9 : Int)] : List (Option Int)) ∧ fIx (.list [.none, .none, .int (n9 : Nat)]) (.int (n8 : Nat)) = .ok (optI a) := pickM optI [none, none, some (n9 : Int)] b8
  obtain ⟨r, m7, i7⟩ : ∃ a, a ∈ [false, true] ∧ fIx (.list [T [97, 110, 121], T [110, 101, 97, 114]]) (.int (n11 : Nat)) = .ok (reachT a) := pickM reachT [false, true] b11
  have e6 : fIx (.list (P.map T)) (.int (-1)) = .ok (T (P.getLast hne)) := fIx_list (by rw [atI_neg1 (by simpa using hne), List.getLast_map])
  refine ⟨⟨nm, wr, H, q, u, l, decide (n10 = 0), r⟩, ⟨k1, k2, k3, k4, mom m5 b7 (by decide), mom m6 b9 (by decide)⟩, ?_, ?_⟩
  · intro z hz
    have hz : l = some z := hz
    simp only [List.mem_cons, List.not_mem_nil, or_false] at m6
    rcases m6 with rfl | rfl | rfl <;> cases hz
    omega
  rw [fe__law_given]
  unfold g__law_given givD
  simp [d0, d1, d2, d4, d6, d7, d8, d9, d10, d11, eN, eP, i1, i2, i4, i5, i6, i7, split_P hP, e6, ownK_ok, eR, app1K_ok, i3]
theorem law_given_ev {ns : List Int} (hl : ns.length ≤ 63) {k : Nat} (hk : k < 900000) {P : List Tx} (hP : isNameP P = true) : ∃ g, GivOk g ∧ f__law_given [scriptD ns, .int (k : Nat), T (dots P)] = .ok (givD g) := by
  obtain ⟨g, a, _, b⟩ := law_given_ev2 hl hk hP
  exact ⟨g, a, b⟩
/-! ### what can be given, by the law's own test -/
/-- a short text of signs below 128, or no text -/
def ThA (d : D) : Prop := (∃ a : Tx, d = T a ∧ a.length ≤ 1000 ∧ ∀ c ∈ a, c < 128) ∨ (isStr d = false ∧ noDict d = true)
theorem ThA.th {d : D} (h : ThA d) : Th d := by
  rcases h with ⟨a, e, hl, hs⟩ | h
  · exact .inl ⟨a, e, hl, fun c hc => by have := hs c hc; omega⟩
  · exact .inr h
theorem nameGuard {Γ : G} {d : D} (e : Γ[1]? = some (.dat d)) (h : ThA d) :
    bOr (bNot (bv (gIsi "str" (gv 1)))) (bOr (bNot (bv (gChain fLe fLe (gc (.int 1)) (gCall fLen (aCons (gv 1) aNil)) (gc (.int 10))))) (bNot (bv (gM0 (fun a => .ok (.bool (Txt.isalnum a))) (gRepl "_" "a" (gRepl "-" "_" (gv 1))))))) Γ = .ok (!isNoteNameD d) := by
  rcases h with ⟨a, rfl, hl, hs⟩ | ⟨h1, h2⟩
  · have nt := name_test hs hl
    have hl2 : a.length ≤ 16777216 := by omega
    have ns : a.all nSign' = a.all nSign := rfl
    simp [e, fLen_T hl2]
    unfold isNoteNameL
    by_cases c1 : 1 ≤ a.length
    · have c1' : (1 : Int) ≤ a.length := by omega
      by_cases c2 : a.length ≤ 10
      · have c2' : (a.length : Int) ≤ 10 := by omega
        have ne : a ≠ [] := fun q => by rw [q] at c1; simp at c1
        simp [e, c1, c2, c1', c2']
        rw [nt, ns]
        simp [ne]
      · have c2' : ¬ (a.length : Int) ≤ 10 := by omega
        simp [c1, c2, c1', c2']
    · have c1' : ¬ (1 : Int) ≤ a.length := by omega
      simp [c1, c1']
  · have : isNoteNameD d = false := by cases d <;> first | rfl | cases h1
    simp [e, tyIs_str d h2, h1, this]
theorem worth2 {Γ : G} {b : Tx} (hi : 9 < Γ.length) (hs : ∀ c ∈ b, c < 128) (hl : b.length ≤ 1000) :
    op2K fNe (lcK Γ (sName 9) (bOr (bv (g2 fIn (gv 9) (gc (T [32, 59, 44, 61])))) (bNot (bv (gChain fLe fLe (gc (T [33])) (gv 9) (gc (T [126])))))) (gv 9) (.ok (b.map fun c => T [c]))) (.ok (.list [])) = .ok (.bool (!b.all wSign)) := by
  have lc := lcK_map Γ (sName 9) (bOr (bv (g2 fIn (gv 9) (gc (T [32, 59, 44, 61])))) (bNot (bv (gChain fLe fLe (gc (T [33])) (gv 9) (gc (T [126])))))) (gv 9) (fun c : Nat => T [c]) (fun c => !wSign c) (fun c => T [c]) b (by rw [sizeLine_eq]; omega) fun c _ => ⟨_, rfl, by
    have q1 : ([c] < [33]) ↔ c < 33 := by simp [List.cons_lt_cons_iff]
    have q2 : ([126] < [c]) ↔ 126 < c := by simp [List.cons_lt_cons_iff]
    unfold wSign
    by_cases m : c ∈ ([32, 59, 44, 61] : Tx)
    · have mm := m
      simp at m
      rcases m with rfl | rfl | rfl | rfl <;> simp [hi]
    · have m2 : c ∉ ([59, 44, 61] : Tx) := fun q => m (by simp at q ⊢; right; exact q)
      simp [hi, m, m2, q1]
      by_cases h1 : c < 33
      · have h1' : ¬ 33 ≤ c := by omega
        simp [h1, h1', hi]
      · have h1' : 33 ≤ c := by omega
        simp [h1, h1', hi, q2]
        by_cases h2 : 126 < c
        · have h2' : ¬ c ≤ 126 := by omega
          simp [h2, h2']
        · have h2' : c ≤ 126 := by omega
          simp [h2, h2'], fun _ => by simp [hi]⟩
  rw [lc, op2K_ok, fNe_nilD (k := 0) (fun d hd => by
    obtain ⟨c, hc, rfl⟩ := List.mem_map.mp hd
    have := hs c (List.mem_filter.mp hc).1
    exact sh_T (uni_one (by omega)))]
  congr 2
  have : decide ((b.filter fun c => !wSign c).map (fun c => T [c]) = []) = b.all wSign := by
    rw [Bool.eq_iff_iff, decide_eq_true_eq, List.map_eq_nil_iff, List.filter_eq_nil_iff, List.all_eq_true]
    simp
  rw [this]
/-! ### the plain text of what is given -/
def wLasts : Tx := [108, 97, 115, 116, 115]
structure It4 where
  w : Tx
  o : Option Tx
  d : D
def enI (i : It4) : D := .tuple [T i.w, i.d]
structure ItOk (i : It4) : Prop where
  w : i.w.length ≤ 5
  none : i.o = none → i.d = .none
  some : ∀ x, i.o = some x → isNone i.d = false ∧ fStr [i.d] = .ok (T x) ∧ x.length ≤ 45
def items (g : Giv) : List It4 := [⟨wFor, g.house.map dots, optD g.house⟩, ⟨wUnder, g.path, optP g.path⟩, ⟨wUntil, g.till.map numT, optI g.till⟩, ⟨wLasts, g.lasts.map numT, optI g.lasts⟩]
theorem items_ok {g : Giv} (h : GivOk g) : ∀ i ∈ items g, ItOk i := by
  have num : ∀ {o : Option Int} {w : Tx}, w.length ≤ 5 → Mom o → ItOk ⟨w, o.map numT, optI o⟩ := by
    intro o w hw ho
    cases o with
    | none => exact ⟨hw, fun _ => rfl, fun x e => by cases e⟩
    | some i =>
      obtain ⟨a, b⟩ := ho i rfl
      have := numT_len b
      exact ⟨hw, fun e => (by cases e), fun x e => (by cases e; exact ⟨rfl, fStr_num a b, by omega⟩)⟩
  intro i hi
  unfold items at hi
  simp only [List.mem_cons, List.not_mem_nil, or_false] at hi
  rcases hi with rfl | rfl | rfl | rfl
  · refine ⟨by show wFor.length ≤ 5; decide, fun e => ?_, fun x e => ?_⟩
    · show optD g.house = _
      have e : g.house.map dots = none := e
      cases q : g.house with
      | none => rfl
      | some P => rw [q] at e; cases e
    · have e : g.house.map dots = some x := e
      show isNone (optD g.house) = false ∧ fStr [optD g.house] = .ok (T x) ∧ x.length ≤ 45
      cases q : g.house with
      | none => rw [q] at e; cases e
      | some P =>
        rw [q] at e
        cases e
        exact ⟨rfl, rfl, name_len (h.house P q)⟩
  · refine ⟨by show wUnder.length ≤ 5; decide, fun e => ?_, fun x e => ?_⟩
    · show optP g.path = _
      have e : g.path = none := e
      rw [e]; rfl
    · have e : g.path = some x := e
      show isNone (optP g.path) = false ∧ fStr [optP g.path] = .ok (T x) ∧ x.length ≤ 45
      have := path_len (h.path x e)
      rw [e]
      exact ⟨rfl, rfl, by omega⟩
  · exact num (by decide) h.till
  · exact num (by decide) h.lasts
def outs (l : List It4) : List Tx := l.filterMap fun i => i.o.map fun x => i.w ++ 32 :: x
def tailG (g : Giv) : List Tx := outs (items g) ++ ((if g.safe then [wSafe] else []) ++ (if g.near then [wNear] else []))
def semi (l : List Tx) : Tx := (l.map fun q => 59 :: 32 :: q).flatten
def headG (g : Giv) : Tx := g.name ++ 61 :: g.worth
def textG (g : Giv) : Tx := headG g ++ semi (tailG g)
theorem joinL_semi (h : Tx) : ∀ l : List Tx, TL.joinL [59, 32] (h :: l) = h ++ semi l
  | [] => by simp [TL.joinL, semi]
  | q :: r => by
    have ih := joinL_semi q r
    show h ++ ([59, 32] ++ TL.joinL [59, 32] (q :: r)) = _
    rw [ih]
    simp [semi]
theorem outs_app (p : List It4) (i : It4) : outs (p ++ [i]) = outs p ++ (match i.o with | none => [] | some x => [i.w ++ 32 :: x]) := by
  unfold outs
  rw [List.filterMap_append]
  cases e : i.o <;> simp [e]
theorem outs_len {p : List It4} (h : ∀ i ∈ p, ItOk i) : ∀ q ∈ outs p, q.length ≤ 51 := fun q hq => by
  unfold outs at hq
  obtain ⟨i, hi, e⟩ := List.mem_filterMap.mp hq
  have k := h i hi
  cases q2 : i.o with
  | none => rw [q2] at e; cases e
  | some x =>
    rw [q2] at e
    cases e
    have := k.w
    have := (k.some x q2).2.2
    simp; omega
theorem outs_few (p : List It4) : (outs p).length ≤ p.length := List.length_filterMap_le ..
theorem semi_len {k : Nat} : ∀ {l : List Tx}, (∀ q ∈ l, q.length ≤ k) → (semi l).length ≤ l.length * (k + 2)
  | [], _ => by simp [semi]
  | q :: l, h => by
    have ih := semi_len (l := l) fun x hx => h x (.tail _ hx)
    have := h q (.head _)
    have e : semi (q :: l) = 59 :: 32 :: q ++ semi l := by simp [semi]
    rw [e]
    simp only [List.length_append, List.length_cons, Nat.succ_mul]
    omega
theorem semi_app (a b : List Tx) : semi (a ++ b) = semi a ++ semi b := by simp [semi]
theorem givL_th {g : Giv} (h : GivOk g) : ∀ x ∈ [T g.name, T g.worth, optD g.house, optP g.path, optI g.till, optI g.lasts, .bool g.safe, reachT g.near], Th x := by
  have a1 := (noteName_iff.mp h.name).2.1
  have a2 := (worth_iff.mp h.worth).1
  intro x hx
  simp only [List.mem_cons, List.not_mem_nil, or_false] at hx
  rcases hx with rfl | rfl | rfl | rfl | rfl | rfl | rfl | rfl
  · exact th_T (by omega) (noteName_uni h.name)
  · exact th_T (by omega) (worth_uni h.worth)
  · cases e : g.house with
    | none => exact th_not rfl rfl
    | some P => exact th_T (by have := name_len (h.house P e); omega) (dots_uni (h.house P e))
  · cases e : g.path with
    | none => exact th_not rfl rfl
    | some p => exact th_T (by have := path_len (h.path p e); omega) (path_uni' (h.path p e))
  · cases g.till <;> exact th_not rfl rfl
  · cases g.lasts <;> exact th_not rfl rfl
  · exact th_not rfl rfl
  · cases g.near <;> exact th_T (by decide) (uni_of (by decide))
theorem givL_ok {g : Giv} (h : GivOk g) : isGivenL [T g.name, T g.worth, optD g.house, optP g.path, optI g.till, optI g.lasts, .bool g.safe, reachT g.near] = true := by
  have m : ∀ {o : Option Int}, Mom o → (isNone (optI o) || isMomD (optI o)) = true := fun {o} ho => by
    cases o with
    | none => rfl
    | some i =>
      obtain ⟨a, b⟩ := ho i rfl
      simp [isMomD, a, b]
  have hh : (isNone (optD g.house) || isNameD (optD g.house)) = true := by
    cases e : g.house with
    | none => rfl
    | some P =>
      show (isNone (T (dots P)) || isNameD (T (dots P))) = true
      rw [show isNameD (T (dots P)) = isNameL (dots P) from rfl, name_text (h.house P e)]
      rfl
  have hp : (isNone (optP g.path) || isPathD (optP g.path)) = true := by
    cases e : g.path with
    | none => rfl
    | some p =>
      show (isNone (T p) || isPathD (T p)) = true
      rw [show isPathD (T p) = isPathL p from rfl, h.path p e]
      rfl
  have hr : isReachD (reachT g.near) = true := by cases g.near <;> decide
  show (isNoteNameD (T g.name) && (isWorthD (T g.worth) && ((isNone (optD g.house) || isNameD (optD g.house)) && ((isNone (optP g.path) || isPathD (optP g.path)) && ((isNone (optI g.till) || isMomD (optI g.till)) && ((isNone (optI g.lasts) || isMomD (optI g.lasts)) && (isBool (.bool g.safe) && isReachD (reachT g.near)))))))) = true
  rw [isNoteNameD_T, isWorthD_T, h.name, h.worth, hh, hp, m h.till, m h.lasts, hr]
  rfl
theorem need_given_P {g : Giv} (h : GivOk g) : f_need_given [givD g] = .ok .none := by
  have := is_given_L _ (givL_th h)
  rw [givL_ok h] at this
  have this : f_is_given [givD g] = .ok (.bool true) := this
  rw [fe_need_given]
  unfold g_need_given
  simp [this]
theorem given_text_P {g : Giv} (h : GivOk g) : f_given_text [givD g] = .ok (T (textG g)) := by
  have a1 := (noteName_iff.mp h.name).2.1
  have a2 := (worth_iff.mp h.worth).1
  have io := items_ok h
  have t1 : fAdd (T g.name) (T [61]) = .ok (T (g.name ++ [61])) := fAdd_T (by simp; omega)
  have t2 : fAdd (T (g.name ++ [61])) (T g.worth) = .ok (T (headG g)) := by
    rw [fAdd_T (by simp; omega)]
    simp [headG]
  have i1 : fInt [.bool true] = .ok (.int 1) := rfl
  have i0 : fInt [.bool false] = .ok (.int 0) := rfl
  have rq : fEq (reachT g.near) (T [110, 101, 97, 114]) = .ok (.bool g.near) := by cases g.near <;> simp [reachT]
  have lh : (headG g).length ≤ 30 := by simp [headG]; omega
  have lo := outs_len io
  have fo := outs_few (items g)
  have l4 : (items g).length = 4 := rfl
  have r1 : ∀ x : D, repK (.ok [x]) (.ok (.int 1)) = .ok (.list [x]) := fun x => by
    have := repK_ok (ds := [x]) (k := 1) (by simp) (by decide)
    simpa using this
  have r0 : ∀ x : D, repK (.ok [x]) (.ok (.int 0)) = .ok (.list []) := fun x => by
    have := repK_ok (ds := [x]) (k := 0) (by simp) (by decide)
    simpa using this
  rw [fe_given_text]
  unfold g_given_text
  rw [ev_seq]
  simp [-ev_seq, need_given_P h]
  rw [ev_seq]
  simp [-ev_seq, givD]
  rw [ev_seq]
  simp [-ev_seq, t1, t2, ownK_ok]
  rw [ev_seq]
  simp [-ev_seq]
  refine end_seq (J := fun Γ => ∃ x10 x11, Γ = [.dat (.tuple [T g.name, T g.worth, optD g.house, optP g.path, optI g.till, optI g.lasts, .bool g.safe, reachT g.near]), .dat (T g.name), .dat (T g.worth), .dat (optD g.house), .dat (optP g.path), .dat (optI g.till), .dat (optI g.lasts), .dat (.bool g.safe), .dat (reachT g.near), .own ((headG g :: outs (items g)).map T), x10, x11]) ?_ fun Γ hI => ?_
  · refine Nx.mono (Nx.loopi (st := sTup (ssCons 10 (ssCons 11 ssNil))) (en := enI) (I := fun p Γ => ∃ x10 x11, Γ = [.dat (.tuple [T g.name, T g.worth, optD g.house, optP g.path, optI g.till, optI g.lasts, .bool g.safe, reachT g.near]), .dat (T g.name), .dat (T g.worth), .dat (optD g.house), .dat (optP g.path), .dat (optI g.till), .dat (optI g.lasts), .dat (.bool g.safe), .dat (reachT g.near), .own ((headG g :: outs p).map T), x10, x11]) (items g) [] ⟨.un, .un, rfl⟩ ?_) fun Γ hI => by simpa using hI
    intro p i q Γ e hI
    obtain ⟨x10, x11, rfl⟩ := hI
    have e : items g = p ++ i :: q := e
    have hi : ItOk i := io i (by rw [e]; simp)
    have lp : p.length ≤ 4 := by
      have := congrArg List.length e
      simp at this
      omega
    have fp := outs_few p
    have lap : ((headG g :: outs p).map T).length < 16777216 := by simp; omega
    rw [outs_app]
    cases eo : i.o with
    | none =>
      have hd := hi.none eo
      simp [enI, hd]
      exact Go.nx ⟨_, _, rfl⟩
    | some x =>
      obtain ⟨k1, k2, k3⟩ := hi.some x eo
      have lw := hi.w
      have s1 : fAdd (T i.w) (T [32]) = .ok (T (i.w ++ [32])) := fAdd_T (by simp; omega)
      have s2 : fAdd (T (i.w ++ [32])) (T x) = .ok (T (i.w ++ 32 :: x)) := by
        rw [fAdd_T (by simp; omega)]; simp
      simp [enI, k1, k2, s1, s2]
      rw [app1K_ok _ _ _ (by simp; omega)]
      exact Go.nx ⟨.dat (T i.w), .dat i.d, by simp⟩
  · obtain ⟨x10, x11, rfl⟩ := hI
    have jn : fJoin (St' [59, 32]) (.list ((headG g :: tailG g).map T)) = .ok (T (textG g)) := by
      have lt : ∀ q ∈ headG g :: tailG g, q.length ≤ 51 := fun q hq => by
        rcases List.mem_cons.mp hq with rfl | hq
        · omega
        · unfold tailG at hq
          rcases List.mem_append.mp hq with z | z
          · exact lo q z
          · rcases List.mem_append.mp z with z | z
            · split at z
              · rw [List.mem_singleton.mp z]; decide
              · cases z
            · split at z
              · rw [List.mem_singleton.mp z]; decide
              · cases z
      have ll : (headG g :: tailG g).length ≤ 7 := by
        unfold tailG
        cases g.safe <;> cases g.near <;> simp <;> omega
      have b := sum_le lt
      have d : (headG g :: tailG g).length * 51 ≤ 7 * 51 := Nat.mul_le_mul_right _ ll
      rw [fJoin_T [59, 32] _ (by simp at ll ⊢; simp at b d; omega), joinL_semi]
      rfl
    unfold tailG wSafe wNear at jn
    have lst : ∀ (xs ys : List D), xs.length ≤ 10 → ys.length ≤ 10 → fAdd (.list xs) (.list ys) = .ok (.list (xs ++ ys)) := fun xs ys hx hy => fAdd_list (by omega)
    cases e3 : g.safe <;> cases e4 : g.near <;> simp only [e3, e4, if_true, Bool.false_eq_true, if_false, List.append_nil, List.nil_append, List.map_append, List.map_cons, List.map_nil, List.cons_append] at jn rq
    all_goals
      simp (disch := first | (simp; done) | (simp; omega)) [-List.map_map, i0, i1, r0, r1, rq, e3, e4, lst, jn]
theorem semi_one (w x : Tx) : semi [w ++ 32 :: x] = 59 :: 32 :: (w ++ 32 :: x) := by simp [semi]
theorem law_text_P {g : Giv} (h : GivOk g) : f__law_text [givD g] = .ok (T (textG g)) := by
  have a1 := (noteName_iff.mp h.name).2.1
  have a2 := (worth_iff.mp h.worth).1
  have io := items_ok h
  have t1 : fAdd (T g.name) (T [61]) = .ok (T (g.name ++ [61])) := fAdd_T (by simp; omega)
  have t2 : fAdd (T (g.name ++ [61])) (T g.worth) = .ok (T (headG g)) := by
    rw [fAdd_T (by simp; omega)]
    simp [headG]
  have rq : fEq (reachT g.near) (T [110, 101, 97, 114]) = .ok (.bool g.near) := by cases g.near <;> simp [reachT]
  have lh : (headG g).length ≤ 30 := by simp [headG]; omega
  have l4 : (items g).length = 4 := rfl
  have s1 : fSl (givD g) none (some 4) = .ok (.tuple [T g.name, T g.worth, optD g.house, optP g.path]) := rfl
  have s2 : fSl (givD g) (some 4) none = .ok (.tuple [optI g.till, optI g.lasts, .bool g.safe, reachT g.near]) := rfl
  have s3 : fSl (givD g) (some 2) (some 6) = .ok (.tuple [optD g.house, optP g.path, optI g.till, optI g.lasts]) := rfl
  have z : zp [.tuple [T [102, 111, 114], T [117, 110, 100, 101, 114], T [117, 110, 116, 105, 108], T [108, 97, 115, 116, 115]], .tuple [optD g.house, optP g.path, optI g.till, optI g.lasts]] = .ok ((items g).map enI) := rfl
  rw [fe__law_text]
  unfold g__law_text
  rw [ev_seq]
  simp [-ev_seq, s1]
  rw [ev_seq]
  simp [-ev_seq, s2]
  rw [ev_seq]
  simp [-ev_seq, t1, t2]
  rw [ev_seq]
  simp [-ev_seq, s3, z]
  refine end_seq (J := fun Γ => ∃ x10 x11, Γ = [.dat (givD g), .dat (T g.name), .dat (T g.worth), .dat (optD g.house), .dat (optP g.path), .dat (optI g.till), .dat (optI g.lasts), .dat (.bool g.safe), .dat (reachT g.near), .dat (T (headG g ++ semi (outs (items g)))), x10, x11]) ?_ fun Γ hI => ?_
  · refine Nx.mono (Nx.loopi (st := sTup (ssCons 10 (ssCons 11 ssNil))) (en := enI) (I := fun p Γ => ∃ x10 x11, Γ = [.dat (givD g), .dat (T g.name), .dat (T g.worth), .dat (optD g.house), .dat (optP g.path), .dat (optI g.till), .dat (optI g.lasts), .dat (.bool g.safe), .dat (reachT g.near), .dat (T (headG g ++ semi (outs p))), x10, x11]) (items g) [] ⟨.un, .un, by simp [outs, semi]⟩ ?_) fun Γ hI => by simpa using hI
    intro p i q Γ e hI
    obtain ⟨x10, x11, rfl⟩ := hI
    have e : items g = p ++ i :: q := e
    have hi : ItOk i := io i (by rw [e]; simp)
    have lp : p.length ≤ 4 := by
      have := congrArg List.length e
      simp at this
      omega
    have fp := outs_few p
    have sp := semi_len (outs_len fun j hj => io j (by rw [e]; exact List.mem_append_left _ hj))
    have sp2 : (outs p).length * (51 + 2) ≤ 4 * 53 := Nat.mul_le_mul_right _ (by omega)
    rw [outs_app]
    cases eo : i.o with
    | none =>
      have hd := hi.none eo
      simp [enI, hd]
      exact Go.nx ⟨_, _, rfl⟩
    | some x =>
      obtain ⟨k1, k2, k3⟩ := hi.some x eo
      have lw := hi.w
      have fin : headG g ++ (semi (outs p) ++ 59 :: 32 :: (i.w ++ 32 :: x)) = headG g ++ semi (outs p ++ [i.w ++ 32 :: x]) := by rw [semi_app, semi_one]
      simp (disch := first | (simp; done) | (simp; omega)) [enI, k1, k2, fAdd_T]
      rw [fin]
      exact Go.nx ⟨.dat (T i.w), .dat i.d, rfl⟩
  · obtain ⟨x10, x11, rfl⟩ := hI
    have so := semi_len (outs_len io)
    have fo := outs_few (items g)
    have so2 : (outs (items g)).length * (51 + 2) ≤ 4 * 53 := Nat.mul_le_mul_right _ (by omega)
    have tg : textG g = headG g ++ (semi (outs (items g)) ++ semi ((if g.safe then [wSafe] else []) ++ (if g.near then [wNear] else []))) := by
      unfold textG tailG
      rw [semi_app]
    have q0 : semi [] = [] := rfl
    have q1 : semi [wSafe] = [59, 32, 115, 97, 102, 101] := rfl
    have q2 : semi [wNear] = [59, 32, 110, 101, 97, 114] := rfl
    have q3 : semi [wSafe, wNear] = [59, 32, 115, 97, 102, 101, 59, 32, 110, 101, 97, 114] := rfl
    cases e3 : g.safe <;> cases e4 : g.near <;> simp only [e3, e4, if_true, Bool.false_eq_true, if_false, List.append_nil, List.nil_append, List.cons_append, q0, q1, q2, q3] at rq tg
    all_goals
      rw [tg]
      generalize semi (outs (items g)) = S at so
      simp (disch := first | (simp; done) | (simp; omega)) [rq, e3, e4, fAdd_T]
/-! ### texts.py: notes written and read -/
theorem rep1 (x : D) : repK (.ok [x]) (.ok (.int 1)) = .ok (.list [x]) := by
  have := repK_ok (ds := [x]) (k := 1) (by simp) (by decide)
  simpa using this
theorem rep0 (x : D) : repK (.ok [x]) (.ok (.int 0)) = .ok (.list []) := by
  have := repK_ok (ds := [x]) (k := 0) (by simp) (by decide)
  simpa using this
theorem join_parts {n : Nt} (h : NtOk n) : fJoin (St' [59, 32]) (.list ((partsL n).map T)) = .ok (T (bodyL n)) := by
  have b := sum_le (part_lens h)
  have c := partsL_few n
  have d : (partsL n).length * 51 ≤ 8 * 51 := Nat.mul_le_mul_right _ c
  exact fJoin_T [59, 32] (partsL n) (by simp; omega)
theorem cut_word (w x : Tx) : cutG (w ++ 32 :: x) none (some ((w.length : Int) + 1)) = w ++ [32] := by
  have e : ((w.length : Int) + 1) = ((w.length + 1 : Nat) : Int) := by omega
  rw [e, cut_to, show w ++ 32 :: x = (w ++ [32]) ++ x by simp, List.take_left' (by simp)]
theorem cut_rest (w x : Tx) : cutG (w ++ 32 :: x) (some ((w.length : Int) + 1)) none = x := by
  have e : ((w.length : Int) + 1) = ((w.length + 1 : Nat) : Int) := by omega
  rw [e, cut_from]
  simp [List.drop_append]
theorem moment_in_T {a : Tx} (h : a.length ≤ 16000000) : f_moment_in [T a] = .ok (optI (momT a)) := by
  have hl : a.length ≤ 16777216 := by omega
  have lc : lcK [.dat (T a), .un] (sName 1) bYes (g2 fIn (gv 1) (gc (T FG))) (.ok (a.map fun c => T [c])) = .ok (.list (a.map fun c => .bool (decide (c ∈ FG)))) :=
    lcK_mapT _ _ _ _ (fun c : Nat => T [c]) (fun c => .bool (decide (c ∈ FG))) a (by rw [sizeLine_eq]; exact hl) fun c _ => ⟨_, rfl, rfl, by simp⟩
  have w : wipeG [.dat (T a), .un] [1] = [.dat (T a), .un] := rfl
  rw [fe_moment_in]
  unfold g_moment_in momT
  simp [fLen_T hl]
  by_cases h1 : 1 ≤ a.length
  · have e1 : (1 : Int) ≤ a.length := by omega
    by_cases h2 : a.length ≤ 4
    · have e2 : (a.length : Int) ≤ 4 := by omega
      simp [e1, e2, h1, h2, w, lc]
      have fa := fAll_map (fun c : Nat => decide (c ∈ FG)) a
      rw [fa]
      cases e : a.all (fun c => decide (c ∈ FG)) with
      | false =>
        have e' : ¬ ∀ x, x ∈ a → x ∈ FG := fun q => by
          have : a.all (fun c => decide (c ∈ FG)) = true := List.all_eq_true.mpr fun x hx => decide_eq_true (q x hx)
          rw [e] at this; cases this
        simp [e']
      | true =>
        have e' : ∀ x, x ∈ a → x ∈ FG := fun x hx => of_decide_eq_true (List.all_eq_true.mp e x hx)
        have fi := fInt_figs e h1 h2
        simp [fi]
        rw [if_pos e']
        rfl
    · have e2 : ¬ (a.length : Int) ≤ 4 := by omega
      simp [e1, e2, h2]
  · have e1 : ¬ (1 : Int) ≤ a.length := by omega
    simp [e1, h1]
theorem ne_nilT {l : List Tx} (h : ∀ a ∈ l, Uni a) : fNe (.list (l.map T)) (.list []) = .ok (.bool (!decide (l = []))) := fNe_TLs (m := []) h (fun _ h => by cases h)
/-! ### giving.py: the class Given -/
def wAny : Tx := [97, 110, 121]
/-- the store of a Given: the instance, its list -/
def Wg (p q : Addr) (l : List D) : Wd := [(p, .ins "Given" [("told", .o q)]), (q, .lst l)]
def hFor (w x : Tx) (l : List D) : List D := if w = wFor ∧ isNameL x = true then l.set 2 (T x) else l
def hUnder (w x : Tx) (l : List D) : List D := if w = wUnder ∧ isPathL x = true then l.set 3 (T x) else l
def hMom (w x : Tx) (l : List D) : List D := if (w = wUntil ∨ w = wLasts) ∧ (momT x).isSome = true then l.set (if w = wLasts then 5 else 4) (optI (momT x)) else l
def hear2L (w x : Tx) (l : List D) : List D := hMom w x (hUnder w x (hFor w x l))
def hSafe (q : Tx) (l : List D) : List D := if q = wSafe then l.set 6 (.bool true) else l
def hReach (q : Tx) (l : List D) : List D := if q = wAny ∨ q = wNear then l.set 7 (T q) else l
def hTwo (q : Tx) (l : List D) : List D := match splC 32 q with
  | [w, x] => hear2L w x l
  | _ => l
def hearL (q : Tx) (l : List D) : List D := hTwo q (hReach q (hSafe q l))
@[simp] theorem hFor_len (w x : Tx) (l : List D) : (hFor w x l).length = l.length := by unfold hFor; split <;> simp
@[simp] theorem hUnder_len (w x : Tx) (l : List D) : (hUnder w x l).length = l.length := by unfold hUnder; split <;> simp
@[simp] theorem hMom_len (w x : Tx) (l : List D) : (hMom w x l).length = l.length := by unfold hMom; split <;> simp
@[simp] theorem hear2L_len (w x : Tx) (l : List D) : (hear2L w x l).length = l.length := by simp [hear2L]
@[simp] theorem hSafe_len (q : Tx) (l : List D) : (hSafe q l).length = l.length := by unfold hSafe; split <;> simp
@[simp] theorem hReach_len (q : Tx) (l : List D) : (hReach q l).length = l.length := by unfold hReach; split <;> simp
@[simp] theorem hTwo_len (q : Tx) (l : List D) : (hTwo q l).length = l.length := by unfold hTwo; split <;> simp
@[simp] theorem hearL_len (q : Tx) (l : List D) : (hearL q l).length = l.length := by simp [hearL]
theorem ixN_n {n j : Nat} (hj : j < n) : ixN n (j : Int) = some j := by
  unfold ixN
  rw [if_pos (by omega), if_pos (by omega)]
  simp
section
variable {p q : Addr} {l : List D} {post : RX → Wd → Prop}
theorem Wg_ins (h : p ≠ q) : getW (Wg p q l) p = some (.ins "Given" [("told", .o q)]) := by simp [getW, Wg]
theorem Wg_lst (h : p ≠ q) : getW (Wg p q l) q = some (.lst l) := by simp [getW, Wg, h]
theorem Wg_set (h : p ≠ q) (k : List D) : setW (Wg p q l) q (.lst k) = Wg p q k := by simp [setW, Wg, h]
theorem Wg_sub (k : List D) : SubW (Wg p q l) (Wg p q k) := fun x h => by simpa [Wg] using h
theorem told_at (h : p ≠ q) {Γ : G} {i : Nat} (e : Γ[i]? = some (.exn p)) {post : RX → Wd → Prop} : eFld "Given" "told" (eVar i) Γ (Wg p q l) post ↔ post (.v (.o q)) (Wg p q l) := by
  unfold eFld eVar
  rw [e]
  simp [onO, insW, Wg_ins h]
theorem put_told (h : p ≠ q) {Γ : G} {i : Nat} (e : Γ[i]? = some (.exn p)) {gk gx : G → R D} {j : Nat} {x : D} (hj : j < l.length) (ek : gk Γ = .ok (.int (j : Nat))) (ex : gx Γ = .ok x) {post : FX → Wd → Prop} :
    sPutL (eFld "Given" "told" (eVar i)) (ePure gk) (ePure gx) Γ (Wg p q l) post ↔ post (.nx Γ) (Wg p q (l.set j x)) := by
  unfold sPutL
  simp [ePure, ex, onDe, told_at h e, onO, ek, onI, lstW, Wg_lst h, ixN_n hj, Wg_set h]
end

theorem seq_iff {T1 T2 : TsW} {Γ Γ1 : G} {W W1 : Wd} {post : FX → Wd → Prop} {R : Prop} (h1 : ∀ post : FX → Wd → Prop, T1 Γ W post ↔ post (.nx Γ1) W1) (h2 : T2 Γ1 W1 post ↔ R) : sSeq T1 T2 Γ W post ↔ R := by
  unfold sSeq
  rw [h1]
  exact h2
theorem if_iff {g : G → R Bool} {c : Bool} {Ta Tb : TsW} {Γ : G} {W : Wd} {post : FX → Wd → Prop} {R : Prop} (h : g Γ = .ok c) (ht : c = true → (Ta Γ W post ↔ R)) (hf : c = false → (Tb Γ W post ↔ R)) : sIf (tPure g) Ta Tb Γ W post ↔ R := by
  unfold sIf tPure
  rw [h]
  cases c with
  | true => simpa [onT] using ht rfl
  | false => simpa [onT] using hf rfl
theorem run_iff {n m : Nat} {T : TsW} {as : List Ar} {W W1 : Wd} {Γ1 : G} {post : RX → Wd → Prop} (hl : as.length = m) (h : ∀ post : FX → Wd → Prop, T (as.map slotOf ++ List.replicate (n - m) .un) W post ↔ post (.nx Γ1) W1) (hs : SubW W W1) : runW n m T as W post ↔ post (.v (.d .none)) W1 := by
  unfold runW
  rw [h]
  simp [hl, hs]
section
variable {p q : Addr} {l : List D} {post : RX → Wd → Prop}
theorem hear_two_P (h : p ≠ q) (hl : l.length = 8) {w x : Tx} (hw : Uni w) (hwl : w.length ≤ 1000) (hx : Uni x) (hxl : x.length ≤ 1000) : f_Given_hear_two [.o p, .d (T w), .d (T x)] (Wg p q l) post ↔ post (.v (.d .none)) (Wg p q (hear2L w x l)) := by
  have hn : f_is_name [T x] = .ok (.bool (isNameL x)) := is_name_Th (th_T hxl hx)
  have hp : f_is_path [T x] = .ok (.bool (isPathL x)) := is_path_Th (th_T hxl hx)
  have hm := moment_in_T (a := x) (by omega)
  refine run_iff (Γ1 := [.exn p, .dat (T w), .dat (T x)]) rfl (fun post => ?_) (Wg_sub _)
  show w_Given_hear_two [.exn p, .dat (T w), .dat (T x)] _ _ ↔ _
  unfold w_Given_hear_two
  refine seq_iff (Γ1 := [.exn p, .dat (T w), .dat (T x)]) (W1 := Wg p q (hFor w x l)) (fun post => ?_) ?_
  · unfold hFor
    refine if_iff (c := decide (w = wFor) && isNameL x) ?_ (fun e => ?_) (fun e => ?_)
    · by_cases e : w = wFor
      · simp [hn, e, wFor]
      · have e' : ¬ w = [102, 111, 114] := e
        simp [e, e']
    · rw [if_pos (by simpa using e)]
      exact put_told h rfl (j := 2) (by omega) (by simp) (by simp)
    · rw [if_neg (by simpa using e)]
      exact Iff.rfl
  refine seq_iff (Γ1 := [.exn p, .dat (T w), .dat (T x)]) (W1 := Wg p q (hUnder w x (hFor w x l))) (fun post => ?_) ?_
  · have hl2 : (hFor w x l).length = 8 := by simp [hl]
    generalize hFor w x l = l at hl2 ⊢
    unfold hUnder
    refine if_iff (c := decide (w = wUnder) && isPathL x) ?_ (fun e => ?_) (fun e => ?_)
    · by_cases e : w = wUnder
      · simp [hp, e, wUnder]
      · have e' : ¬ w = [117, 110, 100, 101, 114] := e
        simp [e, e']
    · rw [if_pos (by simpa using e)]
      exact put_told h rfl (j := 3) (by omega) (by simp) (by simp)
    · rw [if_neg (by simpa using e)]
      exact Iff.rfl
  show _ ↔ post (.nx [.exn p, .dat (T w), .dat (T x)]) (Wg p q (hMom w x (hUnder w x (hFor w x l))))
  have hl3 : (hUnder w x (hFor w x l)).length = 8 := by simp [hl]
  generalize hUnder w x (hFor w x l) = l at hl3 ⊢
  unfold hMom
  have hf : fIn (T w) (.tuple [T [117, 110, 116, 105, 108], T [108, 97, 115, 116, 115]]) = .ok (.bool (decide (w = wUntil) || decide (w = wLasts))) := by
    have := fIn_TT w [wUntil, wLasts]
    rw [show ([T [117, 110, 116, 105, 108], T [108, 97, 115, 116, 115]] : List D) = [wUntil, wLasts].map T from rfl, this]
    congr 2
    rw [Bool.eq_iff_iff]
    simp
  refine if_iff (c := (decide (w = wUntil) || decide (w = wLasts)) && (momT x).isSome) ?_ (fun e => ?_) (fun e => ?_)
  · cases hw : (decide (w = wUntil) || decide (w = wLasts)) with
    | false => rw [hw] at hf; simp [hf, mkT_le]
    | true =>
      rw [hw] at hf
      simp [hf, hm, mkT_le]
  · rw [if_pos (by simpa using e)]
    have i1 : fInt [.bool true] = .ok (.int 1) := rfl
    have i0 : fInt [.bool false] = .ok (.int 0) := rfl
    have eM : gOwn f_moment_in (aCons (gv 2) aNil) [.exn p, .dat (T w), .dat (T x)] = .ok (optI (momT x)) := by simp [hm]
    by_cases e2 : w = wLasts
    · rw [if_pos e2]
      exact put_told h rfl (j := 5) (by omega) (by rw [e2]; simp [wLasts, i1]) eM
    · rw [if_neg e2]
      exact put_told h rfl (j := 4) (by omega) (by have e3 : ¬ w = [108, 97, 115, 116, 115] := e2; simp [e3, i0]) eM
  · rw [if_neg (by simpa using e)]
    exact Iff.rfl
theorem meth_at (h : p ≠ q) {m : Str} {g : FwT} {Γ : G} {i : Nat} {Ts : TaW} {as : List Ar} {post : RX → Wd → Prop} (e : Γ[i]? = some (.exn p)) (hm : (m == ("told" : Str)) = false) (ea : ∀ W post, Ts Γ W post ↔ post (.vs as) W) :
    eMeth "Given" m g (eVar i) Ts Γ (Wg p q l) post ↔ g (.o p :: as) (Wg p q l) post := by
  unfold eMeth eVar
  rw [e]
  have hlk : List.lookup m [(("told" : Str), Ar.o q)] = none := by rw [List.lookup_cons, hm]; rfl
  show insW "Given" (Wg p q l) p _ ↔ _
  unfold insW
  rw [Wg_ins h]
  show _ ∧ (List.lookup m [(("told" : Str), Ar.o q)] = none ∧ _) ↔ _
  rw [ea]
  simp [hlk]
theorem pure_iff {n : Nat} {g : G → R Fl} {Γ Γ1 : G} {W : Wd} {post : FX → Wd → Prop} (h : g Γ = .ok (.nx Γ1)) : sPure n g Γ W post ↔ post (.nx Γ1) W := by unfold sPure; rw [h]
theorem apure_iff {Γ : G} {g : G → R D} {d : D} {Ts : TaW} {as : List Ar} (h : g Γ = .ok d) (hs : ∀ W post, Ts Γ W post ↔ post (.vs as) W) : ∀ W post, aConsW (ePure g) Ts Γ W post ↔ post (.vs (.d d :: as)) W := fun W post => by
  unfold aConsW ePure
  rw [h]
  show Ts Γ W _ ↔ _
  rw [hs]
  rfl
theorem anil_iff {Γ : G} : ∀ (W : Wd) (post : RXs → Wd → Prop), aNilW Γ W post ↔ post (.vs []) W := fun _ _ => Iff.rfl
theorem splC_uni {c : Nat} {x : Tx} (h : Uni x) : ∀ p ∈ splC c x, Uni p := fun p hp k hk => h k ((splC_pieces c x p hp).2 k hk)
theorem mem_sum : ∀ {l : List Nat} {n : Nat}, n ∈ l → n ≤ l.sum
  | [], _, h => by cases h
  | a :: l, n, h => by
    rw [List.sum_cons]
    rcases List.mem_cons.mp h with rfl | h
    · omega
    · have := mem_sum h; omega
theorem splC_short {c : Nat} : ∀ {x : Tx} {p : Tx}, p ∈ splC c x → p.length ≤ x.length := by
  intro x p hp
  have h1 := joinL_len c (splC c x)
  rw [join_splC] at h1
  have h2 : p.length ≤ ((splC c x).map List.length).sum := mem_sum (List.mem_map.mpr ⟨p, hp, rfl⟩)
  have h3 : 1 ≤ (splC c x).length := by rw [splC_len]; omega
  omega
theorem hear_P (h : p ≠ q) (hl : l.length = 8) {x : Tx} (hx : Uni x) (hxl : x.length ≤ 1000) : f_Given_hear [.o p, .d (T x)] (Wg p q l) post ↔ post (.v (.d .none)) (Wg p q (hearL x l)) := by
  have sp : fSplit (St' x) (T [32]) = .ok (.list ((splC 32 x).map T)) := fSplit_T _ (by decide) (by omega)
  refine run_iff (Γ1 := [.exn p, .dat (T x), .dat (.list ((splC 32 x).map T))]) rfl (fun post => ?_) (Wg_sub _)
  show w_Given_hear [.exn p, .dat (T x), .un] _ _ ↔ _
  unfold w_Given_hear
  refine seq_iff (Γ1 := [.exn p, .dat (T x), .dat (.list ((splC 32 x).map T))]) (W1 := Wg p q l) (fun post => pure_iff (by simp [sp])) ?_
  refine seq_iff (Γ1 := [.exn p, .dat (T x), .dat (.list ((splC 32 x).map T))]) (W1 := Wg p q (hSafe x l)) (fun post => ?_) ?_
  · unfold hSafe
    refine if_iff (c := decide (x = wSafe)) ?_ (fun e => ?_) (fun e => ?_)
    · show _ = R.ok (decide (x = [115, 97, 102, 101]))
      simp
    · rw [if_pos (by simpa using e)]
      exact put_told h rfl (j := 6) (by omega) (by simp) (by simp)
    · rw [if_neg (by simpa using e)]
      exact Iff.rfl
  refine seq_iff (Γ1 := [.exn p, .dat (T x), .dat (.list ((splC 32 x).map T))]) (W1 := Wg p q (hReach x (hSafe x l))) (fun post => ?_) ?_
  · have hl2 : (hSafe x l).length = 8 := by simp [hl]
    generalize hSafe x l = l at hl2 ⊢
    unfold hReach
    refine if_iff (c := decide (x = wAny) || decide (x = wNear)) ?_ (fun e => ?_) (fun e => ?_)
    · have hf : fIn (T x) (.tuple [T [97, 110, 121], T [110, 101, 97, 114]]) = .ok (.bool (decide (x = wAny) || decide (x = wNear))) := by
        have := fIn_TT x [wAny, wNear]
        rw [show ([T [97, 110, 121], T [110, 101, 97, 114]] : List D) = [wAny, wNear].map T from rfl, this]
        congr 2
        rw [Bool.eq_iff_iff]
        simp
      simp [hf]
    · rw [if_pos (by simpa using e)]
      exact put_told h rfl (j := 7) (by omega) (by simp) (by simp)
    · rw [if_neg (by simpa using e)]
      exact Iff.rfl
  show _ ↔ post _ (Wg p q (hTwo x (hReach x (hSafe x l))))
  have hl3 : (hReach x (hSafe x l)).length = 8 := by simp [hl]
  generalize hReach x (hSafe x l) = l at hl3 ⊢
  have hlen : fLen [.list ((splC 32 x).map T)] = .ok (.int ((splC 32 x).length : Nat)) := by simp
  unfold hTwo
  refine if_iff (c := decide ((splC 32 x).length = 2)) ?_ (fun e => ?_) (fun e => ?_)
  · simp [hlen]
    omega
  · have e : (splC 32 x).length = 2 := by simpa using e
    have hu := splC_uni (c := 32) hx
    have hs : ∀ p ∈ splC 32 x, p.length ≤ 1000 := fun p hp => by have := splC_short hp; omega
    cases es : splC 32 x with
    | nil => rw [es] at e; simp at e
    | cons w r =>
      cases r with
      | nil => rw [es] at e; simp at e
      | cons y r2 =>
        cases r2 with
        | cons _ _ => rw [es] at e; simp at e
        | nil =>
          rw [es] at hu hs
          unfold sExpr
          rw [meth_at h rfl rfl (apure_iff (d := T w) (by simp) (apure_iff (d := T y) (by simp) anil_iff))]
          rw [hear_two_P h hl3 (hu _ (by simp)) (hs _ (by simp)) (hu _ (by simp)) (hs _ (by simp))]
          rfl
  · have e : ¬ (splC 32 x).length = 2 := by simpa using e
    split
    · rename_i h2; rw [h2] at e; simp at e
    · exact Iff.rfl
end
/-! ### shapes of notes -/
theorem eqv_optI (o : Option Int) : PyData.eqv (optI o) (optI o) = true := by cases o <;> simp [PyData.eqv]
theorem eqv_optP (o : Option Tx) : PyData.eqv (optP o) (optP o) = true := by
  cases o with
  | none => simp [PyData.eqv]
  | some a => simp
theorem eqv_reach (b : Bool) : PyData.eqv (reachT b) (reachT b) = true := by cases b <;> simp [reachT]
theorem sh_optI {k : Nat} (o : Option Int) : Sh k (optI o) := by
  cases o with
  | none => exact sh_none
  | some i => exact sh_int i
theorem sh_reach {k : Nat} (b : Bool) : Sh k (reachT b) := by cases b <;> exact sh_T (uni_of (by decide))
theorem sh_noteD {n : Nt} (h : NtOk n) : Sh 1 (noteD n) := sh_tuple fun d hd => by
  simp only [List.mem_cons, List.not_mem_nil, or_false] at hd
  rcases hd with rfl | rfl | rfl | rfl | rfl | rfl | rfl | rfl | rfl | rfl
  · exact sh_T (noteName_uni h.name)
  · exact sh_T (worth_uni h.worth)
  · exact sh_T (dots_uni h.house)
  · exact sh_bool _
  · exact sh_T (path_uni' h.path)
  · exact sh_optI _
  · exact sh_bool _
  · exact sh_reach _
  · exact sh_int _
  · exact sh_int _
theorem fNe_note {n : Nt} (h : NtOk n) : fNe (noteD n) (noteD n) = .ok (.bool false) :=
  fNe_self (sh_noteD h) (by simp [noteD, PyData.eqv, PyData.eqvAll, eqv_optI, eqv_reach])
/-! ### giving.py: trimmed, read_given -/
def trimA : Tx → Tx
  | [] => []
  | c :: l => if c = 32 then trimA l else c :: l
def trimZ (l : Tx) : Tx := (trimA l.reverse).reverse
def trimL (l : Tx) : Tx := trimZ (trimA l)
theorem trimA_len : ∀ l : Tx, (trimA l).length ≤ l.length
  | [] => Nat.le_refl _
  | c :: l => by
    unfold trimA
    split
    · have := trimA_len l
      simp; omega
    · exact Nat.le_refl _
theorem trimZ_len (l : Tx) : (trimZ l).length ≤ l.length := by
  have := trimA_len l.reverse
  simpa [trimZ] using this
theorem trimL_len (l : Tx) : (trimL l).length ≤ l.length := Nat.le_trans (trimZ_len _) (trimA_len _)
theorem trimA_mem : ∀ {l : Tx} {x : Nat}, x ∈ trimA l → x ∈ l
  | [], _, h => h
  | c :: l, x, h => by
    unfold trimA at h
    split at h
    · exact .tail _ (trimA_mem h)
    · exact h
theorem trimL_mem {l : Tx} {x : Nat} (h : x ∈ trimL l) : x ∈ l := by
  unfold trimL trimZ at h
  have := trimA_mem (List.mem_reverse.mp h)
  exact trimA_mem (List.mem_reverse.mp this)
theorem trimL_uni {l : Tx} (h : Uni l) : Uni (trimL l) := fun c hc => h c (trimL_mem hc)
theorem trimZ_snoc (l : Tx) (c : Nat) : trimZ (l ++ [c]) = if c = 32 then trimZ l else l ++ [c] := by
  unfold trimZ
  rw [List.reverse_append]
  show (if c = 32 then trimA l.reverse else c :: l.reverse).reverse = _
  by_cases e : c = 32
  · rw [if_pos e, if_pos e]
  · rw [if_neg e, if_neg e]
    simp
theorem trim_wh1 : ∀ (a : Tx) (k : Nat), a.length < k → a.length ≤ 16777216 →
    whGo (bv (g2 fEq (gSl (gv 0) oNone (oSome (gc (.int 1)))) (gc (.str " ")))) (gSet (sName 0) (gSl (gv 0) (oSome (gc (.int 1))) oNone)) k [.dat (T a)] = .ok (.nx [.dat (T (trimA a))])
  | a, 0, h, _ => absurd h (Nat.not_lt_zero _)
  | [], k + 1, _, _ => by
    have c : fSl (T []) none (some 1) = .ok (T []) := rfl
    refine wh_stop ?_
    simp [c]
  | c :: a, k + 1, h, hl => by
    have h1 : fSl (T (c :: a)) none (some 1) = .ok (T [c]) := by
      rw [fSl_T _ _ hl, show (some (1 : Int)) = some ((1 : Nat) : Int) from rfl, cut_to]
      rfl
    have h2 : fSl (T (c :: a)) (some 1) none = .ok (T a) := by
      rw [fSl_T _ _ hl, show (some (1 : Int)) = some ((1 : Nat) : Int) from rfl, cut_from]
      rfl
    have ih := trim_wh1 a k (by simp at h; omega) (by simp at hl; omega)
    by_cases e : c = 32
    · subst e
      rw [wh_turn (Γ2 := [.dat (T a)]) (by simp [h1]) (by simp [h2]), ih]
      rw [trimA, if_pos rfl]
    · rw [wh_stop (by simp [h1, e]), trimA, if_neg e]
theorem trim_wh2 : ∀ (n : Nat) (a : Tx) (k : Nat), a.length = n → n < k → n ≤ 16777216 →
    whGo (bv (g2 fEq (gSl (gv 0) (oSome (gNeg (gc (.int 1)))) oNone) (gc (.str " ")))) (gSet (sName 0) (gSl (gv 0) oNone (oSome (gNeg (gc (.int 1)))))) k [.dat (T a)] = .ok (.nx [.dat (T (trimZ a))])
  | _, a, 0, _, h, _ => absurd h (Nat.not_lt_zero _)
  | 0, a, k + 1, hn, _, _ => by
    have e : a = [] := List.length_eq_zero_iff.mp hn
    subst e
    have neg1 : fNeg (.int 1) = .ok (.int (-1)) := rfl
    have c : fSl (T []) (some (-1)) none = .ok (T []) := rfl
    refine wh_stop ?_
    simp [neg1, c]
  | n + 1, a, k + 1, hn, h, hl => by
    have hne : a ≠ [] := fun e => by rw [e] at hn; cases hn
    obtain ⟨b, c, rfl⟩ : ∃ b c, a = b ++ [c] := ⟨a.dropLast, a.getLast hne, (List.dropLast_concat_getLast hne).symm⟩
    have hb : b.length = n := by simp at hn; omega
    have neg1 : fNeg (.int 1) = .ok (.int (-1)) := rfl
    have h1 : fSl (T (b ++ [c])) (some (-1)) none = .ok (T [c]) := by
      rw [fSl_T _ _ (by simp; omega), cut_fromneg1]
      simp
    have h2 : fSl (T (b ++ [c])) none (some (-1)) = .ok (T b) := by
      rw [fSl_T _ _ (by simp; omega), cut_but]
      simp
    have ih := trim_wh2 n b k hb (by omega) (by omega)
    rw [trimZ_snoc]
    by_cases e : c = 32
    · subst e
      rw [wh_turn (Γ2 := [.dat (T b)]) (by simp [neg1, h1]) (by simp [neg1, h2]), ih, if_pos rfl]
    · rw [wh_stop (by simp [neg1, h1, e]), if_neg e]
theorem trimmed_P {a : Tx} (h : a.length ≤ 10000) : f_trimmed [T a] = .ok (T (trimL a)) := by
  have w1 := trim_wh1 a 100000 (by omega) (by omega)
  have l1 := trimA_len a
  have w2 := trim_wh2 _ (trimA a) 100000 rfl (by omega) (by omega)
  rw [fe_trimmed]
  unfold g_trimmed
  rw [ev_seq, ev_while, w1]
  simp only [seqK_nx]
  rw [ev_seq, ev_while, w2]
  simp [trimL]
/-! reading -/
def startL (n w : Tx) : List D := [T n, T w, .none, .none, .none, .none, .bool false, T wAny]
def hearsL (ps : List Tx) (l : List D) : List D := ps.foldl (fun l x => hearL x l) l
def partsR (s : Tx) : List Tx := (splC 59 s).map trimL
def sidesR (s : Tx) : List Tx := splC 61 ((partsR s).headD [])
/-- what is read of a text, if it is one -/
def readL (s : Tx) : Option (List D) := match sidesR s with
  | [n, w] => if isNoteNameL n = true ∧ isWorthL w = true then some (hearsL (partsR s).tail (startL n w)) else none
  | _ => none
theorem newL_iff {Γ : G} {W : Wd} {Ts : TaW} {as : List Ar} {ds : List D} {post : RX → Wd → Prop} (ea : ∀ W post, Ts Γ W post ↔ post (.vs as) W) (hd : allD as = some ds) (hl : ds.length ≤ 1000) :
    eNewL Ts Γ W post ↔ ∀ q, q ∉ W.map (·.1) → post (.v (.o q)) (W ++ [(q, .lst ds)]) := by
  unfold eNewL
  rw [ea]
  have : ds.length ≤ sizeLine := by rw [sizeLine_eq]; omega
  simp [hd, this]
theorem init_P {p : Addr} {n w : Tx} {post : RX → Wd → Prop} : f_Given___init__ [.o p, .d (T n), .d (T w)] [(p, .ins "Given" [])] post ↔ ∀ q, p ≠ q → post (.v (.d .none)) (Wg p q (startL n w)) := by
  have e : ∀ post, eNewL (aConsW (ePure (gv 1)) (aConsW (ePure (gv 2)) (aConsW (ePure (gc .none)) (aConsW (ePure (gc .none)) (aConsW (ePure (gc .none)) (aConsW (ePure (gc .none)) (aConsW (ePure (gc (.bool false))) (aConsW (ePure (gc (.str "any"))) aNilW)))))))) [.exn p, .dat (T n), .dat (T w)] [(p, .ins "Given" [])] post ↔ ∀ q, q ∉ [p] → post (.v (.o q)) ([(p, .ins "Given" [])] ++ [(q, .lst (startL n w))]) := fun post =>
    newL_iff (as := [.d (T n), .d (T w), .d .none, .d .none, .d .none, .d .none, .d (.bool false), .d (T wAny)]) (apure_iff (by simp) (apure_iff (by simp) (apure_iff (by simp) (apure_iff (by simp) (apure_iff (by simp) (apure_iff (by simp) (apure_iff (by simp) (apure_iff (by simp [wAny]) anil_iff)))))))) rfl (by show 8 ≤ 1000; decide)
  unfold f_Given___init__ runW w_Given___init__ sFldW
  show _ ∧ eNewL _ [.exn p, .dat (T n), .dat (T w)] _ _ ↔ _
  rw [e]
  have k : ∀ q, p ≠ q → (insW "Given" ([(p, .ins "Given" [])] ++ [(q, .lst (startL n w))]) p (fun fs => fs.length < 1000 ∧ (SubW [(p, .ins "Given" [])] (setW ([(p, .ins "Given" [])] ++ [(q, .lst (startL n w))]) p (.ins "Given" (putA "told" (.o q) fs))) ∧ post (.v (.d .none)) (setW ([(p, .ins "Given" [])] ++ [(q, .lst (startL n w))]) p (.ins "Given" (putA "told" (.o q) fs))))) ↔ post (.v (.d .none)) (Wg p q (startL n w))) := fun q hq => by
    have gi : getW ([(p, .ins "Given" [])] ++ [(q, .lst (startL n w))]) p = some (.ins "Given" []) := by simp [getW]
    have hs : setW ([(p, .ins "Given" [])] ++ [(q, .lst (startL n w))]) p (.ins "Given" (putA "told" (.o q) [])) = Wg p q (startL n w) := by
      have : ¬ q = p := fun e => hq e.symm
      simp [setW, Wg, putA, this]
    unfold insW
    rw [gi]
    show (_ ∧ _ ∧ _ ∧ _) ↔ _
    rw [hs]
    have sb : SubW [(p, Ob.ins "Given" [])] (Wg p q (startL n w)) := fun x hx => by
      simp only [List.map_cons, List.map_nil, List.mem_singleton] at hx
      subst hx
      simp [Wg]
    exact ⟨fun h => h.2.2.2, fun h => ⟨rfl, by decide, sb, h⟩⟩
  constructor
  · intro h q hq
    exact (k q hq).mp (h.2 q (by simpa using fun e => hq e.symm))
  · intro h
    refine ⟨rfl, fun q hq => ?_⟩
    have hq : p ≠ q := fun e => hq (by simp [e])
    exact (k q hq).mpr (h q hq)
def lastS (ps : List Tx) (y : Sv) : Sv := ps.foldl (fun _ x => .dat (T x)) y
theorem hears_len : ∀ (ps : List Tx) (l : List D), (hearsL ps l).length = l.length
  | [], _ => rfl
  | x :: ps, l => (hears_len ps (hearL x l)).trans (hearL_len x l)
theorem for_hear {p q : Addr} (h : p ≠ q) {x0 x1 x2 : Sv} {post : FX → Wd → Prop} : ∀ (ps : List Tx) (l : List D) (y : Sv), l.length = 8 → (∀ x ∈ ps, Uni x ∧ x.length ≤ 1000) →
    (forW (sName 4) (sExpr (eMeth "Given" "hear" f_Given_hear (eVar 3) (aConsW (ePure (gv 4)) aNilW))) (ps.map T) [x0, x1, x2, .exn p, y] (Wg p q l) post ↔ post (.nx [x0, x1, x2, .exn p, lastS ps y]) (Wg p q (hearsL ps l)))
  | [], l, y, _, _ => Iff.rfl
  | x :: ps, l, y, hl, hx => by
    have ih := for_hear h (x0 := x0) (x1 := x1) (x2 := x2) (post := post) ps (hearL x l) (.dat (T x)) (by simp [hl]) fun z hz => hx z (.tail _ hz)
    obtain ⟨u, ul⟩ := hx x (.head _)
    have st : sName 4 (T x) [x0, x1, x2, .exn p, y] = .ok [x0, x1, x2, .exn p, .dat (T x)] := rfl
    rw [List.map_cons, forW, st]
    show sExpr _ [x0, x1, x2, .exn p, .dat (T x)] _ _ ↔ _
    unfold sExpr
    rw [meth_at h rfl rfl (apure_iff (d := T x) (by simp) anil_iff), hear_P h hl u ul]
    exact ih
theorem exc_iff {n : Nat} {g : G → R Fl} {c : Str} {T2 : TsW} {Γ : G} {W : Wd} {post : FX → Wd → Prop} (h : g Γ = .exc c) : sSeq (sPure n g) T2 Γ W post ↔ post (.ex c (List.replicate n .un)) W := by
  unfold sSeq sPure
  rw [h]
  exact Iff.rfl
theorem fresh2 : ∃ p q : Addr, p ≠ q := ⟨0, 1, by decide⟩
section
variable {s : Tx} (hs : Uni s) (hl : s.length ≤ 1000)
include hs hl
theorem parts_ok : ∀ x ∈ partsR s, Uni x ∧ x.length ≤ 1000 := fun x hx => by
  obtain ⟨y, hy, rfl⟩ := List.mem_map.mp hx
  have := splC_short hy
  have := trimL_len y
  exact ⟨trimL_uni (splC_uni hs y hy), by omega⟩
theorem rg_parts (x1 x2 x3 : Sv) : gSet (sName 1) (gLc [4] (sName 4) (gIt (gM1 fSplit (gv 0) (gc (.str ";")))) bYes (gOwn f_trimmed (aCons (gv 4) aNil))) [.dat (T s), x1, x2, x3, .un] = .ok (.nx [.dat (T s), .dat (.list ((partsR s).map T)), x2, x3, .un]) := by
  have sp : fSplit (St' s) (T [59]) = .ok (.list ((splC 59 s).map T)) := fSplit_T _ (by decide) (by omega)
  have sn : (splC 59 s).length ≤ 2000 := by
    rw [splC_len]
    have := List.count_le_length (a := 59) (l := s)
    omega
  have lc : ∀ Γ : G, 4 < Γ.length → lcK Γ (sName 4) bYes (gOwn f_trimmed (aCons (gv 4) aNil)) (.ok ((splC 59 s).map T)) = .ok (.list ((partsR s).map T)) := fun Γ e => by
    have := lcK_mapT (Γ := Γ) (sName 4) bYes (gOwn f_trimmed (aCons (gv 4) aNil)) T (T ∘ trimL) (splC 59 s) (by rw [sizeLine_eq]; omega) fun n hn => ⟨_, rfl, rfl, by
      have := splC_short hn
      simp [e, trimmed_P (show n.length ≤ 10000 by omega)]⟩
    rw [this]
    unfold partsR
    rw [List.map_map]
  have w : wipeG [.dat (T s), x1, x2, x3, .un] [4] = [.dat (T s), x1, x2, x3, .un] := rfl
  simp [-List.map_map, sp, lc, w]
theorem rg_sides (x2 x3 x4 : Sv) : gSet (sName 2) (gM1 fSplit (g2 fIx (gv 1) (gc (.int 0))) (gc (.str "="))) [.dat (T s), .dat (.list ((partsR s).map T)), x2, x3, x4] = .ok (.nx [.dat (T s), .dat (.list ((partsR s).map T)), .dat (.list ((sidesR s).map T)), x3, x4]) := by
  have pk := parts_ok hs hl
  have ne : partsR s ≠ [] := by
    unfold partsR
    intro e
    exact splC_ne 59 s (List.map_eq_nil_iff.mp e)
  cases e : partsR s with
  | nil => exact absurd e ne
  | cons h ps =>
    rw [e] at pk
    have sp : fSplit (St' h) (T [61]) = .ok (.list ((splC 61 h).map T)) := fSplit_T _ (by decide) (by have := (pk h (.head _)).2; omega)
    have i0 : fIx (.list (T h :: ps.map T)) (.int 0) = .ok (T h) := fIx_list (atI_nat (show (T h :: ps.map T)[0]? = some (T h) from rfl))
    have es : sidesR s = splC 61 h := by unfold sidesR; rw [e]; rfl
    rw [es]
    simp [sp, i0]
theorem hread_ok {L : List D} (h : readL s = some L) {post : RX → Wd → Prop} : h_read_given [.d (T s)] [] post ↔ ∀ p q, p ≠ q → post (.v (.d (.tuple L))) (Wg p q L) := by
  have pk := parts_ok hs hl
  unfold readL at h
  split at h
  · rename_i n w es
    split at h
    · rename_i hnw
      obtain ⟨hn, hw⟩ := hnw
      injection h with h
      have ln : n.length ≤ 1000 ∧ w.length ≤ 1000 := by
        have h0 : ∀ x ∈ sidesR s, x.length ≤ 1000 := fun x hx => by
          have a := splC_short hx
          have : ((partsR s).headD []).length ≤ 1000 := by
            cases e : partsR s with
            | nil => exact Nat.zero_le _
            | cons y ys => rw [e] at pk; exact (pk y (.head _)).2
          omega
        rw [es] at h0
        exact ⟨h0 n (by simp), h0 w (by simp)⟩
      have t1 := is_note_name_T n (by omega)
      have t2 := is_worth_T w (by omega)
      rw [hn] at t1
      rw [hw] at t2
      have se := rg_sides hs hl .un .un .un
      have i0 : fIx (.list [T n, T w]) (.int 0) = .ok (T n) := fIx_list rfl
      have i1 : fIx (.list [T n, T w]) (.int 1) = .ok (T w) := fIx_list rfl
      have sl : gIt (gSl (gv 1) (oSome (gc (.int 1))) oNone) [.dat (T s), .dat (.list ((partsR s).map T)), .dat (.list [T n, T w]), .un, .un] = .ok ((partsR s).tail.map T) := by
        have : cutG ((partsR s).map T) (some 1) none = (partsR s).tail.map T := by
          rw [show (some (1 : Int)) = some ((1 : Nat) : Int) from rfl, cut_from, List.drop_one, ← List.map_tail]
        simp [this]
      rw [es] at se
      have key : ∀ post : FX → Wd → Prop, w_read_given [.dat (T s), .un, .un, .un, .un] [] post ↔ ∀ p q, p ≠ q → post (.rt (.d (.tuple L))) (Wg p q L) := fun post => by
        unfold w_read_given
        refine seq_iff (Γ1 := [.dat (T s), .un, .un, .un, .un]) (W1 := []) (fun post => pure_iff (by simp)) ?_
        refine seq_iff (Γ1 := [.dat (T s), .dat (.list ((partsR s).map T)), .un, .un, .un]) (W1 := []) (fun post => pure_iff (rg_parts hs hl _ _ _)) ?_
        refine seq_iff (Γ1 := [.dat (T s), .dat (.list ((partsR s).map T)), .dat (.list [T n, T w]), .un, .un]) (W1 := []) (fun post => pure_iff se) ?_
        refine seq_iff (Γ1 := [.dat (T s), .dat (.list ((partsR s).map T)), .dat (.list [T n, T w]), .un, .un]) (W1 := []) (fun post => pure_iff (by simp [i0, i1, t1, t2])) ?_
        unfold sSeq
        unfold sSet eMake
        rw [apure_iff (d := T n) (by simp [i0]) (apure_iff (d := T w) (by simp [i1]) anil_iff)]
        show (∀ p, _ → f_Given___init__ [.o p, .d (T n), .d (T w)] [(p, .ins "Given" [])] _) ↔ _
        constructor
        · intro H p q hpq
          have := init_P.mp (H p (by simp)) q hpq
          dsimp only [onE, onN, slotOf, List.set] at this
          unfold sFor at this
          have sl' : gIt (gSl (gv 1) (oSome (gc (.int 1))) oNone) [.dat (T s), .dat (.list ((partsR s).map T)), .dat (.list [T n, T w]), .exn p, .un] = .ok ((partsR s).tail.map T) := sl
          rw [sl'] at this
          have this := (for_hear hpq _ _ _ rfl fun x hx => pk x (List.mem_of_mem_tail hx)).mp this
          rw [h] at this
          have this : sRet (eTupO (eFld "Given" "told" (eVar 3))) _ _ post := this
          unfold sRet eTupO at this
          rw [told_at hpq rfl] at this
          simpa [onE, onO, lstW, Wg_lst hpq] using this
        · intro H p _
          refine init_P.mpr fun q hpq => ?_
          dsimp only [onE, onN, slotOf, List.set]
          unfold sFor
          have sl' : gIt (gSl (gv 1) (oSome (gc (.int 1))) oNone) [.dat (T s), .dat (.list ((partsR s).map T)), .dat (.list [T n, T w]), .exn p, .un] = .ok ((partsR s).tail.map T) := sl
          rw [sl']
          refine (for_hear hpq _ _ _ rfl fun x hx => pk x (List.mem_of_mem_tail hx)).mpr ?_
          rw [h]
          show sRet (eTupO (eFld "Given" "told" (eVar 3))) _ _ post
          unfold sRet eTupO
          rw [told_at hpq rfl]
          simpa [onE, onO, lstW, Wg_lst hpq] using H p q hpq
      unfold h_read_given runW
      show _ ∧ w_read_given [.dat (T s), .un, .un, .un, .un] [] _ ↔ _
      rw [key]
      simp [SubW]
    · cases h
  · cases h
theorem hread_no (h : readL s = none) {post : RX → Wd → Prop} : h_read_given [.d (T s)] [] post ↔ post (.ex "NoNote") [] := by
  have pk := parts_ok hs hl
  have se := rg_sides hs hl .un .un .un
  have bad : gIfS (bOr (bv (g2 fNe (gCall fLen (aCons (gv 2) aNil)) (gc (.int 2)))) (bOr (bNot (bv (gOwn f_is_note_name (aCons (g2 fIx (gv 2) (gc (.int 0))) aNil)))) (bNot (bv (gOwn f_is_worth (aCons (g2 fIx (gv 2) (gc (.int 1))) aNil)))))) (gRaise "NoNote") gSkip [.dat (T s), .dat (.list ((partsR s).map T)), .dat (.list ((sidesR s).map T)), .un, .un] = .exc "NoNote" := by
    have len : fLen [.list ((sidesR s).map T)] = .ok (.int ((sidesR s).length : Nat)) := by simp
    by_cases e : (sidesR s).length = 2
    · have h0 : ∀ x ∈ sidesR s, x.length ≤ 1000 := fun x hx => by
        have a := splC_short hx
        have : ((partsR s).headD []).length ≤ 1000 := by
          cases e : partsR s with
          | nil => exact Nat.zero_le _
          | cons y ys => rw [e] at pk; exact (pk y (.head _)).2
        omega
      unfold readL at h
      split at h
      · rename_i n w es
        rw [es] at h0
        have t1 := is_note_name_T n (by have := h0 n (by simp); omega)
        have t2 := is_worth_T w (by have := h0 w (by simp); omega)
        have i0 : fIx (.list [T n, T w]) (.int 0) = .ok (T n) := fIx_list rfl
        have i1 : fIx (.list [T n, T w]) (.int 1) = .ok (T w) := fIx_list rfl
        rw [es]
        split at h
        · cases h
        · rename_i hnw
          cases hn : isNoteNameL n with
          | false => simp [i0, i1, t1, t2, hn]
          | true =>
            cases hw : isWorthL w with
            | false => simp [i0, i1, t1, t2, hn, hw]
            | true => exact absurd ⟨hn, hw⟩ hnw
      · rename_i hno
        cases es : sidesR s with
        | nil => rw [es] at e; simp at e
        | cons x r =>
          cases r with
          | nil => rw [es] at e; simp at e
          | cons y r2 =>
            cases r2 with
            | nil => exact absurd es (hno x y)
            | cons _ _ => rw [es] at e; simp at e
    · have : ¬ ((sidesR s).length : Int) = 2 := by omega
      simp [len, this]
  unfold h_read_given runW
  have key : ∀ post : FX → Wd → Prop, w_read_given [.dat (T s), .un, .un, .un, .un] [] post ↔ post (.ex "NoNote" (List.replicate 5 .un)) [] := fun post => by
    unfold w_read_given
    refine seq_iff (Γ1 := [.dat (T s), .un, .un, .un, .un]) (W1 := []) (fun post => pure_iff (by simp)) ?_
    refine seq_iff (Γ1 := [.dat (T s), .dat (.list ((partsR s).map T)), .un, .un, .un]) (W1 := []) (fun post => pure_iff (rg_parts hs hl _ _ _)) ?_
    refine seq_iff (Γ1 := [.dat (T s), .dat (.list ((partsR s).map T)), .dat (.list ((sidesR s).map T)), .un, .un]) (W1 := []) (fun post => pure_iff se) ?_
    exact exc_iff bad
  show _ ∧ w_read_given [.dat (T s), .un, .un, .un, .un] [] _ ↔ _
  rw [key]
  simp [SubW]
theorem read_given_T : f_read_given [T s] = match readL s with
    | some L => .ok (.tuple L)
    | none => .exc "NoNote" := by
  obtain ⟨p, q, hpq⟩ := fresh2
  cases e : readL s with
  | some L =>
    have k := fun post => hread_ok hs hl e (post := post)
    exact closeF_ok (fun post hp => (k post).mpr fun p q _ => hp _) fun post h => ⟨_, (k post).mp h p q hpq⟩
  | none =>
    have k := fun post => hread_no hs hl e (post := post)
    exact closeF_exc (fun post hp => (k post).mpr (hp _)) fun post h => ⟨_, (k post).mp h⟩
end
/-! ### what is read of plain texts -/
theorem trimA_app : ∀ (x y : Tx), trimA (x ++ y) = if trimA x = [] then trimA y else trimA x ++ y
  | [], y => by simp [trimA]
  | c :: x, y => by
    show trimA (c :: (x ++ y)) = _
    by_cases e : c = 32
    · rw [trimA, if_pos e, trimA, if_pos e]
      exact trimA_app x y
    · rw [trimA, if_neg e, trimA, if_neg e, if_neg (by simp)]
      rfl
theorem trimA_blank : ∀ k : Nat, trimA (List.replicate k 32) = []
  | 0 => rfl
  | k + 1 => by
    rw [List.replicate_succ, trimA, if_pos rfl]
    exact trimA_blank k
theorem trimZ_blank (x : Tx) (k : Nat) : trimZ (x ++ List.replicate k 32) = trimZ x := by
  unfold trimZ
  rw [List.reverse_append, List.reverse_replicate, trimA_app, if_pos (trimA_blank k)]
theorem trimL_pad (j k : Nat) (x : Tx) : trimL (List.replicate j 32 ++ (x ++ List.replicate k 32)) = trimL x := by
  unfold trimL
  rw [trimA_app, if_pos (trimA_blank j), trimA_app]
  split
  · rename_i e
    rw [trimA_blank, e]
  · exact trimZ_blank _ _
theorem trimA_free {l : Tx} (h : 32 ∉ l) : trimA l = l := by
  cases l with
  | nil => rfl
  | cons c l =>
    rw [trimA, if_neg]
    intro e
    exact h (by simp [e])
theorem trimL_free {l : Tx} (h : 32 ∉ l) : trimL l = l := by
  unfold trimL trimZ
  rw [trimA_free h, trimA_free (by simpa using h), List.reverse_reverse]
theorem trimL_two {w x : Tx} (hw : 32 ∉ w) (hw0 : w ≠ []) (hx : 32 ∉ x) (hx0 : x ≠ []) : trimL (w ++ 32 :: x) = w ++ 32 :: x := by
  unfold trimL trimZ
  rw [trimA_app, trimA_free hw, if_neg hw0]
  have e : (w ++ 32 :: x).reverse = x.reverse ++ (32 :: w.reverse) := by simp
  rw [e, trimA_app, trimA_free (by simpa using hx), if_neg (by simpa using hx0), ← e, List.reverse_reverse]
def padS (a b : Nat) : Tx := List.replicate a 32 ++ 59 :: List.replicate b 32
theorem blank_free (k : Nat) {s : Nat} (h : s ≠ 32) : s ∉ (List.replicate k 32 : Tx) := fun hm => h (List.eq_of_mem_replicate hm)
theorem parts_join (a b : Nat) : ∀ (ps : List Tx) (h : Tx) (c : Nat), (∀ p ∈ h :: ps, 59 ∉ p) → (splC 59 (List.replicate c 32 ++ TL.joinL (padS a b) (h :: ps))).map trimL = (h :: ps).map trimL
  | [], h, c, fr => by
    show (splC 59 (List.replicate c 32 ++ h)).map trimL = _
    have f1 : 59 ∉ List.replicate c 32 ++ h := fun hm => by
      rcases List.mem_append.mp hm with z | z
      · exact blank_free c (by decide) z
      · exact fr h (.head _) z
    rw [splC_free f1]
    have := trimL_pad c 0 h
    simp at this
    simp [this]
  | q :: r, h, c, fr => by
    have ih := parts_join a b r q b fun p hp => fr p (.tail _ hp)
    have e : List.replicate c 32 ++ TL.joinL (padS a b) (h :: q :: r) = (List.replicate c 32 ++ (h ++ List.replicate a 32)) ++ 59 :: (List.replicate b 32 ++ TL.joinL (padS a b) (q :: r)) := by
      show List.replicate c 32 ++ (h ++ (padS a b ++ TL.joinL (padS a b) (q :: r))) = _
      simp [padS]
    have f1 : 59 ∉ List.replicate c 32 ++ (h ++ List.replicate a 32) := fun hm => by
      rcases List.mem_append.mp hm with z | z
      · exact blank_free c (by decide) z
      · rcases List.mem_append.mp z with z | z
        · exact fr h (.head _) z
        · exact blank_free a (by decide) z
    rw [e, splC_app, splC_free f1, List.map_append, ih]
    simp [trimL_pad]
structure Pk (p : Tx) : Prop where
  free : 59 ∉ p
  trim : trimL p = p
  uni : Uni p
  len : p.length ≤ 51
theorem partsR_join (a b : Nat) {h : Tx} {ps : List Tx} (k : ∀ p ∈ h :: ps, Pk p) : partsR (TL.joinL (padS a b) (h :: ps)) = h :: ps := by
  have := parts_join a b ps h 0 fun p hp => (k p hp).free
  unfold partsR
  rw [List.replicate_zero, List.nil_append] at this
  rw [this]
  have : ∀ l : List Tx, (∀ p ∈ l, trimL p = p) → l.map trimL = l := fun l => by
    induction l with
    | nil => intro _; rfl
    | cons x l ih => intro h; rw [List.map_cons, h x (.head _), ih fun p hp => h p (.tail _ hp)]
  exact this _ fun p hp => (k p hp).trim
theorem head_free {g : Giv} (h : GivOk g) {s : Nat} (hs : s = 59 ∨ s = 32) : s ∉ headG g := by
  have a1 : s ∉ g.name := sign_free (noteName_iff.mp h.name).2.2 (by rcases hs with rfl | rfl <;> decide)
  have a2 : s ∉ g.worth := sign_free (worth_iff.mp h.worth).2 (by rcases hs with rfl | rfl <;> decide)
  intro hm
  rcases List.mem_append.mp hm with z | z
  · exact a1 z
  · rcases List.mem_cons.mp z with z | z
    · rcases hs with rfl | rfl <;> cases z
    · exact a2 z
theorem uni_two {w x : Tx} (hw : Uni w) (hx : Uni x) (k : Nat) (hk : k < 128) : Uni (w ++ k :: x) := fun c hc => by
  rcases List.mem_append.mp hc with z | z
  · exact hw c z
  · rcases List.mem_cons.mp z with z | z
    · omega
    · exact hx c z
theorem head_pk {g : Giv} (h : GivOk g) : Pk (headG g) where
  free := head_free h (.inl rfl)
  trim := trimL_free (head_free h (.inr rfl))
  uni := uni_two (noteName_uni h.name) (worth_uni h.worth) 61 (by decide)
  len := by
    have a1 := (noteName_iff.mp h.name).2.1
    have a2 := (worth_iff.mp h.worth).1
    simp [headG]; omega
theorem head_sides {g : Giv} (h : GivOk g) : splC 61 (headG g) = [g.name, g.worth] := by
  have a1 : 61 ∉ g.name := sign_free (noteName_iff.mp h.name).2.2 (by decide)
  have a2 : 61 ∉ g.worth := sign_free (worth_iff.mp h.worth).2 (by decide)
  unfold headG
  rw [splC_app, splC_free a1, splC_free a2]
  rfl
theorem joinL_uni {S : Tx} (hS : Uni S) : ∀ ps : List Tx, (∀ p ∈ ps, Uni p) → Uni (TL.joinL S ps)
  | [], _ => fun c hc => by cases hc
  | [p], h => h p (.head _)
  | p :: q :: r, h => fun c hc => by
    have ih := joinL_uni hS (q :: r) fun p hp => h p (.tail _ hp)
    rcases List.mem_append.mp (show c ∈ p ++ (S ++ TL.joinL S (q :: r)) from hc) with z | z
    · exact h p (.head _) c z
    · rcases List.mem_append.mp z with z | z
      · exact hS c z
      · exact ih c z
theorem padS_uni (a b : Nat) : Uni (padS a b) := fun c hc => by
  rcases List.mem_append.mp hc with z | z
  · have := List.eq_of_mem_replicate z; omega
  · rcases List.mem_cons.mp z with z | z
    · omega
    · have := List.eq_of_mem_replicate z; omega
theorem padS_len (a b : Nat) : (padS a b).length = a + b + 1 := by simp [padS]; omega
theorem read_join {g : Giv} (hg : GivOk g) {ps : List Tx} (k : ∀ p ∈ ps, Pk p) (few : ps.length ≤ 11) {a b : Nat} (ha : a ≤ 2) (hb : b ≤ 2) :
    fJoin (St' (padS a b)) (.list (T (headG g) :: ps.map T)) = .ok (T (TL.joinL (padS a b) (headG g :: ps))) ∧ f_read_given [T (TL.joinL (padS a b) (headG g :: ps))] = .ok (.tuple (hearsL ps (startL g.name g.worth))) := by
  have k2 : ∀ p ∈ headG g :: ps, Pk p := fun p hp => by
    rcases List.mem_cons.mp hp with rfl | hp
    · exact head_pk hg
    · exact k p hp
  have s1 := sum_le (ps := headG g :: ps) fun p hp => (k2 p hp).len
  have s2 : (headG g :: ps).length * 51 ≤ 12 * 51 := Nat.mul_le_mul_right _ (by simp; omega)
  have s3 : (headG g :: ps).length * (padS a b).length ≤ 12 * 5 := Nat.mul_le_mul (by simp; omega) (by rw [padS_len]; omega)
  have s4 := join_len (padS a b) (headG g :: ps)
  refine ⟨?_, ?_⟩
  · have := fJoin_T (padS a b) (headG g :: ps) (by omega)
    simpa using this
  · rw [read_given_T (joinL_uni (padS_uni a b) _ fun p hp => (k2 p hp).uni) (by omega)]
    have : readL (TL.joinL (padS a b) (headG g :: ps)) = some (hearsL ps (startL g.name g.worth)) := by
      unfold readL sidesR
      rw [partsR_join a b k2]
      show (match splC 61 (headG g) with | [n, w] => _ | _ => _) = _
      rw [head_sides hg]
      simp [hg.name, hg.worth]
    rw [this]
/-! the parts of a plain text -/
theorem hearL_two {w x : Tx} (hw : 32 ∉ w) (hx : 32 ∉ x) (l : List D) : hearL (w ++ 32 :: x) l = hear2L w x l := by
  have n1 : ∀ q : Tx, 32 ∉ q → w ++ 32 :: x ≠ q := fun q hq e => hq (by rw [← e]; simp)
  have e : splC 32 (w ++ 32 :: x) = [w, x] := by
    rw [splC_app, splC_free hw, splC_free hx]
    rfl
  unfold hearL hSafe
  rw [if_neg (n1 wSafe (by decide))]
  unfold hReach
  rw [if_neg (by
    rintro (h | h)
    · exact n1 wAny (by decide) h
    · exact n1 wNear (by decide) h)]
  unfold hTwo
  rw [e]
theorem h2_for {x : Tx} (h : isNameL x = true) (l : List D) : hear2L wFor x l = l.set 2 (T x) := by
  unfold hear2L hFor hUnder hMom
  rw [if_neg (fun z => absurd z.1 (by decide)), if_neg (fun z => absurd z.1 (by decide)), if_pos ⟨rfl, h⟩]
theorem h2_under {x : Tx} (h : isPathL x = true) (l : List D) : hear2L wUnder x l = l.set 3 (T x) := by
  unfold hear2L hFor hUnder hMom
  rw [if_neg (fun z => absurd z.1 (by decide)), if_pos ⟨rfl, h⟩, if_neg (fun z => absurd z.1 (by decide))]
theorem h2_until {x : Tx} {i : Int} (h : momT x = some i) (l : List D) : hear2L wUntil x l = l.set 4 (.int i) := by
  unfold hear2L hFor hUnder hMom
  rw [if_pos ⟨.inl rfl, by rw [h]; rfl⟩, if_neg (fun z => absurd z.1 (by decide)), if_neg (fun z => absurd z.1 (by decide)), if_neg (by decide), h]
  rfl
theorem h2_lasts {x : Tx} {i : Int} (h : momT x = some i) (l : List D) : hear2L wLasts x l = l.set 5 (.int i) := by
  unfold hear2L hFor hUnder hMom
  rw [if_pos ⟨.inr rfl, by rw [h]; rfl⟩, if_neg (fun z => absurd z.1 (by decide)), if_neg (fun z => absurd z.1 (by decide)), if_pos rfl, h]
  rfl
theorem hearL_safe (l : List D) : hearL wSafe l = l.set 6 (.bool true) := by
  unfold hearL hSafe
  rw [if_pos rfl]
  unfold hReach
  rw [if_neg (by decide)]
  rfl
theorem hearL_near (l : List D) : hearL wNear l = l.set 7 (T wNear) := by
  unfold hearL hSafe
  rw [if_neg (by decide)]
  unfold hReach
  rw [if_pos (.inr rfl)]
  rfl
/-- a part that tells nothing -/
def oddOk (q : Tx) : Bool := !decide (q = wSafe) && (!decide (q = wAny) && (!decide (q = wNear) && match splC 32 q with
  | [w, x] => !(decide (w = wFor) && isNameL x) && (!(decide (w = wUnder) && isPathL x) && !((decide (w = wUntil) || decide (w = wLasts)) && (momT x).isSome))
  | _ => true))
theorem odd_hear {q : Tx} (h : oddOk q = true) (l : List D) : hearL q l = l := by
  unfold oddOk at h
  simp only [Bool.and_eq_true, Bool.not_eq_true', decide_eq_false_iff_not] at h
  obtain ⟨h1, h2, h3, h4⟩ := h
  unfold hearL hSafe
  rw [if_neg h1]
  unfold hReach
  rw [if_neg (fun z => z.elim h2 h3)]
  unfold hTwo
  split
  · rename_i w x e
    rw [e] at h4
    simp only [Bool.and_eq_true, Bool.not_eq_true', Bool.and_eq_false_iff, Bool.or_eq_false_iff, decide_eq_false_iff_not] at h4
    obtain ⟨k1, k2, k3⟩ := h4
    unfold hear2L hFor
    rw [if_neg (c := w = wFor ∧ _) fun ⟨z1, z2⟩ => k1.elim (fun k => k z1) fun k => by rw [z2] at k; cases k]
    unfold hUnder
    rw [if_neg (c := w = wUnder ∧ _) fun ⟨z1, z2⟩ => k2.elim (fun k => k z1) fun k => by rw [z2] at k; cases k]
    unfold hMom
    rw [if_neg fun ⟨z1, z2⟩ => k3.elim (fun k => z1.elim k.1 k.2) fun k => by rw [z2] at k; cases k]
  · rfl
structure Hx (z : Tx × Nat × D) : Prop where
  pk : Pk z.1
  hear : ∀ l, hearL z.1 l = l.set z.2.1 z.2.2
def setsL (as : List (Nat × D)) (l : List D) : List D := as.foldl (fun l a => l.set a.1 a.2) l
theorem hears_sets : ∀ {L : List (Tx × Nat × D)} (l : List D), (∀ z ∈ L, Hx z) → hearsL (L.map (·.1)) l = setsL (L.map (·.2)) l
  | [], _, _ => rfl
  | z :: L, l, h => by
    show hearsL (L.map (·.1)) (hearL z.1 l) = setsL (L.map (·.2)) (l.set z.2.1 z.2.2)
    rw [(h z (.head _)).hear]
    exact hears_sets _ fun z hz => h z (.tail _ hz)
theorem hears_app (a b : List Tx) (l : List D) : hearsL (a ++ b) l = hearsL b (hearsL a l) := by
  unfold hearsL
  rw [List.foldl_append]
theorem part_pk {w x : Tx} (hw : 32 ∉ w ∧ 59 ∉ w ∧ Uni w ∧ w.length ≤ 5 ∧ w ≠ []) (h1 : 32 ∉ x) (h2 : 59 ∉ x) (h3 : Uni x) (h4 : x.length ≤ 45) (h5 : x ≠ []) : Pk (w ++ 32 :: x) where
  free := fun hm => by
    rcases List.mem_append.mp hm with z | z
    · exact hw.2.1 z
    · rcases List.mem_cons.mp z with z | z
      · cases z
      · exact h2 z
  trim := trimL_two hw.1 hw.2.2.2.2 h1 h5
  uni := uni_two hw.2.2.1 h3 32 (by decide)
  len := by have := hw.2.2.2.1; simp; omega
theorem w_for : 32 ∉ wFor ∧ 59 ∉ wFor ∧ Uni wFor ∧ wFor.length ≤ 5 ∧ wFor ≠ [] := ⟨by decide, by decide, uni_of (by decide), by decide, by decide⟩
theorem w_under : 32 ∉ wUnder ∧ 59 ∉ wUnder ∧ Uni wUnder ∧ wUnder.length ≤ 5 ∧ wUnder ≠ [] := ⟨by decide, by decide, uni_of (by decide), by decide, by decide⟩
theorem w_until : 32 ∉ wUntil ∧ 59 ∉ wUntil ∧ Uni wUntil ∧ wUntil.length ≤ 5 ∧ wUntil ≠ [] := ⟨by decide, by decide, uni_of (by decide), by decide, by decide⟩
theorem w_lasts : 32 ∉ wLasts ∧ 59 ∉ wLasts ∧ Uni wLasts ∧ wLasts.length ≤ 5 ∧ wLasts ≠ [] := ⟨by decide, by decide, uni_of (by decide), by decide, by decide⟩
theorem hx_for {P : List Tx} (h : isNameP P = true) : Hx (wFor ++ 32 :: dots P, 2, T (dots P)) := by
  have f1 : 32 ∉ dots P := sign_free (dots_sign h) (by decide)
  have f2 : 59 ∉ dots P := sign_free (dots_sign h) (by decide)
  have l1 := name_len h
  have ne : dots P ≠ [] := fun e => by
    have := name_text h
    rw [e] at this
    exact absurd this (by decide)
  exact ⟨part_pk w_for f1 f2 (dots_uni h) l1 ne, fun l => (hearL_two w_for.1 f1 l).trans (h2_for (name_text h) l)⟩
theorem hx_under {p : Tx} (h : isPathL p = true) : Hx (wUnder ++ 32 :: p, 3, T p) := by
  have f1 : 32 ∉ p := sign_free (isPathL_iff.mp h).2.2 (by decide)
  have f2 : 59 ∉ p := sign_free (isPathL_iff.mp h).2.2 (by decide)
  have l1 := path_len h
  have ne : p ≠ [] := fun e => by
    rw [e] at h
    exact absurd h (by decide)
  exact ⟨part_pk w_under f1 f2 (path_uni' h) (by omega) ne, fun l => (hearL_two w_under.1 f1 l).trans (h2_under h l)⟩
theorem numT_uni (i : Int) : Uni (numT i) := fun c hc => by
  have := fig_bd (numT_dig hc)
  omega
theorem hx_until {i : Int} (h : 0 ≤ i ∧ i ≤ 9999) : Hx (wUntil ++ 32 :: numT i, 4, .int i) := by
  have l1 := numT_len h.2
  exact ⟨part_pk w_until (numT_free (by decide)) (numT_free (by decide)) (numT_uni i) (by omega) (numT_ne i), fun l => (hearL_two w_until.1 (numT_free (by decide)) l).trans (h2_until (momT_num h.1 h.2) l)⟩
theorem hx_lasts {i : Int} (h : 0 ≤ i ∧ i ≤ 9999) : Hx (wLasts ++ 32 :: numT i, 5, .int i) := by
  have l1 := numT_len h.2
  exact ⟨part_pk w_lasts (numT_free (by decide)) (numT_free (by decide)) (numT_uni i) (by omega) (numT_ne i), fun l => (hearL_two w_lasts.1 (numT_free (by decide)) l).trans (h2_lasts (momT_num h.1 h.2) l)⟩
theorem hx_safe : Hx (wSafe, 6, .bool true) := ⟨⟨by decide, by decide, uni_of (by decide), by decide⟩, hearL_safe⟩
theorem hx_near : Hx (wNear, 7, T wNear) := ⟨⟨by decide, by decide, uni_of (by decide), by decide⟩, hearL_near⟩
def tailA (g : Giv) : List (Tx × Nat × D) := (g.house.map fun P => (wFor ++ 32 :: dots P, 2, T (dots P))).toList ++ ((g.path.map fun p => (wUnder ++ 32 :: p, 3, T p)).toList ++ ((g.till.map fun i => (wUntil ++ 32 :: numT i, 4, PyData.int i)).toList ++ ((g.lasts.map fun i => (wLasts ++ 32 :: numT i, 5, PyData.int i)).toList ++ ((if g.safe then [(wSafe, 6, .bool true)] else []) ++ (if g.near then [(wNear, 7, T wNear)] else [])))))
theorem tailA_hx {g : Giv} (h : GivOk g) : ∀ z ∈ tailA g, Hx z := by
  intro z hz
  unfold tailA at hz
  simp only [List.mem_append, Option.mem_toList, Option.map_eq_some_iff] at hz
  rcases hz with ⟨P, e, rfl⟩ | ⟨p, e, rfl⟩ | ⟨i, e, rfl⟩ | ⟨i, e, rfl⟩ | hz | hz
  · exact hx_for (h.house P e)
  · exact hx_under (h.path p e)
  · exact hx_until (h.till i e)
  · exact hx_lasts (h.lasts i e)
  · split at hz
    · rw [List.mem_singleton.mp hz]; exact hx_safe
    · cases hz
  · split at hz
    · rw [List.mem_singleton.mp hz]; exact hx_near
    · cases hz
theorem tailA_text (g : Giv) : (tailA g).map (·.1) = tailG g := by
  obtain ⟨n, w, h, p, t, l, s, r⟩ := g
  cases h <;> cases p <;> cases t <;> cases l <;> cases s <;> cases r <;> rfl
theorem tailA_few (g : Giv) : (tailA g).length ≤ 6 := by
  obtain ⟨n, w, h, p, t, l, s, r⟩ := g
  cases h <;> cases p <;> cases t <;> cases l <;> cases s <;> cases r <;> exact Nat.le_of_ble_eq_true rfl
def givL (g : Giv) : List D := [T g.name, T g.worth, optD g.house, optP g.path, optI g.till, optI g.lasts, .bool g.safe, reachT g.near]
theorem sets_plain (g : Giv) : setsL ((tailA g).map (·.2)) (startL g.name g.worth) = givL g := by
  obtain ⟨n, w, h, p, t, l, s, r⟩ := g
  cases h <;> cases p <;> cases t <;> cases l <;> cases s <;> cases r <;> rfl
theorem sets_back (g : Giv) : setsL ((tailA g).reverse.map (·.2)) (startL g.name g.worth) = givL g := by
  obtain ⟨n, w, h, p, t, l, s, r⟩ := g
  cases h <;> cases p <;> cases t <;> cases l <;> cases s <;> cases r <;> rfl
def wQR : Tx := [113, 46, 114]
def wQ : Tx := [47, 113]
def dueP (z : D × D) : D := if isNone z.1 = true then z.2 else z.1
def dueL (g : Giv) : List (D × D) := [(optD g.house, T wQR), (optP g.path, T wQ), (optI g.till, .int 17), (optI g.lasts, .int 4)]
def aheadA : List (Tx × Nat × D) := [(wUntil ++ 32 :: [49, 55], 4, .int 17), (wUnder ++ 32 :: wQ, 3, T wQ), (wLasts ++ 32 :: [52], 5, .int 4), (wFor ++ 32 :: wQR, 2, T wQR)]
theorem aheadA_hx : ∀ z ∈ aheadA, Hx z := by
  intro z hz
  unfold aheadA at hz
  simp only [List.mem_cons, List.not_mem_nil, or_false] at hz
  rcases hz with rfl | rfl | rfl | rfl
  · exact ⟨part_pk w_until (by decide) (by decide) (uni_of (by decide)) (by decide) (by decide), fun l => (hearL_two w_until.1 (by decide) l).trans (h2_until (by decide) l)⟩
  · exact hx_under (by decide)
  · exact ⟨part_pk w_lasts (by decide) (by decide) (uni_of (by decide)) (by decide) (by decide), fun l => (hearL_two w_lasts.1 (by decide) l).trans (h2_lasts (by decide) l)⟩
  · exact ⟨part_pk w_for (by decide) (by decide) (uni_of (by decide)) (by decide) (by decide), fun l => (hearL_two w_for.1 (by decide) l).trans (h2_for (by decide) l)⟩
theorem sets_ahead (g : Giv) : setsL ((aheadA ++ tailA g).map (·.2)) (startL g.name g.worth) = [T g.name, T g.worth] ++ ((dueL g).map dueP ++ [.bool g.safe, reachT g.near]) := by
  obtain ⟨n, w, h, p, t, l, s, r⟩ := g
  cases h <;> cases p <;> cases t <;> cases l <;> cases s <;> cases r <;> rfl
theorem tail_pk {g : Giv} (h : GivOk g) : ∀ p ∈ tailG g, Pk p := fun p hp => by
  rw [← tailA_text] at hp
  obtain ⟨z, hz, rfl⟩ := List.mem_map.mp hp
  exact (tailA_hx h z hz).pk
theorem tail_few (g : Giv) : (tailG g).length ≤ 6 := by
  rw [← tailA_text, List.length_map]
  exact tailA_few g
theorem hears_plain {g : Giv} (h : GivOk g) : hearsL (tailG g) (startL g.name g.worth) = givL g := by
  rw [← tailA_text, hears_sets _ (tailA_hx h), sets_plain]
theorem hears_back {g : Giv} (h : GivOk g) : hearsL (tailG g).reverse (startL g.name g.worth) = givL g := by
  rw [← tailA_text, ← List.map_reverse, hears_sets _ fun z hz => tailA_hx h z (List.mem_reverse.mp hz), sets_back]
theorem hears_odd {g : Giv} (h : GivOk g) {q : Tx} (hq : oddOk q = true) (k : Nat) : hearsL ((tailG g).take k ++ q :: (tailG g).drop k) (startL g.name g.worth) = givL g := by
  rw [hears_app]
  show hearsL ((tailG g).drop k) (hearL q _) = _
  rw [odd_hear hq, ← hears_app, List.take_append_drop, hears_plain h]
theorem hears_ahead {g : Giv} (h : GivOk g) : hearsL (aheadA.map (·.1) ++ tailG g) (startL g.name g.worth) = [T g.name, T g.worth] ++ ((dueL g).map dueP ++ [.bool g.safe, reachT g.near]) := by
  rw [← tailA_text, ← List.map_append, hears_sets _ fun z hz => ?_, sets_ahead]
  rcases List.mem_append.mp hz with hz | hz
  · exact aheadA_hx z hz
  · exact tailA_hx h z hz
theorem textG_join (g : Giv) : textG g = TL.joinL (padS 0 1) (headG g :: tailG g) := (joinL_semi _ _).symm
theorem read_text {g : Giv} (h : GivOk g) : f_read_given [T (textG g)] = .ok (givD g) := by
  have := (read_join h (tail_pk h) (by have := tail_few g; omega) (a := 0) (b := 1) (by decide) (by decide)).2
  rw [textG_join, this, hears_plain h]
  rfl
theorem split_textG {g : Giv} (h : GivOk g) : fSplit (St' (textG g)) (T [59, 32]) = .ok (.list (T (headG g) :: (tailG g).map T)) := by
  have k2 : ∀ p ∈ headG g :: tailG g, Pk p := fun p hp => by
    rcases List.mem_cons.mp hp with rfl | hp
    · exact head_pk h
    · exact tail_pk h p hp
  have s1 := sum_le (ps := headG g :: tailG g) fun p hp => (k2 p hp).len
  have fw := tail_few g
  have s2 : (headG g :: tailG g).length * 51 ≤ 12 * 51 := Nat.mul_le_mul_right _ (by simp; omega)
  have s3 : (headG g :: tailG g).length * (padS 0 1).length ≤ 12 * 5 := Nat.mul_le_mul (by simp; omega) (by rw [padS_len]; omega)
  have s4 := join_len (padS 0 1) (headG g :: tailG g)
  rw [textG_join, fSplit_spl _ (by simp) (by decide) (by omega)]
  have : TL.spl [59, 32] 0 [] (TL.joinL (padS 0 1) (headG g :: tailG g)) = headG g :: tailG g := TL.spl_join (by simp) fun p hp => (k2 p hp).free
  rw [this]
  rfl
/-! ### law_k32 -/
theorem eqv_optI3 (o p : Option Int) : PyData.eqv (optI o) (optI p) = true ↔ o = p := by
  cases o <;> cases p <;> simp [PyData.eqv]
theorem eqv_optP3 (o p : Option Tx) : PyData.eqv (optP o) (optP p) = true ↔ o = p := by
  cases o <;> cases p <;> simp [PyData.eqv, T]
theorem eqv_optD3 {o p : Option (List Tx)} (ho : OptN o) (hp : OptN p) : PyData.eqv (optD o) (optD p) = true ↔ o = p := by
  cases o with
  | none => cases p <;> simp [optD, PyData.eqv, T]
  | some a =>
    cases p with
    | none => simp [optD, PyData.eqv, T]
    | some b =>
      have := dots_iff (ho a rfl) (hp b rfl)
      show PyData.eqv (T (dots a)) (T (dots b)) = true ↔ _
      rw [eqv_T]
      simp [this]
theorem eqv_reach3 (a b : Bool) : PyData.eqv (reachT a) (reachT b) = true ↔ a = b := by cases a <;> cases b <;> simp [reachT]
theorem eqv_givD {a b : Giv} (ha : GivOk a) (hb : GivOk b) : PyData.eqv (givD a) (givD b) = true ↔ a = b := by
  have h3 := eqv_optD3 ha.house hb.house
  obtain ⟨a1, a2, a3, a4, a5, a6, a7, a8⟩ := a
  obtain ⟨b1, b2, b3, b4, b5, b6, b7, b8⟩ := b
  have h3 : PyData.eqv (optD a3) (optD b3) = true ↔ a3 = b3 := h3
  simp only [givD, PyData.eqv, PyData.eqvAll, eqv_T, eqv_optI3, eqv_optP3, h3, eqv_reach3, Bool.and_eq_true, decide_eq_true_eq, beq_iff_eq, Bool.and_true, Giv.mk.injEq]
theorem sh_optD3 {k : Nat} {o : Option (List Tx)} (h : OptN o) : Sh k (optD o) := by
  cases o with
  | none => exact sh_none
  | some P => exact sh_T (dots_uni (h P rfl))
theorem sh_optP3 {k : Nat} {o : Option Tx} (h : ∀ q, o = some q → isPathL q = true) : Sh k (optP o) := by
  cases o with
  | none => exact sh_none
  | some P => exact sh_T (path_uni' (h P rfl))
theorem sh_givD {g : Giv} (h : GivOk g) : Sh 1 (givD g) := sh_tuple fun d hd => by
  simp only [List.mem_cons, List.not_mem_nil, or_false] at hd
  rcases hd with rfl | rfl | rfl | rfl | rfl | rfl | rfl | rfl
  · exact sh_T (noteName_uni h.name)
  · exact sh_T (worth_uni h.worth)
  · exact sh_optD3 h.house
  · exact sh_optP3 h.path
  · exact sh_optI _
  · exact sh_optI _
  · exact sh_bool _
  · exact sh_reach _
theorem fNe_giv {g : Giv} (h : GivOk g) : fNe (givD g) (givD g) = .ok (.bool false) := fNe_self (k := 1) (sh_givD h) ((eqv_givD h h).mpr rfl)
theorem text_inj {a b : Giv} (ha : GivOk a) (hb : GivOk b) : textG a = textG b ↔ a = b := by
  constructor
  · intro e
    have r1 := read_text ha
    rw [e, read_text hb] at r1
    injection r1 with r1
    refine (eqv_givD ha hb).mp ?_
    rw [← r1]
    exact (eqv_givD hb hb).mpr rfl
  · intro e; rw [e]
theorem unlike {a b : Giv} (ha : GivOk a) (hb : GivOk b) : ∃ c : Bool, fEq (T (textG a)) (T (textG b)) = .ok (.bool c) ∧ fEq (givD a) (givD b) = .ok (.bool c) := by
  refine ⟨PyData.eqv (givD a) (givD b), ?_, fEq_sh (sh_givD ha) (sh_givD hb)⟩
  rw [fEq_T]
  congr 2
  rw [Bool.eq_iff_iff, decide_eq_true_eq, eqv_givD ha hb]
  exact text_inj ha hb
def oddMenu : List Tx := [[120, 61, 121], [117, 110, 116, 105, 108], [102, 111, 114, 32, 65], [117, 110, 100, 101, 114, 32, 98], [108, 97, 115, 116, 115, 32, 57, 57, 57, 57, 57], [83, 65, 70, 69], [], [115, 97, 102, 101, 32, 110, 101, 97, 114], [117, 110, 116, 105, 108, 32, 32, 55]]
theorem oddMenu_ok : ∀ q ∈ oddMenu, oddOk q = true ∧ Pk q := by
  have h : ∀ q ∈ oddMenu, oddOk q = true ∧ 59 ∉ q ∧ trimL q = q ∧ (q.all fun c => decide (c < 1114112)) = true ∧ q.length ≤ 51 := by decide
  intro q hq
  obtain ⟨h1, h2, h3, h4, h5⟩ := h q hq
  exact ⟨h1, h2, h3, uni_of h4, h5⟩
theorem eqvAll_self : ∀ {l : List D}, (∀ x ∈ l, PyData.eqv x x = true) → PyData.eqvAll l l = true
  | [], _ => rfl
  | x :: l, h => by
    rw [PyData.eqvAll, h x (.head _), eqvAll_self fun y hy => h y (.tail _ hy)]
    rfl
theorem again_eq {g : Giv} (h : GivOk g) : fEq (.tuple ([T g.name, T g.worth] ++ ((dueL g).map dueP ++ [.bool g.safe, reachT g.near]))) (.tuple ([T g.name, T g.worth] ++ ((dueL g).map dueP ++ [.bool g.safe, reachT g.near]))) = .ok (.bool true) := by
  have one : ∀ x ∈ [T g.name, T g.worth] ++ ((dueL g).map dueP ++ [.bool g.safe, reachT g.near]), Sh 0 x ∧ PyData.eqv x x = true := by
    have tx : ∀ {a : Tx}, Uni a → Sh 0 (T a) ∧ PyData.eqv (T a) (T a) = true := fun h => ⟨sh_T h, by simp⟩
    have it : ∀ i : Int, Sh 0 (PyData.int i) ∧ PyData.eqv (PyData.int i) (PyData.int i) = true := fun i => ⟨sh_int i, by simp [PyData.eqv]⟩
    intro x hx
    simp only [List.mem_append, List.mem_cons, List.not_mem_nil, or_false, dueL, List.map_cons, List.map_nil] at hx
    rcases hx with (rfl | rfl) | (rfl | rfl | rfl | rfl) | rfl | rfl
    · exact tx (noteName_uni h.name)
    · exact tx (worth_uni h.worth)
    · cases e : g.house with
      | none => exact tx (uni_of (by decide))
      | some P => exact tx (dots_uni (h.house P e))
    · cases e : g.path with
      | none => exact tx (uni_of (by decide))
      | some p => exact tx (path_uni' (h.path p e))
    · cases e : g.till with
      | none => exact it _
      | some i => exact it _
    · cases e : g.lasts with
      | none => exact it _
      | some i => exact it _
    · exact ⟨sh_bool _, by simp [PyData.eqv]⟩
    · exact ⟨sh_reach _, eqv_reach _⟩
  have s : Sh 1 (.tuple ([T g.name, T g.worth] ++ ((dueL g).map dueP ++ [.bool g.safe, reachT g.near]))) := sh_tuple fun x hx => (one x hx).1
  rw [fEq_sh s s, PyData.eqv, eqvAll_self fun x hx => (one x hx).2]
theorem k32_due {g : Giv} (h : GivOk g) (x0 x1 x2 x3 x4 x5 x6 x7 x8 x9 x10 : Sv) : Nx (fun Γ => ∃ x12 x13, Γ = [x0, x1, x2, x3, x4, x5, x6, x7, x8, x9, x10, .own ((dueL g).map dueP), x12, x13])
    (forGo (sTup (ssCons 12 (ssCons 13 ssNil))) g_law_b1 ((dueL g).map fun z => PyData.tuple [z.1, z.2]) [x0, x1, x2, x3, x4, x5, x6, x7, x8, x9, x10, .own [], .un, .un]) := by
  have hn : ∀ z ∈ dueL g, fIs z.1 .none = .ok (.bool (isNone z.1)) := by
    intro z hz
    unfold dueL at hz
    simp only [List.mem_cons, List.not_mem_nil, or_false] at hz
    rcases hz with rfl | rfl | rfl | rfl
    · cases g.house <;> rfl
    · cases g.path <;> rfl
    · cases g.till <;> rfl
    · cases g.lasts <;> rfl
  refine Nx.mono (Nx.loopi (st := sTup (ssCons 12 (ssCons 13 ssNil))) (en := fun z : D × D => PyData.tuple [z.1, z.2]) (I := fun p Γ => ∃ x12 x13, Γ = [x0, x1, x2, x3, x4, x5, x6, x7, x8, x9, x10, .own (p.map dueP), x12, x13]) (dueL g) [] ⟨.un, .un, rfl⟩ ?_) fun Γ hI => by simpa using hI
  intro p z q Γ e hI
  obtain ⟨x12, x13, rfl⟩ := hI
  have e : dueL g = p ++ z :: q := e
  have hz := hn z (by rw [e]; simp)
  have lp : p.length ≤ 4 := by
    have := congrArg List.length e
    simp [dueL] at this
    omega
  unfold g_law_b1
  cases hi : isNone z.1 with
  | true =>
    rw [hi] at hz
    simp [hz]
    rw [app1K_ok _ _ _ (by simp; omega)]
    exact Go.nx ⟨.dat z.1, .dat z.2, by simp [dueP, hi]⟩
  | false =>
    rw [hi] at hz
    simp [hz]
    rw [app1K_ok _ _ _ (by simp; omega)]
    exact Go.nx ⟨.dat z.1, .dat z.2, by simp [dueP, hi]⟩
theorem law_true (ns : List Int) (hl : ns.length ≤ 63) : f_law [scriptD ns] = .ok (.bool true) := by
  have m20 := nameMenu_ok _ (nameAt_mem hl (k := 20) (by decide))
  have m50 := nameMenu_ok _ (nameAt_mem hl (k := 50) (by decide))
  have e20 : f__law_name [scriptD ns, .int 20] = .ok (T (dots (nameAt ns 20))) := law_name_ev hl (k := 20) (by decide)
  have e50 : f__law_name [scriptD ns, .int 50] = .ok (T (dots (nameAt ns 50))) := law_name_ev hl (k := 50) (by decide)
  generalize nameAt ns 20 = P at m20 e20
  generalize nameAt ns 50 = Q at m50 e50
  obtain ⟨g, hg, eg⟩ := law_given_ev hl (k := 0) (by decide) m20
  have eg : f__law_given [scriptD ns, .int 0, T (dots P)] = .ok (givD g) := eg
  obtain ⟨o, ho, eo⟩ := law_given_ev hl (k := 30) (by decide) m50
  have eo : f__law_given [scriptD ns, .int 30, T (dots Q)] = .ok (givD o) := eo
  have tg := given_text_P hg
  have to := given_text_P ho
  have rd := read_text hg
  have lt := law_text_P hg
  have ig : f_is_given [givD g] = .ok (.bool true) := by
    have := is_given_L _ (givL_th hg)
    rw [givL_ok hg] at this
    exact this
  have ng := fNe_giv hg
  obtain ⟨c, u1, u2⟩ := unlike ho hg
  have fw := tail_few g
  have tp := tail_pk hg
  have spl := split_textG hg
  -- the readings
  have r1 := read_join hg (ps := (tailG g).reverse) (fun p hp => tp p (List.mem_reverse.mp hp)) (by simp; omega) (a := 0) (b := 0) (by decide) (by decide)
  rw [hears_back hg] at r1
  have r2 := read_join hg tp (by omega) (a := 2) (b := 2) (by decide) (by decide)
  rw [hears_plain hg] at r2
  obtain ⟨j1, r1⟩ := r1
  obtain ⟨j2, r2⟩ := r2
  have j1 : fJoin (St' [59]) (.list (T (headG g) :: ((tailG g).map T).reverse)) = .ok (T (TL.joinL (padS 0 0) (headG g :: (tailG g).reverse))) := by
    rw [List.map_reverse] at j1
    exact j1
  have j2 : fJoin (St' [32, 32, 59, 32, 32]) (.list (T (headG g) :: (tailG g).map T)) = .ok (T (TL.joinL (padS 2 2) (headG g :: tailG g))) := j2
  have r1 : f_read_given [T (TL.joinL (padS 0 0) (headG g :: (tailG g).reverse))] = .ok (givD g) := r1
  have r2 : f_read_given [T (TL.joinL (padS 2 2) (headG g :: tailG g))] = .ok (givD g) := r2
  obtain ⟨r, d60, b60⟩ : ∃ r : Nat, f__law_drawn [scriptD ns, .int 60, .int (((tailG g).length + 1 : Nat) : Int)] = .ok (.int (r : Nat)) ∧ r < (tailG g).length + 1 := ⟨_, drN_ev hl (k := 60) ((tailG g).length + 1) (by decide) (by omega)⟩
  obtain ⟨s, d61, b61⟩ : ∃ r : Nat, f__law_drawn [scriptD ns, .int 61, .int 9] = .ok (.int (r : Nat)) ∧ r < 9 := ⟨_, drN_ev hl (k := 61) 9 (by decide) (by decide)⟩
  obtain ⟨q, mq, iq⟩ : ∃ a, a ∈ oddMenu ∧ fIx (.list [T [120, 61, 121], T [117, 110, 116, 105, 108], T [102, 111, 114, 32, 65], T [117, 110, 100, 101, 114, 32, 98], T [108, 97, 115, 116, 115, 32, 57, 57, 57, 57, 57], T [83, 65, 70, 69], T [], T [115, 97, 102, 101, 32, 110, 101, 97, 114], T [117, 110, 116, 105, 108, 32, 32, 55]]) (.int (s : Nat)) = .ok (T a) := pickT (l := oddMenu) b61
  obtain ⟨oq, pq⟩ := oddMenu_ok q mq
  have r3 := read_join hg (ps := (tailG g).take r ++ q :: (tailG g).drop r) (fun p hp => by
    rcases List.mem_append.mp hp with h | h
    · exact tp p (List.mem_of_mem_take h)
    · rcases List.mem_cons.mp h with rfl | h
      · exact pq
      · exact tp p (List.mem_of_mem_drop h)) (by simp; omega) (a := 0) (b := 1) (by decide) (by decide)
  rw [hears_odd hg oq] at r3
  obtain ⟨j3, r3⟩ := r3
  have j3 : fJoin (St' [59, 32]) (.list (T (headG g) :: (((tailG g).map T).take r ++ [T q] ++ ((tailG g).map T).drop r))) = .ok (T (TL.joinL (padS 0 1) (headG g :: ((tailG g).take r ++ q :: (tailG g).drop r)))) := by
    have e : T (headG g) :: (((tailG g).map T).take r ++ [T q] ++ ((tailG g).map T).drop r) = T (headG g) :: ((tailG g).take r ++ q :: (tailG g).drop r).map T := by simp [List.map_take, List.map_drop]
    rw [e]
    exact j3
  have r3 : f_read_given [T (TL.joinL (padS 0 1) (headG g :: ((tailG g).take r ++ q :: (tailG g).drop r)))] = .ok (givD g) := r3
  have r4 := read_join hg (ps := aheadA.map (·.1) ++ tailG g) (fun p hp => by
    rcases List.mem_append.mp hp with h | h
    · obtain ⟨z, hz, rfl⟩ := List.mem_map.mp h
      exact (aheadA_hx z hz).pk
    · exact tp p h) (by simp [aheadA]; omega) (a := 0) (b := 1) (by decide) (by decide)
  rw [hears_ahead hg] at r4
  obtain ⟨j4, r4⟩ := r4
  have j4 : fJoin (St' [59, 32]) (.list (T (headG g) :: T [117, 110, 116, 105, 108, 32, 49, 55] :: T [117, 110, 100, 101, 114, 32, 47, 113] :: T [108, 97, 115, 116, 115, 32, 52] :: T [102, 111, 114, 32, 113, 46, 114] :: (tailG g).map T)) = .ok (T (TL.joinL (padS 0 1) (headG g :: (aheadA.map (·.1) ++ tailG g)))) := by
    rw [List.map_append] at j4
    exact j4
  generalize hS1 : TL.joinL (padS 0 0) (headG g :: (tailG g).reverse) = S1 at j1 r1
  generalize hS2 : TL.joinL (padS 2 2) (headG g :: tailG g) = S2 at j2 r2
  generalize hS3 : TL.joinL (padS 0 1) (headG g :: ((tailG g).take r ++ q :: (tailG g).drop r)) = S3 at j3 r3
  generalize hS4 : TL.joinL (padS 0 1) (headG g :: (aheadA.map (·.1) ++ tailG g)) = S4 at j4 r4
  clear hS1 hS2 hS3 hS4
  have d60 : f__law_drawn [scriptD ns, .int 60, .int (((tailG g).length : Int) + 1)] = .ok (.int (r : Nat)) := d60
  have lenL : fLen [.list (T (headG g) :: (tailG g).map T)] = .ok (.int (((tailG g).length + 1 : Nat) : Int)) := by simp
  have lT : ((tailG g).map T).length ≤ 6 := by simpa using fw
  have bT : r < ((tailG g).map T).length + 1 := by simpa using b60
  generalize (tailG g).map T = tl at spl j1 j2 j3 j4 lenL lT bT
  generalize T (headG g) = hd at spl j1 j2 j3 j4 lenL
  have c1 : cutG (hd :: tl) none (some 1) = [hd] := by
    rw [show (some (1 : Int)) = some ((1 : Nat) : Int) from rfl, cut_to]; rfl
  have c2 : cutG (hd :: tl) (some 1) none = tl := by
    rw [show (some (1 : Int)) = some ((1 : Nat) : Int) from rfl, cut_from]; rfl
  have c3 : cutG (hd :: tl) none (some (1 + (r : Int))) = hd :: tl.take r := by
    rw [show (1 + (r : Int)) = ((r + 1 : Nat) : Int) by omega, cut_to]; rfl
  have c4 : cutG (hd :: tl) (some (1 + (r : Int))) none = tl.drop r := by
    rw [show (1 + (r : Int)) = ((r + 1 : Nat) : Int) by omega, cut_from]; rfl
  have al : ∀ xs ys : List D, xs.length ≤ 20 → ys.length ≤ 20 → fAdd (.list xs) (.list ys) = .ok (.list (xs ++ ys)) := fun xs ys hx hy => fAdd_list (by omega)
  have a1 : fAdd (.list [hd]) (.list tl.reverse) = .ok (.list (hd :: tl.reverse)) := al _ _ (by simp) (by simp; omega)
  have a2 : fAdd (.list (hd :: tl.take r)) (.list [T q]) = .ok (.list (hd :: (tl.take r ++ [T q]))) := al _ _ (by simp; omega) (by simp)
  have a3 : fAdd (.list (hd :: (tl.take r ++ [T q]))) (.list (tl.drop r)) = .ok (.list (hd :: (tl.take r ++ [T q] ++ tl.drop r))) := al _ _ (by simp; omega) (by simp; omega)
  have a4 : ∀ x y z w : D, fAdd (.list [hd]) (.list [x, y, z, w]) = .ok (.list [hd, x, y, z, w]) := fun _ _ _ _ => al _ _ (by simp) (by simp)
  have a5 : ∀ x y z w : D, fAdd (.list [hd, x, y, z, w]) (.list tl) = .ok (.list (hd :: x :: y :: z :: w :: tl)) := fun _ _ _ _ => al [_, _, _, _, _] _ (by simp) (by omega)
  have g1 : fSl (givD g) none (some 2) = .ok (.tuple [T g.name, T g.worth]) := rfl
  have g2 : fSl (givD g) (some 2) (some 6) = .ok (.tuple [optD g.house, optP g.path, optI g.till, optI g.lasts]) := rfl
  have g3 : fSl (givD g) (some 6) none = .ok (.tuple [.bool g.safe, reachT g.near]) := rfl
  have z : zp [.tuple [optD g.house, optP g.path, optI g.till, optI g.lasts], .tuple [T [113, 46, 114], T [47, 113], .int 17, .int 4]] = .ok ((dueL g).map fun z => PyData.tuple [z.1, z.2]) := rfl
  have due := k32_due hg
  have ag : fEq (.tuple (T g.name :: T g.worth :: ((dueL g).map dueP ++ [.bool g.safe, reachT g.near]))) (.tuple (T g.name :: T g.worth :: ((dueL g).map dueP ++ [.bool g.safe, reachT g.near]))) = .ok (.bool true) := again_eq hg
  rw [fe_law]
  unfold g_law
  rw [ev_seq]
  simp [-ev_seq, e20, eg]
  rw [ev_seq]
  simp [-ev_seq, e50, eo]
  rw [ev_seq]
  simp [-ev_seq, tg]
  rw [ev_seq]
  simp [-ev_seq, rd, lt, ig, ng]
  rw [ev_seq]
  simp [-ev_seq, to, u1, u2]
  rw [ev_seq]
  simp [-ev_seq, spl]
  rw [ev_seq]
  simp [-ev_seq, c1, c2, a1]
  rw [ev_seq]
  simp [-ev_seq, j1, j2, r1, r2, ng]
  rw [ev_seq]
  simp [-ev_seq, lenL, d60]
  rw [ev_seq]
  simp [-ev_seq]
  rw [ev_seq]
  simp [-ev_seq, d61, iq]
  rw [ev_seq]
  simp [-ev_seq, -List.append_assoc, c3, c4, a2, a3, j3, r3, ng]
  rw [ev_seq]
  simp [-ev_seq, -List.append_assoc, -List.cons_append, c1, c2, a4, a5]
  rw [ev_seq]
  simp [-ev_seq, -List.append_assoc, -List.cons_append, j4, r4]
  rw [ev_seq]
  simp [-ev_seq, ownK_ok]
  rw [ev_seq]
  simp [-ev_seq, g2, z]
  refine end_seq (due _ _ _ _ _ _ _ _ _ _ _) fun Γ hI => ?_
  obtain ⟨x12, x13, rfl⟩ := hI
  have tp : fTuple [.list ((dueL g).map dueP)] = .ok (.tuple ((dueL g).map dueP)) := rfl
  have f1 : fAdd (.tuple [T g.name, T g.worth]) (.tuple ((dueL g).map dueP)) = .ok (.tuple (T g.name :: T g.worth :: (dueL g).map dueP)) := fAdd_tuple (by simp [dueL])
  have f2 : fAdd (.tuple (T g.name :: T g.worth :: (dueL g).map dueP)) (.tuple [.bool g.safe, reachT g.near]) = .ok (.tuple (T g.name :: T g.worth :: ((dueL g).map dueP ++ [.bool g.safe, reachT g.near]))) := by
    rw [fAdd_tuple (by simp [dueL])]
    rfl
  generalize (dueL g).map dueP = dl at ag tp f1 f2
  simp [-List.append_assoc, -List.cons_append, g1, g3, tp, f1, f2, ag]
/-! ### the head -/
abbrev Rw : PySem.W.OpenRow := PySem.W.OpenLaw.row PySem.Challenge.rw_notejar_k32_whole_giving
def loose : List PySem.Str := (["JarError", "NoNote", "SMALL", "FIGURES", "MOST_LABELS", "MOST_SIGNS", "is_label", "is_name", "MOST_PATH", "OTHERS", "is_path", "MOST_MOMENT", "is_moment", "MOST_NAME", "MOST_WORTH", "GREAT", "REACHES", "is_note_name", "is_worth", "is_given", "need_given", "moment_in", "Given", "trimmed", "read_given", "given_text", "_law_cell", "_law_drawn", "_law_name", "_law_table"] : List PySem.Str) ++ (["_law_path", "_law_ask", "_law_given", "_law_text"] : List PySem.Str)
abbrev hk : PySem.W.Hook := hookN 6 fts fns
def ob (s : PySem.W.SharedT) : Obs := obsNG 6 fts fns (HandSHeadRun.getT s)
theorem ob_eq (s : PySem.W.SharedT) : ob s = hk.obs s.abs := obsNG_eq (HandSHeadRun.getT_eq s)
theorem run (w : World) : HandSHeadRun.RunEq Rw (PySem.W.view Rw.prog [40]) hk ob 4000 loose w := by
  intro os
  kernel_rfl
end NJ
open PySem PySem.W PySem.Calls PyProof.Rows
theorem PySem.Challenge.cw_notejar_k32_whole_giving_holds : PySem.Challenge.rw_notejar_k32_whole_giving.Holds := by
  w_on; o_law
  refine HandSHeadRun.head_any (r := OpenLaw.row PySem.Challenge.rw_notejar_k32_whole_giving) (q := view (OpenLaw.row PySem.Challenge.rw_notejar_k32_whole_giving).prog [40]) (H := NJ.hk) (ob := NJ.ob) (M := 4000) (loose := NJ.loose) (d := HandSHeadRun.topDef (OpenLaw.row PySem.Challenge.rw_notejar_k32_whole_giving).prog 40) (kwd := []) NJ.ob_eq
    (by kernel_rfl) (fun s => by kernel_rfl) NJ.run (by kernel_rfl) (by kernel_rfl) (by kernel_rfl) (by rfl) (by first | assumption | decide +kernel) (by decide +kernel) ⟨rfl, rfl, rfl, rfl, rfl, by decide +kernel⟩ ?hw ?hc
  case hw => w_witness2
  case hc =>
    refine ND.walk_ofW (l := PySem.Challenge.rw_notejar_k32_whole_giving) (n := 63) (k := 7) (x := "_law_script") (CX := fun w => L2.CX (PySem.Challenge.rw_notejar_k32_whole_giving).prog w) rfl (by decide) (by kernel_rfl) ⟨rfl, by decide, by decide⟩ ?F (fun w H s e s' h => ND.cx_none H s e s' h)
    intro w mg fa h Y G hmg0
    obtain ⟨K, KX, c⟩ := Y
    have hmg : mg ("law" : PySem.Str) = some (.ref fa) := by
      have e : (HandSHeadRun.topDef (OpenLaw.row PySem.Challenge.rw_notejar_k32_whole_giving).prog 40).name = ("law" : PySem.Str) := by kernel_rfl
      rw [← e]
      exact hmg0
    obtain ⟨fd, hb, hF⟩ := NJ.ok_law (P := (PySem.Challenge.rw_notejar_k32_whole_giving).prog) (w := w) (NJ.fx_of KX G c) hmg
    exact ⟨K, fd, ND.spD K mg NJ.f_law, KX, hb, fun H a ns hl _ hS => ND.law_sp hS (NJ.law_true ns hl), fun base _ _ => hF base⟩
