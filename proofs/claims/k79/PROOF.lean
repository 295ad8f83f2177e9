import PyProof.Rows.All
import Wide.All
import OpenK.AllK
import Wide.FinOn
import HandS.ForMost
import HandS.ForExc
import HandS.TupAny
import HandS.IsInst
import HandS.CallSlots
import HandS.ExcCtx
import HandS.Zip
import HandS.Text
import KE.GoesRaise
import HandS.FStr
import HandS.ExcIs
import HandS.ReplaceLit
import HandS.ExcInitHot
import HandS.ExcField
import HandS.ClsMeth
import HandS.Nested
import HandS.NestedHot
import KE.KExcSuper
import KE.KExcIs
import HandS.Iter
import KE.GoesMore
import PyProof.Draws
import HandS.TupMul
import KE.RegKSuper
import PySem.Challenge.RW_stewardsight_k79_texts_of_plants
import HandS.ReplaceList
set_option Elab.async false
set_option linter.all false
set_option maxRecDepth 100000
set_option maxHeartbeats 4000000
set_option autoImplicit false
/-! Ms: a mirror of Python code over plain data, simulated by the hand layer. -/
namespace Ms
open PySem L2

/-- plain data; ref n is the n-th changing object -/
inductive D where
  | non | bl (b : Bool) | int (i : Int) | str (x : Str) | tup (ds : List D) | lst (ds : List D) | scr (ns : List Int) | ref (n : Nat)

/-- a changing object -/
inductive MO where
  | lst (ds : List D)
  | ins (c : Str) (fs : List (Str × D))

abbrev HM := List MO
abbrev Loc := List (Option D)
/-- a raised exception: its class, the one field it may have -/
structure Exn where
  cls : Str
  fld : Option (Str × Int)

inductive O (α : Type) where
  | ok (a : α) (hp : HM)
  | exc (e : Exn) (hp : HM)
  | bad

def O.bind {α β : Type} (o : O α) (k : α → HM → O β) : O β := match o with
  | .ok a hp => k a hp
  | .exc e hp => .exc e hp
  | .bad => .bad

/-! ### what stands for what -/
inductive TupAt (K : PySem.W.Frag) (A : List Addr) (H : Hp) (a : Addr) (vs : List V) : Prop where
  | own (h : a ∉ A) (r : Rd H a (.tup vs))
  | wr (h : ∀ H', SqT K H' a vs)
inductive LstAt (A : List Addr) (H : Hp) (a : Addr) (vs : List V) : Prop where
  | own (h : a ∉ A) (r : H a = some (.lst vs))
/-- the script: read only -/
inductive ScrAt (K : PySem.W.Frag) (A : List Addr) (H : Hp) (a : Addr) (vs : List V) : Prop where
  | own (h : a ∉ A) (r : Rd H a (.lst vs))
  | wr (h : ∀ H', SqL K H' a vs)

mutual
inductive Rp (K : PySem.W.Frag) (A : List Addr) (H : Hp) : V → D → Prop where
  | non : Rp K A H .non .non
  | bl (b : Bool) : Rp K A H (.bl b) (.bl b)
  | int (i : Int) : Rp K A H (.int i) (.int i)
  | str (x : Str) : Rp K A H (.str x) (.str x)
  | tup {a : Addr} {vs : List V} {ds : List D} (h : TupAt K A H a vs) (r : RpL K A H vs ds) : Rp K A H (.ref a) (.tup ds)
  | lst {a : Addr} {vs : List V} {ds : List D} (h : LstAt A H a vs) (r : RpL K A H vs ds) : Rp K A H (.ref a) (.lst ds)
  | scr {a : Addr} {ns : List Int} (h : ScrAt K A H a (ns.map V.int)) : Rp K A H (.ref a) (.scr ns)
  | ref {a : Addr} {n : Nat} (h : A[n]? = some a) : Rp K A H (.ref a) (.ref n)
inductive RpL (K : PySem.W.Frag) (A : List Addr) (H : Hp) : List V → List D → Prop where
  | nil : RpL K A H [] []
  | cons {v : V} {vs : List V} {d : D} {ds : List D} (r : Rp K A H v d) (rs : RpL K A H vs ds) : RpL K A H (v :: vs) (d :: ds)
end

/-- time has gone on -/
structure Ext (A : List Addr) (H : Hp) (A' : List Addr) (H' : Hp) : Prop where
  pre : ∃ m, A' = A ++ m
  keep : ∀ a o, H a = some o → a ∉ A → H' a = some o ∧ a ∉ A'
theorem Ext.refl (A : List Addr) (H : Hp) : Ext A H A H := ⟨⟨[], by simp⟩, fun _ _ h n => ⟨h, n⟩⟩
theorem Ext.trans {A A1 A2 : List Addr} {H H1 H2 : Hp} (a : Ext A H A1 H1) (b : Ext A1 H1 A2 H2) : Ext A H A2 H2 := by
  refine ⟨?_, fun x o h n => ?_⟩
  · obtain ⟨m, e⟩ := a.pre
    obtain ⟨m', e'⟩ := b.pre
    exact ⟨m ++ m', by rw [e', e, List.append_assoc]⟩
  · obtain ⟨h1, n1⟩ := a.keep x o h n
    exact b.keep x o h1 n1
section
variable {K : PySem.W.Frag} {A A' : List Addr} {H H' : Hp}
theorem Ext.rd (e : Ext A H A' H') {a : Addr} {u : HO} (n : a ∉ A) (r : Rd H a u) : a ∉ A' ∧ Rd H' a u := by
  rcases r with r | ⟨o, r⟩
  · obtain ⟨h1, n1⟩ := e.keep a _ r n
    exact ⟨n1, .inl h1⟩
  · obtain ⟨h1, n1⟩ := e.keep a _ r n
    exact ⟨n1, .inr ⟨o, h1⟩⟩
theorem TupAt.ext (e : Ext A H A' H') {a : Addr} {vs : List V} (t : TupAt K A H a vs) : TupAt K A' H' a vs := by
  cases t with
  | own h r => exact .own (e.rd h r).1 (e.rd h r).2
  | wr h => exact .wr h
theorem LstAt.ext (e : Ext A H A' H') {a : Addr} {vs : List V} (t : LstAt A H a vs) : LstAt A' H' a vs := by
  cases t with
  | own h r => exact .own (e.keep a _ r h).2 (e.keep a _ r h).1
theorem ScrAt.ext (e : Ext A H A' H') {a : Addr} {vs : List V} (t : ScrAt K A H a vs) : ScrAt K A' H' a vs := by
  cases t with
  | own h r => exact .own (e.rd h r).1 (e.rd h r).2
  | wr h => exact .wr h
theorem Ext.at (e : Ext A H A' H') {n : Nat} {a : Addr} (h : A[n]? = some a) : A'[n]? = some a := by
  obtain ⟨m, q⟩ := e.pre
  rw [q, List.getElem?_append_left (List.getElem?_eq_some_iff.mp h).1, h]
mutual
theorem Rp.ext (e : Ext A H A' H') : ∀ {v : V} {d : D}, Rp K A H v d → Rp K A' H' v d
  | _, _, .non => .non
  | _, _, .bl b => .bl b
  | _, _, .int i => .int i
  | _, _, .str x => .str x
  | _, _, .tup h r => .tup (h.ext e) (RpL.ext e r)
  | _, _, .lst h r => .lst (h.ext e) (RpL.ext e r)
  | _, _, .scr h => .scr (h.ext e)
  | _, _, .ref h => .ref (e.at h)
theorem RpL.ext (e : Ext A H A' H') : ∀ {vs : List V} {ds : List D}, RpL K A H vs ds → RpL K A' H' vs ds
  | _, _, .nil => .nil
  | _, _, .cons r rs => .cons (Rp.ext e r) (RpL.ext e rs)
end
theorem RpL.length : ∀ {vs : List V} {ds : List D}, RpL K A H vs ds → vs.length = ds.length
  | _, _, .nil => rfl
  | _, _, .cons _ rs => by simp [RpL.length rs]
theorem RpL.get : ∀ {vs : List V} {ds : List D} {i : Nat} {d : D}, RpL K A H vs ds → ds[i]? = some d → ∃ v, vs[i]? = some v ∧ Rp K A H v d
  | _, _, _, _, .nil, h => by simp at h
  | _, _, 0, _, .cons r _, h => by simp at h; subst h; exact ⟨_, rfl, r⟩
  | _, _, i + 1, _, .cons _ rs, h => by simpa using RpL.get (i := i) rs (by simpa using h)
theorem RpL.getV : ∀ {vs : List V} {ds : List D} {i : Nat} {v : V}, RpL K A H vs ds → vs[i]? = some v → ∃ d, ds[i]? = some d ∧ Rp K A H v d
  | _, _, _, _, .nil, h => by simp at h
  | _, _, 0, _, .cons r _, h => by simp at h; subst h; exact ⟨_, rfl, r⟩
  | _, _, i + 1, _, .cons _ rs, h => by simpa using RpL.getV (i := i) rs (by simpa using h)
theorem RpL.append : ∀ {vs : List V} {ds : List D} {vs' : List V} {ds' : List D}, RpL K A H vs ds → RpL K A H vs' ds' → RpL K A H (vs ++ vs') (ds ++ ds')
  | _, _, _, _, .nil, h => h
  | _, _, _, _, .cons r rs, h => .cons r (RpL.append rs h)
theorem RpL.set {v : V} {d : D} (r : Rp K A H v d) : ∀ {vs : List V} {ds : List D} (i : Nat), RpL K A H vs ds → RpL K A H (vs.set i v) (ds.set i d)
  | _, _, _, .nil => .nil
  | _, _, 0, .cons _ t => .cons r t
  | _, _, i + 1, .cons q t => .cons q (RpL.set r i t)
theorem RpL.take : ∀ {vs : List V} {ds : List D} (n : Nat), RpL K A H vs ds → RpL K A H (vs.take n) (ds.take n)
  | _, _, 0, _ => by simpa using RpL.nil
  | _, _, _ + 1, .nil => by simpa using RpL.nil
  | _, _, n + 1, .cons r t => by simpa using RpL.cons r (RpL.take n t)
theorem RpL.drop : ∀ {vs : List V} {ds : List D} (n : Nat), RpL K A H vs ds → RpL K A H (vs.drop n) (ds.drop n)
  | _, _, 0, h => by simpa using h
  | _, _, _ + 1, .nil => by simpa using RpL.nil
  | _, _, n + 1, .cons _ t => by simpa using RpL.drop n t
end

def FldR (K : PySem.W.Frag) (A : List Addr) (H : Hp) : List (Str × V) → List (Str × D) → Prop := Paired fun p q => p.1 = q.1 ∧ Rp K A H p.2 q.2
theorem FldR.ext {K : PySem.W.Frag} {A A' : List Addr} {H H' : Hp} (e : Ext A H A' H') : ∀ {xs : List (Str × V)} {ys : List (Str × D)}, FldR K A H xs ys → FldR K A' H' xs ys
  | _, _, .nil => .nil
  | _, _, .cons r t => .cons ⟨r.1, r.2.ext e⟩ (FldR.ext e t)

/-- a changing object as it stands -/
def ObR (K : PySem.W.Frag) (mg : Str → Option Value) (A : List Addr) (H : Hp) (a : Addr) : MO → Prop
  | .lst ds => ∃ vs, H a = some (.lst vs) ∧ RpL K A H vs ds
  | .ins c fs => ∃ C dx vfs, mg c = some (.ref C) ∧ H a = some (.ins C dx vfs) ∧ H dx = some (.own a) ∧ dx ∉ A ∧ FldR K A H vfs fs
structure HRel (K : PySem.W.Frag) (mg : Str → Option Value) (A : List Addr) (H : Hp) (hp : HM) : Prop where
  len : A.length = hp.length
  nd : A.Nodup
  ob : ∀ (n : Nat) (mo : MO) (a : Addr), hp[n]? = some mo → A[n]? = some a → ObR K mg A H a mo
/-- what is known beside the plain data: of slots that hold a function value or a caught exception (ok: the slots that may be stored) -/
class Amb where
  J : List Addr → Hp → L2.St → Prop
  ext : ∀ {A A' : List Addr} {H H' : Hp} {σ : L2.St}, Ext A H A' H' → J A H σ → J A' H' σ
  ok : Nat → Bool
  set : ∀ {A : List Addr} {H : Hp} {σ : L2.St} (i : Nat) (o : Option V), ok i = true → J A H σ → J A H (σ.set i o)
@[reducible] def Amb.no : Amb := ⟨fun _ _ _ => True, fun _ h => h, fun _ => true, fun _ _ _ h => h⟩
def LocR [Amb] (K : PySem.W.Frag) (A : List Addr) (H : Hp) (σ : L2.St) (loc : Loc) : Prop :=
  σ.length = loc.length ∧ (∀ (i : Nat) d, loc[i]? = some (some d) → ∃ v, σ[i]? = some (some v) ∧ Rp K A H v d) ∧ Amb.J A H σ
theorem LocR.ext [Amb] {K : PySem.W.Frag} {A A' : List Addr} {H H' : Hp} {σ : L2.St} {loc : Loc} (l : LocR K A H σ loc) (e : Ext A H A' H') : LocR K A' H' σ loc :=
  ⟨l.1, fun i d h => let ⟨v, h1, h2⟩ := l.2.1 i d h; ⟨v, h1, h2.ext e⟩, Amb.ext e l.2.2⟩
theorem LocR.set [Amb] {K : PySem.W.Frag} {A : List Addr} {H : Hp} {σ : L2.St} {loc : Loc} {v : V} {d : D} (l : LocR K A H σ loc) (i : Nat) (r : Rp K A H v d) (ok : Amb.ok i = true) : LocR K A H (σ.set i (some v)) (loc.set i (some d)) := by
  refine ⟨by simp [l.1], fun j e h => ?_, Amb.set i _ ok l.2.2⟩
  by_cases hj : i = j
  · subst hj
    by_cases hi : i < loc.length
    · rw [List.getElem?_set_self hi] at h
      cases h
      exact ⟨v, by rw [List.getElem?_set_self (by rw [l.1]; exact hi)], r⟩
    · rw [List.getElem?_eq_none (by simpa using hi)] at h
      cases h
  · rw [List.getElem?_set_ne hj] at h
    rw [List.getElem?_set_ne hj]
    exact l.2.1 j e h
def ExR (mg : Str → Option Value) (H : Hp) (c : Value) (od : Option Addr) (e : Exn) : Prop :=
  mg e.cls = some c ∧ match e.fld with
    | none => od = none
    | some (f, i) => ∃ d, od = some d ∧ H d = some (.xd [(f, .int i)])

/-- o is good for Q: whatever stands for it does -/
def Good {α β : Type} (K : PySem.W.Frag) (mg : Str → Option Value) (W : WX) (σ : L2.St) (R : List Addr → Hp → β → α → Prop) (A : List Addr) (H : Hp) (o : O α) (Q : β → Hp → Prop) : Prop :=
  match o with
  | .ok d hp' => ∀ A' H' v, Ext A H A' H' → HRel K mg A' H' hp' → R A' H' v d → Q v H'
  | .exc e hp' => ∀ A' H' c od, Ext A H A' H' → HRel K mg A' H' hp' → ExR mg H' c od e → W c od σ H'
  | .bad => False
section
variable {K : PySem.W.Frag} {mg : Str → Option Value} {W : WX} {σ : L2.St} {α β γ δ : Type} {R : List Addr → Hp → β → α → Prop} {R' : List Addr → Hp → δ → γ → Prop} {A A' : List Addr} {H H' : Hp}
theorem Good.ext {o : O α} {Q : β → Hp → Prop} (g : Good K mg W σ R A H o Q) (e : Ext A H A' H') : Good K mg W σ R A' H' o Q := by
  cases o with
  | ok d hp' => exact fun A2 H2 v e2 => g A2 H2 v (e.trans e2)
  | exc x hp' => exact fun A2 H2 c od e2 => g A2 H2 c od (e.trans e2)
  | bad => exact g
theorem Good.mono {o : O α} {Q Q' : β → Hp → Prop} (g : Good K mg W σ R A H o Q) (h : ∀ v H', Q v H' → Q' v H') : Good K mg W σ R A H o Q' := by
  cases o with
  | ok d hp' => exact fun A2 H2 v e r q => h _ _ (g A2 H2 v e r q)
  | exc x hp' => exact g
  | bad => exact g
theorem Good.bind {o : O α} {k : α → HM → O γ} {Q : δ → Hp → Prop} (g : Good K mg W σ R' A H (o.bind k) Q) :
    Good K mg W σ R A H o fun b H1 => ∃ A1 hp1 a, Ext A H A1 H1 ∧ HRel K mg A1 H1 hp1 ∧ R A1 H1 b a ∧ Good K mg W σ R' A1 H1 (k a hp1) Q := by
  cases o with
  | ok a hp1 => exact fun A1 H1 b e r q => ⟨A1, hp1, a, e, r, q, Good.ext g e⟩
  | exc x hp' => exact g
  | bad => exact g
end

/-- the reading of a mirror -/
def tG [Amb] {α β : Type} (K : PySem.W.Frag) (mg : Str → Option Value) (W : WX) (R : List Addr → Hp → β → α → Prop) (f : Loc → HM → O α) : L2.St → Hp → (β → Hp → Prop) → Prop := fun σ H Q =>
  ∃ A loc hp, HRel K mg A H hp ∧ LocR K A H σ loc ∧ Good K mg W σ R A H (f loc hp) Q
abbrev RB : List Addr → Hp → Bool → Bool → Prop := fun _ _ a b => a = b
abbrev EM := Loc → HM → O D
abbrev TM := Loc → HM → O Bool
abbrev AM := Loc → HM → O (List D)

theorem _root_.L2.PE.weak {X : Cx} {e : PySem.Expr} {t t' : TE} (h : PE X e t) (w : ∀ σ H Q, t' σ H Q → t σ H Q) : PE X e t' := ⟨fun pins s σ H Q I q => h.run pins s σ H Q I (w σ H Q q)⟩
theorem _root_.L2.PT.weak {X : Cx} {e : PySem.Expr} {t t' : TT} (h : PT X e t) (w : ∀ σ H Q, t' σ H Q → t σ H Q) : PT X e t' := ⟨fun pins s σ H Q I q => h.run pins s σ H Q I (w σ H Q q)⟩
theorem _root_.L2.PW.weak {X : Cx} {e : PySem.Expr} {t t' : TT} (h : PW X e t) (w : ∀ σ H Q, t' σ H Q → t σ H Q) : PW X e t' := ⟨fun wh pins s σ H Q I q => h.run wh pins s σ H Q I (w σ H Q q)⟩
theorem _root_.L2.PA.weak {X : Cx} {e : List PySem.Expr} {t t' : TA} (h : PA X e t) (w : ∀ σ H Q, t' σ H Q → t σ H Q) : PA X e t' := ⟨fun pos pins s σ H Q I q => h.run pos pins s σ H Q I (w σ H Q q)⟩
theorem _root_.L2.PS.weak {X : Cx} {e : Stmt} {t t' : TS} (h : PS X e t) (w : ∀ D σ H, t' D σ H → t D σ H) : PS X e t' := ⟨fun pins s σ H D I q => h.run pins s σ H D I (w D σ H q)⟩
theorem _root_.L2.PSs.weak {X : Cx} {e : List Stmt} {t t' : TS} (h : PSs X e t) (w : ∀ D σ H, t' D σ H → t D σ H) : PSs X e t' := ⟨fun pins s σ H D I q => h.run pins s σ H D I (w D σ H q)⟩

/-- an expression, a test, arguments are simulated by a mirror -/
abbrev SE [Amb] (X : Cx) (W : WX) (e : PySem.Expr) (f : EM) : Prop := PE X e (tG X.K X.mg W (Rp X.K) f)
abbrev STt [Amb] (X : Cx) (W : WX) (e : PySem.Expr) (f : TM) : Prop := PT X e (tG X.K X.mg W RB f)
abbrev SWt [Amb] (X : Cx) (W : WX) (e : PySem.Expr) (f : TM) : Prop := PW X e (tG X.K X.mg W RB f)
abbrev SA [Amb] (X : Cx) (W : WX) (es : List PySem.Expr) (f : AM) : Prop := PA X es (tG X.K X.mg W (RpL X.K) f)

/-! ### names, constants -/
def eVar (i : Nat) : EM := fun loc hp => match loc[i]? with
  | some (some d) => .ok d hp
  | _ => .bad
def eC (d : D) : EM := fun _ hp => .ok d hp
section
variable [Amb] {X : Cx} {W : WX}
theorem se_of {e : PySem.Expr} {i : Nat} (h : PE X e (tVar i)) : SE X W e (eVar i) := h.weak fun σ H Q ⟨A, loc, hp, hr, hl, g⟩ => by
  unfold eVar at g
  cases h1 : loc[i]? with
  | none => rw [h1] at g; exact g.elim
  | some o =>
    cases o with
    | none => rw [h1] at g; exact g.elim
    | some d =>
      rw [h1] at g
      obtain ⟨v, e1, r⟩ := hl.2.1 i d h1
      exact ⟨v, e1, g A H v (.refl A H) hr r⟩
theorem se_c {e : PySem.Expr} {v : V} {d : D} (h : PE X e (tC v)) (r : ∀ A H, Rp X.K A H v d) : SE X W e (eC d) := h.weak fun σ H Q ⟨A, loc, hp, hr, hl, g⟩ => g A H v (.refl A H) hr (r A H)
theorem se_int {i j pos} : SE X W (.Constant (.int i) j pos) (eC (.int i)) := se_c pe_int fun _ _ => .int i
theorem se_bl {b j pos} : SE X W (.Constant (.bool b) j pos) (eC (.bl b)) := se_c pe_bl fun _ _ => .bl b
theorem se_non {j pos} : SE X W (.Constant .none j pos) (eC .non) := se_c pe_non fun _ _ => .non
theorem se_str {x j pos} : SE X W (.Constant (.str x) j pos) (eC (.str x)) := se_c pe_str fun _ _ => .str x

/-! ### two operands -/
def eBin (g : D → D → HM → O D) (fa fb : EM) : EM := fun loc hp => (fa loc hp).bind fun x hp1 => (fb loc hp1).bind fun y hp2 => g x y hp2
/-- an operator's rule serves a mirror -/
def OpG (K : PySem.W.Frag) (mg : Str → Option Value) (r : R2) (g : D → D → HM → O D) : Prop :=
  ∀ (W : WX) (σ : L2.St) (A : List Addr) (H : Hp) (hp : HM) (v1 v2 : V) (d1 d2 : D) (Q : VK), HRel K mg A H hp → Rp K A H v1 d1 → Rp K A H v2 d2 → Good K mg W σ (Rp K) A H (g d1 d2 hp) Q → r v1 v2 H Q
theorem bin_w {K : PySem.W.Frag} {mg : Str → Option Value} {r : R2} {g : D → D → HM → O D} {fa fb : EM} (hg : OpG K mg r g) : ∀ σ H Q, tG K mg W (Rp K) (eBin g fa fb) σ H Q → tOp r (tG K mg W (Rp K) fa) (tG K mg W (Rp K) fb) σ H Q := by
  rintro σ H Q ⟨A, loc, hp, hr, hl, hq⟩
  refine ⟨A, loc, hp, hr, hl, (Good.bind (R := Rp K) hq).mono ?_⟩
  rintro v1 H1 ⟨A1, hp1, d1, e1, r1, q1, g1⟩
  refine ⟨A1, loc, hp1, r1, hl.ext e1, (Good.bind (R := Rp K) g1).mono ?_⟩
  rintro v2 H2 ⟨A2, hp2, d2, e2, r2, q2, g2⟩
  exact hg W σ A2 H2 hp2 v1 v2 d1 d2 Q r2 (q1.ext e2) q2 g2
theorem se_bin {a b : PySem.Expr} {fa fb : EM} {op : Operator} {pos : Pos} {r : R2} {g : D → D → HM → O D} (ho : OpR X (binaryOp op) r) (hg : OpG X.K X.mg r g) (ha : SE X W a fa) (hb : SE X W b fb) : SE X W (.BinOp a op b pos) (eBin g fa fb) :=
  (pe_op ho ha hb).weak (bin_w hg)
theorem se_cmp {a b : PySem.Expr} {fa fb : EM} {op : CmpOp} {pos : Pos} {r : R2} {g : D → D → HM → O D} (ho : OpR X (compareOp op) r) (hg : OpG X.K X.mg r g) (ha : SE X W a fa) (hb : SE X W b fb) (hm : behindInMarks op b = false) :
    SE X W (.Compare a [op] [b] pos) (eBin g fa fb) := (pe_cmpR ho ha hb hm).weak (bin_w hg)
end
end Ms

namespace Ms
open PySem L2
variable [Amb]
section
variable {K : PySem.W.Frag} {mg : Str → Option Value} {A A' : List Addr} {H H' : Hp} {hp : HM} {W : WX} {σ : L2.St}

/-! ### what stands for data of a known form -/
theorem Rp.non_inv {v : V} (r : Rp K A H v .non) : v = .non := by cases r; rfl
theorem Rp.bl_inv {v : V} {b : Bool} (r : Rp K A H v (.bl b)) : v = .bl b := by cases r; rfl
theorem Rp.int_inv {v : V} {i : Int} (r : Rp K A H v (.int i)) : v = .int i := by cases r; rfl
theorem Rp.str_inv {v : V} {x : Str} (r : Rp K A H v (.str x)) : v = .str x := by cases r; rfl
theorem Rp.tup_inv {v : V} {ds : List D} (r : Rp K A H v (.tup ds)) : ∃ a vs, v = .ref a ∧ TupAt K A H a vs ∧ RpL K A H vs ds := by cases r with | tup h r => exact ⟨_, _, rfl, h, r⟩
theorem Rp.lst_inv {v : V} {ds : List D} (r : Rp K A H v (.lst ds)) : ∃ a vs, v = .ref a ∧ a ∉ A ∧ H a = some (.lst vs) ∧ RpL K A H vs ds := by cases r with | lst h r => cases h with | own h1 h2 => exact ⟨_, _, rfl, h1, h2, r⟩
theorem Rp.ref_inv {v : V} {n : Nat} (r : Rp K A H v (.ref n)) : ∃ a, v = .ref a ∧ A[n]? = some a := by cases r with | ref h => exact ⟨_, rfl, h⟩
theorem TupAt.sq {a : Addr} {vs : List V} (t : TupAt K A H a vs) : SqT K H a vs := by
  cases t with
  | own _ r => exact .inl r
  | wr h => exact h H
theorem ScrAt.sq {a : Addr} {vs : List V} (t : ScrAt K A H a vs) : SqL K H a vs := by
  cases t with
  | own _ r => exact .inl r
  | wr h => exact h H
theorem TupAt.new {p : Addr} {vs : List V} (h : p ∉ A) : TupAt K A (upd H p (.tup vs)) p vs := .own h (.inl upd_same)

/-! ### the heap goes on -/
theorem HRel.mem (r : HRel K mg A H hp) {a : Addr} (h : a ∈ A) : ∃ o, H a = some o := by
  obtain ⟨n, hn⟩ := List.mem_iff_getElem?.mp h
  have hl : n < hp.length := by rw [← r.len]; exact (List.getElem?_eq_some_iff.mp hn).1
  have := r.ob n hp[n] a (List.getElem?_eq_getElem hl) hn
  cases q : hp[n] with
  | lst ds =>
    rw [q] at this
    obtain ⟨vs, h1, _⟩ := this
    exact ⟨_, h1⟩
  | ins c fs =>
    rw [q] at this
    obtain ⟨C, dx, vfs, _, h1, _⟩ := this
    exact ⟨_, h1⟩
theorem HRel.fresh (r : HRel K mg A H hp) {p : Addr} (h : H p = none) : p ∉ A := fun q => by
  obtain ⟨o, e⟩ := r.mem q
  rw [h] at e; cases e
theorem Ext.new {p : Addr} {o : HO} (h : H p = none) (n : p ∉ A) : Ext A H A (upd H p o) := ⟨⟨[], by simp⟩, fun a u e n => ⟨by rw [upd_ne (ne_of_none e h)]; exact e, n⟩⟩
theorem ObR.ext (e : Ext A H A' H') {a : Addr} (k : H' a = H a) : ∀ {mo : MO}, ObR K mg A H a mo → ObR K mg A' H' a mo
  | .lst ds, ⟨vs, h1, h2⟩ => ⟨vs, by rw [k]; exact h1, h2.ext e⟩
  | .ins c fs, ⟨C, dx, vfs, h0, h1, h2, h3, h4⟩ => ⟨C, dx, vfs, h0, by rw [k]; exact h1, (e.keep dx _ h2 h3).1, (e.keep dx _ h2 h3).2, h4.ext e⟩
theorem HRel.same (r : HRel K mg A H hp) (e : Ext A H A H') (k : ∀ a ∈ A, H' a = H a) : HRel K mg A H' hp :=
  ⟨r.len, r.nd, fun n mo a h1 h2 => (r.ob n mo a h1 h2).ext e (k a (List.mem_of_getElem? h2))⟩
/-- a thing is made -/
theorem HRel.new (r : HRel K mg A H hp) {p : Addr} {o : HO} (h : H p = none) : Ext A H A (upd H p o) ∧ HRel K mg A (upd H p o) hp := by
  have e : Ext A H A (upd H p o) := Ext.new h (r.fresh h)
  exact ⟨e, r.same e fun a m => upd_ne fun q => r.fresh h (q ▸ m)⟩
/-- a changing object is made -/
theorem HRel.track (r : HRel K mg A H hp) {p : Addr} {o : HO} {mo : MO} (h : H p = none) (ob : ObR K mg (A ++ [p]) (upd H p o) p mo) : Ext A H (A ++ [p]) (upd H p o) ∧ HRel K mg (A ++ [p]) (upd H p o) (hp ++ [mo]) := by
  have np := r.fresh h
  have e : Ext A H (A ++ [p]) (upd H p o) := ⟨⟨[p], rfl⟩, fun a u q n => ⟨by rw [upd_ne (ne_of_none q h)]; exact q, by
    simp only [List.mem_append, List.mem_singleton, not_or]
    exact ⟨n, ne_of_none q h⟩⟩⟩
  refine ⟨e, by simp [r.len], ?_, fun n m a h1 h2 => ?_⟩
  · rw [List.nodup_append]
    refine ⟨r.nd, by simp, fun a ha b hb => ?_⟩
    simp only [List.mem_singleton] at hb
    subst hb
    exact fun q => np (q ▸ ha)
  · by_cases hn : n < A.length
    · rw [List.getElem?_append_left hn] at h2
      rw [List.getElem?_append_left (by rw [← r.len]; exact hn)] at h1
      exact (r.ob n m a h1 h2).ext e (upd_ne fun q => np (q ▸ List.mem_of_getElem? h2))
    · have hl : n < (hp ++ [mo]).length := (List.getElem?_eq_some_iff.mp h1).1
      have : n = A.length := by simp [← r.len] at hl; omega
      subst this
      simp at h2
      rw [r.len] at h1
      simp at h1
      subst h1 h2
      exact ob
/-- a changing object changes -/
theorem HRel.write (r : HRel K mg A H hp) {n : Nat} {p : Addr} {o : HO} {mo : MO} (h : A[n]? = some p) (ob : Ext A H A (upd H p o) → ObR K mg A (upd H p o) p mo) : Ext A H A (upd H p o) ∧ HRel K mg A (upd H p o) (hp.set n mo) := by
  have e : Ext A H A (upd H p o) := ⟨⟨[], by simp⟩, fun a u q m => ⟨by rw [upd_ne (fun z : a = p => m (by rw [z]; exact List.mem_of_getElem? h))]; exact q, m⟩⟩
  refine ⟨e, by simp [r.len], r.nd, fun j m a h1 h2 => ?_⟩
  by_cases hj : n = j
  · subst hj
    rw [h] at h2; cases h2
    have hl : n < hp.length := by rw [← r.len]; exact (List.getElem?_eq_some_iff.mp h).1
    rw [List.getElem?_set_self hl] at h1
    cases h1
    exact ob e
  · rw [List.getElem?_set_ne hj] at h1
    refine (r.ob j m a h1 h2).ext e (upd_ne fun q => hj ?_)
    subst q
    have l1 := (List.getElem?_eq_some_iff.mp h).1
    obtain ⟨l2, q2⟩ := List.getElem?_eq_some_iff.mp h2
    obtain ⟨_, q1⟩ := List.getElem?_eq_some_iff.mp h
    exact (List.getElem_inj r.nd).mp (q1.trans q2.symm)

/-- a list as it stands now -/
def lstOf (hp : HM) : D → Option (List D)
  | .lst ds => some ds
  | .ref n => match hp[n]? with
    | some (.lst ds) => some ds
    | _ => none
  | _ => none
theorem lstOf_rp (r : HRel K mg A H hp) {v : V} {d : D} {ds : List D} (q : Rp K A H v d) (h : lstOf hp d = some ds) : ∃ p vs, v = .ref p ∧ H p = some (.lst vs) ∧ RpL K A H vs ds := by
  cases q with
  | lst h1 h2 =>
    cases h1 with
    | own _ h3 =>
      simp only [lstOf, Option.some.injEq] at h
      subst h
      exact ⟨_, _, rfl, h3, h2⟩
  | @ref a n h1 =>
    simp only [lstOf] at h
    have hl : n < hp.length := by rw [← r.len]; exact (List.getElem?_eq_some_iff.mp h1).1
    rw [List.getElem?_eq_getElem hl] at h
    cases q : hp[n] with
    | lst ds' =>
      rw [q] at h
      simp only [Option.some.injEq] at h
      subst h
      obtain ⟨vs, h2, h3⟩ := r.ob n _ a (by rw [List.getElem?_eq_getElem hl, q]) h1
      exact ⟨a, vs, rfl, h2, h3⟩
    | ins c fs => rw [q] at h; cases h
  | non => cases h
  | bl _ => cases h
  | int _ => cases h
  | str _ => cases h
  | tup _ _ => cases h
  | scr _ => cases h
/-- a list or a tuple as it stands now -/
def seqOf (hp : HM) : D → Option (List D)
  | .tup ds => some ds
  | .scr ns => some (ns.map .int)
  | d => lstOf hp d
theorem rpl_ints {ns : List Int} : ∀ {vs : List V}, RpL K A H vs (ns.map D.int) → vs = ns.map V.int := by
  induction ns with
  | nil => intro vs h; cases h; rfl
  | cons n ns ih =>
    intro vs h
    cases h with
    | cons r rs => rw [r.int_inv, ih rs]; rfl
theorem ints_rpl {ns : List Int} : RpL K A H (ns.map V.int) (ns.map D.int) := by
  induction ns with
  | nil => exact .nil
  | cons n ns ih => exact .cons (.int n) ih
theorem seqOf_rp (r : HRel K mg A H hp) {v : V} {d : D} {ds : List D} (q : Rp K A H v d) (h : seqOf hp d = some ds) : ∃ p vs, v = .ref p ∧ (SqL K H p vs ∨ SqT K H p vs) ∧ RpL K A H vs ds := by
  have low : lstOf hp d = some ds → ∃ p vs, v = .ref p ∧ (SqL K H p vs ∨ SqT K H p vs) ∧ RpL K A H vs ds := fun h => by
    obtain ⟨p, vs, e, h1, h2⟩ := lstOf_rp r q h
    exact ⟨p, vs, e, .inl (SqL.of h1), h2⟩
  cases d with
  | tup ds' =>
    simp only [seqOf, Option.some.injEq] at h
    subst h
    obtain ⟨a, vs, e, h1, h2⟩ := q.tup_inv
    exact ⟨a, vs, e, .inr h1.sq, h2⟩
  | scr ns =>
    simp only [seqOf, Option.some.injEq] at h
    subst h
    cases q with
    | scr h1 => exact ⟨_, _, rfl, .inl h1.sq, ints_rpl⟩
  | lst _ => exact low h
  | ref _ => exact low h
  | non => exact low h
  | bl _ => exact low h
  | int _ => exact low h
  | str _ => exact low h

abbrev big : Nat := 1000000
theorem big_line {n : Nat} (h : n ≤ big) : n ≤ sizeLine := Nat.le_trans h (by decide)

/-! ### operators -/
def gInt2 (f : Int → Int → O D) : D → D → HM → O D := fun x y _ => match x, y with
  | .int i, .int j => f i j
  | _, _ => .bad
def gAdd : D → D → HM → O D := fun x y hp => match x, y with
  | .int i, .int j => .ok (.int (i + j)) hp
  | .str a, .str b => if a.length + b.length ≤ big then .ok (.str (a ++ b)) hp else .bad
  | .tup xs, .tup ys => if xs.length + ys.length ≤ big then .ok (.tup (xs ++ ys)) hp else .bad
  | x, y => match lstOf hp x, lstOf hp y with
    | some xs, some ys => if xs.length + ys.length ≤ big then .ok (.lst (xs ++ ys)) hp else .bad
    | _, _ => .bad
def rAddA (K : PySem.W.Frag) : R2 := fun x y H Q => (∃ i j, x = .int i ∧ y = .int j ∧ Q (.int (i + j)) H) ∨ ((∃ i j, x = .str i ∧ y = .str j ∧ i.length + j.length ≤ sizeLine ∧ Q (.str (i ++ j)) H) ∨ (rCatA K x y H Q ∨ rCat x y H Q))
theorem op_addA {X : Cx} : OpR X (binaryOp .Add) (rAddA X.K) := op_add.or (op_add_str.or (op_catA.or op_cat))
theorem new_lst {Q : VK} {xs : List V} {ds : List D} (r : HRel K mg A H hp) (q : RpL K A H xs ds) (g : Good K mg W σ (Rp K) A H (.ok (.lst ds) hp) Q) : ∀ p, H p = none → Q (.ref p) (upd H p (.lst xs)) := fun p hp' => by
  obtain ⟨e, r'⟩ := r.new (o := .lst xs) hp'
  exact g A _ _ e r' (.lst (.own (r.fresh hp') upd_same) (q.ext e))
theorem new_tup {Q : VK} {xs : List V} {ds : List D} (r : HRel K mg A H hp) (q : RpL K A H xs ds) (g : Good K mg W σ (Rp K) A H (.ok (.tup ds) hp) Q) : ∀ p, H p = none → Q (.ref p) (upd H p (.tup xs)) := fun p hp' => by
  obtain ⟨e, r'⟩ := r.new (o := .tup xs) hp'
  exact g A _ _ e r' (.tup (.new (r.fresh hp')) (q.ext e))
theorem Good.here {d : D} {v : V} {Q : VK} (g : Good K mg W σ (Rp K) A H (.ok d hp) Q) (r : HRel K mg A H hp) (q : Rp K A H v d) : Q v H := g A H v (.refl A H) r q
theorem og_add : OpG K mg (rAddA K) gAdd := fun W σ A H hp v1 v2 d1 d2 Q r q1 q2 g => by
  have low : (match lstOf hp d1, lstOf hp d2 with
      | some xs, some ys => if xs.length + ys.length ≤ big then O.ok (D.lst (xs ++ ys)) hp else .bad
      | _, _ => .bad) = gAdd d1 d2 hp → rAddA K v1 v2 H Q := fun e => by
    rw [← e] at g
    cases h1 : lstOf hp d1 with
    | none => rw [h1] at g; exact g.elim
    | some xs =>
      cases h2 : lstOf hp d2 with
      | none => rw [h1, h2] at g; exact g.elim
      | some ys =>
        rw [h1, h2] at g
        simp only at g
        by_cases hz : xs.length + ys.length ≤ big
        · rw [if_pos hz] at g
          obtain ⟨p, vs, rfl, a1, a2⟩ := lstOf_rp r q1 h1
          obtain ⟨p', vs', rfl, b1, b2⟩ := lstOf_rp r q2 h2
          exact .inr (.inr (.inr ⟨p, p', vs, vs', rfl, rfl, a1, b1, by rw [a2.length, b2.length]; exact big_line hz, new_lst r (a2.append b2) g⟩))
        · rw [if_neg hz] at g; exact g.elim
  cases d1 with
  | int i =>
    cases d2 with
    | int j => exact .inl ⟨i, j, q1.int_inv, q2.int_inv, g.here r (.int _)⟩
    | _ => exact low rfl
  | str a =>
    cases d2 with
    | str b =>
      simp only [gAdd] at g
      by_cases hz : a.length + b.length ≤ big
      · rw [if_pos hz] at g
        exact .inr (.inl ⟨a, b, q1.str_inv, q2.str_inv, big_line hz, g.here r (.str _)⟩)
      · rw [if_neg hz] at g; exact g.elim
    | _ => exact low rfl
  | tup xs =>
    cases d2 with
    | tup ys =>
      simp only [gAdd] at g
      by_cases hz : xs.length + ys.length ≤ big
      · rw [if_pos hz] at g
        have q1' := q1
        have q2' := q2
        obtain ⟨a, vs, rfl, t1, r1⟩ := q1.tup_inv
        obtain ⟨b, vs', rfl, t2, r2⟩ := q2.tup_inv
        refine .inr (.inr (.inl ⟨a, b, vs, vs', rfl, rfl, t1.sq, t2.sq, by rw [r1.length, r2.length]; exact big_line hz, fun e => ?_, fun _ e => ?_, fun _ _ => new_tup r (r1.append r2) g⟩))
        · subst e; cases r1; exact g.here r q2'
        · subst e; cases r2; rw [List.append_nil] at g; exact g.here r q1'
      · rw [if_neg hz] at g; exact g.elim
    | _ => exact low rfl
  | _ => exact low rfl

/-- operators of two ints, under a condition -/
theorem og_I {C : Int → Int → Prop} [∀ i j, Decidable (C i j)] {f : Int → Int → V} {fd : Int → Int → D} (hf : ∀ i j A H, Rp K A H (f i j) (fd i j)) : OpG K mg (rI C f) (fun x y hp => match x, y with
    | .int i, .int j => if C i j then .ok (fd i j) hp else .bad
    | _, _ => .bad) := fun W σ A H hp v1 v2 d1 d2 Q r q1 q2 g => by
  cases d1 with
  | int i =>
    cases d2 with
    | int j =>
      simp only at g
      by_cases hc : C i j
      · rw [if_pos hc] at g
        exact ⟨i, j, q1.int_inv, q2.int_inv, hc, g.here r (hf i j A H)⟩
      · rw [if_neg hc] at g; exact g.elim
    | _ => exact g.elim
  | _ => exact g.elim
theorem og_I0 {f : Int → Int → V} {fd : Int → Int → D} (hf : ∀ i j A H, Rp K A H (f i j) (fd i j)) : OpG K mg (rI0 f) (fun x y hp => match x, y with
    | .int i, .int j => .ok (fd i j) hp
    | _, _ => .bad) := fun W σ A H hp v1 v2 d1 d2 Q r q1 q2 g => by
  cases d1 with
  | int i =>
    cases d2 with
    | int j => exact ⟨i, j, q1.int_inv, q2.int_inv, g.here r (hf i j A H)⟩
    | _ => exact g.elim
  | _ => exact g.elim
def gI0 (fd : Int → Int → D) : D → D → HM → O D := fun x y hp => match x, y with
  | .int i, .int j => .ok (fd i j) hp
  | _, _ => .bad
def gI (C : Int → Int → Prop) [∀ i j, Decidable (C i j)] (fd : Int → Int → D) : D → D → HM → O D := fun x y hp => match x, y with
  | .int i, .int j => if C i j then .ok (fd i j) hp else .bad
  | _, _ => .bad
def gSub := gI0 fun i j => .int (i - j)
def gLt := gI0 fun i j => .bl (decide (i < j))
def gLe := gI0 fun i j => .bl (decide (i ≤ j))
def gGt := gI0 fun i j => .bl (decide (j < i))
def gGe := gI0 fun i j => .bl (decide (j ≤ i))
instance (i j : Int) : Decidable (CMul i j) := inferInstanceAs (Decidable (_ ∨ _))
instance (i j : Int) : Decidable (CDiv i j) := inferInstanceAs (Decidable (_ ∧ _))
instance (i j : Int) : Decidable (CPow i j) := inferInstanceAs (Decidable (_ ∧ _))
def gMul := gI CMul fun i j => .int (i * j)
def gDiv := gI CDiv fun i j => .int (i / j)
def gMod := gI (fun _ j => 0 < j) fun i j => .int (i % j)
def gPow := gI CPow fun i j => .int (i ^ j.toNat)
theorem og_sub : OpG K mg (rI0 fun i j => .int (i - j)) gSub := og_I0 fun _ _ _ _ => .int _
theorem og_lt : OpG K mg (rI0 fun i j => .bl (decide (i < j))) gLt := og_I0 fun _ _ _ _ => .bl _
theorem og_le : OpG K mg (rI0 fun i j => .bl (decide (i ≤ j))) gLe := og_I0 fun _ _ _ _ => .bl _
theorem og_gt : OpG K mg (rI0 fun i j => .bl (decide (j < i))) gGt := og_I0 fun _ _ _ _ => .bl _
theorem og_ge : OpG K mg (rI0 fun i j => .bl (decide (j ≤ i))) gGe := og_I0 fun _ _ _ _ => .bl _
theorem og_mul : OpG K mg (rI CMul fun i j => .int (i * j)) gMul := og_I fun _ _ _ _ => .int _
theorem og_div : OpG K mg (rI CDiv fun i j => .int (i / j)) gDiv := og_I fun _ _ _ _ => .int _
theorem og_mod : OpG K mg (rI (fun _ j => 0 < j) fun i j => .int (i % j)) gMod := og_I fun _ _ _ _ => .int _
theorem og_pow : OpG K mg (rI CPow fun i j => .int (i ^ j.toNat)) gPow := og_I fun _ _ _ _ => .int _

/-- == of scalars -/
def eqS : D → D → Option Bool
  | .non, .non => some true
  | .int i, .int j => some (decide (i = j))
  | .bl i, .bl j => some (decide (i = j))
  | .str i, .str j => some (decide (i = j))
  | .non, .int _ => some false | .int _, .non => some false | .non, .bl _ => some false | .bl _, .non => some false
  | .non, .str _ => some false | .str _, .non => some false
  | .int _, .str _ => some false | .str _, .int _ => some false | .bl _, .str _ => some false | .str _, .bl _ => some false
  | _, _ => none
def gEq : D → D → HM → O D := fun x y hp => match eqS x y with
  | some b => .ok (.bl b) hp
  | none => .bad
def gNe : D → D → HM → O D := fun x y hp => match eqS x y with
  | some b => .ok (.bl (!b)) hp
  | none => .bad
theorem eqS_rp {v1 v2 : V} {d1 d2 : D} {b : Bool} (q1 : Rp K A H v1 d1) (q2 : Rp K A H v2 d2) (h : eqS d1 d2 = some b) : scal v1 v2 = true ∧ decide (v1 = v2) = b := by
  cases q1 <;> cases q2 <;> simp only [eqS, Option.some.injEq, reduceCtorEq] at h <;> subst h <;> exact ⟨rfl, by simp⟩
theorem og_eq : OpG K mg rEq gEq := fun W σ A H hp v1 v2 d1 d2 Q r q1 q2 g => by
  unfold gEq at g
  cases h : eqS d1 d2 with
  | none => rw [h] at g; exact g.elim
  | some b =>
    rw [h] at g
    obtain ⟨h1, h2⟩ := eqS_rp q1 q2 h
    exact ⟨h1, by rw [h2]; exact g.here r (.bl b)⟩
theorem og_ne : OpG K mg rNe gNe := fun W σ A H hp v1 v2 d1 d2 Q r q1 q2 g => by
  unfold gNe at g
  cases h : eqS d1 d2 with
  | none => rw [h] at g; exact g.elim
  | some b =>
    rw [h] at g
    obtain ⟨h1, h2⟩ := eqS_rp q1 q2 h
    exact ⟨h1, by rw [h2]; exact g.here r (.bl _)⟩
/-- is None, is not None -/
def isN : D → Bool
  | .non => true
  | _ => false
def gIsN : D → D → HM → O D := fun x y hp => match y with
  | .non => .ok (.bl (isN x)) hp
  | _ => .bad
def gNotN : D → D → HM → O D := fun x y hp => match y with
  | .non => .ok (.bl (!isN x)) hp
  | _ => .bad
theorem isN_rp {v : V} {d : D} (q : Rp K A H v d) : decide (v = .non) = isN d := by
  cases q <;> simp [isN]
theorem og_isN : OpG K mg (fun x y H Q => y = .non ∧ Q (.bl (decide (x = .non))) H) gIsN := fun W σ A H hp v1 v2 d1 d2 Q r q1 q2 g => by
  cases d2 with
  | non => exact ⟨q2.non_inv, by rw [isN_rp q1]; exact g.here r (.bl _)⟩
  | _ => exact g.elim
theorem og_notN : OpG K mg (fun x y H Q => y = .non ∧ Q (.bl (!decide (x = .non))) H) gNotN := fun W σ A H hp v1 v2 d1 d2 Q r q1 q2 g => by
  cases d2 with
  | non => exact ⟨q2.non_inv, by rw [isN_rp q1]; exact g.here r (.bl _)⟩
  | _ => exact g.elim
/-- a sign in a text -/
def gInSign : D → D → HM → O D := fun x y hp => match x, y with
  | .str ⟨⟨[c]⟩⟩, .str z => .ok (.bl (decide (c ∈ z.cps.toList))) hp
  | _, _ => .bad
theorem og_inSign : OpG K mg (fun x y H Q => ∃ (c : Nat) (z : Str), x = .str ⟨#[c]⟩ ∧ y = .str z ∧ Q (.bl (decide (c ∈ z.cps.toList))) H) gInSign := fun W σ A H hp v1 v2 d1 d2 Q r q1 q2 g => by
  unfold gInSign at g
  split at g
  · exact ⟨_, _, q1.str_inv, q2.str_inv, g.here r (.bl _)⟩
  · exact g.elim

/-! ### items -/
def atD {α : Type} (xs : List α) (i : Int) : Option α := atI xs i
def gIx : D → D → HM → O D := fun x y hp => match x, y with
  | .str z, .int i => if z.length ≤ big then (match atI z.cps.toList i with
    | some c => .ok (.str ⟨#[c]⟩) hp
    | none => .bad) else .bad
  | x, .int i => match seqOf hp x with
    | some ds => (match atI ds i with
      | some d => .ok d hp
      | none => .bad)
    | none => .bad
  | _, _ => .bad
theorem atI_rp {vs : List V} {ds : List D} {i : Int} {d : D} (r : RpL K A H vs ds) (h : atI ds i = some d) : ∃ v, atI vs i = some v ∧ Rp K A H v d := by
  unfold atI at h ⊢
  rw [r.length]
  cases q : ixN ds.length i with
  | none => rw [q] at h; cases h
  | some j =>
    rw [q] at h
    exact r.get h
theorem og_ix : OpG K mg (rIx K) gIx := fun W σ A H hp v1 v2 d1 d2 Q r q1 q2 g => by
  have low : ∀ i, d2 = .int i → (∀ z, d1 ≠ .str z) → rIx K v1 v2 H Q := fun i e ns => by
    subst e
    have g' : Good K mg W σ (Rp K) A H (match seqOf hp d1 with
      | some ds => (match atI ds i with
        | some d => .ok d hp
        | none => .bad)
      | none => .bad) Q := by
      cases d1 with
      | str z => exact absurd rfl (ns z)
      | _ => exact g
    cases h1 : seqOf hp d1 with
    | none => rw [h1] at g'; exact g'.elim
    | some ds =>
      rw [h1] at g'
      simp only at g'
      cases h2 : atI ds i with
      | none => rw [h2] at g'; exact g'.elim
      | some d =>
        rw [h2] at g'
        obtain ⟨p, vs, rfl, s, rl⟩ := seqOf_rp r q1 h1
        obtain ⟨v, e1, e2⟩ := atI_rp rl h2
        rcases s with s | s
        · exact .inl ⟨p, vs, i, v, rfl, q2.int_inv, s, e1, g'.here r e2⟩
        · exact .inr (.inl ⟨p, vs, i, v, rfl, q2.int_inv, s, e1, g'.here r e2⟩)
  cases d2 with
  | int i =>
    cases d1 with
    | str z =>
      simp only [gIx] at g
      by_cases hz : z.length ≤ big
      · rw [if_pos hz] at g
        cases h : atI z.cps.toList i with
        | none => rw [h] at g; exact g.elim
        | some c =>
          rw [h] at g
          exact .inr (.inr ⟨z, i, c, q1.str_inv, q2.int_inv, big_line hz, h, g.here r (.str _)⟩)
      · rw [if_neg hz] at g; exact g.elim
    | _ => exact low i rfl (by intro z q; cases q)
  | _ => cases d1 <;> exact g.elim
end
end Ms

namespace Ms
open PySem L2
variable [Amb]
section
variable {X : Cx} {W : WX} {σ : L2.St} {A A' : List Addr} {H H' : Hp} {hp : HM}

/-! ### tests -/
def mT (f : EM) : TM := fun loc hp => (f loc hp).bind fun d hp1 => match d with
  | .bl b => .ok b hp1
  | _ => .bad
theorem test_w {K : PySem.W.Frag} {mg : Str → Option Value} {f : EM} {t : TE} (h : ∀ σ H Q, tG K mg W (Rp K) f σ H Q → t σ H Q) : ∀ σ H Q, tG K mg W RB (mT f) σ H Q → tTest t σ H Q := by
  rintro σ H Q ⟨A, loc, hp, hr, hl, hq⟩
  refine h σ H _ ⟨A, loc, hp, hr, hl, (Good.bind (R := Rp K) hq).mono ?_⟩
  rintro v1 H1 ⟨A1, hp1, d1, e1, r1, q1, g1⟩
  cases d1 with
  | bl b => exact ⟨b, q1.bl_inv, g1 A1 H1 b (.refl _ _) r1 rfl⟩
  | _ => exact g1.elim
variable {a b c e : PySem.Expr} {es rest : List PySem.Expr} {pos : Pos} {fa fb fc : EM} {ta tb : TM}
theorem st_cmp {op : CmpOp} {r : R2} {g : D → D → HM → O D} (ho : OpR X (compareOp op) r) (hg : OpG X.K X.mg r g) (ha : SE X W a fa) (hb : SE X W b fb) (hm : behindInMarks op b = false) : STt X W (.Compare a [op] [b] pos) (mT (eBin g fa fb)) :=
  (pt_cmpR ho ha hb hm).weak (test_w (bin_w hg))
/-- a < b < c -/
def eChain (g g' : D → D → HM → O D) (fa fb fc : EM) : EM := fun loc hp => (fa loc hp).bind fun x hp1 => (fb loc hp1).bind fun y hp2 => (g x y hp2).bind fun z hp3 => match z with
  | .bl true => (fc loc hp3).bind fun u hp4 => g' y u hp4
  | .bl false => .ok (.bl false) hp3
  | _ => .bad
theorem chain_w {K : PySem.W.Frag} {mg : Str → Option Value} {r r' : R2} {g g' : D → D → HM → O D} (hg : OpG K mg r g) (hg' : OpG K mg r' g') : ∀ σ H Q, tG K mg W (Rp K) (eChain g g' fa fb fc) σ H Q →
    tChain r r' (tG K mg W (Rp K) fa) (tG K mg W (Rp K) fb) (tG K mg W (Rp K) fc) σ H Q := by
  rintro σ H Q ⟨A, loc, hp, hr, hl, hq⟩
  refine ⟨A, loc, hp, hr, hl, (Good.bind (R := Rp K) hq).mono ?_⟩
  rintro v1 H1 ⟨A1, hp1, d1, e1, r1, q1, g1⟩
  refine ⟨A1, loc, hp1, r1, hl.ext e1, (Good.bind (R := Rp K) g1).mono ?_⟩
  rintro v2 H2 ⟨A2, hp2, d2, e2, r2, q2, g2⟩
  refine hg W σ A2 H2 hp2 v1 v2 d1 d2 _ r2 (q1.ext e2) q2 ((Good.bind (R := Rp K) g2).mono ?_)
  rintro v3 H3 ⟨A3, hp3, d3, e3, r3, q3, g3⟩
  cases d3 with
  | bl k =>
    refine ⟨k, q3.bl_inv, ?_⟩
    cases k with
    | true =>
      rw [if_pos rfl]
      refine ⟨A3, loc, hp3, r3, ((hl.ext e1).ext e2).ext e3, (Good.bind (R := Rp K) g3).mono ?_⟩
      rintro v4 H4 ⟨A4, hp4, d4, e4, r4, q4, g4⟩
      exact hg' W σ A4 H4 hp4 v2 v4 d2 d4 Q r4 ((q2.ext e3).ext e4) q4 g4
    | false =>
      rw [if_neg (by decide)]
      exact g3 A3 H3 _ (.refl _ _) r3 (.bl false)
  | _ => exact g3.elim
theorem se_chain {op op' : CmpOp} {r r' : R2} {g g' : D → D → HM → O D} (ho : OpR X (compareOp op) r) (ho' : OpR X (compareOp op') r') (hg : OpG X.K X.mg r g) (hg' : OpG X.K X.mg r' g') (ha : SE X W a fa) (hb : SE X W b fb) (hc : SE X W c fc)
    (hm : lastMarks [op, op'] [b, c] = false := by with_unfolding_all rfl) : SE X W (.Compare a [op, op'] [b, c] pos) (eChain g g' fa fb fc) := (pe_chain ho ho' ha hb hc hm).weak (chain_w hg hg')
theorem st_chain {op op' : CmpOp} {r r' : R2} {g g' : D → D → HM → O D} (ho : OpR X (compareOp op) r) (ho' : OpR X (compareOp op') r') (hg : OpG X.K X.mg r g) (hg' : OpG X.K X.mg r' g') (ha : SE X W a fa) (hb : SE X W b fb) (hc : SE X W c fc)
    (hm : lastMarks [op, op'] [b, c] = false := by with_unfolding_all rfl) : STt X W (.Compare a [op, op'] [b, c] pos) (mT (eChain g g' fa fb fc)) := (pt_chain ho ho' ha hb hc hm).weak (test_w (chain_w hg hg'))
/-- an expression by its truth -/
def truD (hp : HM) : D → Option Bool
  | .non => some false
  | .bl b => some b
  | .int i => some (i != 0)
  | .str y => if y.length ≤ big then some ((y.length : Int) != 0) else none
  | d => (seqOf hp d).map fun ds => !ds.isEmpty
def mTru (f : EM) : TM := fun loc hp => (f loc hp).bind fun d hp1 => match truD hp1 d with
  | some b => .ok b hp1
  | none => .bad
theorem truD_rp {K : PySem.W.Frag} {mg : Str → Option Value} (r : HRel K mg A H hp) {v : V} {d : D} {k : Bool} (q : Rp K A H v d) (h : truD hp d = some k) : TruV K v H k := by
  have low : (seqOf hp d).map (fun ds => !ds.isEmpty) = some k → TruV K v H k := fun h => by
    cases h1 : seqOf hp d with
    | none => rw [h1] at h; cases h
    | some ds =>
      rw [h1] at h
      simp only [Option.map_some, Option.some.injEq] at h
      obtain ⟨p, vs, rfl, s, rl⟩ := seqOf_rp r q h1
      have e : k = !vs.isEmpty := by
        rw [← h]
        have := rl.length
        cases vs <;> cases ds <;> simp_all
      rcases s with s | s
      · exact .inl ⟨vs, s, e⟩
      · exact .inr (.inl ⟨vs, s, e⟩)
  cases d with
  | non => rw [q.non_inv]; simp only [truD, Option.some.injEq] at h; exact h.symm
  | bl b => rw [q.bl_inv]; simp only [truD, Option.some.injEq] at h; exact h.symm
  | int i => rw [q.int_inv]; simp only [truD, Option.some.injEq] at h; exact h.symm
  | str y =>
    rw [q.str_inv]
    simp only [truD] at h
    by_cases hz : y.length ≤ big
    · rw [if_pos hz] at h
      simp only [Option.some.injEq] at h
      exact ⟨big_line hz, h.symm⟩
    · rw [if_neg hz] at h; cases h
  | tup _ => exact low h
  | lst _ => exact low h
  | scr _ => exact low h
  | ref _ => exact low h
theorem st_tru (ha : SE X W a fa) (he : ∀ whole, isTrue a X.env whole = (do let v ← whole; standAt a.pos; holding [v] (truthy v)) := by intro _; rfl) : STt X W a (mTru fa) := (pt_truth ha he).weak fun σ H Q ⟨A, loc, hp, hr, hl, hq⟩ => by
  refine ⟨A, loc, hp, hr, hl, (Good.bind (R := Rp X.K) hq).mono ?_⟩
  rintro v1 H1 ⟨A1, hp1, d1, e1, r1, q1, g1⟩
  cases h : truD hp1 d1 with
  | none => rw [h] at g1; exact g1.elim
  | some k =>
    rw [h] at g1
    exact ⟨k, truD_rp r1 q1 h, g1 A1 H1 k (.refl _ _) r1 rfl⟩
def mAnd (f g : TM) : TM := fun loc hp => (f loc hp).bind fun b hp1 => if b = true then g loc hp1 else .ok false hp1
def mOr (f g : TM) : TM := fun loc hp => (f loc hp).bind fun b hp1 => if b = true then .ok true hp1 else g loc hp1
def mNot (f : TM) : TM := fun loc hp => (f loc hp).bind fun b hp1 => .ok (!b) hp1
theorem sw_one {op : BoolOp} (h : STt X W a ta) (ho : op = .And ∨ op = .Or := by first | exact .inl rfl | exact .inr rfl) : SWt X W (.BoolOp op [a] pos) ta := by
  rcases ho with rfl | rfl
  · exact pw_and1 h
  · exact pw_or1 h
theorem sw_and (ha : STt X W a ta) (hb : SWt X W (.BoolOp .And (b :: rest) pos) tb) : SWt X W (.BoolOp .And (a :: b :: rest) pos) (mAnd ta tb) := (pw_and ha hb).weak fun σ H Q ⟨A, loc, hp, hr, hl, hq⟩ => by
  refine ⟨A, loc, hp, hr, hl, (Good.bind (R := RB) hq).mono ?_⟩
  rintro v1 H1 ⟨A1, hp1, d1, e1, r1, q1, g1⟩
  cases q1
  cases v1 with
  | true => exact iteT ⟨A1, loc, hp1, r1, hl.ext e1, g1⟩
  | false => exact iteF (g1 A1 H1 false (.refl _ _) r1 rfl)
theorem sw_or (ha : STt X W a ta) (hb : SWt X W (.BoolOp .Or (b :: rest) pos) tb) : SWt X W (.BoolOp .Or (a :: b :: rest) pos) (mOr ta tb) := (pw_or ha hb).weak fun σ H Q ⟨A, loc, hp, hr, hl, hq⟩ => by
  refine ⟨A, loc, hp, hr, hl, (Good.bind (R := RB) hq).mono ?_⟩
  rintro v1 H1 ⟨A1, hp1, d1, e1, r1, q1, g1⟩
  cases q1
  cases v1 with
  | true => exact iteT (g1 A1 H1 true (.refl _ _) r1 rfl)
  | false => exact iteF ⟨A1, loc, hp1, r1, hl.ext e1, g1⟩
theorem st_not (ha : STt X W a ta) : STt X W (.UnaryOp .Not a pos) (mNot ta) := (pt_not ha).weak fun σ H Q ⟨A, loc, hp, hr, hl, hq⟩ => by
  refine ⟨A, loc, hp, hr, hl, (Good.bind (R := RB) hq).mono ?_⟩
  rintro v1 H1 ⟨A1, hp1, d1, e1, r1, q1, g1⟩
  cases q1
  exact g1 A1 H1 _ (.refl _ _) r1 rfl

/-! ### and, or, not, if as values -/
def eAnd (f g : EM) : EM := fun loc hp => (f loc hp).bind fun d hp1 => match d with
  | .bl true => g loc hp1
  | .bl false => .ok (.bl false) hp1
  | _ => .bad
def eOr (f g : EM) : EM := fun loc hp => (f loc hp).bind fun d hp1 => match d with
  | .bl false => g loc hp1
  | .bl true => .ok (.bl true) hp1
  | _ => .bad
def eNot (f : EM) : EM := fun loc hp => (f loc hp).bind fun d hp1 => match d with
  | .bl b => .ok (.bl (!b)) hp1
  | _ => .bad
theorem se_one {op : BoolOp} (h : SE X W a fa) : SE X W (.BoolOp op [a] pos) fa := pe_one h
theorem se_and (ha : SE X W a fa) (hb : SE X W (.BoolOp .And (b :: rest) pos) fb) : SE X W (.BoolOp .And (a :: b :: rest) pos) (eAnd fa fb) := (pe_and ha hb).weak fun σ H Q ⟨A, loc, hp, hr, hl, hq⟩ => by
  refine ⟨A, loc, hp, hr, hl, (Good.bind (R := Rp X.K) hq).mono ?_⟩
  rintro v1 H1 ⟨A1, hp1, d1, e1, r1, q1, g1⟩
  cases d1 with
  | bl k =>
    refine ⟨k, q1.bl_inv, ?_⟩
    cases k with
    | true => exact iteT ⟨A1, loc, hp1, r1, hl.ext e1, g1⟩
    | false => exact iteF (g1 A1 H1 _ (.refl _ _) r1 (.bl false))
  | _ => exact g1.elim
theorem se_or (ha : SE X W a fa) (hb : SE X W (.BoolOp .Or (b :: rest) pos) fb) : SE X W (.BoolOp .Or (a :: b :: rest) pos) (eOr fa fb) := (pe_or ha hb).weak fun σ H Q ⟨A, loc, hp, hr, hl, hq⟩ => by
  refine ⟨A, loc, hp, hr, hl, (Good.bind (R := Rp X.K) hq).mono ?_⟩
  rintro v1 H1 ⟨A1, hp1, d1, e1, r1, q1, g1⟩
  cases d1 with
  | bl k =>
    refine ⟨k, q1.bl_inv, ?_⟩
    cases k with
    | true => exact iteT (g1 A1 H1 _ (.refl _ _) r1 (.bl true))
    | false => exact iteF ⟨A1, loc, hp1, r1, hl.ext e1, g1⟩
  | _ => exact g1.elim
theorem se_not (ha : SE X W a fa) : SE X W (.UnaryOp .Not a pos) (eNot fa) := (pe_not ha).weak fun σ H Q ⟨A, loc, hp, hr, hl, hq⟩ => by
  refine ⟨A, loc, hp, hr, hl, (Good.bind (R := Rp X.K) hq).mono ?_⟩
  rintro v1 H1 ⟨A1, hp1, d1, e1, r1, q1, g1⟩
  cases d1 with
  | bl k => exact ⟨k, q1.bl_inv, g1 A1 H1 _ (.refl _ _) r1 (.bl _)⟩
  | _ => exact g1.elim
def eIf (t : TM) (f g : EM) : EM := fun loc hp => (t loc hp).bind fun b hp1 => if b = true then f loc hp1 else g loc hp1
theorem se_if (hc : STt X W c ta) (ha : SE X W a fa) (hb : SE X W b fb) : SE X W (.IfExp c a b pos) (eIf ta fa fb) := (pe_ifExp hc ha hb).weak fun σ H Q ⟨A, loc, hp, hr, hl, hq⟩ => by
  refine ⟨A, loc, hp, hr, hl, (Good.bind (R := RB) hq).mono ?_⟩
  rintro v1 H1 ⟨A1, hp1, d1, e1, r1, q1, g1⟩
  cases q1
  cases v1 with
  | true => exact iteT ⟨A1, loc, hp1, r1, hl.ext e1, g1⟩
  | false => exact iteF ⟨A1, loc, hp1, r1, hl.ext e1, g1⟩
def eNeg (f : EM) : EM := fun loc hp => (f loc hp).bind fun d hp1 => match d with
  | .int i => .ok (.int (-i)) hp1
  | _ => .bad
theorem se_neg (ha : SE X W a fa) : SE X W (.UnaryOp .USub a pos) (eNeg fa) := (pe_un un_neg ha).weak fun σ H Q ⟨A, loc, hp, hr, hl, hq⟩ => by
  refine ⟨A, loc, hp, hr, hl, (Good.bind (R := Rp X.K) hq).mono ?_⟩
  rintro v1 H1 ⟨A1, hp1, d1, e1, r1, q1, g1⟩
  cases d1 with
  | int i => exact ⟨i, q1.int_inv, g1 A1 H1 _ (.refl _ _) r1 (.int _)⟩
  | _ => exact g1.elim
theorem se_ix (ha : SE X W a fa) (hb : SE X W b fb) (hs : PlainIx b := by exact fun _ _ => rfl) : SE X W (.Subscript a b pos) (eBin gIx fa fb) := (pe_ix ix_seq ha hb hs).weak (bin_w og_ix)

/-! ### arguments, displays -/
def aNil : AM := fun _ hp => .ok [] hp
def aCons (f : EM) (g : AM) : AM := fun loc hp => (f loc hp).bind fun d hp1 => (g loc hp1).bind fun ds hp2 => .ok (d :: ds) hp2
theorem sa_nil : SA X W [] aNil := pa_nil.weak fun σ H Q ⟨A, loc, hp, hr, hl, g⟩ => g A H [] (.refl A H) hr .nil
theorem sa_cons {fs : AM} (ha : SE X W e fa) (hr : SA X W es fs) (hs : starEach (e :: es) X.env = (false, eval e X.env) :: starEach es X.env := by rfl) : SA X W (e :: es) (aCons fa fs) := (pa_cons ha hr hs).weak fun σ H Q ⟨A, loc, hp, hr, hl, hq⟩ => by
  refine ⟨A, loc, hp, hr, hl, (Good.bind (R := Rp X.K) hq).mono ?_⟩
  rintro v1 H1 ⟨A1, hp1, d1, e1, r1, q1, g1⟩
  refine ⟨A1, loc, hp1, r1, hl.ext e1, (Good.bind (R := RpL X.K) g1).mono ?_⟩
  rintro vs H2 ⟨A2, hp2, ds, e2, r2, q2, g2⟩
  exact g2 A2 H2 _ (.refl _ _) r2 (.cons (q1.ext e2) q2)
def eTup (fs : AM) : EM := fun loc hp => (fs loc hp).bind fun ds hp1 => if ds.length ≤ big then .ok (.tup ds) hp1 else .bad
/-- a list that never changes -/
def eLst (fs : AM) : EM := fun loc hp => (fs loc hp).bind fun ds hp1 => if ds.length ≤ big then .ok (.lst ds) hp1 else .bad
/-- a list that changes -/
def eLstT (fs : AM) : EM := fun loc hp => (fs loc hp).bind fun ds hp1 => if ds.length ≤ big then .ok (.ref hp1.length) (hp1 ++ [.lst ds]) else .bad
theorem se_tup {fs : AM} {x1 : Nat} (h : SA X W es fs) : SE X W (.Tuple es x1 pos) (eTup fs) := (pe_tup h).weak fun σ H Q ⟨A, loc, hp, hr, hl, hq⟩ => by
  refine ⟨A, loc, hp, hr, hl, (Good.bind (R := RpL X.K) hq).mono ?_⟩
  rintro vs H1 ⟨A1, hp1, ds, e1, r1, q1, g1⟩
  by_cases hz : ds.length ≤ big
  · rw [if_pos hz] at g1
    exact ⟨by rw [q1.length]; exact big_line hz, new_tup r1 q1 g1⟩
  · rw [if_neg hz] at g1; exact g1.elim
theorem se_lst {fs : AM} (h : SA X W es fs) : SE X W (.List es pos) (eLst fs) := (pe_lst h).weak fun σ H Q ⟨A, loc, hp, hr, hl, hq⟩ => by
  refine ⟨A, loc, hp, hr, hl, (Good.bind (R := RpL X.K) hq).mono ?_⟩
  rintro vs H1 ⟨A1, hp1, ds, e1, r1, q1, g1⟩
  by_cases hz : ds.length ≤ big
  · rw [if_pos hz] at g1
    exact ⟨by rw [q1.length]; exact big_line hz, new_lst r1 q1 g1⟩
  · rw [if_neg hz] at g1; exact g1.elim
theorem new_ref {K : PySem.W.Frag} {mg : Str → Option Value} {Q : VK} {xs : List V} {ds : List D} (r : HRel K mg A H hp) (q : RpL K A H xs ds) (g : Good K mg W σ (Rp K) A H (.ok (.ref hp.length) (hp ++ [.lst ds])) Q) : ∀ p, H p = none → Q (.ref p) (upd H p (.lst xs)) := fun p hn => by
  have np := r.fresh hn
  have e0 : Ext A H (A ++ [p]) (upd H p (.lst xs)) := ⟨⟨[p], rfl⟩, fun a u q n => ⟨by rw [upd_ne (ne_of_none q hn)]; exact q, by
    simp only [List.mem_append, List.mem_singleton, not_or]
    exact ⟨n, ne_of_none q hn⟩⟩⟩
  obtain ⟨e, r'⟩ := r.track (o := .lst xs) (mo := .lst ds) hn ⟨xs, upd_same, q.ext e0⟩
  exact g _ _ _ e r' (.ref (by rw [← r.len]; simp))
theorem se_lstT {fs : AM} (h : SA X W es fs) : SE X W (.List es pos) (eLstT fs) := (pe_lst h).weak fun σ H Q ⟨A, loc, hp, hr, hl, hq⟩ => by
  refine ⟨A, loc, hp, hr, hl, (Good.bind (R := RpL X.K) hq).mono ?_⟩
  rintro vs H1 ⟨A1, hp1, ds, e1, r1, q1, g1⟩
  by_cases hz : ds.length ≤ big
  · rw [if_pos hz] at g1
    exact ⟨by rw [q1.length]; exact big_line hz, new_ref r1 q1 g1⟩
  · rw [if_neg hz] at g1; exact g1.elim

/-! ### built-in calls -/
abbrev Fn := List D → HM → O D
def CallG (K : PySem.W.Frag) (mg : Str → Option Value) (r : List V → Hp → VK → Prop) (g : Fn) : Prop :=
  ∀ (W : WX) (σ : L2.St) (A : List Addr) (H : Hp) (hp : HM) (vs : List V) (ds : List D) (Q : VK), HRel K mg A H hp → RpL K A H vs ds → Good K mg W σ (Rp K) A H (g ds hp) Q → r vs H Q
def eCall (g : Fn) (fs : AM) : EM := fun loc hp => (fs loc hp).bind g
theorem call_w {K : PySem.W.Frag} {mg : Str → Option Value} {r : List V → Hp → VK → Prop} {g : Fn} {fs : AM} (hg : CallG K mg r g) : ∀ σ H Q, tG K mg W (Rp K) (eCall g fs) σ H Q → tCB r (tG K mg W (RpL K) fs) σ H Q := by
  rintro σ H Q ⟨A, loc, hp, hr, hl, hq⟩
  refine ⟨A, loc, hp, hr, hl, (Good.bind (R := RpL K) hq).mono ?_⟩
  rintro vs H1 ⟨A1, hp1, ds, e1, r1, q1, g1⟩
  exact hg W σ A1 H1 hp1 vs ds Q r1 q1 g1
theorem se_callB {fs : AM} {x : Str} {id : String} {p : Pos} {r : List V → Hp → VK → Prop} {g : Fn} (hc : CallR X (.builtin id) r) (hcg : CallG X.K X.mg r g) (hg : Gl X x) (hm : X.mg x = none) (hv : bootBuiltins x = some (.builtin id)) (ha : SA X W (e :: es) fs)
    (hn : x ≠ "__name__" := by decide) (hdb : (x == ("__debug__" : Str)) = false := by decide) (he : starEach (e :: es) X.env = (false, eval e X.env) :: starEach es X.env := by rfl) (hpl : (backTo pos (starEach es X.env)).any (·.1) = false := by rfl) :
    SE X W (.Call (.Name x p) (e :: es) [] pos) (eCall g fs) := (pe_callB hc hg hm hv ha hn hdb he hpl).weak (call_w hcg)
theorem se_callTy {fs : AM} {x : Str} {T : String} {p : Pos} {r : List V → Hp → VK → Prop} {g : Fn} (hc : CallR X (.type T) r) (hcg : CallG X.K X.mg r g) (hg : Gl X x) (hm : X.mg x = none) (hv : bootBuiltins x = some (.type T)) (ha : SA X W (e :: es) fs)
    (hn : x ≠ "__name__" := by decide) (hdb : (x == ("__debug__" : Str)) = false := by decide) (he : starEach (e :: es) X.env = (false, eval e X.env) :: starEach es X.env := by rfl) (hpl : (backTo pos (starEach es X.env)).any (·.1) = false := by rfl) :
    SE X W (.Call (.Name x p) (e :: es) [] pos) (eCall g fs) := (pe_callTy hc hg hm hv ha hn hdb he hpl).weak (call_w hcg)

/-! ### own defs -/
def spOf (K : PySem.W.Frag) (mg : Str → Option Value) (n : Nat) (m : Fn) : Sp := fun vs H Q E => vs.length = n ∧ ∃ A hp ds, HRel K mg A H hp ∧ RpL K A H vs ds ∧ Good K mg (fun c od _ H' => E c od H') [] (Rp K) A H (m ds hp) Q
theorem Good.retag {α β : Type} {K : PySem.W.Frag} {mg : Str → Option Value} {W W' : WX} {σ σ' : L2.St} {R : List Addr → Hp → β → α → Prop} {o : O α} {Q : β → Hp → Prop} (g : Good K mg W σ R A H o Q) (h : ∀ c od H', W c od σ H' → W' c od σ' H') : Good K mg W' σ' R A H o Q := by
  cases o with
  | ok d hp' => exact g
  | exc x hp' => exact fun A2 H2 c od e r q => h _ _ _ (g A2 H2 c od e r q)
  | bad => exact g
/-- a def of the text -/
structure Dfn (K : PySem.W.Frag) (mg : Str → Option Value) (x : Str) (st : Stmt) (ps : List Str) (f : Addr) (fd : FuncData) : Prop where
  m : mg x = some (.ref f)
  F : Fun K x x st f fd
  b : Binds K fd ps []
def argc (n : Nat) (m : Fn) : Fn := fun ds hp => if ds.length = n then m ds hp else .bad
theorem se_call {fs : AM} {x : Str} {st : Stmt} {ps : List Str} {p : Pos} {f : Addr} {fd : FuncData} {k n : Nat} {m : Fn} (d : Dfn X.K X.mg x st ps f fd) (F : FnOk X.prog X.w X.K X.mg X.base (L2.CX X.prog X.w) k f fd ps (spOf X.K X.mg n m)) (hr : Room k X.A) (tk : Takes X W) (hg : Gl X x) (ha : SA X W (e :: es) fs)
    (hn : n = (e :: es).length := by rfl) (hdb : (x == ("__debug__" : Str)) = false := by decide) (he : starEach (e :: es) X.env = (false, eval e X.env) :: starEach es X.env := by rfl) (hpl : (backTo pos (starEach es X.env)).any (·.1) = false := by rfl) :
    SE X W (.Call (.Name x p) (e :: es) [] pos) (eCall (argc n m) fs) := (pe_callS F hr hg d.m d.F.kp d.b (fun σ => passAt tk σ) ha hdb he hpl).weak fun σ H Q ⟨A, loc, hp, hr, hl, hq⟩ => by
  refine ⟨A, loc, hp, hr, hl, (Good.bind (R := RpL X.K) hq).mono ?_⟩
  rintro vs H1 ⟨A1, hp1, ds, e1, r1, q1, g1⟩
  unfold argc at g1
  by_cases hz : ds.length = n
  · rw [if_pos hz] at g1
    exact ⟨by rw [q1.length]; exact hz, A1, hp1, ds, r1, q1, g1.retag fun _ _ _ h => h⟩
  · rw [if_neg hz] at g1; exact g1.elim
end
end Ms

namespace Ms
open PySem L2 PySem.Spec PyProof.Rows
variable [Amb]

inductive SO where
  | nx (loc : Loc) (hp : HM)
  | rt (d : D) (hp : HM)
  | bk (loc : Loc) (hp : HM)
  | ct (loc : Loc) (hp : HM)
  | exc (e : Exn) (loc : Loc) (hp : HM)
  | bad
abbrev SM := Loc → HM → SO
def sE {α : Type} (o : O α) (loc : Loc) (k : α → HM → SO) : SO := match o with
  | .ok a hp => k a hp
  | .exc e hp => .exc e loc hp
  | .bad => .bad

section
variable {K : PySem.W.Frag} {mg : Str → Option Value} {W : WX} {σ : L2.St} {A A' : List Addr} {H H' : Hp} {hp : HM} {loc : Loc}
def GoodS (K : PySem.W.Frag) (mg : Str → Option Value) (W : WX) (A : List Addr) (H : Hp) (o : SO) (T : Ends) : Prop := match o with
  | .nx loc' hp' => ∀ A' H' σ', Ext A H A' H' → HRel K mg A' H' hp' → LocR K A' H' σ' loc' → T.nx σ' H'
  | .rt d hp' => ∀ A' H' v, Ext A H A' H' → HRel K mg A' H' hp' → Rp K A' H' v d → T.rt v H'
  | .bk loc' hp' => ∀ A' H' σ', Ext A H A' H' → HRel K mg A' H' hp' → LocR K A' H' σ' loc' → T.bk σ' H'
  | .ct loc' hp' => ∀ A' H' σ', Ext A H A' H' → HRel K mg A' H' hp' → LocR K A' H' σ' loc' → T.ct σ' H'
  | .exc e loc' hp' => ∀ A' H' σ' c od, Ext A H A' H' → HRel K mg A' H' hp' → LocR K A' H' σ' loc' → ExR mg H' c od e → W c od σ' H'
  | .bad => False
theorem GoodS.ext {o : SO} {T : Ends} (g : GoodS K mg W A H o T) (e : Ext A H A' H') : GoodS K mg W A' H' o T := by
  cases o with
  | nx l h => exact fun A2 H2 s2 e2 => g A2 H2 s2 (e.trans e2)
  | rt l h => exact fun A2 H2 s2 e2 => g A2 H2 s2 (e.trans e2)
  | bk l h => exact fun A2 H2 s2 e2 => g A2 H2 s2 (e.trans e2)
  | ct l h => exact fun A2 H2 s2 e2 => g A2 H2 s2 (e.trans e2)
  | exc x l h => exact fun A2 H2 s2 c od e2 => g A2 H2 s2 c od (e.trans e2)
  | bad => exact g
theorem GoodS.bind {α β : Type} {R : List Addr → Hp → β → α → Prop} {o : O α} {k : α → HM → SO} {T : Ends} (l : LocR K A H σ loc) (g : GoodS K mg W A H (sE o loc k) T) :
    Good K mg W σ R A H o fun b H1 => ∃ A1 hp1 a, Ext A H A1 H1 ∧ HRel K mg A1 H1 hp1 ∧ R A1 H1 b a ∧ LocR K A1 H1 σ loc ∧ GoodS K mg W A1 H1 (k a hp1) T := by
  cases o with
  | ok a hp1 => exact fun A1 H1 b e r q => ⟨A1, hp1, a, e, r, q, l.ext e, GoodS.ext g e⟩
  | exc x hp' => exact fun A2 H2 c od e r q => g A2 H2 σ c od e r (l.ext e) q
  | bad => exact g
def tS (K : PySem.W.Frag) (mg : Str → Option Value) (W : WX) (f : SM) : TS := fun T σ H => ∃ A loc hp, HRel K mg A H hp ∧ LocR K A H σ loc ∧ GoodS K mg W A H (f loc hp) T
end
abbrev SS (X : Cx) (W : WX) (st : Stmt) (f : SM) : Prop := PS X st (tS X.K X.mg W f)
abbrev SSs (X : Cx) (W : WX) (st : List Stmt) (f : SM) : Prop := PSs X st (tS X.K X.mg W f)

section
variable {X : Cx} {W : WX} {st : Stmt} {rest : List Stmt} {pos : Pos} {f g : SM} {e : PySem.Expr} {fe : EM}
def sNext : SM := fun loc hp => .nx loc hp
def sSeq (f g : SM) : SM := fun loc hp => match f loc hp with
  | .nx l h => g l h
  | o => o
theorem ss_nil : SSs X W [] sNext := pss_nil.weak fun T σ H ⟨A, loc, hp, hr, hl, q⟩ => q A H σ (.refl A H) hr hl
theorem ss_one (h : SS X W st f) : SSs X W [st] f := pss_one h
theorem ss_cons (h1 : SS X W st f) (h2 : SSs X W rest g) : SSs X W (st :: rest) (sSeq f g) := (pss_cons h1 h2).weak fun T σ H ⟨A, loc, hp, hr, hl, q⟩ => by
  refine ⟨A, loc, hp, hr, hl, ?_⟩
  unfold sSeq at q
  cases o : f loc hp with
  | nx l h => rw [o] at q; exact fun A1 H1 σ1 e1 r1 l1 => ⟨A1, l, h, r1, l1, q.ext e1⟩
  | rt d h => rw [o] at q; exact q
  | bk l h => rw [o] at q; exact q
  | ct l h => rw [o] at q; exact q
  | exc x l h => rw [o] at q; exact q
  | bad => rw [o] at q; exact q
def sBreak : SM := fun loc hp => .bk loc hp
def sCont : SM := fun loc hp => .ct loc hp
theorem ss_pass : SS X W (.Pass pos) sNext := ps_pass.weak fun T σ H ⟨A, loc, hp, hr, hl, q⟩ => q A H σ (.refl A H) hr hl
theorem ss_break : SS X W (.Break pos) sBreak := ps_break.weak fun T σ H ⟨A, loc, hp, hr, hl, q⟩ => q A H σ (.refl A H) hr hl
theorem ss_cont : SS X W (.Continue pos) sCont := ps_continue.weak fun T σ H ⟨A, loc, hp, hr, hl, q⟩ => q A H σ (.refl A H) hr hl
def sDrop (f : EM) : SM := fun loc hp => sE (f loc hp) loc fun _ hp1 => .nx loc hp1
theorem ss_expr (he : SE X W e fe) (hs : swapsWith e none pos.line X.env = pure false := by rfl) : SS X W (.Expr e pos) (sDrop fe) := (ps_expr he hs).weak fun T σ H ⟨A, loc, hp, hr, hl, q⟩ => by
  refine ⟨A, loc, hp, hr, hl, (GoodS.bind (R := Rp X.K) hl q).mono ?_⟩
  rintro v H1 ⟨A1, hp1, d1, e1, r1, q1, l1, g1⟩
  exact g1 A1 H1 σ (.refl _ _) r1 l1
def sRet (f : EM) : SM := fun loc hp => sE (f loc hp) loc fun d hp1 => .rt d hp1
theorem ss_ret (he : SE X W e fe) : SS X W (.Return (some e) pos) (sRet fe) := (ps_ret he).weak fun T σ H ⟨A, loc, hp, hr, hl, q⟩ => by
  refine ⟨A, loc, hp, hr, hl, (GoodS.bind (R := Rp X.K) hl q).mono ?_⟩
  rintro v H1 ⟨A1, hp1, d1, e1, r1, q1, l1, g1⟩
  exact g1 A1 H1 v (.refl _ _) r1 q1
def sRetN : SM := fun _ hp => .rt .non hp
theorem ss_retN : SS X W (.Return none pos) sRetN := ps_retN.weak fun T σ H ⟨A, loc, hp, hr, hl, q⟩ => q A H _ (.refl A H) hr .non
def sIf (t : TM) (f g : SM) : SM := fun loc hp => sE (t loc hp) loc fun b hp1 => if b = true then f loc hp1 else g loc hp1
theorem ss_if {c : PySem.Expr} {a b : List Stmt} {t : TM} (hc : STt X W c t) (ha : SSs X W a f) (hb : SSs X W b g) : SS X W (.If c a b pos) (sIf t f g) := (ps_if hc ha hb).weak fun T σ H ⟨A, loc, hp, hr, hl, q⟩ => by
  refine ⟨A, loc, hp, hr, hl, (GoodS.bind (R := RB) hl q).mono ?_⟩
  rintro v H1 ⟨A1, hp1, d1, e1, r1, q1, l1, g1⟩
  cases q1
  cases v with
  | true => exact iteT ⟨A1, loc, hp1, r1, l1, g1⟩
  | false => exact iteF ⟨A1, loc, hp1, r1, l1, g1⟩
def sAsg (f : EM) (i : Nat) : SM := fun loc hp => sE (f loc hp) loc fun d hp1 => .nx (loc.set i (some d)) hp1
theorem ss_asg {i : Nat} {x : Str} {pos' : Pos} (hN : X.N.Nodup) (he : SE X W e fe) (hi : X.N[i]? = some x := by rfl) (hx : L2.Loc X.env.scope x := by first | exact Or.inl rfl | exact Or.inr rfl) (hs : swapsWith e (some (.Name x pos')) pos.line X.env = pure false := by rfl) (ok : Amb.ok i = true := by rfl)
    (hf : X.fn x = true ∨ X.env.scope.names.lookup x = some .local := by first | exact .inl rfl | exact .inr rfl | assumption) : SS X W (.Assign [.Name x pos'] e pos) (sAsg fe i) := (ps_set hN hi hx he hs hf).weak fun T σ H ⟨A, loc, hp, hr, hl, q⟩ => by
  refine ⟨A, loc, hp, hr, hl, (GoodS.bind (R := Rp X.K) hl q).mono ?_⟩
  rintro v H1 ⟨A1, hp1, d1, e1, r1, q1, l1, g1⟩
  exact g1 A1 H1 _ (.refl _ _) r1 (l1.set i q1 ok)

/-! ### targets -/
abbrev Tg := D → Loc → Option Loc
def TgR (K : PySem.W.Frag) (mg : Str → Option Value) (t : TG) (g : Tg) : Prop :=
  ∀ (A : List Addr) (H : Hp) (hp : HM) (v : V) (d : D) (σ : L2.St) (loc loc' : Loc) (Q : L2.St → Hp → Prop), HRel K mg A H hp → Rp K A H v d → LocR K A H σ loc → g d loc = some loc' → (∀ σ', LocR K A H σ' loc' → Q σ' H) → t v σ H Q
def TgsR (K : PySem.W.Frag) (mg : Str → Option Value) (t : TGs) (g : List D → Loc → Option Loc) : Prop :=
  ∀ (A : List Addr) (H : Hp) (hp : HM) (vs : List V) (ds : List D) (σ : L2.St) (loc loc' : Loc) (Q : L2.St → Hp → Prop), HRel K mg A H hp → RpL K A H vs ds → LocR K A H σ loc → g ds loc = some loc' → (∀ σ', LocR K A H σ' loc' → Q σ' H) → t vs σ H Q
def tgName (i : Nat) : Tg := fun d loc => some (loc.set i (some d))
def tgsNil : List D → Loc → Option Loc := fun ds loc => match ds with
  | [] => some loc
  | _ => none
def tgsCons (g : Tg) (gs : List D → Loc → Option Loc) : List D → Loc → Option Loc := fun ds loc => match ds with
  | d :: r => (g d loc).bind fun l => gs r l
  | [] => none
def tgTup (n : Nat) (gs : List D → Loc → Option Loc) : Tg := fun d loc => match d with
  | .tup ds => if ds.length = n then gs ds loc else none
  | _ => none
section
variable {K : PySem.W.Frag} {mg : Str → Option Value}
theorem tr_name {i : Nat} (ok : Amb.ok i = true := by rfl) : TgR K mg (gName i) (tgName i) := fun A H hp v d σ loc loc' Q r q l h k => by
  simp only [tgName, Option.some.injEq] at h
  subst h
  exact k _ (l.set i q ok)
theorem tr_nil : TgsR K mg gNil tgsNil := fun A H hp vs ds σ loc loc' Q r q l h k => by
  cases ds with
  | nil =>
    cases q
    simp only [tgsNil, Option.some.injEq] at h
    subst h
    exact ⟨rfl, k _ l⟩
  | cons _ _ => cases h
theorem tr_cons {t : TG} {u : TGs} {g : Tg} {gs : List D → Loc → Option Loc} (h1 : TgR K mg t g) (h2 : TgsR K mg u gs) : TgsR K mg (gCons t u) (tgsCons g gs) := fun A H hp vs ds σ loc loc' Q r q l h k => by
  cases ds with
  | nil => cases h
  | cons d ds =>
    cases q with
    | cons q qs =>
      simp only [tgsCons] at h
      cases hg : g d loc with
      | none => rw [hg] at h; cases h
      | some l1 =>
        rw [hg] at h
        exact ⟨_, _, rfl, h1 A H hp _ d σ loc l1 _ r q l hg fun σ1 l1' => h2 A H hp _ ds σ1 l1 loc' Q r qs l1' h k⟩
theorem tr_tup {n : Nat} {u : TGs} {gs : List D → Loc → Option Loc} (h2 : TgsR K mg u gs) : TgR K mg (gTup K n u) (tgTup n gs) := fun A H hp v d σ loc loc' Q r q l h k => by
  cases d with
  | tup ds =>
    obtain ⟨a, vs, rfl, t, rl⟩ := q.tup_inv
    simp only [tgTup] at h
    by_cases hz : ds.length = n
    · rw [if_pos hz] at h
      exact ⟨a, vs, rfl, t.sq, by rw [rl.length]; exact hz, h2 A H hp vs ds σ loc loc' Q r rl l h k⟩
    · rw [if_neg hz] at h; cases h
  | _ => cases h
end
def sAsgT (f : EM) (g : Tg) : SM := fun loc hp => sE (f loc hp) loc fun d hp1 => match g d loc with
  | some l => .nx l hp1
  | none => .bad
theorem ss_asgT {tg : PySem.Expr} {t : TG} {gt : Tg} (he : SE X W e fe) (hg : PG X tg t) (hr : TgR X.K X.mg t gt) (hs : swapsWithSole [tg] e pos.line X.env = pure false := by rfl) (hw : swappedStores [tg] e X.env = pure none := by rfl)
    (h1 : (assignEach [tg] X.env).map (·.2) = [assign tg X.env] := by rfl) : SS X W (.Assign [tg] e pos) (sAsgT fe gt) := (ps_asg he hg hs hw h1).weak fun T σ H ⟨A, loc, hp, r, hl, q⟩ => by
  refine ⟨A, loc, hp, r, hl, (GoodS.bind (R := Rp X.K) hl q).mono ?_⟩
  rintro v H1 ⟨A1, hp1, d1, e1, r1, q1, l1, g1⟩
  cases hg : gt d1 loc with
  | none => rw [hg] at g1; exact g1.elim
  | some l2 =>
    rw [hg] at g1
    exact hr A1 H1 hp1 v d1 σ loc l2 _ r1 q1 l1 hg fun σ2 l3 => g1 A1 H1 σ2 (.refl _ _) r1 l3

/-- o[i] = e of a changing list -/
def setD (hp : HM) (o i v : D) : Option HM := match o, i with
  | .ref n, .int k => match hp[n]? with
    | some (.lst ds) => match ixN ds.length k with
      | some j => some (hp.set n (.lst (ds.set j v)))
      | none => none
    | _ => none
  | _, _ => none
def sSub (f fo fi : EM) : SM := fun loc hp => sE (f loc hp) loc fun d hp1 => sE (fo loc hp1) loc fun o hp2 => sE (fi loc hp2) loc fun i hp3 => match setD hp3 o i d with
  | some hp4 => .nx loc hp4
  | none => .bad
theorem ss_sub {o i : PySem.Expr} {fo fi : EM} {pos' : Pos} (he : SE X W e fe) (ho : SE X W o fo) (hi : SE X W i fi) (hs : swapsWithSole [.Subscript o i pos'] e pos.line X.env = pure false := by rfl) (hw : swappedStores [.Subscript o i pos'] e X.env = pure none := by rfl)
    (h1 : (assignEach [.Subscript o i pos'] X.env).map (·.2) = [assign (.Subscript o i pos') X.env] := by rfl)
    (ha : ∀ v, assign (.Subscript o i pos') X.env v = (do
      let ov ← holding [v] (eval o X.env)
      let iv ← holding [v, ov] (eval i X.env)
      standAt pos'
      holding [v, ov, iv] (setItem ov iv v)
      release [v, ov, iv] []) := by intro _; rfl) : SS X W (.Assign [.Subscript o i pos'] e pos) (sSub fe fo fi) := (ps_asg he (pg_sub ho hi set_list ha) hs hw h1).weak fun T σ H ⟨A, loc, hp, r, hl, q⟩ => by
  refine ⟨A, loc, hp, r, hl, (GoodS.bind (R := Rp X.K) hl q).mono ?_⟩
  rintro v H1 ⟨A1, hp1, d1, e1, r1, q1, l1, g1⟩
  refine ⟨A1, loc, hp1, r1, l1, (GoodS.bind (R := Rp X.K) l1 g1).mono ?_⟩
  rintro ov H2 ⟨A2, hp2, d2, e2, r2, q2, l2, g2⟩
  refine ⟨A2, loc, hp2, r2, l2, (GoodS.bind (R := Rp X.K) l2 g2).mono ?_⟩
  rintro iv H3 ⟨A3, hp3, d3, e3, r3, q3, l3, g3⟩
  cases hq : setD hp3 d2 d3 d1 with
  | none => rw [hq] at g3; exact g3.elim
  | some hp4 =>
    rw [hq] at g3
    cases d2 with
    | ref n =>
      cases d3 with
      | int k =>
        obtain ⟨a, rfl, ha⟩ := (q2.ext e3).ref_inv
        simp only [setD] at hq
        have hl3 : n < hp3.length := by rw [← r3.len]; exact (List.getElem?_eq_some_iff.mp ha).1
        rw [List.getElem?_eq_getElem hl3] at hq
        cases hm : hp3[n] with
        | lst ds =>
          rw [hm] at hq
          simp only at hq
          cases hj : ixN ds.length k with
          | none => rw [hj] at hq; cases hq
          | some j =>
            rw [hj] at hq
            simp only [Option.some.injEq] at hq
            obtain ⟨vs, hv, rl⟩ := r3.ob n _ a (by rw [List.getElem?_eq_getElem hl3, hm]) ha
            refine ⟨a, vs, k, j, rfl, q3.int_inv, hv, by rw [rl.length]; exact hj, ?_⟩
            obtain ⟨e4, r4⟩ := r3.write (o := .lst (vs.set j v)) (mo := .lst (ds.set j d1)) ha fun e4 => ⟨_, upd_same, RpL.set (((q1.ext e2).ext e3).ext e4) j (rl.ext e4)⟩
            rw [hq] at r4
            exact g3 A3 _ σ e4 r4 (l3.ext e4)
        | ins c fs => rw [hm] at hq; cases hq
      | _ => cases hq
    | _ => cases hq

/-! ### raise of an own class without __init__ -/
/-- an exception's class -/
structure ExcX (K : PySem.W.Frag) (mg : Str → Option Value) (x : Str) (C : Addr) : Prop where
  g : mg x = some (.ref C)
  x : PySem.W.excIn K C [.type "ValueError", .type "Exception", .type "BaseException", .type "object"] "ValueError.__new__" = true
  k : PySem.W.keepIn K (.ref C) = true
  b : PySem.W.subIn K (.ref C) (.type "BaseException") = some true
  t : PySem.W.typeIn K (.ref C) = some (.type "type")
def sRaise (x : Str) : SM := fun loc hp => .exc ⟨x, none⟩ loc hp
/-- how much is known of an exception in the air: its context is None (true) -/
def Zq (z : Bool) (c : Value) (d : Option Addr) : Obj → Prop := match z with
  | true => L2N.Zn c d
  | false => Zc c d
theorem Zq.steady {z : Bool} {c : Value} {d : Option Addr} : PXN.Steady1 (Zq z c d) := by
  cases z
  · exact fun o v h => ⟨PXN.steady_cls o v h.1, PXN.steady_dict o v h.2⟩
  · exact L2N.Zn.steady
def TakesZ (z : Bool) (X : Cx) (W : WX) : Prop := match z with
  | true => L2N.Takes X W
  | false => L2.Takes X W
def CXz (z : Bool) : Program → World → CXT := match z with
  | true => L2N.CX
  | false => L2.CX
theorem TakesZ.take {z : Bool} {W : WX} (tk : TakesZ z X W) : ∀ u s', (∃ (a : Addr) (B : Heap) (sI : Shared) (pins : List (Addr × Obj)) (σ : L2.St) (H : Hp) (cls : Value) (d : Option Addr),
    u = .ref a ∧ Inv X pins σ H sI ∧ (∀ b o, sI.heap.get? b = some o → b ∉ frs X.stack → B.get? b = some o) ∧ sI.heap.UpToSlots s'.heap ∧
      Sky B X.stack a (Zq z cls d) X.env.locals s'.heap ∧ H a = none ∧ s'.os = sI.os ∧ AllBare s'.gens ∧ W cls d σ H) → X.xe u s' := by
  cases z
  · exact tk
  · exact tk
theorem takesZ_of {z : Bool} {E : XK} (hs : X.stack = X.env :: X.outer) (hf : X.env.frame = some X.env.locals) (hex : X.ex = []) {E₁ : Value → Shared → Prop}
    (hx : X.xe = fun e s' => wpAny (model X.prog X.w) X.A (leaving X.env e) (fun _ s'' => CXz z X.prog X.w X.outer X.H_0 X.s_0 E e s'') E₁ s') : TakesZ z X (fun cls d _ H => E cls d H) := by
  cases z
  · exact L2.takes_of hs hf hex hx
  · exact L2N.takes_of hs hf hex hx
theorem ss_raise {z : Bool} {x m : Str} {C : Addr} {j : Nat} {p p2 cpos : Pos} (T : ExcX X.K X.mg x C) (tk : TakesZ z X W) (hc : X.calm = true := by rfl) (hg : Gl X x := by rfl) (hdb : (x == ("__debug__" : Str)) = false := by decide) :
    SS X W (.Raise (some (.Call (.Name x p) [.Constant (.str m) j p2] [] cpos)) none pos) (sRaise x) := by
  cases z
  · exact (L2.ps_raise hc tk (L2.pmk_own PySem.F.excBase_ValueError T.x T.g T.k (raises_own T.b T.t) hg hdb)).weak fun T' σ H ⟨A, loc, hp, r, hl, q⟩ => q A H σ _ none (.refl A H) r hl ⟨T.g, rfl⟩
  · exact (L2N.ps_raise hc tk (L2N.pmk_own PySem.F.excBase_ValueError T.x T.g T.k (raises_own T.b T.t) hg hdb)).weak fun T' σ H ⟨A, loc, hp, r, hl, q⟩ => q A H σ _ none (.refl A H) r hl ⟨T.g, rfl⟩

/-! ### loops -/
/-! == of data as a computed test -/
mutual
def beqD : D → D → Bool
  | .non, .non => true
  | .bl a, .bl b => a == b
  | .int a, .int b => a == b
  | .str a, .str b => a == b
  | .tup a, .tup b => beqL a b
  | .lst a, .lst b => beqL a b
  | .ref a, .ref b => a == b
  | .scr a, .scr b => a == b
  | _, _ => false
def beqL : List D → List D → Bool
  | [], [] => true
  | a :: r, b :: s => beqD a b && beqL r s
  | _, _ => false
end
mutual
theorem beqD_eq : ∀ {a b : D}, beqD a b = true → a = b
  | .non, b, h => by cases b <;> simp_all [beqD]
  | .bl x, b, h => by cases b <;> simp_all [beqD]
  | .int x, b, h => by cases b <;> simp_all [beqD]
  | .str x, b, h => by cases b <;> simp_all [beqD]
  | .tup x, b, h => by
    cases b with
    | tup y => rw [beqL_eq (a := x) (b := y) (by simpa [beqD] using h)]
    | _ => simp [beqD] at h
  | .lst x, b, h => by
    cases b with
    | lst y => rw [beqL_eq (a := x) (b := y) (by simpa [beqD] using h)]
    | _ => simp [beqD] at h
  | .ref x, b, h => by cases b <;> simp_all [beqD]
  | .scr x, b, h => by cases b <;> simp_all [beqD]
theorem beqL_eq : ∀ {a b : List D}, beqL a b = true → a = b
  | [], b, h => by cases b <;> simp_all [beqL]
  | x :: r, b, h => by
    cases b with
    | nil => simp [beqL] at h
    | cons y s =>
      simp only [beqL, Bool.and_eq_true] at h
      rw [beqD_eq h.1, beqL_eq h.2]
end
mutual
theorem beqD_refl : ∀ a : D, beqD a a = true
  | .non => rfl
  | .bl _ => by simp [beqD]
  | .int _ => by simp [beqD]
  | .str _ => by simp [beqD]
  | .tup x => by simp [beqD, beqL_refl x]
  | .lst x => by simp [beqD, beqL_refl x]
  | .ref _ => by simp [beqD]
  | .scr _ => by simp [beqD]
theorem beqL_refl : ∀ a : List D, beqL a a = true
  | [] => rfl
  | x :: r => by simp [beqL, beqD_refl x, beqL_refl r]
end

/-- what is walked: its items; where it may change, the list that they stand in -/
structure Itm where
  ds : List D
  src : Option Nat
def Itm.chk (it : Itm) (hp : HM) : Bool := match it.src with
  | none => true
  | some n => match hp[n]? with
    | some (.lst ds) => beqL ds it.ds
    | _ => false
abbrev IM := Loc → HM → O Itm
def Yields (K : PySem.W.Frag) (mg : Str → Option Value) (A0 : List Addr) (H0 : Hp) (J : It) (it : Itm) : Prop :=
  ∀ (A : List Addr) (H : Hp) (hp : HM), Ext A0 H0 A H → HRel K mg A H hp → it.chk hp = true →
    (∀ i, i < it.ds.length → J.go i H) ∧ (∀ i d x H', it.ds[i]? = some d → J.yld i H x H' → Ext A H A H' ∧ HRel K mg A H' hp ∧ Rp K A H' x d) ∧ (∀ i, it.ds.length ≤ i → J.stop i H)
def tI (K : PySem.W.Frag) (mg : Str → Option Value) (W : WX) (f : IM) : TI := fun σ H R => ∃ A loc hp, HRel K mg A H hp ∧ LocR K A H σ loc ∧ Good K mg W σ (fun A' H' (J : It) it => Yields K mg A' H' J it) A H (f loc hp) R
abbrev SI (X : Cx) (W : WX) (tg iter : PySem.Expr) (f : IM) : Prop := PI X tg iter (tI X.K X.mg W f)
theorem _root_.L2.PI.weak {tg iter : PySem.Expr} {t t' : TI} (h : PI X tg iter t) (w : ∀ σ H R, t' σ H R → t σ H R) : PI X tg iter t' := ⟨fun pins s σ H R I q => h.run pins s σ H R I (w σ H R q)⟩
theorem pi_or {tg iter : PySem.Expr} {t u : TI} (h : PI X tg iter t) (h' : PI X tg iter u) : PI X tg iter (fun σ H R => t σ H R ∨ u σ H R) :=
  ⟨fun pins s σ H R I q => q.elim (fun z => h.run pins s σ H R I z) fun z => h'.run pins s σ H R I z⟩

def iSeq (f : EM) : IM := fun loc hp => (f loc hp).bind fun d hp1 => match d with
  | .tup ds => .ok ⟨ds, none⟩ hp1
  | .lst ds => .ok ⟨ds, none⟩ hp1
  | .ref n => match hp1[n]? with
    | some (.lst ds) => .ok ⟨ds, some n⟩ hp1
    | _ => .bad
  | _ => .bad
theorem yields_lst {K : PySem.W.Frag} {mg : Str → Option Value} {A : List Addr} {H : Hp} {a : Addr} {vs : List V} {ds : List D} (n : a ∉ A) (h : H a = some (.lst vs)) (r : RpL K A H vs ds) : Yields K mg A H (Itl K a) ⟨ds, none⟩ := by
  intro A1 H1 hp1 e r1 _
  have h1 := (e.keep a _ h n).1
  refine ⟨fun i hi => ?_, fun i d x H' hd hy => ?_, fun i hi => ⟨vs, SqL.of h1, by rw [r.length]; exact hi⟩⟩
  · exact ⟨vs, vs[i]'(by rw [r.length]; exact hi), SqL.of h1, by simp⟩
  · obtain ⟨rfl, hx⟩ := hy
    obtain ⟨v, hv, q⟩ := (r.ext e).get hd
    have := hx vs (SqL.of h1)
    rw [hv] at this
    cases this
    exact ⟨.refl _ _, r1, q⟩
theorem yields_tup {K : PySem.W.Frag} {mg : Str → Option Value} {A : List Addr} {H : Hp} {a : Addr} {vs : List V} {ds : List D} (h : TupAt K A H a vs) (r : RpL K A H vs ds) : Yields K mg A H (Itt K a) ⟨ds, none⟩ := by
  intro A1 H1 hp1 e r1 _
  have h1 := (h.ext e).sq
  refine ⟨fun i hi => ?_, fun i d x H' hd hy => ?_, fun i hi => ⟨vs, h1, by rw [r.length]; exact hi⟩⟩
  · exact ⟨vs, vs[i]'(by rw [r.length]; exact hi), h1, by simp⟩
  · obtain ⟨rfl, hx⟩ := hy
    obtain ⟨v, hv, q⟩ := (r.ext e).get hd
    have := hx vs h1
    rw [hv] at this
    cases this
    exact ⟨.refl _ _, r1, q⟩
theorem yields_ref {K : PySem.W.Frag} {mg : Str → Option Value} {A : List Addr} {H : Hp} {a : Addr} {n : Nat} {ds : List D} (h : A[n]? = some a) : Yields K mg A H (Itl K a) ⟨ds, some n⟩ := by
  intro A1 H1 hp1 e r1 hc
  have ha := e.at h
  have hl : n < hp1.length := by rw [← r1.len]; exact (List.getElem?_eq_some_iff.mp ha).1
  simp only [Itm.chk] at hc
  rw [List.getElem?_eq_getElem hl] at hc
  cases hm : hp1[n] with
  | lst ds' =>
    rw [hm] at hc
    have := beqL_eq hc
    subst this
    obtain ⟨vs, h1, r⟩ := r1.ob n _ a (by rw [List.getElem?_eq_getElem hl, hm]) ha
    refine ⟨fun i hi => ?_, fun i d x H' hd hy => ?_, fun i hi => ⟨vs, SqL.of h1, by rw [r.length]; exact hi⟩⟩
    · exact ⟨vs, vs[i]'(by rw [r.length]; exact hi), SqL.of h1, by simp⟩
    · obtain ⟨rfl, hx⟩ := hy
      obtain ⟨v, hv, q⟩ := r.get hd
      have := hx vs (SqL.of h1)
      rw [hv] at this
      cases this
      exact ⟨.refl _ _, r1, q⟩
  | ins c fs => rw [hm] at hc; cases hc
theorem si_seq {tg : PySem.Expr} (he : SE X W e fe) : SI X W tg e (iSeq fe) := (pi_or (pi_list he) (pi_tup he)).weak fun σ H R ⟨A, loc, hp, r, hl, q⟩ => by
  unfold iSeq at q
  cases o : fe loc hp with
  | bad => rw [o] at q; exact q.elim
  | exc x h => rw [o] at q; exact .inl ⟨A, loc, hp, r, hl, by rw [o]; exact q⟩
  | ok d hp1 =>
    have q0 := q
    rw [o] at q
    simp only [O.bind] at q
    cases d with
    | tup ds =>
      refine .inr ⟨A, loc, hp, r, hl, ?_⟩
      rw [o]
      intro A1 H1 v e1 r1 q1
      obtain ⟨a, vs, rfl, t, rl⟩ := q1.tup_inv
      exact ⟨a, rfl, ⟨vs, t.sq⟩, q A1 H1 _ e1 r1 (yields_tup t rl)⟩
    | lst ds =>
      refine .inl ⟨A, loc, hp, r, hl, ?_⟩
      rw [o]
      intro A1 H1 v e1 r1 q1
      obtain ⟨a, vs, rfl, na, t, rl⟩ := q1.lst_inv
      exact ⟨a, rfl, ⟨vs, SqL.of t⟩, q A1 H1 _ e1 r1 (yields_lst na t rl)⟩
    | ref n =>
      refine .inl ⟨A, loc, hp, r, hl, ?_⟩
      rw [o]
      intro A1 H1 v e1 r1 q1
      simp only at q
      obtain ⟨a, rfl, ha⟩ := q1.ref_inv
      have hl1 : n < hp1.length := by rw [← r1.len]; exact (List.getElem?_eq_some_iff.mp ha).1
      rw [List.getElem?_eq_getElem hl1] at q
      cases hm : hp1[n] with
      | lst ds =>
        rw [hm] at q
        obtain ⟨vs, h1, rl⟩ := r1.ob n _ a (by rw [List.getElem?_eq_getElem hl1, hm]) ha
        exact ⟨a, rfl, ⟨vs, SqL.of h1⟩, q A1 H1 _ e1 r1 (yields_ref ha)⟩
      | ins c fs => rw [hm] at q; exact q.elim
    | _ => exact q.elim
end
end Ms

namespace Ms
open PySem L2
variable [Amb]
section
variable {X : Cx} {W : WX} {pos : Pos} {e : PySem.Expr} {es : List PySem.Expr} {fe : EM}

/-! ### what is walked -/
def rngD (lo : Int) (n : Nat) : List D := (List.range n).map fun (k : Nat) => D.int (lo + (k : Int))
theorem yields_rng {K : PySem.W.Frag} {mg : Str → Option Value} {A : List Addr} {H : Hp} {lo : Int} {n : Nat} : Yields K mg A H (Itr lo n) ⟨rngD lo n, none⟩ := by
  intro A1 H1 hp1 e r1 _
  refine ⟨fun i hi => show i < n by simpa [rngD] using hi, fun i d x H' hd hy => ?_, fun i hi => show n ≤ i by simpa [rngD] using hi⟩
  obtain ⟨rfl, rfl⟩ := hy
  obtain ⟨hi, q⟩ := List.getElem?_eq_some_iff.mp hd
  simp [rngD] at q
  subst q
  exact ⟨.refl _ _, r1, .int _⟩
abbrev lim : Int := 1000000
def iRange1 (fs : AM) : IM := fun loc hp => (fs loc hp).bind fun ds hp1 => match ds with
  | [.int j] => if j ≤ lim then .ok ⟨rngD 0 j.toNat, none⟩ hp1 else .bad
  | _ => .bad
def iRange2 (fs : AM) : IM := fun loc hp => (fs loc hp).bind fun ds hp1 => match ds with
  | [.int i, .int j] => if -lim ≤ i ∧ i ≤ lim ∧ -lim ≤ j ∧ j ≤ lim then .ok ⟨rngD i (j - i).toNat, none⟩ hp1 else .bad
  | _ => .bad
theorem si_range1 {tg a : PySem.Expr} {p : Pos} {fs : AM} (hm : X.mg "range" = none) (ha : SA X W [a] fs) (hg : Gl X "range" := by rfl) (hs : starEach [a] X.env = [(false, eval a X.env)] := by rfl) (low : True := trivial) :
    SI X W tg (.Call (.Name "range" p) [a] [] pos) (fun loc hp => (fs loc hp).bind fun ds hp1 => match ds with
      | [.int j] => if -lim ≤ j ∧ j ≤ lim then .ok ⟨rngD 0 j.toNat, none⟩ hp1 else .bad
      | _ => .bad) := (pi_range1 hg hm ha hs).weak fun σ H R ⟨A, loc, hp, r, hl, q⟩ => by
  refine ⟨A, loc, hp, r, hl, (Good.bind (R := RpL X.K) q).mono ?_⟩
  rintro vs H1 ⟨A1, hp1, ds, e1, r1, q1, g1⟩
  split at g1
  · rename_i j
    by_cases hz : -lim ≤ j ∧ j ≤ lim
    · rw [if_pos hz] at g1
      have := rpl_ints (ns := [j]) q1
      refine ⟨j, this, by have := hz.1; simp only [lim] at this; omega, by have := hz.2; simp only [lim] at this; omega, g1 A1 H1 _ (.refl _ _) r1 yields_rng⟩
    · rw [if_neg hz] at g1; exact g1.elim
  · exact g1.elim
theorem si_range2 {tg a b : PySem.Expr} {p : Pos} {fs : AM} (hm : X.mg "range" = none) (ha : SA X W [a, b] fs) (hg : Gl X "range" := by rfl) (hs : starEach [a, b] X.env = [(false, eval a X.env), (false, eval b X.env)] := by rfl) (hs2 : starEach [b] X.env = [(false, eval b X.env)] := by rfl) :
    SI X W tg (.Call (.Name "range" p) [a, b] [] pos) (iRange2 fs) := (pi_range2 hg hm ha hs hs2).weak fun σ H R ⟨A, loc, hp, r, hl, q⟩ => by
  refine ⟨A, loc, hp, r, hl, (Good.bind (R := RpL X.K) q).mono ?_⟩
  rintro vs H1 ⟨A1, hp1, ds, e1, r1, q1, g1⟩
  split at g1
  · rename_i i j
    by_cases hz : -lim ≤ i ∧ i ≤ lim ∧ -lim ≤ j ∧ j ≤ lim
    · rw [if_pos hz] at g1
      have := rpl_ints (ns := [i, j]) q1
      refine ⟨i, j, this, ?_, g1 A1 H1 _ (.refl _ _) r1 yields_rng⟩
      simp only [lim] at hz
      omega
    · rw [if_neg hz] at g1; exact g1.elim
  · exact g1.elim
/-- the signs of a text -/
def iStrM (f : EM) : IM := fun loc hp => (f loc hp).bind fun d hp1 => match d with
  | .str x => .ok ⟨x.cps.toList.map fun c => .str ⟨#[c]⟩, none⟩ hp1
  | _ => .bad
theorem si_str {tg : PySem.Expr} (he : SE X W e fe) : SI X W tg e (iStrM fe) := (pi_str he).weak fun σ H R ⟨A, loc, hp, r, hl, q⟩ => by
  refine ⟨A, loc, hp, r, hl, (Good.bind (R := Rp X.K) q).mono ?_⟩
  rintro v H1 ⟨A1, hp1, d, e1, r1, q1, g1⟩
  cases d with
  | str x =>
    refine ⟨x, q1.str_inv, g1 A1 H1 _ (.refl _ _) r1 ?_⟩
    intro A2 H2 hp2 e2 r2 _
    refine ⟨fun i hi => show i < x.cps.size by simpa using hi, fun i d y H' hd hy => ?_, fun i hi => show x.cps.size ≤ i by simpa using hi⟩
    obtain ⟨rfl, c, hc, rfl⟩ := hy
    have : d = .str ⟨#[c]⟩ := by
      rw [List.getElem?_map] at hd
      have e3 : x.cps.toList[i]? = some c := by simpa using hc
      rw [e3] at hd
      simpa using hd.symm
    subst this
    exact ⟨.refl _ _, r2, .str _⟩
  | _ => exact g1.elim
/-- zip of two tuples -/
def zipD : List D → List D → List D
  | x :: xs, y :: ys => .tup [x, y] :: zipD xs ys
  | _, _ => []
theorem zipD_get : ∀ {xs ys : List D} {i : Nat} {d : D}, (zipD xs ys)[i]? = some d → ∃ x y, xs[i]? = some x ∧ ys[i]? = some y ∧ d = .tup [x, y]
  | [], _, _, _, h => by simp [zipD] at h
  | _ :: _, [], _, _, h => by simp [zipD] at h
  | x :: xs, y :: ys, 0, d, h => by simp [zipD] at h; exact ⟨x, y, rfl, rfl, h.symm⟩
  | x :: xs, y :: ys, i + 1, d, h => by simpa using zipD_get (xs := xs) (ys := ys) (i := i) (by simpa [zipD] using h)
theorem zipD_len : ∀ {xs ys : List D}, (zipD xs ys).length = min xs.length ys.length
  | [], _ => by simp [zipD]
  | _ :: _, [] => by simp [zipD]
  | x :: xs, y :: ys => by simp only [zipD, List.length_cons, zipD_len (xs := xs) (ys := ys)]; omega
def iZipM (fs : AM) : IM := fun loc hp => (fs loc hp).bind fun ds hp1 => match ds with
  | [.tup xs, .tup ys] => .ok ⟨zipD xs ys, none⟩ hp1
  | _ => .bad
theorem si_zip {a b : PySem.Expr} {p tpos : Pos} {elts : List PySem.Expr} {kk : Nat} {fs : AM} (hm : X.mg "zip" = none) (ha : SA X W [a, b] fs) (hg : Gl X "zip" := by rfl) (hs : starEach [a, b] X.env = (false, eval a X.env) :: starEach [b] X.env := by rfl)
    (hpl : (backTo pos (starEach [b] X.env)).any (·.1) = false := by rfl) : SI X W (.Tuple elts kk tpos) (.Call (.Name "zip" p) [a, b] [] pos) (iZipM fs) := (RZ.pi_zipA hg hm ha hs hpl).weak fun σ H R ⟨A, loc, hp, r, hl, q⟩ => by
  refine ⟨A, loc, hp, r, hl, (Good.bind (R := RpL X.K) q).mono ?_⟩
  rintro vs H1 ⟨A1, hp1, ds, e1, r1, q1, g1⟩
  split at g1
  · rename_i xs ys
    cases q1 with
    | cons qx qr =>
      cases qr with
      | cons qy qn =>
        cases qn
        obtain ⟨a1, vx, rfl, tx, rx⟩ := qx.tup_inv
        obtain ⟨a2, vy, rfl, ty, ry⟩ := qy.tup_inv
        refine ⟨a1, a2, vx, vy, rfl, .inr ⟨tx.sq, ty.sq, g1 A1 H1 _ (.refl _ _) r1 ?_⟩⟩
        intro A2 H2 hp2 e2 r2 _
        have sx := (tx.ext e2).sq
        have sy := (ty.ext e2).sq
        have lx := rx.length
        have ly := ry.length
        refine ⟨fun i hi => ?_, fun i d x H' hd hy => ?_, fun i hi => ?_⟩
        · have hi : i < (zipD xs ys).length := hi
          rw [zipD_len] at hi
          have h1 : i < vx.length := by omega
          have h2 : i < vy.length := by omega
          exact ⟨vx, vy, vx[i], vy[i], sx, sy, by simp [h1], by simp [h2]⟩
        · obtain ⟨x1, y1, hx, hy1, rfl⟩ := zipD_get hd
          obtain ⟨T, vx1, vy1, rfl, nT, rfl, kx, ky⟩ := hy
          obtain ⟨u1, hu1, p1⟩ := (rx.ext e2).get hx
          obtain ⟨u2, hu2, p2⟩ := (ry.ext e2).get hy1
          have := kx vx sx
          rw [hu1] at this; cases this
          have := ky vy sy
          rw [hu2] at this; cases this
          obtain ⟨e3, r3⟩ := r2.new (o := .tup [vx1, vy1]) nT
          exact ⟨e3, r3, .tup (.new (r2.fresh nT)) (.cons (p1.ext e3) (.cons (p2.ext e3) .nil))⟩
        · have hi : (zipD xs ys).length ≤ i := hi
          rw [zipD_len] at hi
          exact ⟨vx, vy, sx, sy, by omega⟩
  · exact g1.elim

/-! ### for -/
def forGo (it : Itm) (g : Tg) (body : SM) : List D → Loc → HM → SO
  | [], loc, hp => if it.chk hp = true then .nx loc hp else .bad
  | d :: ds, loc, hp => if it.chk hp = true then (match g d loc with
    | some loc1 => match body loc1 hp with
      | .nx l h => forGo it g body ds l h
      | .ct l h => forGo it g body ds l h
      | .bk l h => .nx l h
      | .rt d h => .rt d h
      | .exc e l h => .exc e l h
      | .bad => .bad
    | none => .bad) else .bad
def sFor (i : IM) (g : Tg) (body : SM) : SM := fun loc hp => sE (i loc hp) loc fun it hp1 => forGo it g body it.ds loc hp1
theorem ss_for {tg iter : PySem.Expr} {body : List Stmt} {fi : IM} {t : TG} {g : Tg} {fb : SM} (hp : PassesOwn (model X.prog X.w) X.A X.env X.xe) (hi : SI X W tg iter fi) (hg : PG X tg t) (hr : TgR X.K X.mg t g) (hb : SSs X W body fb) (hc : X.calm = true := by rfl)
    (hs : ∀ x, foldedSetIterable iter X.env x = pure x := by intro _; rfl) : SS X W (.For tg iter body [] pos) (sFor fi g fb) := (ps_for hp hc hi hg hb hs).weak fun T σ H ⟨A, loc, hp, r, hl, q⟩ => by
  refine ⟨A, loc, hp, r, hl, (GoodS.bind hl q).mono ?_⟩
  rintro J H1 ⟨A1, hp1, it, e1, r1, y1, l1, g1⟩
  refine ⟨fun i m σ2 H2 => m = it.ds.length - i ∧ i ≤ it.ds.length ∧ ∃ A2 loc2 hp2, Ext A1 H1 A2 H2 ∧ HRel X.K X.mg A2 H2 hp2 ∧ LocR X.K A2 H2 σ2 loc2 ∧ GoodS X.K X.mg W A2 H2 (forGo it g fb (it.ds.drop i) loc2 hp2) T,
    ⟨_, rfl, Nat.zero_le _, A1, loc, hp1, .refl _ _, r1, l1, by simpa using g1⟩, ?_⟩
  rintro i m σ2 H2 ⟨rfl, hi, A2, loc2, hp2, e2, r2, l2, g2⟩
  by_cases hlt : i < it.ds.length
  · rw [List.drop_eq_getElem_cons hlt] at g2
    unfold forGo at g2
    by_cases hc : it.chk hp2 = true
    · rw [if_pos hc] at g2
      obtain ⟨ygo, yyl, _⟩ := y1 A2 H2 hp2 e2 r2 hc
      refine .inr ⟨ygo i hlt, fun σ' H' => it.ds.length - (i + 1) = it.ds.length - (i + 1) ∧ i + 1 ≤ it.ds.length ∧ ∃ A2 loc2 hp2, Ext A1 H1 A2 H' ∧ HRel X.K X.mg A2 H' hp2 ∧ LocR X.K A2 H' σ' loc2 ∧ GoodS X.K X.mg W A2 H' (forGo it g fb (it.ds.drop (i + 1)) loc2 hp2) T,
        fun σ' H' w => ⟨it.ds.length - (i + 1), by omega, w⟩, fun x H' hy => ?_⟩
      obtain ⟨e3, r3, q3⟩ := yyl i it.ds[i] x H' (by simp [hlt]) hy
      cases hgd : g it.ds[i] loc2 with
      | none => rw [hgd] at g2; exact g2.elim
      | some loc3 =>
        rw [hgd] at g2
        refine hr A2 H' hp2 x it.ds[i] σ2 loc2 loc3 _ r3 q3 (l2.ext e3) hgd fun σ3 l3 => ⟨A2, loc3, hp2, r3, l3, ?_⟩
        have g3 := GoodS.ext g2 e3
        simp only at g3
        cases o : fb loc3 hp2 with
        | nx l h => rw [o] at g3; exact fun A4 H4 σ4 e4 r4 l4 => ⟨rfl, hlt, A4, l, h, (e2.trans e3).trans e4, r4, l4, g3.ext e4⟩
        | ct l h => rw [o] at g3; exact fun A4 H4 σ4 e4 r4 l4 => ⟨rfl, hlt, A4, l, h, (e2.trans e3).trans e4, r4, l4, g3.ext e4⟩
        | bk l h => rw [o] at g3; exact g3
        | rt d h => rw [o] at g3; exact g3
        | exc x l h => rw [o] at g3; exact g3
        | bad => rw [o] at g3; exact g3
    · rw [if_neg hc] at g2; exact g2.elim
  · have he : i = it.ds.length := by omega
    subst he
    rw [List.drop_length] at g2
    unfold forGo at g2
    by_cases hc : it.chk hp2 = true
    · rw [if_pos hc] at g2
      obtain ⟨_, _, ys⟩ := y1 A2 H2 hp2 e2 r2 hc
      exact .inl ⟨ys _ (Nat.le_refl _), g2 A2 H2 σ2 (.refl _ _) r2 l2⟩
    · rw [if_neg hc] at g2; exact g2.elim

/-! ### while, with fuel -/
def whileGo (t : TM) (body : SM) : Nat → Loc → HM → SO
  | 0, _, _ => .bad
  | n + 1, loc, hp => sE (t loc hp) loc fun b hp1 => if b = true then (match body loc hp1 with
    | .nx l h => whileGo t body n l h
    | .ct l h => whileGo t body n l h
    | .bk l h => .nx l h
    | .rt d h => .rt d h
    | .exc e l h => .exc e l h
    | .bad => .bad) else .nx loc hp1
def sWhile (n : Nat) (t : TM) (body : SM) : SM := whileGo t body n
theorem ss_while {c : PySem.Expr} {body : List Stmt} {t : TM} {fb : SM} (n : Nat) (hp : PassesOwn (model X.prog X.w) X.A X.env X.xe) (hc : STt X W c t) (hb : SSs X W body fb) : SS X W (.While c body [] pos) (sWhile n t fb) := (ps_while hp hc hb).weak fun T σ H ⟨A, loc, hp, r, hl, q⟩ => by
  refine ⟨fun m σ2 H2 => ∃ A2 loc2 hp2, HRel X.K X.mg A2 H2 hp2 ∧ LocR X.K A2 H2 σ2 loc2 ∧ GoodS X.K X.mg W A2 H2 (whileGo t fb m loc2 hp2) T, ⟨n, A, loc, hp, r, hl, q⟩, ?_⟩
  rintro m σ2 H2 ⟨A2, loc2, hp2, r2, l2, g2⟩
  cases m with
  | zero => exact g2.elim
  | succ m =>
    refine ⟨A2, loc2, hp2, r2, l2, (GoodS.bind (R := RB) l2 g2).mono ?_⟩
    rintro b H3 ⟨A3, hp3, b', e3, r3, q3, l3, g3⟩
    cases q3
    cases b with
    | true =>
      simp only [if_true] at g3 ⊢
      refine ⟨_, fun σ' H' w => ⟨m, Nat.lt_succ_self m, w⟩, A3, loc2, hp3, r3, l3, ?_⟩
      cases o : fb loc2 hp3 with
      | nx l h => rw [o] at g3; exact fun A4 H4 σ4 e4 r4 l4 => ⟨A4, l, h, r4, l4, g3.ext e4⟩
      | ct l h => rw [o] at g3; exact fun A4 H4 σ4 e4 r4 l4 => ⟨A4, l, h, r4, l4, g3.ext e4⟩
      | bk l h => rw [o] at g3; exact g3
      | rt d h => rw [o] at g3; exact g3
      | exc x l h => rw [o] at g3; exact g3
      | bad => rw [o] at g3; exact g3
    | false => exact iteF (g3 A3 H3 σ2 (.refl _ _) r3 l3)

/-! ### a def -/
mutual
def okD (n : Nat) : D → Bool
  | .ref m => decide (m < n)
  | .tup ds => okL n ds
  | .lst ds => okL n ds
  | _ => true
def okL (n : Nat) : List D → Bool
  | [] => true
  | d :: r => okD n d && okL n r
end
def okM (n : Nat) : MO → Bool
  | .lst ds => okL n ds
  | .ins _ fs => fs.all fun p => okD n p.2
section
variable {K : PySem.W.Frag} {mg : Str → Option Value} {A : List Addr} {H : Hp} {hp : HM}
theorem not_take {n : Nat} {a : Addr} (h : a ∉ A) : a ∉ A.take n := fun q => h (List.mem_of_mem_take q)
mutual
theorem Rp.cut {n : Nat} : ∀ {v : V} {d : D}, okD n d = true → Rp K A H v d → Rp K (A.take n) H v d
  | _, _, _, .non => .non
  | _, _, _, .bl b => .bl b
  | _, _, _, .int i => .int i
  | _, _, _, .str x => .str x
  | _, _, h, .tup (.own h1 h2) r => .tup (.own (not_take h1) h2) (RpL.cut (by simpa [okD] using h) r)
  | _, _, h, .tup (.wr h1) r => .tup (.wr h1) (RpL.cut (by simpa [okD] using h) r)
  | _, _, h, .lst (.own h1 h2) r => .lst (.own (not_take h1) h2) (RpL.cut (by simpa [okD] using h) r)
  | _, _, _, .scr (.own h1 h2) => .scr (.own (not_take h1) h2)
  | _, _, _, .scr (.wr h1) => .scr (.wr h1)
  | _, .ref m, h, .ref h1 => .ref (by
    have h2 : m < n := by simpa [okD] using h
    rw [List.getElem?_take_of_lt h2]; exact h1)
theorem RpL.cut {n : Nat} : ∀ {vs : List V} {ds : List D}, okL n ds = true → RpL K A H vs ds → RpL K (A.take n) H vs ds
  | _, _, _, .nil => .nil
  | _, d :: ds, h, .cons r rs => by
    have h2 : okD n d = true ∧ okL n ds = true := by simpa [okL] using h
    exact .cons (Rp.cut h2.1 r) (RpL.cut h2.2 rs)
end
theorem FldR.cut {n : Nat} : ∀ {xs : List (Str × V)} {ys : List (Str × D)}, (ys.all fun p => okD n p.2) = true → FldR K A H xs ys → FldR K (A.take n) H xs ys
  | _, _, _, .nil => .nil
  | _ :: _, y :: ys, h, .cons r t => by
    rw [List.all_cons, Bool.and_eq_true] at h
    exact .cons ⟨r.1, r.2.cut h.1⟩ (FldR.cut h.2 t)
theorem HRel.cut {n : Nat} (r : HRel K mg A H hp) (h : ((hp.take n).all fun m => okM n m) = true) : HRel K mg (A.take n) H (hp.take n) := by
  refine ⟨by simp [r.len], r.nd.sublist (List.take_sublist _ _), fun j mo a h1 h2 => ?_⟩
  have hj : j < n := by
    have := (List.getElem?_eq_some_iff.mp h1).1
    simp at this
    omega
  have hm : okM n mo = true := List.all_eq_true.mp h mo (List.mem_of_getElem? h1)
  rw [List.getElem?_take_of_lt hj] at h1 h2
  have := r.ob j mo a h1 h2
  cases mo with
  | lst ds =>
    obtain ⟨vs, q1, q2⟩ := this
    exact ⟨vs, q1, q2.cut hm⟩
  | ins c fs =>
    obtain ⟨C, dx, vfs, q0, q1, q2, q3, q4⟩ := this
    exact ⟨C, dx, vfs, q0, q1, q2, not_take q3, q4.cut hm⟩
theorem Ext.cut {A' : List Addr} {H' : Hp} (e : Ext A H A' H') : Ext A H (A'.take A.length) H' := by
  refine ⟨⟨[], ?_⟩, fun a o h n => ?_⟩
  · obtain ⟨m, q⟩ := e.pre
    rw [q]; simp
  · obtain ⟨h1, n1⟩ := e.keep a o h n
    exact ⟨h1, not_take n1⟩
end
/-- what a def hands back when its own changing objects are given up -/
def frz (n : Nat) (hp : HM) (d : D) : Option D := match d with
  | .ref m => if m < n then some (.ref m) else match hp[m]? with
    | some (.lst ds) => if okL n ds = true then some (.lst ds) else none
    | _ => none
  | d => if okD n d = true then some d else none
/-- a def's mirror: n parameters, l names in all; its own changing objects are given up -/
def fnOf (n l : Nat) (body : SM) : Fn := fun ds hp => match body (ds.map some ++ List.replicate (l - n) none) hp with
  | .rt d hp' => if ((hp'.take hp.length).all fun m => okM hp.length m) = true then (match frz hp.length hp' d with
    | some d' => .ok d' (hp'.take hp.length)
    | none => .bad) else .bad
  | .nx _ hp' => if ((hp'.take hp.length).all fun m => okM hp.length m) = true then .ok .non (hp'.take hp.length) else .bad
  | .exc e _ hp' => if ((hp'.take hp.length).all fun m => okM hp.length m) = true then .exc e (hp'.take hp.length) else .bad
  | _ => .bad
/-- .. all is kept -/
def fnKeep (n l : Nat) (body : SM) : Fn := fun ds hp => match body (ds.map some ++ List.replicate (l - n) none) hp with
  | .rt d hp' => .ok d hp'
  | .nx _ hp' => .ok .non hp'
  | .exc e _ hp' => .exc e hp'
  | _ => .bad
theorem start_rel {K : PySem.W.Frag} {A : List Addr} {H : Hp} {vs : List V} {ds : List D} {N : List Str} {n : Nat} (h : RpL K A H vs ds) (hn : vs.length = n) (hj : Amb.J A H (L2.start N vs)) : LocR K A H (L2.start N vs) (ds.map some ++ List.replicate (N.length - n) none) := by
  refine ⟨by simp [L2.start, h.length, ← hn], fun i d hd => ?_, hj⟩
  by_cases hi : i < ds.length
  · rw [List.getElem?_append_left (by simpa using hi)] at hd
    rw [List.getElem?_map] at hd
    cases q : ds[i]? with
    | none => rw [q] at hd; cases hd
    | some d' =>
      rw [q] at hd
      simp only [Option.map_some, Option.some.injEq] at hd
      subst hd
      obtain ⟨v, hv, r⟩ := h.get q
      refine ⟨v, ?_, r⟩
      unfold L2.start
      rw [List.getElem?_append_left (by simp [h.length]; exact hi), List.getElem?_map, hv]
      rfl
  · rw [List.getElem?_append_right (by simpa using hi)] at hd
    rw [List.getElem?_replicate] at hd
    split at hd <;> cases hd
section
variable {P : Program} {w : World} {K : PySem.W.Frag} {mg : Str → Option Value} {base : Heap}
/-- in a def's body an exception leaves it -/
abbrev WD (E : XK) : WX := fun cls d _ H => E cls d H
theorem okXz {CX : CXT} {x qual : Str} {st : Stmt} {f : Addr} {fd : FuncData} {N ps : List Str} {k : Nat} {sp : Sp} (F : Fun K x qual st f fd) (S : FnScope N ps (defScope st)) (len : ∀ vs H Q E, sp vs H Q E → vs.length = ps.length)
    (hbody : ∀ (cdv : Value) (A : Around) (outer : List Env) (s : Shared) (H : Hp) (vs : List V) (Q : VK) (E : XK), Room k (A.deeper (PyProof.Rows.envOfC qual (defScope st) s.heap.objs.size f cdv)) → sp vs H Q E →
      ∃ t, PSs (cxOf CX P w K mg base N qual (defScope st) f cdv A outer s H E) (defBody st) t ∧ t { nx := fun _ H' => Q .non H', rt := Q } (start N vs) H) : FnOk P w K mg base CX (k + 1) f fd ps sp := by
  obtain ⟨oc, od, kV, doc, pm, an, cdv, ct, osl, rfl, lk, hcd⟩ := F.ex
  exact fn_of lk hcd S len fun A outer s H vs Q E hr hsp => hbody cdv A outer s H vs Q E hr hsp
theorem fn_sim {z : Bool} {x q : Str} {st : Stmt} {f : Addr} {fd : FuncData} {N ps : List Str} {k n : Nat} {body : SM} (F : Fun K x q st f fd) (S : FnScope N ps (defScope st)) (hn : ps.length = n)
    (hbody : ∀ (cdv : Value) (A : Around) (outer : List Env) (s : Shared) (H : Hp) (E : XK), Room k (A.deeper (PyProof.Rows.envOfC q (defScope st) s.heap.objs.size f cdv)) →
      SSs (cxOf (CXz z P w) P w K mg base N q (defScope st) f cdv A outer s H E) (WD E) (defBody st) body) (hj : ∀ A H σ, Amb.J A H σ := by exact fun _ _ _ => trivial) : FnOk P w K mg base (CXz z P w) (k + 1) f fd ps (spOf K mg n (fnOf n N.length body)) := by
  refine okXz F S (fun vs H Q E h => h.1.trans hn.symm) fun cdv A outer s H vs Q E hr h => ?_
  obtain ⟨hl, A1, hp, ds, r, q, g⟩ := h
  refine ⟨_, hbody cdv A outer s H E hr, A1, _, hp, r, start_rel q hl (hj _ _ _), ?_⟩
  unfold fnOf at g
  cases o : body (ds.map some ++ List.replicate (N.length - n) none) hp with
  | rt d hp' =>
    rw [o] at g
    simp only at g
    by_cases hk : ((hp'.take hp.length).all fun m => okM hp.length m) = true
    · rw [if_pos hk] at g
      intro A2 H2 v e2 r2 q2
      have r3 := r2.cut hk
      rw [← r.len] at r3
      cases d with
      | ref m =>
        simp only [frz] at g
        by_cases hm : m < hp.length
        · rw [if_pos hm] at g
          rw [← r.len] at g hm
          exact g _ H2 v e2.cut r3 (q2.cut (by simpa [okD] using hm))
        · rw [if_neg hm] at g
          obtain ⟨a, rfl, ha⟩ := q2.ref_inv
          have hl2 : m < hp'.length := by rw [← r2.len]; exact (List.getElem?_eq_some_iff.mp ha).1
          rw [List.getElem?_eq_getElem hl2] at g
          cases hq : hp'[m] with
          | lst ds' =>
            rw [hq] at g
            simp only at g
            by_cases hz : okL hp.length ds' = true
            · rw [if_pos hz] at g
              rw [← r.len] at g hz hm
              obtain ⟨vs', h1, h2⟩ := r2.ob m _ a (by rw [List.getElem?_eq_getElem hl2, hq]) ha
              refine g _ H2 _ e2.cut r3 (.lst (.own (fun z => ?_) h1) (h2.cut hz))
              obtain ⟨j, hj⟩ := List.mem_iff_getElem?.mp z
              have hjn : j < A1.length := by
                have := (List.getElem?_eq_some_iff.mp hj).1
                simp at this
                omega
              rw [List.getElem?_take_of_lt hjn] at hj
              obtain ⟨_, e1⟩ := List.getElem?_eq_some_iff.mp hj
              obtain ⟨_, e3⟩ := List.getElem?_eq_some_iff.mp ha
              have := (List.getElem_inj r2.nd).mp (e1.trans e3.symm)
              omega
            · rw [if_neg hz] at g; exact g.elim
          | ins c fs => rw [hq] at g; exact g.elim
      | _ =>
        simp only [frz] at g
        split at g
        · rename_i d' hd
          split at hd
          · rename_i hz
            simp only [Option.some.injEq] at hd
            subst hd
            rw [← r.len] at g hz
            exact g _ H2 v e2.cut r3 (q2.cut hz)
          · cases hd
        · exact g.elim
    · rw [if_neg hk] at g; exact g.elim
  | nx l hp' =>
    rw [o] at g
    simp only at g
    by_cases hk : ((hp'.take hp.length).all fun m => okM hp.length m) = true
    · rw [if_pos hk] at g
      intro A2 H2 σ2 e2 r2 q2
      have r3 := r2.cut hk
      rw [← r.len] at r3 g
      exact g _ H2 .non e2.cut r3 .non
    · rw [if_neg hk] at g; exact g.elim
  | exc x l hp' =>
    rw [o] at g
    simp only at g
    by_cases hk : ((hp'.take hp.length).all fun m => okM hp.length m) = true
    · rw [if_pos hk] at g
      intro A2 H2 σ2 c od e2 r2 q2 hx
      have r3 := r2.cut hk
      rw [← r.len] at r3 g
      exact g _ H2 c od e2.cut r3 hx
    · rw [if_neg hk] at g; exact g.elim
  | bk l h => rw [o] at g; exact g.elim
  | ct l h => rw [o] at g; exact g.elim
  | bad => rw [o] at g; exact g.elim
theorem fn_keep {z : Bool} {x q : Str} {st : Stmt} {f : Addr} {fd : FuncData} {N ps : List Str} {k n : Nat} {body : SM} (F : Fun K x q st f fd) (S : FnScope N ps (defScope st)) (hn : ps.length = n)
    (hbody : ∀ (cdv : Value) (A : Around) (outer : List Env) (s : Shared) (H : Hp) (E : XK), Room k (A.deeper (PyProof.Rows.envOfC q (defScope st) s.heap.objs.size f cdv)) →
      SSs (cxOf (CXz z P w) P w K mg base N q (defScope st) f cdv A outer s H E) (WD E) (defBody st) body) (hj : ∀ A H σ, Amb.J A H σ := by exact fun _ _ _ => trivial) : FnOk P w K mg base (CXz z P w) (k + 1) f fd ps (spOf K mg n (fnKeep n N.length body)) := by
  refine okXz F S (fun vs H Q E h => h.1.trans hn.symm) fun cdv A outer s H vs Q E hr h => ?_
  obtain ⟨hl, A1, hp, ds, r, q, g⟩ := h
  refine ⟨_, hbody cdv A outer s H E hr, A1, _, hp, r, start_rel q hl (hj _ _ _), ?_⟩
  unfold fnKeep at g
  cases o : body (ds.map some ++ List.replicate (N.length - n) none) hp with
  | rt d hp' => rw [o] at g; exact g
  | nx l hp' => rw [o] at g; exact fun A2 H2 σ2 e2 r2 q2 => g A2 H2 .non e2 r2 .non
  | exc x l hp' => rw [o] at g; exact fun A2 H2 σ2 c od e2 r2 q2 hx => g A2 H2 c od e2 r2 hx
  | bk l h => rw [o] at g; exact g.elim
  | ct l h => rw [o] at g; exact g.elim
  | bad => rw [o] at g; exact g.elim
end
end
end Ms

namespace Ms
open PySem L2
variable [Amb]
section
variable {K : PySem.W.Frag} {mg : Str → Option Value} {A : List Addr} {H : Hp} {hp : HM} {W : WX} {σ : L2.St}

/-! ### built-in functions -/
/-- one operand -/
def gOne (f : D → HM → O D) : Fn := fun ds hp => match ds with
  | [d] => f d hp
  | _ => .bad
theorem one_of {v : List V} {ds : List D} {f : D → HM → O D} {Q : VK} (q : RpL K A H v ds) (g : Good K mg W σ (Rp K) A H (gOne f ds hp) Q) : ∃ x d, v = [x] ∧ ds = [d] ∧ Rp K A H x d ∧ Good K mg W σ (Rp K) A H (f d hp) Q := by
  match ds, q, g with
  | [], _, g => exact g.elim
  | [d], q, g =>
    cases q with
    | cons q1 qn => cases qn; exact ⟨_, d, rfl, rfl, q1, g⟩
  | _ :: _ :: _, _, g => exact g.elim
def gLen : Fn := gOne fun d hp => match d with
  | .str x => if x.length ≤ big then .ok (.int x.length) hp else .bad
  | d => match seqOf hp d with
    | some xs => .ok (.int xs.length) hp
    | none => .bad
theorem cg_len : CallG K mg (fun xs H Q => ∃ x n, xs = [x] ∧ LenV K x H n ∧ Q (.int (n : Nat)) H) gLen := fun W σ A H hp vs ds Q r q g => by
  obtain ⟨x, d, rfl, rfl, q1, g⟩ := one_of q g
  have low : Good K mg W σ (Rp K) A H (match seqOf hp d with
      | some xs => .ok (.int xs.length) hp
      | none => .bad) Q → ∃ x' n, [x] = [x'] ∧ LenV K x' H n ∧ Q (.int (n : Nat)) H := fun g' => by
    cases h1 : seqOf hp d with
    | none => rw [h1] at g'; exact g'.elim
    | some xs =>
      rw [h1] at g'
      obtain ⟨p, ws, rfl, s, rl⟩ := seqOf_rp r q1 h1
      refine ⟨_, xs.length, rfl, ?_, g'.here r (.int _)⟩
      rcases s with s | s
      · exact .inl ⟨ws, s, rl.length.symm⟩
      · exact .inr ⟨ws, s, rl.length.symm⟩
  cases d with
  | str z =>
    simp only at g
    by_cases hz : z.length ≤ big
    · rw [if_pos hz] at g
      exact ⟨_, z.length, rfl, by rw [q1.str_inv]; exact ⟨big_line hz, rfl⟩, g.here r (.int _)⟩
    · rw [if_neg hz] at g; exact g.elim
  | _ => exact low g
theorem lstOf_of {d : D} {ds : List D} (nt : ∀ ys, d ≠ .tup ys) (r : HRel K mg A H hp) {v : V} (q : Rp K A H v d) (h : seqOf hp d = some ds) : ∃ p vs, v = .ref p ∧ SqL K H p vs ∧ RpL K A H vs ds := by
  have low : lstOf hp d = some ds → ∃ p vs, v = .ref p ∧ SqL K H p vs ∧ RpL K A H vs ds := fun h => by
    obtain ⟨p, vs, e, h1, h2⟩ := lstOf_rp r q h
    exact ⟨p, vs, e, SqL.of h1, h2⟩
  cases d with
  | tup ds' => exact absurd rfl (nt ds')
  | scr ns =>
    simp only [seqOf, Option.some.injEq] at h
    subst h
    cases q with
    | scr h1 => exact ⟨_, _, rfl, h1.sq, ints_rpl⟩
  | lst _ => exact low h
  | ref _ => exact low h
  | non => exact low h
  | bl _ => exact low h
  | int _ => exact low h
  | str _ => exact low h
def gTuple : Fn := gOne fun d hp => match d with
  | .tup xs => .ok (.tup xs) hp
  | d => match seqOf hp d with
    | some xs => .ok (.tup xs) hp
    | none => .bad
theorem cg_tuple : CallG K mg (fun xs H Q => ∃ p ys, xs = [.ref p] ∧ ((SqL K H p ys ∧ ∀ l, H l = none → Q (.ref l) (upd H l (.tup ys))) ∨ (SqT K H p ys ∧ Q (.ref p) H))) gTuple := fun W σ A H hp vs ds Q r q g => by
  obtain ⟨x, d, rfl, rfl, q1, g⟩ := one_of q g
  have low : (∀ ys, d ≠ .tup ys) → Good K mg W σ (Rp K) A H (match seqOf hp d with
          | some xs => .ok (.tup xs) hp
          | none => .bad) Q → ∃ p ys, [x] = [V.ref p] ∧ ((SqL K H p ys ∧ ∀ l, H l = none → Q (.ref l) (upd H l (.tup ys))) ∨ (SqT K H p ys ∧ Q (.ref p) H)) := fun nt g' => by
    cases h1 : seqOf hp d with
    | none => rw [h1] at g'; exact g'.elim
    | some xs =>
      rw [h1] at g'
      obtain ⟨p, ws, rfl, s, rl⟩ := lstOf_of nt r q1 h1
      exact ⟨p, ws, rfl, .inl ⟨s, new_tup r rl g'⟩⟩
  cases d with
  | tup ys =>
    have q2 := q1
    obtain ⟨a, ws, rfl, t, rl⟩ := q1.tup_inv
    exact ⟨a, ws, rfl, .inr ⟨t.sq, g.here r q2⟩⟩
  | _ => exact low (by intro z h; cases h) g
def gStr : Fn := gOne fun d hp => match d with
  | .int i => if i.natAbs < 2 ^ 1000 then .ok (.str (toString i : String)) hp else .bad
  | _ => .bad
def gInt : Fn := gOne fun d hp => match d with
  | .int i => .ok (.int i) hp
  | .bl b => .ok (.int (if b then 1 else 0)) hp
  | .str a => match PySem.intText? a with
    | some n => if a.length ≤ 640 then .ok (.int n) hp else .bad
    | none => .bad
  | _ => .bad
theorem cg_int : CallG K mg (fun xs H Q => ((∃ i, xs = [.int i] ∧ Q (.int i) H) ∨ ∃ k, xs = [.bl k] ∧ Q (.int (if k then 1 else 0)) H) ∨ ∃ a n, xs = [.str a] ∧ PySem.intText? a = some n ∧ a.length ≤ 640 ∧ Q (.int n) H) gInt := fun W σ A H hp vs ds Q r q g => by
  obtain ⟨x, d, rfl, rfl, q1, g⟩ := one_of q g
  cases d with
  | int i => exact .inl (.inl ⟨i, by rw [q1.int_inv], g.here r (.int _)⟩)
  | bl b => exact .inl (.inr ⟨b, by rw [q1.bl_inv], g.here r (.int _)⟩)
  | str a =>
    simp only at g
    cases h : PySem.intText? a with
    | none => rw [h] at g; exact g.elim
    | some n =>
      rw [h] at g
      simp only at g
      by_cases hz : a.length ≤ 640
      · rw [if_pos hz] at g
        exact .inr ⟨a, n, by rw [q1.str_inv], h, hz, g.here r (.int _)⟩
      · rw [if_neg hz] at g; exact g.elim
  | _ => exact g.elim
def gMin2 : Fn := fun ds hp => match ds with
  | [.int i, .int j] => .ok (.int (if j < i then j else i)) hp
  | _ => .bad
def gMax2 : Fn := fun ds hp => match ds with
  | [.int i, .int j] => .ok (.int (if j > i then j else i)) hp
  | _ => .bad
theorem cg_min2 : CallG K mg (fun xs H Q => ∃ i j, xs = [.int i, .int j] ∧ Q (.int (if j < i then j else i)) H) gMin2 := fun W σ A H hp vs ds Q r q g => by
  unfold gMin2 at g
  split at g
  · rename_i i j
    exact ⟨i, j, rpl_ints (ns := [i, j]) q, g.here r (.int _)⟩
  · exact g.elim
theorem cg_max2 : CallG K mg (fun xs H Q => ∃ i j, xs = [.int i, .int j] ∧ Q (.int (if j > i then j else i)) H) gMax2 := fun W σ A H hp vs ds Q r q g => by
  unfold gMax2 at g
  split at g
  · rename_i i j
    exact ⟨i, j, rpl_ints (ns := [i, j]) q, g.here r (.int _)⟩
  · exact g.elim
/-- truth values -/
def blsOf : List D → Option (List Bool)
  | [] => some []
  | .bl b :: r => (blsOf r).map (b :: ·)
  | _ => none
theorem blsOf_rp : ∀ {ds : List D} {vs : List V} {bs : List Bool}, RpL K A H vs ds → blsOf ds = some bs → vs = bs.map V.bl
  | [], _, bs, .nil, h => by simp [blsOf] at h; subst h; rfl
  | d :: r, _, bs, .cons q qs, h => by
    cases d with
    | bl b =>
      simp only [blsOf] at h
      cases h1 : blsOf r with
      | none => rw [h1] at h; cases h
      | some bs' =>
        rw [h1] at h
        simp only [Option.map_some, Option.some.injEq] at h
        subst h
        rw [q.bl_inv, blsOf_rp qs h1]; rfl
    | _ => cases h
def gBls (f : List Bool → Bool) : Fn := gOne fun d hp => match lstOf hp d with
  | some ds => match blsOf ds with
    | some bs => .ok (.bl (f bs)) hp
    | none => .bad
  | none => .bad
theorem cg_bls {f : List Bool → Bool} : CallG K mg (fun vs H Q => ∃ (a : Addr) (bs : List Bool), vs = [V.ref a] ∧ SqL K H a (bs.map V.bl) ∧ Q (.bl (f bs)) H) (gBls f) := fun W σ A H hp vs ds Q r q g => by
  obtain ⟨x, d, rfl, rfl, q1, g⟩ := one_of q g
  cases h : lstOf hp d with
  | none => rw [h] at g; exact g.elim
  | some ds =>
    rw [h] at g
    simp only at g
    cases h2 : blsOf ds with
    | none => rw [h2] at g; exact g.elim
    | some bs =>
      rw [h2] at g
      obtain ⟨p, ws, rfl, s, rl⟩ := lstOf_rp r q1 h
      have := blsOf_rp rl h2
      subst this
      exact ⟨p, bs, rfl, SqL.of s, g.here r (.bl _)⟩

/-! ### texts -/
def strsOf : List D → Option (List Str)
  | [] => some []
  | .str b :: r => (strsOf r).map (b :: ·)
  | _ => none
theorem strsOf_rp : ∀ {ds : List D} {vs : List V} {bs : List Str}, RpL K A H vs ds → strsOf ds = some bs → vs = bs.map V.str
  | [], _, bs, .nil, h => by simp [strsOf] at h; subst h; rfl
  | d :: r, _, bs, .cons q qs, h => by
    cases d with
    | str b =>
      simp only [strsOf] at h
      cases h1 : strsOf r with
      | none => rw [h1] at h; cases h
      | some bs' =>
        rw [h1] at h
        simp only [Option.map_some, Option.some.injEq] at h
        subst h
        rw [q.str_inv, strsOf_rp qs h1]; rfl
    | _ => cases h
theorem strs_rpl : ∀ {ss : List Str}, RpL K A H (ss.map V.str) (ss.map D.str)
  | [] => .nil
  | s :: r => .cons (.str s) strs_rpl
/-- o.m(e) of a text -/
def eM1 (g : D → D → HM → O D) (fo fe : EM) : EM := fun loc hp => (fo loc hp).bind fun x hp1 => match x with
  | .str a => (fe loc hp1).bind fun y hp2 => g (.str a) y hp2
  | _ => .bad
def MtG (K : PySem.W.Frag) (mg : Str → Option Value) (r : V → List V → Hp → VK → Prop) (g : D → D → HM → O D) : Prop :=
  ∀ (W : WX) (σ : L2.St) (A : List Addr) (H : Hp) (hp : HM) (v1 v2 : V) (d1 d2 : D) (Q : VK), HRel K mg A H hp → Rp K A H v1 d1 → Rp K A H v2 d2 → Good K mg W σ (Rp K) A H (g d1 d2 hp) Q → r v1 [v2] H Q
theorem m1_w {r : V → List V → Hp → VK → Prop} {g : D → D → HM → O D} {fo fe : EM} (hg : MtG K mg r g) : ∀ σ H Q, tG K mg W (Rp K) (eM1 g fo fe) σ H Q → tM1 r (tG K mg W (Rp K) fo) (tG K mg W (Rp K) fe) σ H Q := by
  rintro σ H Q ⟨A, loc, hp, hr, hl, hq⟩
  refine ⟨A, loc, hp, hr, hl, (Good.bind (R := Rp K) hq).mono ?_⟩
  rintro v1 H1 ⟨A1, hp1, d1, e1, r1, q1, g1⟩
  cases d1 with
  | str a =>
    refine ⟨⟨a, q1.str_inv⟩, A1, loc, hp1, r1, hl.ext e1, (Good.bind (R := Rp K) g1).mono ?_⟩
    rintro v2 H2 ⟨A2, hp2, d2, e2, r2, q2, g2⟩
    exact hg W σ A2 H2 hp2 v1 v2 _ d2 Q r2 (q1.ext e2) q2 g2
  | _ => exact g1.elim
def gSplit : D → D → HM → O D := fun x y hp => match x, y with
  | .str a, .str b => if (b.length == 0) = false ∧ a.length ≤ big then .ok (.lst ((Txt.split a b).map .str)) hp else .bad
  | _, _ => .bad
theorem mg_split : MtG K mg (fun x xs H Q => ∃ a b, x = .str a ∧ xs = [.str b] ∧ (b.length == 0) = false ∧ a.length + 2 ≤ sizeLine ∧ rNewStrs (Txt.split a b) H Q) gSplit := fun W σ A H hp v1 v2 d1 d2 Q r q1 q2 g => by
  cases d1 with
  | str a =>
    cases d2 with
    | str b =>
      simp only [gSplit] at g
      by_cases hz : (b.length == 0) = false ∧ a.length ≤ big
      · rw [if_pos hz] at g
        refine ⟨a, b, q1.str_inv, by rw [q2.str_inv], hz.1, ?_, new_lst r strs_rpl g⟩
        have := hz.2
        have e : sizeLine = 16777216 := sizeLine_eq
        simp only [big] at this
        omega
      · rw [if_neg hz] at g; exact g.elim
    | _ => exact g.elim
  | _ => exact g.elim
def gPart : D → D → HM → O D := fun x y hp => match x, y with
  | .str a, .str b => if (b.length == 0) = false ∧ a.length ≤ big then .ok (.tup [.str (Txt.partition a b).1, .str (Txt.partition a b).2.1, .str (Txt.partition a b).2.2]) hp else .bad
  | _, _ => .bad
theorem mg_part : MtG K mg (fun x xs H Q => ∃ a b, x = .str a ∧ xs = [.str b] ∧ (b.length == 0) = false ∧ a.length ≤ sizeLine ∧
    ∀ p, H p = none → Q (.ref p) (upd H p (.tup [.str (Txt.partition a b).1, .str (Txt.partition a b).2.1, .str (Txt.partition a b).2.2]))) gPart := fun W σ A H hp v1 v2 d1 d2 Q r q1 q2 g => by
  cases d1 with
  | str a =>
    cases d2 with
    | str b =>
      simp only [gPart] at g
      by_cases hz : (b.length == 0) = false ∧ a.length ≤ big
      · rw [if_pos hz] at g
        exact ⟨a, b, q1.str_inv, by rw [q2.str_inv], hz.1, big_line hz.2, new_tup r (.cons (.str _) (.cons (.str _) (.cons (.str _) .nil))) g⟩
      · rw [if_neg hz] at g; exact g.elim
    | _ => exact g.elim
  | _ => exact g.elim
def gJoin : D → D → HM → O D := fun x y hp => match x with
  | .str a => match seqOf hp y with
    | some ds => match strsOf ds with
      | some ss => if (ss.map (·.length)).sum + ss.length * a.length ≤ big then .ok (.str (Txt.join a ss)) hp else .bad
      | none => .bad
    | none => .bad
  | _ => .bad
theorem mg_join : MtG K mg (fun x xs H Q => ∃ a p, ∃ ys : List Str, x = .str a ∧ xs = [.ref p] ∧ (SqL K H p (ys.map V.str) ∨ SqT K H p (ys.map V.str)) ∧
    (ys.map (·.length)).sum + ys.length * a.length ≤ 16777216 ∧ Q (.str (Txt.join a ys)) H) gJoin := fun W σ A H hp v1 v2 d1 d2 Q r q1 q2 g => by
  cases d1 with
  | str a =>
    simp only [gJoin] at g
    cases h : seqOf hp d2 with
    | none => rw [h] at g; exact g.elim
    | some ds =>
      rw [h] at g
      simp only at g
      cases h2 : strsOf ds with
      | none => rw [h2] at g; exact g.elim
      | some ss =>
        rw [h2] at g
        simp only at g
        by_cases hz : (ss.map (·.length)).sum + ss.length * a.length ≤ big
        · rw [if_pos hz] at g
          obtain ⟨p, ws, rfl, s, rl⟩ := seqOf_rp r q2 h
          have := strsOf_rp rl h2
          subst this
          exact ⟨a, p, ss, q1.str_inv, rfl, s, Nat.le_trans hz (by decide), g.here r (.str _)⟩
        · rw [if_neg hz] at g; exact g.elim
  | _ => exact g.elim
section
variable {X : Cx} {W : WX} {e o : PySem.Expr} {es : List PySem.Expr} {pos : Pos} {fe fo : EM}
theorem se_split {apos : Pos} (ho : SE X W o fo) (he : SE X W e fe) (hs : starEach [e] X.env = [(false, eval e X.env)] := by rfl) (hbase : attributeBase o "split" X.env (eval o X.env) = eval o X.env := by rfl) (hline : (apos.endLine == pos.line) = true := by rfl) :
    SE X W (.Call (.Attribute o "split" apos) [e] [] pos) (eM1 gSplit fo fe) := (pe_split ho he hs hbase hline).weak (m1_w mg_split)
theorem se_part {apos : Pos} (ho : SE X W o fo) (he : SE X W e fe) (hs : starEach [e] X.env = [(false, eval e X.env)] := by rfl) (hbase : attributeBase o "partition" X.env (eval o X.env) = eval o X.env := by rfl) (hline : (apos.endLine == pos.line) = true := by rfl) :
    SE X W (.Call (.Attribute o "partition" apos) [e] [] pos) (eM1 gPart fo fe) := (pe_partition ho he hs hbase hline).weak (m1_w mg_part)
theorem se_join {apos : Pos} (ho : SE X W o fo) (he : SE X W e fe) (hs : starEach [e] X.env = [(false, eval e X.env)] := by rfl) (hbase : attributeBase o "join" X.env (eval o X.env) = eval o X.env := by rfl) (hline : (apos.endLine == pos.line) = true := by rfl) :
    SE X W (.Call (.Attribute o "join" apos) [e] [] pos) (eM1 gJoin fo fe) := (pe_join ho he hs hbase hline).weak (m1_w mg_join)

/-! ### append, extend -/
def eAppend (fo fe : EM) : EM := fun loc hp => (fo loc hp).bind fun x hp1 => match x with
  | .ref n => match hp1[n]? with
    | some (.lst _) => (fe loc hp1).bind fun y hp2 => match hp2[n]? with
      | some (.lst ds) => if ds.length < big then .ok .non (hp2.set n (.lst (ds ++ [y]))) else .bad
      | _ => .bad
    | _ => .bad
  | _ => .bad
theorem se_append {apos : Pos} (ho : SE X W o fo) (he : SE X W e fe)
    (hbase : attributeBase o "append" X.env (eval o X.env) = eval o X.env := by rfl)
    (hfew : ((backTo pos (starEach [e] X.env)).all (fun x => !x.1) && (backToKw pos (keywordEach [] X.env)).all (fun x => x.1.isSome)
      && decide ([e].length + ([] : List Keyword).length + (if ([] : List Keyword).isEmpty then 0 else 1) < 30)) = true := by rfl)
    (hline : (apos.endLine == pos.line) = true := by rfl) (hs : starEach [e] X.env = (false, eval e X.env) :: starEach [] X.env := by rfl) (hplain : (backTo pos (starEach [] X.env)).any (·.1) = false := by rfl) :
    SE X W (.Call (.Attribute o "append" apos) [e] [] pos) (eAppend fo fe) :=
  (pe_bm PySem.F.plainAttrs_list PySem.F.slot_list_append PySem.F.type_list_append mt_append ho (pa_cons he pa_nil hs) hbase hfew hline hs hplain).weak fun σ H Q ⟨A, loc, hp, r, hl, q⟩ => by
  refine ⟨A, loc, hp, r, hl, (Good.bind (R := Rp X.K) q).mono ?_⟩
  rintro v1 H1 ⟨A1, hp1, d1, e1, r1, q1, g1⟩
  cases d1 with
  | ref n =>
    obtain ⟨a, rfl, ha⟩ := q1.ref_inv
    have hl1 : n < hp1.length := by rw [← r1.len]; exact (List.getElem?_eq_some_iff.mp ha).1
    simp only at g1
    cases hm : hp1[n]? with
    | none => rw [hm] at g1; exact g1.elim
    | some mo =>
      cases mo with
      | lst ds0 =>
        rw [hm] at g1
        obtain ⟨vs0, h0, _⟩ := r1.ob n _ a hm ha
        refine ⟨.inl ⟨rfl, vs0, SqL.of h0⟩, A1, loc, hp1, r1, hl.ext e1, (Good.bind (R := Rp X.K) g1).mono ?_⟩
        rintro v2 H2 ⟨A2, hp2, d2, e2, r2, q2, g2⟩
        have ha2 := e2.at ha
        cases hm2 : hp2[n]? with
        | none => rw [hm2] at g2; exact g2.elim
        | some mo2 =>
          cases mo2 with
          | lst ds =>
            rw [hm2] at g2
            simp only at g2
            by_cases hz : ds.length < big
            · rw [if_pos hz] at g2
              obtain ⟨vs, h2, rl⟩ := r2.ob n _ a hm2 ha2
              refine ⟨a, vs, v2, rfl, rfl, h2, by rw [rl.length]; exact Nat.lt_of_lt_of_le hz (by decide), ?_⟩
              obtain ⟨e4, r4⟩ := r2.write (o := .lst (vs ++ [v2])) (mo := .lst (ds ++ [d2])) ha2 fun e4 => ⟨_, upd_same, RpL.append (rl.ext e4) (.cons (q2.ext e4) .nil)⟩
              exact g2 A2 _ .non e4 r4 .non
            · rw [if_neg hz] at g2; exact g2.elim
          | ins c fs => rw [hm2] at g2; exact g2.elim
      | ins c fs => rw [hm] at g1; exact g1.elim
  | _ => exact g1.elim

/-! ### isinstance of a built-in type -/
end
end
end Ms

/-! A list comprehension out of which an exception may fly. -/
namespace Ms
open PySem L2 PySem.Spec PyProof.Rows
variable [Amb]

/-- an exception in the air of X, which has passed the frame L at most -/
def Air (z : Bool) (X : Cx) (L : Addr) (W : WX) (u : Value) (s' : Shared) : Prop :=
  ∃ (a : Addr) (B : Heap) (t : Shared) (pins : List (Addr × Obj)) (σ : L2.St) (H : Hp) (cls : Value) (d : Option Addr), u = .ref a ∧ Inv X pins σ H t ∧
    (∀ b o, t.heap.get? b = some o → b ∉ frs X.stack → B.get? b = some o) ∧ t.heap.UpToSlots s'.heap ∧
    (HandSPX.FlyingZ B X.stack a (Zq z cls d) s'.heap ∨ HandSPX.HeldZ B X.stack a (Zq z cls d) L s'.heap) ∧ H a = none ∧ s'.os = t.os ∧ AllBare s'.gens ∧ W cls d σ H
/-- what is in the air of X is wanted -/
def Tk (z : Bool) (X : Cx) (W : WX) : Prop := ∃ L, X.env.frame = some L ∧ (∃ F r, X.stack = F :: r ∧ F.frame = some L) ∧ ∀ u s', Air z X L W u s' → X.xe u s'
theorem Tk.of {z : Bool} {X : Cx} {W : WX} (tk : TakesZ z X W) (hs : X.stack = X.env :: X.outer) (hf : X.env.frame = some X.env.locals) : Tk z X W :=
  ⟨X.env.locals, hf, ⟨_, _, hs, hf⟩, fun u s' ⟨a, B, t, pins, σ, H, cls, d, e, I, nb, up, sky, na, os, ag, w⟩ =>
    tk.take u s' ⟨a, B, t, pins, σ, H, cls, d, e, I, nb, up, .inr sky, na, os, ag, w⟩⟩
/-- .. out of a call -/
theorem Air.of_call {z : Bool} {X : Cx} {L : Addr} {W : WX} {pins : List (Addr × Obj)} {σ : L2.St} {H : Hp} {s s' : Shared} {E : XK} (I : Inv X pins σ H s) (hW : ∀ c d H', E c d H' → W c d σ H') {u : Value} (c : CXz z X.prog X.w X.stack H s E u s') : Air z X L W u s' := by
  have c : ∃ (a : Addr) (B : Heap) (H' : Hp) (cls : Value) (d : Option Addr), u = .ref a ∧ HandSPX.FlyingZ B X.stack a (Zq z cls d) s'.heap ∧ HOk X.prog X.w H' B ∧ UB (frs X.stack) H H' s.heap B s'.heap ∧ H' a = none ∧ s'.os = s.os ∧ AllBare s'.gens ∧ E cls d H' := by
    cases z
    · exact c
    · exact c
  obtain ⟨a, B, H', cls, d, rfl, fly, hok, ub, na, os, ag, hE⟩ := c
  obtain ⟨G, gin, gout⟩ := restrict s'.heap fun b => (B.get? b).isSome || decide (b ∈ frs X.stack)
  have ofB : ∀ b o, B.get? b = some o → G.get? b = some o := fun b o e => (gin b (by simp [e])).trans (fly.1 b o e)
  have ofF : ∀ b, b ∈ frs X.stack → G.get? b = s'.heap.get? b := fun b hb => gin b (by simp [hb])
  have back : ∀ b o, G.get? b = some o → s'.heap.get? b = some o ∧ ((B.get? b).isSome = true ∨ b ∈ frs X.stack) := fun b o e => by
    by_cases q : ((B.get? b).isSome || decide (b ∈ frs X.stack)) = true
    · rw [gin b q] at e
      refine ⟨e, ?_⟩
      rcases Bool.or_eq_true _ _ |>.mp q with z | z
      · exact .inl z
      · exact .inr (of_decide_eq_true z)
    · rw [gout b (by simpa using q)] at e; cases e
  have J : Inv X pins σ H' { s with heap := G, gens := s'.gens, drawn := s'.drawn, toks := s'.toks } := by
    refine I.call (ch := []) (g' := s'.gens) (t' := s'.toks) (d' := s'.drawn) ⟨?_, ?_, ?_, ?_, ub.tups, ub.frzs, ub.tbls⟩ (hok.kept ofB) ag (fun _ z => nomatch z)
    · exact fun b o e n hb _ => ofB b o (ub.keep b o e n hb)
    · intro b o e n hb _
      obtain ⟨sl, q⟩ := ub.slot b o e hb
      exact ⟨sl, (ofF b hb).trans q⟩
    · exact fun b o e n _ => ub.free b o e n
    · intro b o e _
      by_cases hb : b ∈ frs X.stack
      · obtain ⟨sl, q⟩ := ub.slot b o e hb
        exact ⟨_, (ofF b hb).trans q⟩
      · obtain ⟨o', q⟩ := ub.there b o e hb
        exact ⟨o', ofB b o' q⟩
  refine ⟨a, B, _, pins, σ, H', cls, d, rfl, J, ?_, Heap.UpToSlots.of_keeps fun b o e => (back b o e).1, .inl fly, na, os, ag, hW _ _ _ hE⟩
  intro b o e hb
  obtain ⟨e', q | q⟩ := back b o e
  · obtain ⟨o', q⟩ := Option.isSome_iff_exists.mp q
    have z := fly.1 b o' q
    rw [e'] at z; cases z
    exact q
  · exact absurd q hb
/-- more known is less known -/
theorem CXz.weak {z z' : Bool} (h : (z' || !z) = true) {P : Program} {w : World} {outer : List Env} {H : Hp} {s s' : Shared} {E : XK} {u : Value} (c : CXz z' P w outer H s E u s') : CXz z P w outer H s E u s' := by
  cases z
  · cases z'
    · exact c
    · obtain ⟨a, B, H', cls, d, e, ⟨k1, k2, k3, oe, vs, T, oT, ts, he, hz, r⟩, q⟩ := c
      exact ⟨a, B, H', cls, d, e, ⟨k1, k2, k3, oe, vs, T, oT, ts, he, hz.zc, r⟩, q⟩
  · cases z'
    · cases h
    · exact c
theorem passTk {z z' : Bool} {X : Cx} {W : WX} (tk : Tk z X W) (h : (z' || !z) = true) (σ : L2.St) : PassesAt (CXz z' X.prog X.w) X σ (WE W σ) := fun _ _ _ e s' I c => by
  obtain ⟨L, _, _, k⟩ := tk
  exact k e s' (Air.of_call I (fun _ _ _ h => h) (c.weak h))

/-- the block of a comprehension, with a wish about exceptions -/
abbrev blkX (X : Cx) (s : Shared) (H : Hp) (scope : Scope) (cenv : Env) (fp : List Addr) (E : Value → Shared → Prop) : Cx := { X.blk s H scope cenv fp with xe := E }
/-- what the block wishes: what its def wishes at its slots -/
abbrev WB (W : WX) (σ : L2.St) : WX := fun c d _ H => W c d σ H
theorem compFrame {scope : Scope} {cl : List (Str × Addr)} {C : Addr} {env : Env} : (compEnvC scope cl C env).frame = env.frame := rfl

section
variable {z : Bool} {X : Cx} {W : WX}
/-- out of the block into the def's own air -/
theorem air_out {pins : List (Addr × Obj)} {σ : L2.St} {H3 : Hp} {s3 : Shared} {scope : Scope} {ce : Env} {fp : List Addr} {L C : Addr} {Qf : Value → Shared → Prop} {use : Option (Value → Sem Unit)} {D : Addr}
    (I3 : Inv X pins σ H3 s3) (hfp : ∀ b ∈ fp, FpOk X pins H3 b ∧ b < s3.heap.objs.size) (hC : ce.locals = C) (hC2 : C = s3.heap.objs.size) (hf : ce.frame = some L) {F : Env} {r : List Env} (hs : X.stack = F :: r) (hF : F.frame = some L)
    (k : ∀ u s', Air z X L W u s' → X.xe u s') : ∀ u s', Air z (X.blk s3 H3 scope ce fp) L (WB W σ) u s' →
      notedBy (model X.prog X.w) X.A ce (fun e s' => compEnds (model X.prog X.w) X.A X.xe use Qf (.ref D) ce (.error e) s') u s' := by
  rintro u s' ⟨a, B, t, pins', σ', H', cls, d, rfl, J, nb, up, sky, na, os, ag, w⟩
  have hfr : X.A.frames = some (F :: r) := by rw [I3.ok.frames, hs]
  have sky : HandSPX.FlyingZ B (F :: r) a (Zq z cls d) s'.heap ∨ HandSPX.HeldZ B (F :: r) a (Zq z cls d) L s'.heap := by rw [← hs]; exact sky
  have nb : ∀ b o, t.heap.get? b = some o → b ∉ frs X.stack → B.get? b = some o := nb
  have notC : ∀ b o, s3.heap.get? b = some o → b ≠ C := fun b o e z => by
    rw [z, hC2] at e
    exact absurd (Heap.lt_size e) (Nat.lt_irrefl _)
  have HC : H' C = none := by
    have z : H' ce.locals = none := J.free
    rw [hC] at z; exact z
  obtain ⟨m, hn, _⟩ := J.loc
  have hn : t.heap.Ns C m := by
    have z : t.heap.Ns ce.locals m := hn
    rw [hC] at z; exact z
  have CnF : C ∉ frs X.stack := fun hb => by
    obtain ⟨_, o, ho, _⟩ := I3.stack.mem hb
    exact notC C o ho rfl
  -- what goes on from a held exception
  have go : ∀ h1, HandSPX.HeldZ B (F :: r) a (Zq z cls d) L h1 → t.heap.UpToSlots h1 → compEnds (model X.prog X.w) X.A X.xe use Qf (.ref D) ce (.error (.ref a)) { s' with heap := h1 } := by
    intro h1 hh up1
    show CompFails (model X.prog X.w) X.A X.xe ce (.ref a) { s' with heap := h1 }
    refine ⟨m, ?_, fun h2 m2 hn2 sb => ?_⟩
    · rw [hC]
      obtain ⟨oC, es, ep, e1, e2, e3⟩ := hn
      obtain ⟨sl, e4⟩ := up1 C oC e1 fun vs q => by rw [e2] at q; cases q
      exact ⟨_, es, ep, e4, e2, e3⟩
    rw [hC] at hn2 sb
    obtain ⟨b1, b0, f1, oe, vs, T, oT, ts, he, hz, hd, h1', hnT, hTe, hT, hdT, h3⟩ := hh
    -- the ground without the block's own dict
    have hid : ∀ b o, (PySem.W.hideAll B [C]).get? b = some o → B.get? b = some o ∧ b ≠ C := fun b o e => ⟨PySem.W.of_hideAll _ e, fun z => by
      rw [z, PySem.W.hideAll_none [C] (by simp)] at e; cases e⟩
    have aC : a ≠ C := fun z => by
      obtain ⟨oC, es, ep, e1, e2, _⟩ := hn
      obtain ⟨sl, e4⟩ := up1 C oC e1 fun vs q => by rw [e2] at q; cases q
      rw [z, e4] at he; cases he
      rw [show ({ oC with slots := sl } : Obj).data = oC.data from rfl, e2] at hd; cases hd
    have TC : T ≠ C := fun z => by
      obtain ⟨oC, es, ep, e1, e2, _⟩ := hn
      obtain ⟨sl, e4⟩ := up1 C oC e1 fun vs q => by rw [e2] at q; cases q
      rw [z, e4] at hT; cases hT
      rw [show ({ oC with slots := sl } : Obj).data = oC.data from rfl, e2] at hdT; cases hdT
    have nn : ∀ b, B.get? b = none → (PySem.W.hideAll B [C]).get? b = none := fun b e => by
      cases q : (PySem.W.hideAll B [C]).get? b with
      | none => rfl
      | some o => rw [(hid b o q).1] at e; cases e
    have he2 : h2.get? a = some oe := (sb.2 a aC).trans he
    have hT2 : h2.get? T = some oT := (sb.2 T TC).trans hT
    have st2 : (PySem.W.hideAll B [C]).StaysIn h2 := fun b o e => (sb.2 b (hid b o e).2).trans (b1 b o (hid b o e).1)
    have fr2 : h2.FunFrames (PySem.W.hideAll B [C]) (F :: r) := funFrames_none (Heap.FunFrames.sameBut sb hn2 f1) fun b hb => by
      obtain ⟨q1, _⟩ := f1.mem hb
      exact nn b q1
    have held2 : HandSPX.HeldZ (PySem.W.hideAll B [C]) (F :: r) a (Zq z cls d) L h2 := ⟨st2, nn a b0, fr2, oe, vs, T, oT, ts, he2, hz, hd, h1', nn T hnT, hTe, hT2, hdT, h3⟩
    -- the state without the exception and without the block's dict
    have keepT : ∀ b o, t.heap.get? b = some o → b ≠ C → (PySem.W.hideAll t.heap [C]).get? b = some o := fun b o e n => PySem.W.hideAll_get _ e (by simpa using n)
    have ofT : ∀ b o, (PySem.W.hideAll t.heap [C]).get? b = some o → t.heap.get? b = some o ∧ b ≠ C := fun b o e => ⟨PySem.W.of_hideAll _ e, fun z => by
      rw [z, PySem.W.hideAll_none [C] (by simp)] at e; cases e⟩
    have base : Un (frs X.stack) fp H3 H' s3.heap t.heap := J.base
    have hokT : HOk X.prog X.w H' (PySem.W.hideAll t.heap [C]) := fun b o q => (J.hok b o q).stay (fun c u hc e => keepT c u e fun z => by
      rw [z] at hc
      rcases hc with hc | hc
      · rw [← hc, HC] at q; cases q
      · rw [HC] at hc; cases hc) (fun _ q => q) fun _ _ q => q
    have J2 : Inv X pins σ H' { t with heap := PySem.W.hideAll t.heap [C] } := by
      refine I3.call' (ch := fp) J.os ⟨?_, ?_, base.free, ?_, base.tups, base.frzs, base.tbls⟩ hokT J.bare fun b hb => ?_
      · exact fun b o e n h1 h2 => keepT b o (base.keep b o e n h1 h2) (notC b o e)
      · intro b o e n h1 h2
        obtain ⟨sl, q⟩ := base.slot b o e n h1 h2
        exact ⟨sl, keepT b _ q (notC b o e)⟩
      · intro b o e h2
        obtain ⟨o', q⟩ := base.there b o e h2
        exact ⟨o', keepT b o' q (notC b o e)⟩
      · exact ⟨(hfp b hb).1.2.2.2.1, (hfp b hb).1.2.1, (hfp b hb).1.2.2.2.2.1, (hfp b hb).1.2.2.2.2.2⟩
    unfold PySem.passOn
    refine wpAny_bind (wpAny_field he2 hd h1' ?_)
    rw [if_neg (show ¬ ((Value.ref T == Value.none) = true) from by simp)]
    rw [hf]
    have fin : wpAny (model X.prog X.w) X.A (setFlight (.ref a) (some L)) (fun _ s4 => wpAny (model X.prog X.w) X.A (throw (.ref a) : Sem Value) (fun _ _ => False) X.xe s4) X.xe { s' with heap := h2 } := by
      refine HandSPX.setFlight_onZ held2 fun h4 hh4 up4 => wpAny_throw (k _ _ ?_)
      refine ⟨a, PySem.W.hideAll B [C], _, pins, σ, H', cls, d, rfl, J2, fun b o e hb => ?_, fun b o e hnf => ?_, .inr (by rw [hs]; exact hh4), na, os, ag, w⟩
      · obtain ⟨e1, nC⟩ := ofT b o e
        exact PySem.W.hideAll_get _ (nb b o e1 hb) (by simpa using nC)
      · obtain ⟨e1, nC⟩ := ofT b o e
        obtain ⟨sl, e2⟩ := up1 b o e1 hnf
        obtain ⟨sl2, e3⟩ := up4 b _ ((sb.2 b nC).trans e2) hnf
        exact ⟨sl2, e3⟩
    first
      | exact wpAny_bind (wpAny_pure (wpAny_bind fin))
      | exact wpAny_bind fin
  show wpAny _ _ (noteFrame (.ref a) ce) _ _ s'
  rw [noteFrame_env (.ref a) (hf.trans hF.symm : ce.frame = F.frame)]
  rcases sky with fl | hh
  · exact PXN.looks_onZ Zq.steady hfr hF fl fun h1 hh1 up1 => go h1 hh1 (up.trans up1)
  · exact HandSPX.againZ hF hh.2.2.2 (go s'.heap hh up)
end
end Ms

namespace Ms
open PySem L2 PySem.Spec PyProof.Rows
variable [Amb]
section
variable {z : Bool} {X : Cx}
theorem Inv.toX {s s0 : Shared} {H H0 : Hp} {scope : Scope} {ce : Env} {fp : List Addr} {E : Value → Shared → Prop} {pins : List (Addr × Obj)} {σ : L2.St} (I : Inv (X.blk s0 H0 scope ce fp) pins σ H s) : Inv (blkX X s0 H0 scope ce fp E) pins σ H s := I.wish E
theorem Inv.ofX {s s0 : Shared} {H H0 : Hp} {scope : Scope} {ce : Env} {fp : List Addr} {E : Value → Shared → Prop} {pins : List (Addr × Obj)} {σ : L2.St} (I : Inv (blkX X s0 H0 scope ce fp E) pins σ H s) : Inv (X.blk s0 H0 scope ce fp) pins σ H s :=
  Inv.unwish (X := X.blk s0 H0 scope ce fp) I
/-- an own object that was not tracked is tracked -/
theorem Inv.trackd {pins : List (Addr × Obj)} {σ : L2.St} {H : Hp} {s : Shared} {a : Addr} {o : HO} (I : Inv X pins σ H s) (f : FpOk X pins H a) (new : ObjOk X.prog X.w (upd H a o) s.heap a o) : Inv X pins σ (upd H a o) s := by
  obtain ⟨f0, f1, f2, f3, f4, f5⟩ := f
  refine I.step (ch := [a]) (g' := s.gens) (t' := s.toks) (d' := s.drawn) (h' := s.heap) (fun b hb => ?_) (fun b u _ _ _ e _ => e) (fun b u _ _ _ e _ => ⟨u.slots, e⟩) (fun b u hb _ n => ?_) (fun b u _ e => ⟨u, e⟩) (fun b xs e => ?_) (fun b u xs e => ?_)
    (fun b ps e => ⟨#[], ?_⟩) (fun m h => h) (fun b u e => ?_) I.bare
  · have z : b = a := by simpa using hb
    subst z
    exact ⟨f3, f1, f4, f5⟩
  · rw [upd_ne (by simpa using hb)]; exact n
  · rw [upd_ne (ne_of_none e f0)]; exact e
  · rw [upd_ne (ne_of_none e f0)]; exact e
  · rw [upd_ne (ne_of_none e f0), e]; simp
  · by_cases hb : b = a
    · subst hb; rw [upd_same] at e; cases e; exact new
    · rw [upd_ne hb] at e
      exact (I.hok b u e).stay (fun c v _ q => q) (fun c q => by rw [upd_ne (ne_of_none q f0)]; exact q) fun c xs q => by rw [upd_ne (ne_of_none q f0)]; exact q
/-- [elt for tg in iter if ..], whose test and element may raise; the list so far is told by its items -/
def tLcX (wi : TI) (g : TG) (tt : L2.St → TT) (te : L2.St → TE) (vs : List Nat) : TE := fun σ H Q => wi σ H fun J H1 => ∃ V : Nat → Nat → List L2.V → Hp → Prop, (∃ m, V 0 m [] H1) ∧ ∀ i m acc H2, V i m acc H2 →
  (J.stop i H2 ∧ acc.length ≤ sizeLine ∧ ∀ D, H2 D = none → Q (.ref D) (upd H2 D (.lst acc))) ∨ (J.go i H2 ∧ ∃ N : List L2.V → Hp → Prop, (∀ a H', N a H' → ∃ m', m' < m ∧ V (i + 1) m' a H') ∧ ∀ x H', J.yld i H2 x H' → g x (wipe σ vs) H' fun σ2 H3 => wipe σ2 vs = wipe σ vs ∧
    tt σ σ2 H3 fun b H4 => if b = true then te σ σ2 H4 fun y H5 => acc.length < sizeLine ∧ N (acc ++ [y]) H5 else N acc H4)
theorem lc_x {W : WX} {pins : List (Addr × Obj)} {s : Shared} {σ : L2.St} {H : Hp} {Q : VK} {elt tg iter : PySem.Expr} {ifs : List PySem.Expr} {scope : Scope} {own : List (Str × Nat)} {pos pos' : Pos} {wi : TI} {g : TG} {tt : L2.St → TT} {te : L2.St → TE} {use : Option (Value → Sem Unit)} {Qf : Value → Shared → Prop}
    (hc : X.calm = true) (hN : X.N.Nodup) (I : Inv X pins σ H s) (hi : PI X tg iter wi) (ok : BlkOk X.N X.env.scope scope own) (tk : Tk z X W)
    (hg : ∀ (s : Shared) (H : Hp) (C : Addr) (cl : List (Str × Addr)) (fp : List Addr) (E : Value → Shared → Prop), PG (blkX X s H scope (compEnvC scope cl C X.env) fp E) tg g)
    (ht : ∀ (σ0 : L2.St) (s : Shared) (H : Hp) (C : Addr) (cl : List (Str × Addr)) (fp : List Addr) (E : Value → Shared → Prop), Tk z (blkX X s H scope (compEnvC scope cl C X.env) fp E) (WB W σ0) → PTs (blkX X s H scope (compEnvC scope cl C X.env) fp E) ifs (tt σ0))
    (he : ∀ (σ0 : L2.St) (s : Shared) (H : Hp) (C : Addr) (cl : List (Str × Addr)) (fp : List Addr) (E : Value → Shared → Prop), Tk z (blkX X s H scope (compEnvC scope cl C X.env) fp E) (WB W σ0) → PE (blkX X s H scope (compEnvC scope cl C X.env) fp E) elt (te σ0))
    (hs : ∀ x, foldedSetIterable iter X.env x = pure x) (h : tLcX wi g tt te (own.map (·.2)) σ H Q)
    (hRR : ∀ D s' m H' (ce : Env), Inv X pins σ H' s' → Q (.ref D) H' → s'.heap.Ns ce.locals m → FpOk X pins H' ce.locals → compEnds (model X.prog X.w) X.A X.xe use Qf (.ref D) ce (.ok .next) s') :
    wpAny (model X.prog X.w) X.A (comprehension (.ListComp elt [⟨tg, iter, ifs, 0⟩] scope pos) scope X.env pos' (newList []) false (eval iter X.env) use) Qf X.xe s := by
  obtain ⟨L, hfL, ⟨F, rr, hsF, hFL⟩, kA⟩ := tk
  have cells : ∀ y ∈ scope.names, y.2 = .free → ∃ c, X.env.cells.lookup y.1 = some c := fun y hy e => by
    rcases ok.free y hy e with k | k
    · exact I.ok.has _ (.inl k)
    · exact I.ok.has _ (.inr k)
  refine comprehension_at (use := use) rfl hs (closure_ok cells) ok.kind (fun y hy e => by rw [ok.uniq y hy, e]) (thn (hi.run pins s σ H _ I h) fun v1 s1 h1 => thn h1 fun v2 s2 h2 => ?_)
  obtain ⟨it, fp, tn, J, H2, rfl, I2, T, st2, f2, q⟩ := h2
  refine wpAny_newObj_type (newEnv_comp ?_) (Nat.zero_le _)
  obtain ⟨D, hD⟩ : ∃ D, s2.heap.objs.size = D := ⟨_, rfl⟩
  rw [hD]
  obtain ⟨V, ⟨m0, w0⟩, turn⟩ := q
  -- the new list stands, untracked
  obtain ⟨s3, hs3⟩ : ∃ s3 : Shared, ({ s2 with heap := s2.heap.push { cls := .type "list", data := .seq ([] : List Value).toArray } } : Shared) = s3 := ⟨_, rfl⟩
  rw [hs3]
  have heap3 : s3.heap = s2.heap.push { cls := .type "list", data := .seq ([] : List Value).toArray } := by rw [← hs3]
  have kept3 : ∀ b o, s2.heap.get? b = some o → s3.heap.get? b = some o := fun b o e => by rw [heap3]; exact Heap.get?_push_of_some _ e
  have I3 : Inv X pins σ H2 s3 := by
    rw [← hs3]
    exact I2.kept (t' := s2.toks) fun b o e => Heap.get?_push_of_some _ e
  have D3 : s3.heap.get? D = some { cls := .type "list", data := .seq ([] : List Value).toArray } := by
    rw [heap3, ← hD]
    exact Heap.get?_push_size _ rfl
  have D2 : H2 D = none := I2.hok.fresh (Nat.le_of_eq hD)
  have f3 : ∀ b ∈ D :: fp, FpOk X pins H2 b ∧ b < s3.heap.objs.size := fun b hb => by
    rcases List.mem_cons.mp hb with z | hb
    · rw [z]; exact ⟨I2.fpOk (Nat.le_of_eq hD) D2, Heap.lt_size D3⟩
    · obtain ⟨o, e, _⟩ := T.obj _ _ st2 b hb
      exact ⟨f2 b hb, Heap.lt_size (kept3 b o e)⟩
  have st3 : tn 0 s3.heap := T.keep _ _ _ st2 fun b _ o e => kept3 b o e
  -- the block's own state
  have I4 := block_start I3 ok hN f3
  obtain ⟨ce, hce⟩ : ∃ ce, compEnvC scope (cellsFrom (s3.heap.objs.size + 1) scope.names (cloFrom X.env.cells scope.names [])) s3.heap.objs.size X.env = ce := ⟨_, rfl⟩
  show codeAny _ _ (.compStart (.ListComp elt [⟨tg, iter, ifs, 0⟩] scope pos) 0 (.ref it) (.ref D) (compEnvC scope (cellsFrom (s3.heap.objs.size + 1) scope.names (cloFrom X.env.cells scope.names [])) s3.heap.objs.size X.env))
    (compEnds (model X.prog X.w) X.A X.xe use Qf (.ref D) (compEnvC scope (cellsFrom (s3.heap.objs.size + 1) scope.names (cloFrom X.env.cells scope.names [])) s3.heap.objs.size X.env)) { s3 with heap := pushCells (s3.heap.push { cls := .type "dict", data := .dict #[] }) scope.names }
  have hg' := hg s3 H2 s3.heap.objs.size (cellsFrom (s3.heap.objs.size + 1) scope.names (cloFrom X.env.cells scope.names [])) (D :: fp)
  have ht' := ht σ s3 H2 s3.heap.objs.size (cellsFrom (s3.heap.objs.size + 1) scope.names (cloFrom X.env.cells scope.names [])) (D :: fp)
  have he' := he σ s3 H2 s3.heap.objs.size (cellsFrom (s3.heap.objs.size + 1) scope.names (cloFrom X.env.cells scope.names [])) (D :: fp)
  have ceL : ce.locals = s3.heap.objs.size := by rw [← hce]; rfl
  have ceF : ce.frame = some L := by rw [← hce]; exact hfL
  rw [hce] at I4 hg' ht' he' ⊢
  obtain ⟨s4, hs4⟩ : ∃ s4 : Shared, ({ s3 with heap := pushCells (s3.heap.push { cls := .type "dict", data := .dict #[] }) scope.names } : Shared) = s4 := ⟨_, rfl⟩
  rw [hs4] at I4 ⊢
  have kept4 : ∀ b o, s3.heap.get? b = some o → s4.heap.get? b = some o := fun b o e => by rw [← hs4]; exact pushCells_keeps _ _ _ _ (Heap.get?_push_of_some _ e)
  have st4 : tn 0 s4.heap := T.keep _ _ _ st3 fun b _ o e => kept4 b o e
  have nfp : ∀ b ∈ D :: fp, H2 b = none := fun b hb => (f3 b hb).1.1
  -- its wish
  obtain ⟨E, hE⟩ : ∃ E : Value → Shared → Prop, (fun u s' => Air z (X.blk s3 H2 scope ce (D :: fp)) L (WB W σ) u s') = E := ⟨_, rfl⟩
  have tkb : Tk z (blkX X s3 H2 scope ce (D :: fp) E) (WB W σ) := ⟨L, ceF, ⟨F, rr, hsF, hFL⟩, fun u s' ⟨a, B, t, pins, σ', H', cls, d, e, J, r⟩ => by
    show E u s'
    rw [← hE]
    exact ⟨a, B, t, pins, σ', H', cls, d, e, Inv.ofX J, r⟩⟩
  have hg2 := hg' E
  have ht2 := ht' E tkb
  have he2 := he' E tkb
  have out : ∀ u s', E u s' → notedBy (model X.prog X.w) X.A ce (fun e s' => compEnds (model X.prog X.w) X.A X.xe use Qf (.ref D) ce (.error e) s') u s' := fun u s' x => by
    rw [← hE] at x
    exact air_out I3 f3 ceL rfl ceF hsF hFL kA u s' x
  have fpB : ∀ {σ' : L2.St} {H' : Hp} {s' : Shared}, Inv (X.blk s3 H2 scope ce (D :: fp)) [] σ' H' s' → (∀ b ∈ D :: fp, H' b = none) → ∀ b ∈ D :: fp, FpOk (X.blk s3 H2 scope ce (D :: fp)) [] H' b := fun {σ' H' s'} J hn b hb =>
    ⟨hn b hb, (J.ok.exf b hb).1, J.ok.exfs b hb, .inl hb, fun x c e => (J.ok.exf b hb).2 x c e, fun p hp => by cases hp⟩
  -- the list as it stands
  let At : Heap → List L2.V → Prop := fun h acc => ∃ (its : List Value) (n : Nat), Vals acc its ∧ h.get? D = some { cls := .type "list", data := .seq its.toArray n }
  have loop : codeAny (model X.prog X.w) X.A (.compLoop (.ListComp elt [⟨tg, iter, ifs, 0⟩] scope pos) 0 (.ref it) (.ref D) ce) (compEnds (model X.prog X.w) X.A X.xe use Qf (.ref D) ce) s4 := by
    refine compLoop_any (fun n s' => ∃ i H' acc, Inv (X.blk s3 H2 scope ce (D :: fp)) [] (wipe σ (own.map (·.2))) H' s' ∧ tn i s'.heap ∧ (∀ b ∈ D :: fp, H' b = none) ∧ At s'.heap acc ∧ V i n acc H') ?_ m0 ⟨0, H2, [], I4, st4, nfp, ⟨[], 0, .nil, kept4 D _ D3⟩, w0⟩
    rintro n s5 ⟨i, H5, acc, I5, st5, n5, a5, w5⟩
    have fpI : ∀ {H' : Hp}, (∀ b ∈ D :: fp, FpOk (X.blk s3 H2 scope ce (D :: fp)) [] H' b) → ∀ b ∈ fp, FpOk (X.blk s3 H2 scope ce (D :: fp)) [] H' b := fun h b hb => h b (List.mem_cons_of_mem _ hb)
    rcases turn i n acc H5 w5 with ⟨stop, hz, qq⟩ | ⟨go, N, hNx, step⟩
    · have I5p := I5.pinned (fp := [D]) (fun b hb => by rw [List.mem_singleton.mp hb]; exact fpB I5 n5 D (by simp)) (fun b hb => by
        rw [List.mem_singleton.mp hb]
        obtain ⟨its, k, _, e⟩ := a5
        exact ⟨_, e, fun v z => by cases z⟩)
      have fp5 : ∀ b ∈ fp, FpOk (X.blk s3 H2 scope ce (D :: fp)) ([] ++ pinsAt [D] s5.heap) H5 b := fun b hb => by
        obtain ⟨x0, x1, x2, x3, x4, x5⟩ := fpB I5 n5 b (List.mem_cons_of_mem _ hb)
        refine ⟨x0, x1, x2, x3, x4, fun p hp z => ?_⟩
        have hp' : p ∈ pinsAt [D] s5.heap := by simpa using hp
        have := (of_pinsAt hp').1
        rw [List.mem_singleton.mp this] at z
        obtain ⟨o, e, _⟩ := T.obj _ _ st2 b hb
        have lt := Heap.lt_size e
        rw [← z, ← hD] at lt
        exact absurd lt (Nat.lt_irrefl _)
      refine thnF (T.done (X.blk s3 H2 scope ce (D :: fp)) rfl rfl rfl hc i _ s5 _ H5 (fun _ _ => False) I5p fp5 st5 stop) fun rv s6 ⟨hr, I6⟩ => ?_
      subst hr
      have I7 : Inv X pins σ H5 s6 := I3.call' (ch := D :: fp) I6.os I6.base I6.hok I6.bare fun b hb => ⟨(f3 b hb).1.2.2.2.1, (f3 b hb).1.2.1, (f3 b hb).1.2.2.2.2.1, (f3 b hb).1.2.2.2.2.2⟩
      have nC : H5 ce.locals = none := I6.free
      obtain ⟨m, hn, _⟩ := I6.loc
      obtain ⟨its, k, rv, e⟩ := a5
      have eD : s6.heap.get? D = some { cls := .type "list", data := .seq its.toArray k } := (I6.pin (D, _) (List.mem_append_right _ (List.mem_append_right _ (mem_pinsAt (by simp) e)))).1
      have fD : FpOk X pins H5 D := ⟨n5 D (by simp), (f3 D (by simp)).1.2⟩
      have I8 : Inv X pins σ (upd H5 D (.lst acc)) s6 := Inv.trackd I7 fD ⟨hz, its, k, rv, eD⟩
      have nCD : ce.locals ≠ D := fun z => by
        have lt := Heap.lt_size D3
        rw [← z, ceL] at lt
        exact absurd lt (Nat.lt_irrefl _)
      exact hRR D s6 m _ ce I8 (qq D (n5 D (by simp))) hn (by rw [ceL] at nC nCD ⊢; exact I3.fpOk (Nat.le_refl _) ((upd_ne nCD).trans nC))
    · have pin5 : ∀ b ∈ D :: fp, ∃ o, s5.heap.get? b = some o ∧ ∀ v, o.data ≠ .cell v := fun b hb => by
        rcases List.mem_cons.mp hb with z | hb
        · obtain ⟨its, k, _, e⟩ := a5
          rw [z]; exact ⟨_, e, fun v z => by cases z⟩
        · exact T.obj _ _ st5 b hb
      have I5p := I5.pinned (fp := [D]) (fun b hb => by rw [List.mem_singleton.mp hb]; exact fpB I5 n5 D (by simp)) (fun b hb => by rw [List.mem_singleton.mp hb]; exact pin5 D (by simp))
      have fp5 : ∀ b ∈ fp, FpOk (X.blk s3 H2 scope ce (D :: fp)) ([] ++ pinsAt [D] s5.heap) H5 b := fun b hb => by
        obtain ⟨x0, x1, x2, x3, x4, x5⟩ := fpB I5 n5 b (List.mem_cons_of_mem _ hb)
        refine ⟨x0, x1, x2, x3, x4, fun p hp z => ?_⟩
        have hp' : p ∈ pinsAt [D] s5.heap := by simpa using hp
        have := (of_pinsAt hp').1
        rw [List.mem_singleton.mp this] at z
        obtain ⟨o, e, _⟩ := T.obj _ _ st2 b hb
        have lt := Heap.lt_size e
        rw [← z, ← hD] at lt
        exact absurd lt (Nat.lt_irrefl _)
      refine thnF (T.item (X.blk s3 H2 scope ce (D :: fp)) rfl rfl rfl hc i _ s5 _ H5 (fun _ _ => False) I5p fp5 st5 go) fun rv s6 ⟨u, hr, h6⟩ => ?_
      subst hr
      refine thnF h6 fun _ s7 ⟨x, H7, I7, r7, y7, st7, n7⟩ => ?_
      obtain ⟨its, k, rv, e5⟩ := a5
      obtain ⟨e7, nD7, _⟩ := I7.pin (D, _) (List.mem_append_right _ (List.mem_append_right _ (mem_pinsAt (by simp) e5)))
      have I7u := I7.unpinned (pins := [])
      have n7' : ∀ b ∈ D :: fp, H7 b = none := fun b hb => by
        rcases List.mem_cons.mp hb with z | hb
        · rw [z]; exact nD7
        · exact n7 b hb
      have I7' := I7u.pinned (fpB I7u n7') (fun b hb => by
        rcases List.mem_cons.mp hb with z | hb
        · rw [z]; exact ⟨_, e7, fun v z => by cases z⟩
        · exact T.obj _ _ st7 b hb)
      refine wpAny_mono (hg2.run _ s7 _ H7 x u _ (Inv.toX I7') r7 (step x H7 y7)) (fun _ s8 ⟨σ8, H8, I8, hw8, q8⟩ => ?_) out
      refine wpAny_mono (ht2.run _ s8 σ8 H8 _ I8 q8) (fun b s9 ⟨H9, I9, q9⟩ => ?_) out
      -- how a turn ends
      have pinned : ∀ {s' : Shared} {H' : Hp}, Inv (X.blk s3 H2 scope ce (D :: fp)) ([] ++ pinsAt (D :: fp) s7.heap) σ8 H' s' → ∀ b ∈ D :: fp, ∀ o, s7.heap.get? b = some o → s'.heap.get? b = some o ∧ H' b = none := fun {s' H'} J b hb o e =>
        let z := J.pin (b, o) (List.mem_append_right _ (List.mem_append_right _ (mem_pinsAt hb e)))
        ⟨z.1, z.2.1⟩
      have weak8 : ∀ {s' : Shared} {H' : Hp}, Inv (X.blk s3 H2 scope ce (D :: fp)) ([] ++ pinsAt (D :: fp) s7.heap) σ8 H' s' → Inv (X.blk s3 H2 scope ce (D :: fp)) [] (wipe σ (own.map (·.2))) H' s' := fun {s' H'} J =>
        (J.unpinned (pins := [])).weak (by rw [← hw8, wipe_length]) (fun j v e => by
          rw [← hw8] at e
          exact (wipe_some e).1)
      have nfp8 : ∀ {s' : Shared} {H' : Hp}, Inv (X.blk s3 H2 scope ce (D :: fp)) ([] ++ pinsAt (D :: fp) s7.heap) σ8 H' s' → ∀ b ∈ D :: fp, H' b = none := fun {s' H'} J b hb => by
        rcases List.mem_cons.mp hb with z | hb
        · rw [z]; exact (pinned J D (by simp) _ e7).2
        · obtain ⟨o, e, _⟩ := T.obj _ _ st7 b hb
          exact (pinned J b (List.mem_cons_of_mem _ hb) o e).2
      cases b with
      | false =>
        simp only [Bool.false_eq_true, if_false] at q9 ⊢
        have J := Inv.ofX I9
        obtain ⟨m', hm, w'⟩ := hNx acc H9 q9
        exact ⟨m', hm, i + 1, H9, acc, weak8 J, T.keep _ _ _ st7 (fun b hb o e => (pinned J b (List.mem_cons_of_mem _ hb) o e).1), nfp8 J, ⟨its, k, rv, (pinned J D (by simp) _ e7).1⟩, w'⟩
      | true =>
        simp only [if_true] at q9 ⊢
        refine wpAny_mono (he2.run _ s9 σ8 H9 _ I9 q9) (fun z s10 ⟨yv, H10, I10, r10, hz10, nx⟩ => ?_) out
        have J := Inv.ofX I10
        have e10 := (pinned J D (by simp) _ e7).1
        have hl := rv.length
        refine append_at (hsz := by rw [List.size_toArray]; omega) e10 fun h' sb ho' => ?_
        obtain ⟨m', hm, w'⟩ := hNx _ H10 nx
        have JD := fpB (weak8 J) (nfp8 J) D (by simp)
        have J2 := Inv.turned (it := D) (t' := s10.toks) (weak8 J) (fun b o hb e => (sb.2 b hb).trans e) JD.1 JD.2.1 JD.2.2.2.1 JD.2.2.2.2.1 JD.2.2.2.2.2
        refine ⟨m', hm, i + 1, H10, acc ++ [yv], J2, T.keep _ _ _ st7 (fun b hb o e => ?_), nfp8 J, ⟨its ++ [z], k + 1, rv.append (.cons r10 .nil), ?_⟩, w'⟩
        · have nb : b ≠ D := fun z => by
            obtain ⟨o2, e2, _⟩ := T.obj _ _ st2 b hb
            have lt := Heap.lt_size e2
            rw [z, ← hD] at lt
            exact absurd lt (Nat.lt_irrefl _)
          exact (sb.2 b nb).trans (pinned J b (List.mem_cons_of_mem _ hb) o e).1
        · show h'.get? D = _
          rw [ho']
          simp
  exact codeAny_compStart_list loop (T.self X.A 0 _ _ _ st4 loop)
end
end Ms

namespace Ms
open PySem L2 PySem.Spec PyProof.Rows
variable [Amb]
section
variable {z : Bool} {X : Cx} {W : WX}
theorem pe_lcX {elt tg iter : PySem.Expr} {ifs : List PySem.Expr} {scope : Scope} {own : List (Str × Nat)} {pos : Pos} {wi : TI} {g : TG} {tt : L2.St → TT} {te : L2.St → TE} (hc : X.calm = true) (hN : X.N.Nodup) (hi : PI X tg iter wi) (ok : BlkOk X.N X.env.scope scope own) (tk : Tk z X W)
    (hg : ∀ (s : Shared) (H : Hp) (C : Addr) (cl : List (Str × Addr)) (fp : List Addr) (E : Value → Shared → Prop), PG (blkX X s H scope (compEnvC scope cl C X.env) fp E) tg g)
    (ht : ∀ (σ0 : L2.St) (s : Shared) (H : Hp) (C : Addr) (cl : List (Str × Addr)) (fp : List Addr) (E : Value → Shared → Prop), Tk z (blkX X s H scope (compEnvC scope cl C X.env) fp E) (WB W σ0) → PTs (blkX X s H scope (compEnvC scope cl C X.env) fp E) ifs (tt σ0))
    (he : ∀ (σ0 : L2.St) (s : Shared) (H : Hp) (C : Addr) (cl : List (Str × Addr)) (fp : List Addr) (E : Value → Shared → Prop), Tk z (blkX X s H scope (compEnvC scope cl C X.env) fp E) (WB W σ0) → PE (blkX X s H scope (compEnvC scope cl C X.env) fp E) elt (te σ0))
    (hs : ∀ x, foldedSetIterable iter X.env x = pure x := by intro _; rfl) : PE X (.ListComp elt [⟨tg, iter, ifs, 0⟩] scope pos) (tLcX wi g tt te (own.map (·.2))) := by
  refine ⟨fun pins s σ H Q I h => ?_⟩
  rw [eval_ListComp]
  refine lc_x hc hN I hi ok tk hg ht he hs h fun D s' m H' ce J q hn ⟨f0, f1, f2, f3, f4, f5⟩ => ⟨m, hn, fun h2 sb => ?_⟩
  exact ⟨.ref D, H', J.turned (t' := s'.toks) (fun b o hb e => (sb.2 b hb).trans e) f0 f1 f3 f4 f5, rfl, q⟩
/-- name = [..], the name a local -/
theorem ps_setLcX {i : Nat} {y : Str} {py : Pos} {elt tg iter : PySem.Expr} {ifs : List PySem.Expr} {scope : Scope} {own : List (Str × Nat)} {pos spos : Pos} {wi : TI} {g : TG} {tt : L2.St → TT} {te : L2.St → TE} (hc : X.calm = true) (hN : X.N.Nodup) (hi : PI X tg iter wi) (ok : BlkOk X.N X.env.scope scope own) (tk : Tk z X W)
    (hg : ∀ (s : Shared) (H : Hp) (C : Addr) (cl : List (Str × Addr)) (fp : List Addr) (E : Value → Shared → Prop), PG (blkX X s H scope (compEnvC scope cl C X.env) fp E) tg g)
    (ht : ∀ (σ0 : L2.St) (s : Shared) (H : Hp) (C : Addr) (cl : List (Str × Addr)) (fp : List Addr) (E : Value → Shared → Prop), Tk z (blkX X s H scope (compEnvC scope cl C X.env) fp E) (WB W σ0) → PTs (blkX X s H scope (compEnvC scope cl C X.env) fp E) ifs (tt σ0))
    (he : ∀ (σ0 : L2.St) (s : Shared) (H : Hp) (C : Addr) (cl : List (Str × Addr)) (fp : List Addr) (E : Value → Shared → Prop), Tk z (blkX X s H scope (compEnvC scope cl C X.env) fp E) (WB W σ0) → PE (blkX X s H scope (compEnvC scope cl C X.env) fp E) elt (te σ0))
    (hy : X.N[i]? = some y) (hyl : X.env.scope.names.lookup y = some .local) (hsw : swapsWith (.ListComp elt [⟨tg, iter, ifs, 0⟩] scope pos) (some (.Name y py)) spos.line X.env = pure true)
    (hs : ∀ x, foldedSetIterable iter X.env x = pure x := by intro _; rfl) : PS X (.Assign [.Name y py] (.ListComp elt [⟨tg, iter, ifs, 0⟩] scope pos) spos) (tAsg (tLcX wi g tt te (own.map (·.2))) (gName i)) := by
  refine ⟨fun pins s σ H T I h => ?_⟩
  rw [exec_Assign_Name_used _ _ _ _ hsw]
  refine wpAny_bind (wpAny_standAt (wpAny_bind ?_))
  have h : tLcX wi g tt te (own.map (·.2)) σ H (fun x H1 => gName i x σ H1 T.nx) := h
  show wpAny _ X.A (do let _ ← comprehension (.ListComp elt [⟨tg, iter, ifs, 0⟩] scope pos) scope X.env (firstIterPos [⟨tg, iter, ifs, 0⟩] pos) (newList []) false (eval iter X.env) (some (assign (.Name y py) X.env))) _ _ s
  refine wpAny_bind (thn (lc_x (Qf := fun _ s' => SP X pins T .next s') hc hN I hi ok tk hg ht he hs h fun D s' m H' ce J q hn ⟨f0, f1, f2, f3, f4, f5⟩ => ?_) fun _ s' hq => wpAny_pure (wpAny_pure hq))
  refine wpAny_assign_Name (store_ok2 (v := V.ref D) J hN hy (.inl hyl) rfl (fun s2 I2 ⟨a, sb, ha⟩ => ?_) (.inr hyl))
  have ne : ce.locals ≠ a := by
    rcases ha with z | z
    · rw [z]; exact f1
    · exact fun e => f4 y a z e.symm
  exact ⟨m, hn.sameBut sb ne, fun h3 sb3 => ⟨_, H', I2.turned (t' := s2.toks) (fun b o hb e => (sb3.2 b hb).trans e) f0 f1 f3 f4 f5, q⟩⟩

/-! ### its mirror -/
def wipeL (loc : Loc) : List Nat → Loc
  | [] => loc
  | v :: vs => (wipeL loc vs).set v none
theorem wipe_set {σ : L2.St} {v : V} {i : Nat} : ∀ {vs : List Nat}, i ∈ vs → wipe (σ.set i (some v)) vs = wipe σ vs
  | j :: vs, h => by
    show (wipe (σ.set i (some v)) vs).set j none = (wipe σ vs).set j none
    by_cases hj : i ∈ vs
    · rw [wipe_set hj]
    · have e : i = j := by
        rcases List.mem_cons.mp h with e | e
        · exact e
        · exact absurd e hj
      subst e
      have : ∀ (ws : List Nat) (τ : L2.St), i ∉ ws → wipe (τ.set i (some v)) ws = (wipe τ ws).set i (some v) := by
        intro ws
        induction ws with
        | nil => intro τ _; rfl
        | cons k ws ih =>
          intro τ hn
          simp only [List.mem_cons, not_or] at hn
          show (wipe (τ.set i (some v)) ws).set k none = ((wipe τ ws).set k none).set i (some v)
          rw [ih τ hn.2, List.set_comm _ _ hn.1]
      rw [this vs σ hj, List.set_set]
theorem wipe_idem {σ : L2.St} : ∀ {vs : List Nat}, wipe (wipe σ vs) vs = wipe σ vs := by
  intro vs
  have key : ∀ (ws : List Nat) (τ : L2.St) (i : Nat), wipe (τ.set i none) ws = (wipe τ ws).set i none := by
    intro ws
    induction ws with
    | nil => intro τ i; rfl
    | cons k ws ih =>
      intro τ i
      show (wipe (τ.set i none) ws).set k none = ((wipe τ ws).set k none).set i none
      rw [ih τ i]
      by_cases h : i = k
      · subst h; simp
      · rw [List.set_comm _ _ h]
  induction vs with
  | nil => rfl
  | cons v vs ih =>
    show (wipe ((wipe σ vs).set v none) vs).set v none = (wipe σ vs).set v none
    rw [key, ih]; simp
theorem LocR.wipe {K : PySem.W.Frag} {A : List Addr} {H : Hp} {σ : L2.St} {loc : Loc} (l : LocR K A H σ loc) : ∀ vs : List Nat, vs.all Amb.ok = true → LocR K A H (L2.wipe σ vs) (wipeL loc vs)
  | [], _ => l
  | v :: vs, ok => by
    rw [List.all_cons, Bool.and_eq_true] at ok
    have r := LocR.wipe l vs ok.2
    refine ⟨by show ((L2.wipe σ vs).set v none).length = ((wipeL loc vs).set v none).length; simp [r.1], fun i d h => ?_, Amb.set v none ok.1 r.2.2⟩
    have h : ((wipeL loc vs).set v none)[i]? = some (some d) := h
    by_cases hi : v = i
    · subst hi
      by_cases hl : v < (wipeL loc vs).length
      · rw [List.getElem?_set_self hl] at h; cases h
      · rw [List.getElem?_eq_none (by simpa using hl)] at h; cases h
    · rw [List.getElem?_set_ne hi] at h
      obtain ⟨x, e, q⟩ := r.2.1 i d h
      exact ⟨x, by show ((L2.wipe σ vs).set v none)[i]? = _; rw [List.getElem?_set_ne hi]; exact e, q⟩
/-- a target that stores in the slots vs alone -/
def TgW (K : PySem.W.Frag) (mg : Str → Option Value) (vs : List Nat) (t : TG) (g : Tg) : Prop :=
  ∀ (A : List Addr) (H : Hp) (hp : HM) (v : V) (d : D) (σ : L2.St) (loc loc' : Loc) (Q : L2.St → Hp → Prop), HRel K mg A H hp → Rp K A H v d → LocR K A H σ loc → g d loc = some loc' → (∀ σ', wipe σ' vs = wipe σ vs → LocR K A H σ' loc' → Q σ' H) → t v σ H Q
def TgsW (K : PySem.W.Frag) (mg : Str → Option Value) (ws : List Nat) (t : TGs) (g : List D → Loc → Option Loc) : Prop :=
  ∀ (A : List Addr) (H : Hp) (hp : HM) (vs : List V) (ds : List D) (σ : L2.St) (loc loc' : Loc) (Q : L2.St → Hp → Prop), HRel K mg A H hp → RpL K A H vs ds → LocR K A H σ loc → g ds loc = some loc' → (∀ σ', wipe σ' ws = wipe σ ws → LocR K A H σ' loc' → Q σ' H) → t vs σ H Q
section
variable {K : PySem.W.Frag} {mg : Str → Option Value} {ws : List Nat}
theorem tw_name {i : Nat} (h : i ∈ ws) (ok : Amb.ok i = true := by rfl) : TgW K mg ws (gName i) (tgName i) := fun A H hp v d σ loc loc' Q r q l e k => by
  simp only [tgName, Option.some.injEq] at e
  subst e
  exact k _ (wipe_set h) (l.set i q ok)
theorem tw_nil : TgsW K mg ws gNil tgsNil := fun A H hp vs ds σ loc loc' Q r q l h k => by
  cases ds with
  | nil =>
    cases q
    simp only [tgsNil, Option.some.injEq] at h
    subst h
    exact ⟨rfl, k _ rfl l⟩
  | cons _ _ => cases h
theorem tw_cons {t : TG} {u : TGs} {g : Tg} {gs : List D → Loc → Option Loc} (h1 : TgW K mg ws t g) (h2 : TgsW K mg ws u gs) : TgsW K mg ws (gCons t u) (tgsCons g gs) := fun A H hp vs ds σ loc loc' Q r q l h k => by
  cases ds with
  | nil => cases h
  | cons d ds =>
    cases q with
    | cons q qs =>
      simp only [tgsCons] at h
      cases hg : g d loc with
      | none => rw [hg] at h; cases h
      | some l1 =>
        rw [hg] at h
        exact ⟨_, _, rfl, h1 A H hp _ d σ loc l1 _ r q l hg fun σ1 w1 l1' => h2 A H hp _ ds σ1 l1 loc' Q r qs l1' h fun σ2 w2 => k σ2 (w2.trans w1)⟩
theorem tw_tup {n : Nat} {u : TGs} {gs : List D → Loc → Option Loc} (h2 : TgsW K mg ws u gs) : TgW K mg ws (gTup K n u) (tgTup n gs) := fun A H hp v d σ loc loc' Q r q l h k => by
  cases d with
  | tup ds =>
    obtain ⟨a, vs, rfl, t, rl⟩ := q.tup_inv
    simp only [tgTup] at h
    by_cases hz : ds.length = n
    · rw [if_pos hz] at h
      exact ⟨a, vs, rfl, t.sq, by rw [rl.length]; exact hz, h2 A H hp vs ds σ loc loc' Q r rl l h k⟩
    · rw [if_neg hz] at h; cases h
  | _ => cases h
end
def compGo (it : Itm) (g : Tg) (ft : TM) (fe : EM) (loc : Loc) : List D → HM → List D → O (List D)
  | [], hp, acc => if it.chk hp = true then .ok acc hp else .bad
  | d :: ds, hp, acc => if it.chk hp = true then (match g d loc with
    | some l => (ft l hp).bind fun b hp1 => if b = true then (fe l hp1).bind fun y hp2 => if acc.length < big then compGo it g ft fe loc ds hp2 (acc ++ [y]) else .bad else compGo it g ft fe loc ds hp1 acc
    | none => .bad) else .bad
def eComp (i : IM) (g : Tg) (ft : TM) (fe : EM) (own : List Nat) : EM := fun loc hp => (i loc hp).bind fun it hp1 => (compGo it g ft fe (wipeL loc own) it.ds hp1 []).bind fun ds hp2 => if ds.length ≤ big then .ok (.lst ds) hp2 else .bad
def mYes : TM := fun _ hp => .ok true hp
/-- a clause's tests -/
abbrev STs (X : Cx) (W : WX) (ifs : List PySem.Expr) (f : TM) : Prop := PTs X ifs (tG X.K X.mg W RB f)
theorem _root_.L2.PTs.weak {X : Cx} {e : List PySem.Expr} {t t' : TT} (h : PTs X e t) (w : ∀ σ H Q, t' σ H Q → t σ H Q) : PTs X e t' := ⟨fun pins s σ H Q I q => h.run pins s σ H Q I (w σ H Q q)⟩
theorem sts_nil : STs X W [] mYes := pts_nil.weak fun σ H Q ⟨A, loc, hp, hr, hl, g⟩ => g A H true (.refl A H) hr rfl
theorem sts_one {c : PySem.Expr} {f : TM} (h : STt X W c f) : STs X W [c] f := pts_one h
theorem comp_w {K : PySem.W.Frag} {mg : Str → Option Value} {fi : IM} {t : TG} {g : Tg} {ft : TM} {fe : EM} {own : List Nat} (hr : TgW K mg own t g) (oks : own.all Amb.ok = true) : ∀ σ H Q, tG K mg W (Rp K) (eComp fi g ft fe own) σ H Q →
    tLcX (tI K mg W fi) t (fun σ0 => tG K mg (WB W σ0) RB ft) (fun σ0 => tG K mg (WB W σ0) (Rp K) fe) own σ H Q := by
  rintro σ H Q ⟨A, loc, hp, r, hl, q⟩
  refine ⟨A, loc, hp, r, hl, (Good.bind q).mono ?_⟩
  rintro J H1 ⟨A1, hp1, it, e1, r1, y1, g1⟩
  refine ⟨fun i m accv H2 => m = it.ds.length - i ∧ i ≤ it.ds.length ∧ ∃ A2 hp2 acc, Ext A1 H1 A2 H2 ∧ HRel K mg A2 H2 hp2 ∧ RpL K A2 H2 accv acc ∧
    Good K mg W σ (Rp K) A2 H2 ((compGo it g ft fe (wipeL loc own) (it.ds.drop i) hp2 acc).bind fun ds hp2 => if ds.length ≤ big then .ok (.lst ds) hp2 else .bad) Q, ⟨_, rfl, Nat.zero_le _, A1, hp1, [], .refl _ _, r1, .nil, by simpa using g1⟩, ?_⟩
  rintro i m accv H2 ⟨rfl, hi, A2, hp2, acc, e2, r2, ra, g2⟩
  by_cases hlt : i < it.ds.length
  · rw [List.drop_eq_getElem_cons hlt] at g2
    unfold compGo at g2
    by_cases hc : it.chk hp2 = true
    · rw [if_pos hc] at g2
      obtain ⟨ygo, yyl, _⟩ := y1 A2 H2 hp2 e2 r2 hc
      refine .inr ⟨ygo i hlt, fun accv' H' => it.ds.length - (i + 1) = it.ds.length - (i + 1) ∧ i + 1 ≤ it.ds.length ∧ ∃ A2 hp2 acc, Ext A1 H1 A2 H' ∧ HRel K mg A2 H' hp2 ∧ RpL K A2 H' accv' acc ∧
        Good K mg W σ (Rp K) A2 H' ((compGo it g ft fe (wipeL loc own) (it.ds.drop (i + 1)) hp2 acc).bind fun ds hp2 => if ds.length ≤ big then .ok (.lst ds) hp2 else .bad) Q, fun a H' w => ⟨it.ds.length - (i + 1), by omega, w⟩, fun x H' hy => ?_⟩
      obtain ⟨e3, r3, q3⟩ := yyl i it.ds[i] x H' (by simp [hlt]) hy
      cases hgd : g it.ds[i] (wipeL loc own) with
      | none => rw [hgd] at g2; exact g2.elim
      | some l =>
        rw [hgd] at g2
        have hl2 := ((((hl.ext e1).ext e2).ext e3).wipe own oks)
        refine hr A2 H' hp2 x it.ds[i] (wipe σ own) (wipeL loc own) l _ r3 q3 hl2 hgd fun σ3 hw l3 => ⟨hw.trans wipe_idem, A2, l, hp2, r3, l3, ?_⟩
        have g3 := Good.ext g2 e3
        simp only at g3
        rw [show ((ft l hp2).bind fun b hp1 => if b = true then (fe l hp1).bind fun y hp2 => if acc.length < big then compGo it g ft fe (wipeL loc own) (it.ds.drop (i + 1)) hp2 (acc ++ [y]) else .bad else compGo it g ft fe (wipeL loc own) (it.ds.drop (i + 1)) hp1 acc).bind
            (fun ds hp2 => if ds.length ≤ big then O.ok (D.lst ds) hp2 else .bad) = (ft l hp2).bind fun b hp1 => (if b = true then (fe l hp1).bind fun y hp2 => if acc.length < big then compGo it g ft fe (wipeL loc own) (it.ds.drop (i + 1)) hp2 (acc ++ [y]) else .bad else compGo it g ft fe (wipeL loc own) (it.ds.drop (i + 1)) hp1 acc).bind
            (fun ds hp2 => if ds.length ≤ big then O.ok (D.lst ds) hp2 else .bad) from by cases ft l hp2 <;> rfl] at g3
        refine ((Good.bind (R := RB) g3).mono ?_).retag (fun _ _ _ h => h)
        rintro b H4 ⟨A4, hp4, b', e4, r4, q4, g4⟩
        cases q4
        cases b with
        | true =>
          simp only [if_true] at g4 ⊢
          refine ⟨A4, l, hp4, r4, l3.ext e4, ?_⟩
          rw [show ((fe l hp4).bind fun y hp2 => if acc.length < big then compGo it g ft fe (wipeL loc own) (it.ds.drop (i + 1)) hp2 (acc ++ [y]) else .bad).bind (fun ds hp2 => if ds.length ≤ big then O.ok (D.lst ds) hp2 else .bad) =
            (fe l hp4).bind fun y hp2 => (if acc.length < big then compGo it g ft fe (wipeL loc own) (it.ds.drop (i + 1)) hp2 (acc ++ [y]) else .bad).bind (fun ds hp2 => if ds.length ≤ big then O.ok (D.lst ds) hp2 else .bad) from by cases fe l hp4 <;> rfl] at g4
          refine ((Good.bind (R := Rp K) g4).mono ?_).retag (fun _ _ _ h => h)
          rintro y H5 ⟨A5, hp5, d5, e5, r5, q5, g5⟩
          by_cases hz : acc.length < big
          · rw [if_pos hz] at g5
            refine ⟨by rw [ra.length]; exact Nat.lt_of_lt_of_le hz (by decide), trivial, hlt, A5, hp5, acc ++ [d5], ((e2.trans e3).trans e4).trans e5, r5, RpL.append (((ra.ext e3).ext e4).ext e5) (.cons q5 .nil), g5⟩
          · rw [if_neg hz] at g5; exact g5.elim
        | false =>
          simp only [Bool.false_eq_true, if_false] at g4 ⊢
          exact ⟨trivial, hlt, A4, hp4, acc, (e2.trans e3).trans e4, r4, (ra.ext e3).ext e4, g4⟩
    · rw [if_neg hc] at g2; exact g2.elim
  · have he : i = it.ds.length := by omega
    subst he
    rw [List.drop_length] at g2
    unfold compGo at g2
    by_cases hc : it.chk hp2 = true
    · rw [if_pos hc] at g2
      obtain ⟨_, _, ys⟩ := y1 A2 H2 hp2 e2 r2 hc
      simp only [O.bind] at g2
      by_cases hz : acc.length ≤ big
      · rw [if_pos hz] at g2
        exact .inl ⟨ys _ (Nat.le_refl _), by rw [ra.length]; exact big_line hz, fun D hD => new_lst r2 ra g2 D hD⟩
      · rw [if_neg hz] at g2; exact g2.elim
    · rw [if_neg hc] at g2; exact g2.elim
theorem se_comp {elt tg iter : PySem.Expr} {ifs : List PySem.Expr} {scope : Scope} {own : List (Str × Nat)} {pos : Pos} {fi : IM} {t : TG} {g : Tg} {ft : TM} {fe : EM} (hN : X.N.Nodup) (tk : Tk z X W) (hi : SI X W tg iter fi) (ok : BlkOk X.N X.env.scope scope own)
    (hg : ∀ (s : Shared) (H : Hp) (C : Addr) (cl : List (Str × Addr)) (fp : List Addr) (E : Value → Shared → Prop), PG (blkX X s H scope (compEnvC scope cl C X.env) fp E) tg t) (hr : TgW X.K X.mg (own.map (·.2)) t g)
    (ht : ∀ (σ0 : L2.St) (s : Shared) (H : Hp) (C : Addr) (cl : List (Str × Addr)) (fp : List Addr) (E : Value → Shared → Prop), Tk z (blkX X s H scope (compEnvC scope cl C X.env) fp E) (WB W σ0) → STs (blkX X s H scope (compEnvC scope cl C X.env) fp E) (WB W σ0) ifs ft)
    (he : ∀ (σ0 : L2.St) (s : Shared) (H : Hp) (C : Addr) (cl : List (Str × Addr)) (fp : List Addr) (E : Value → Shared → Prop), Tk z (blkX X s H scope (compEnvC scope cl C X.env) fp E) (WB W σ0) → SE (blkX X s H scope (compEnvC scope cl C X.env) fp E) (WB W σ0) elt fe)
    (hc : X.calm = true := by rfl) (hs : ∀ x, foldedSetIterable iter X.env x = pure x := by intro _; rfl) (oks : (own.map (·.2)).all Amb.ok = true := by rfl) : SE X W (.ListComp elt [⟨tg, iter, ifs, 0⟩] scope pos) (eComp fi g ft fe (own.map (·.2))) := (pe_lcX hc hN hi ok tk hg ht he hs).weak (comp_w hr oks)
theorem ss_setComp {i : Nat} {y : Str} {py : Pos} {elt tg iter : PySem.Expr} {ifs : List PySem.Expr} {scope : Scope} {own : List (Str × Nat)} {pos spos : Pos} {fi : IM} {t : TG} {g : Tg} {ft : TM} {fe : EM} (hN : X.N.Nodup) (tk : Tk z X W) (hi : SI X W tg iter fi) (ok : BlkOk X.N X.env.scope scope own)
    (hg : ∀ (s : Shared) (H : Hp) (C : Addr) (cl : List (Str × Addr)) (fp : List Addr) (E : Value → Shared → Prop), PG (blkX X s H scope (compEnvC scope cl C X.env) fp E) tg t) (hr : TgW X.K X.mg (own.map (·.2)) t g)
    (ht : ∀ (σ0 : L2.St) (s : Shared) (H : Hp) (C : Addr) (cl : List (Str × Addr)) (fp : List Addr) (E : Value → Shared → Prop), Tk z (blkX X s H scope (compEnvC scope cl C X.env) fp E) (WB W σ0) → STs (blkX X s H scope (compEnvC scope cl C X.env) fp E) (WB W σ0) ifs ft)
    (he : ∀ (σ0 : L2.St) (s : Shared) (H : Hp) (C : Addr) (cl : List (Str × Addr)) (fp : List Addr) (E : Value → Shared → Prop), Tk z (blkX X s H scope (compEnvC scope cl C X.env) fp E) (WB W σ0) → SE (blkX X s H scope (compEnvC scope cl C X.env) fp E) (WB W σ0) elt fe)
    (hsw : swapsWith (.ListComp elt [⟨tg, iter, ifs, 0⟩] scope pos) (some (.Name y py)) spos.line X.env = pure true)
    (hy : X.N[i]? = some y := by rfl) (hyl : X.env.scope.names.lookup y = some .local := by rfl) (hc : X.calm = true := by rfl) (hs : ∀ x, foldedSetIterable iter X.env x = pure x := by intro _; rfl) (oks : (own.map (·.2)).all Amb.ok = true := by rfl) (oki : Amb.ok i = true := by rfl) :
    SS X W (.Assign [.Name y py] (.ListComp elt [⟨tg, iter, ifs, 0⟩] scope pos) spos) (sAsg (eComp fi g ft fe (own.map (·.2))) i) := (ps_setLcX hc hN hi ok tk hg ht he hy hyl hsw hs).weak fun T σ H ⟨A, loc, hp, r, hl, q⟩ => by
  refine comp_w hr oks σ H _ ⟨A, loc, hp, r, hl, (GoodS.bind (R := Rp X.K) hl q).mono ?_⟩
  rintro v H1 ⟨A1, hp1, d1, e1, r1, q1, l1, g1⟩
  exact g1 A1 H1 _ (.refl _ _) r1 (l1.set i q1 oki)
end

/-! ### calls, with this wish -/
section
variable {X : Cx} {W : WX} {pos : Pos} {e : PySem.Expr} {es : List PySem.Expr}
theorem se_callK {z z' : Bool} {fs : AM} {x : Str} {st : Stmt} {ps : List Str} {p : Pos} {f : Addr} {fd : FuncData} {k n : Nat} {m : Fn} (d : Dfn X.K X.mg x st ps f fd) (F : FnOk X.prog X.w X.K X.mg X.base (CXz z' X.prog X.w) k f fd ps (spOf X.K X.mg n m)) (hr : Room k X.A) (tk : Tk z X W) (hz : (z' || !z) = true) (ha : SA X W (e :: es) fs) (hg : Gl X x := by rfl)
    (hdb : (x == ("__debug__" : Str)) = false := by decide) (he : starEach (e :: es) X.env = (false, eval e X.env) :: starEach es X.env := by rfl) (hpl : (backTo pos (starEach es X.env)).any (·.1) = false := by rfl) :
    SE X W (.Call (.Name x p) (e :: es) [] pos) (eCall (argc n m) fs) := (pe_callS F hr hg d.m d.F.kp d.b (fun σ => passTk tk hz σ) ha hdb he hpl).weak fun σ H Q ⟨A, loc, hp, hr, hl, hq⟩ => by
  refine ⟨A, loc, hp, hr, hl, (Good.bind (R := RpL X.K) hq).mono ?_⟩
  rintro vs H1 ⟨A1, hp1, ds, e1, r1, q1, g1⟩
  unfold argc at g1
  by_cases hz : ds.length = n
  · rw [if_pos hz] at g1
    exact ⟨by rw [q1.length]; exact hz, A1, hp1, ds, r1, q1, g1.retag fun _ _ _ h => h⟩
  · rw [if_neg hz] at g1; exact g1.elim

/-! ### isinstance -/
inductive Ty5 | bool | int | str | tuple | list
def Ty5.nm : Ty5 → String
  | .bool => "bool" | .int => "int" | .str => "str" | .tuple => "tuple" | .list => "list"
def isT (t : Ty5) (hp : HM) : D → Option Bool
  | .non => some false
  | .bl _ => some (match t with | .bool => true | .int => true | _ => false)
  | .int _ => some (match t with | .int => true | _ => false)
  | .str _ => some (match t with | .str => true | _ => false)
  | .tup _ => some (match t with | .tuple => true | _ => false)
  | .lst _ => some (match t with | .list => true | _ => false)
  | .ref n => match hp[n]? with
    | some (.lst _) => some (match t with | .list => true | _ => false)
    | _ => none
  | .scr _ => none
theorem kit5 {K : PySem.W.Frag} {a : String} {t : Ty5} {b : Bool} (h : kitB a t.nm = some b) : PySem.W.kitOne K (.type a) (.type t.nm) = some b := kit_ty h
theorem isT_rp {K : PySem.W.Frag} {mg : Str → Option Value} {A : List Addr} {H : Hp} {hp : HM} (r : HRel K mg A H hp) {t : Ty5} {v : V} {d : D} {b : Bool} (q : Rp K A H v d) (h : isT t hp d = some b) : ∃ ty, TyX K H v ty ∧ PySem.W.kitOne K ty (.type t.nm) = some b := by
  cases d with
  | non => rw [q.non_inv]; simp only [isT, Option.some.injEq] at h; subst h; exact ⟨_, .base .non, kit5 (by cases t <;> decide +kernel)⟩
  | bl x => rw [q.bl_inv]; simp only [isT, Option.some.injEq] at h; subst h; exact ⟨_, .base (.bl x), kit5 (by cases t <;> decide +kernel)⟩
  | int x => rw [q.int_inv]; simp only [isT, Option.some.injEq] at h; subst h; exact ⟨_, .base (.int x), kit5 (by cases t <;> decide +kernel)⟩
  | str x => rw [q.str_inv]; simp only [isT, Option.some.injEq] at h; subst h; exact ⟨_, .base (.str x), kit5 (by cases t <;> decide +kernel)⟩
  | tup xs =>
    simp only [isT, Option.some.injEq] at h; subst h
    obtain ⟨a, vs, rfl, tt, _⟩ := q.tup_inv
    cases tt with
    | own h1 h2 =>
      rcases h2 with h2 | ⟨o, h2⟩
      · exact ⟨_, .base (.tup h2), kit5 (by cases t <;> decide +kernel)⟩
      · exact ⟨_, .fTuple h2, kit5 (by cases t <;> decide +kernel)⟩
    | wr h1 =>
      rcases h1 fun _ => none with (z | ⟨o, z⟩) | ⟨o, its, n, e, c, _⟩
      · cases z
      · cases z
      · exact ⟨_, .kTuple e c, kit5 (by cases t <;> decide +kernel)⟩
  | lst xs =>
    simp only [isT, Option.some.injEq] at h; subst h
    obtain ⟨a, vs, rfl, _, h2, _⟩ := q.lst_inv
    exact ⟨_, .base (.lst h2), kit5 (by cases t <;> decide +kernel)⟩
  | ref n =>
    obtain ⟨a, rfl, ha⟩ := q.ref_inv
    simp only [isT] at h
    cases hm : hp[n]? with
    | none => rw [hm] at h; cases h
    | some mo =>
      rw [hm] at h
      cases mo with
      | lst xs =>
        simp only [Option.some.injEq] at h; subst h
        obtain ⟨vs, h2, _⟩ := r.ob n _ a hm ha
        exact ⟨_, .base (.lst h2), kit5 (by cases t <;> decide +kernel)⟩
      | ins c fs => cases h
  | scr _ => cases h
def eIsi (t : Ty5) (f : EM) : EM := fun loc hp => (f loc hp).bind fun d hp1 => match isT t hp1 d with
  | some b => .ok (.bl b) hp1
  | none => .bad
theorem se_isi {t : Ty5} {T : Str} {p p2 : Pos} {fe : EM} (hm : X.mg "isinstance" = none) (hmT : X.mg T = none) (hv : bootBuiltins T = some (.type t.nm)) (he : SE X W e fe) (hg : Gl X "isinstance" := by rfl) (hgT : Gl X T := by rfl) (hnT : T ≠ "__name__" := by decide) (hdT : (T == ("__debug__" : Str)) = false := by decide)
    (hs : starEach [e, .Name T p2] X.env = (false, eval e X.env) :: starEach [.Name T p2] X.env := by rfl) (hs2 : starEach [.Name T p2] X.env = (false, eval (.Name T p2) X.env) :: starEach [] X.env := by rfl) (hpl : (backTo pos (starEach [.Name T p2] X.env)).any (·.1) = false := by rfl) :
    SE X W (.Call (.Name "isinstance" p) [e, .Name T p2] [] pos) (eIsi t fe) :=
  (pe_callB call_isi hg hm (by decide +kernel) (pa_cons he (pa_cons (pe_bltn (v := .ty t.nm) hgT hmT hv rfl hnT hdT) pa_nil hs2) hs) (by decide) (by decide) hs hpl).weak fun σ H Q ⟨A, loc, hp, hr, hl, hq⟩ => by
  refine ⟨A, loc, hp, hr, hl, (Good.bind (R := Rp X.K) hq).mono ?_⟩
  rintro v H1 ⟨A1, hp1, d1, e1, r1, q1, g1⟩
  cases h : isT t hp1 d1 with
  | none => rw [h] at g1; exact g1.elim
  | some b =>
    rw [h] at g1
    obtain ⟨ty, h1, h2⟩ := isT_rp r1 q1 h
    exact ⟨v, _, ty, _, b, rfl, .ty _, h1, h2, g1.here r1 (.bl b)⟩
/-- str of a number -/
def gStrI : Fn := gOne fun d hp => match d with
  | .int i => if i.natAbs.log2 < 1920 then .ok (.str (toString i)) hp else .bad
  | _ => .bad
theorem cg_str {K : PySem.W.Frag} {mg : Str → Option Value} : CallG K mg (fun xs H Q => ∃ i : Int, xs = [.int i] ∧ i.natAbs.log2 < 1920 ∧ Q (.str (toString i)) H) gStrI := fun W σ A H hp vs ds Q r q g => by
  obtain ⟨x, d, rfl, rfl, q1, g⟩ := one_of q g
  cases d with
  | int i =>
    simp only at g
    by_cases hz : i.natAbs.log2 < 1920
    · rw [if_pos hz] at g
      exact ⟨i, by rw [q1.int_inv], hz, g.here r (.str _)⟩
    · rw [if_neg hz] at g; exact g.elim
  | _ => exact g.elim
/-- a module's constant -/
theorem se_glob {x : Str} {u : Value} {v : V} {d : D} {p : Pos} (hm : X.mg x = some u) (r : RelV v u) (q : ∀ A H, Rp X.K A H v d) (hg : Gl X x := by rfl) (hd : (x == ("__debug__" : Str)) = false := by decide) : SE X W (.Name x p) (eC d) := se_c (pe_glob hg hm r hd) q
end
end Ms

namespace Ms
open PySem L2 PySem.Spec PyProof.Rows
variable [Amb]
section
variable {X : Cx} {W : WX} {pos : Pos} {e : PySem.Expr} {es : List PySem.Expr} {fe : EM}

/-! ### slices -/
abbrev PM := Loc → HM → O (Option Int)
abbrev RO : List Addr → Hp → Option Int → Option Int → Prop := fun _ _ a b => a = b
abbrev SPo (X : Cx) (W : WX) (e : Option PySem.Expr) (f : PM) : Prop := PO X e (tG X.K X.mg W RO f)
theorem _root_.L2.PO.weak {e : Option PySem.Expr} {t t' : TO} (h : PO X e t) (w : ∀ σ H Q, t' σ H Q → t σ H Q) : PO X e t' := ⟨fun pins s σ H Q I q => h.run pins s σ H Q I (w σ H Q q)⟩
def pNone : PM := fun _ hp => .ok none hp
def pSome (f : EM) : PM := fun loc hp => (f loc hp).bind fun d hp1 => match d with
  | .int i => .ok (some i) hp1
  | _ => .bad
theorem sp_none : SPo X W none pNone := po_none.weak fun σ H Q ⟨A, loc, hp, hr, hl, g⟩ => g A H none (.refl A H) hr rfl
theorem sp_some (he : SE X W e fe) : SPo X W (some e) (pSome fe) := (po_some he).weak fun σ H Q ⟨A, loc, hp, hr, hl, hq⟩ => by
  refine ⟨A, loc, hp, hr, hl, (Good.bind (R := Rp X.K) hq).mono ?_⟩
  rintro v1 H1 ⟨A1, hp1, d1, e1, r1, q1, g1⟩
  cases d1 with
  | int i => exact ⟨i, q1.int_inv, g1 A1 H1 _ (.refl _ _) r1 rfl⟩
  | _ => exact g1.elim
def cutD (xs : List D) (lo hi : Option Int) : List D := (xs.drop (HT.sIx xs.length 0 lo)).take (HT.sIx xs.length xs.length hi - HT.sIx xs.length 0 lo)
theorem cut_rpl {K : PySem.W.Frag} {A : List Addr} {H : Hp} {vs : List V} {ds : List D} (r : RpL K A H vs ds) (lo hi : Option Int) : RpL K A H (cutV vs lo hi) (cutD ds lo hi) := by
  unfold cutV cutD
  rw [r.length]
  exact (r.drop _).take _
def gCut (d : D) (lo hi : Option Int) (hp : HM) : O D := match d with
  | .tup ds => .ok (.tup (cutD ds lo hi)) hp
  | d => match lstOf hp d with
    | some ds => .ok (.lst (cutD ds lo hi)) hp
    | none => .bad
def eCut (f : EM) (l h : PM) : EM := fun loc hp => (f loc hp).bind fun d hp1 => (l loc hp1).bind fun lo hp2 => (h loc hp2).bind fun hi hp3 => gCut d lo hi hp3
theorem se_cut {lo hi : Option PySem.Expr} {p2 : Pos} {l h : PM} (he : SE X W e fe) (hl : SPo X W lo l) (hh : SPo X W hi h) : SE X W (.Subscript e (.Slice lo hi none p2) pos) (eCut fe l h) :=
  (pe_slice (sl_tupA.or sl_list) he hl hh).weak fun σ H Q ⟨A, loc, hp, hr, hloc, hq⟩ => by
  refine ⟨A, loc, hp, hr, hloc, (Good.bind (R := Rp X.K) hq).mono ?_⟩
  rintro v1 H1 ⟨A1, hp1, d1, e1, r1, q1, g1⟩
  refine ⟨A1, loc, hp1, r1, hloc.ext e1, (Good.bind (R := RO) g1).mono ?_⟩
  rintro lo' H2 ⟨A2, hp2, lo2, e2, r2, q2, g2⟩
  cases q2
  refine ⟨A2, loc, hp2, r2, (hloc.ext e1).ext e2, (Good.bind (R := RO) g2).mono ?_⟩
  rintro hi' H3 ⟨A3, hp3, hi2, e3, r3, q3, g3⟩
  cases q3
  have q4 := (q1.ext e2).ext e3
  have low : Good X.K X.mg W σ (Rp X.K) A3 H3 (match lstOf hp3 d1 with
    | some ds => .ok (.lst (cutD ds lo' hi')) hp3
    | none => .bad) Q → (rSlA X.K v1 lo' hi' H3 Q ∨ rSlL X.K v1 lo' hi' H3 Q) := fun g => by
    cases h1 : lstOf hp3 d1 with
    | none => rw [h1] at g; exact g.elim
    | some ds =>
      rw [h1] at g
      obtain ⟨p, vs, rfl, a1, a2⟩ := lstOf_rp r3 q4 h1
      exact .inr ⟨p, vs, rfl, SqL.of a1, new_lst r3 (cut_rpl a2 _ _) g⟩
  cases d1 with
  | tup ds =>
    have q5 := q4
    obtain ⟨a, vs, rfl, t, rl⟩ := q4.tup_inv
    refine .inl ⟨a, vs, rfl, t.sq, fun z => ?_, fun _ => new_tup r3 (cut_rpl rl _ _) g3⟩
    have : cutD ds lo' hi' = ds := by
      unfold cutD
      rw [← rl.length, z.1, z.2]
      simp [rl.length]
    simp only [gCut, this] at g3
    exact g3.here r3 q5
  | _ => exact low g3

/-! ### f-strings -/
def eFmt (f : EM) : EM := fun loc hp => (f loc hp).bind fun d hp1 => match d with
  | .str y => if y.length ≤ big then .ok (.str y) hp1 else .bad
  | .int i => if i.natAbs.log2 < 1920 then .ok (.str (toString i)) hp1 else .bad
  | _ => .bad
theorem se_fmt (he : SE X W e fe) : SE X W (.FormattedValue e (-1) none pos) (eFmt fe) := (pe_fmt he).weak fun σ H Q ⟨A, loc, hp, hr, hl, hq⟩ => by
  refine ⟨A, loc, hp, hr, hl, (Good.bind (R := Rp X.K) hq).mono ?_⟩
  rintro v1 H1 ⟨A1, hp1, d1, e1, r1, q1, g1⟩
  cases d1 with
  | str y =>
    simp only at g1
    by_cases hz : y.length ≤ big
    · rw [if_pos hz] at g1
      exact .inl ⟨y, q1.str_inv, big_line hz, g1.here r1 (.str _)⟩
    · rw [if_neg hz] at g1; exact g1.elim
  | int i =>
    simp only at g1
    by_cases hz : i.natAbs.log2 < 1920
    · rw [if_pos hz] at g1
      exact .inr ⟨i, q1.int_inv, hz, g1.here r1 (.str _)⟩
    · rw [if_neg hz] at g1; exact g1.elim
  | _ => exact g1.elim
inductive SJ (X : Cx) (W : WX) : List PySem.Expr → List EM → Prop where
  | nil : SJ X W [] []
  | cons {e : PySem.Expr} {f : EM} {es : List PySem.Expr} {fs : List EM} (h : SE X W e f) (r : SJ X W es fs) : SJ X W (e :: es) (f :: fs)
theorem SJ.pj {es : List PySem.Expr} {fs : List EM} (h : SJ X W es fs) : PJ X es (fs.map fun f => tG X.K X.mg W (Rp X.K) f) := by
  induction h with
  | nil => exact .nil
  | cons h _ ih => exact .cons h ih
def jGo : List EM → Str → Loc → HM → O D
  | [], acc, _, hp => .ok (.str acc) hp
  | f :: fs, acc, loc, hp => (f loc hp).bind fun d hp1 => match d with
    | .str y => if (acc ++ y).length ≤ big then jGo fs (acc ++ y) loc hp1 else .bad
    | _ => .bad
theorem js_w : ∀ {fs : List EM} {acc : Str} {σ : L2.St} {H : Hp} {Q : VK} {A : List Addr} {loc : Loc} {hp : HM}, HRel X.K X.mg A H hp → LocR X.K A H σ loc → Good X.K X.mg W σ (Rp X.K) A H (jGo fs acc loc hp) Q →
    tJs (fs.map fun f => tG X.K X.mg W (Rp X.K) f) acc σ H (fun out H1 => Q (.str out) H1)
  | [], acc, σ, H, Q, A, loc, hp, r, l, g => g.here r (.str _)
  | f :: fs, acc, σ, H, Q, A, loc, hp, r, l, g => by
    refine ⟨A, loc, hp, r, l, (Good.bind (R := Rp X.K) g).mono ?_⟩
    rintro v1 H1 ⟨A1, hp1, d1, e1, r1, q1, g1⟩
    cases d1 with
    | str y =>
      simp only at g1
      by_cases hz : (acc ++ y).length ≤ big
      · rw [if_pos hz] at g1
        exact ⟨y, q1.str_inv, big_line hz, js_w r1 (l.ext e1) g1⟩
      · rw [if_neg hz] at g1; exact g1.elim
    | _ => exact g1.elim
def eJoined (fs : List EM) : EM := fun loc hp => jGo fs Str.empty loc hp
theorem se_joined {v1 v2 : PySem.Expr} {rest : List PySem.Expr} {fs : List EM} (h : SJ X W (v1 :: v2 :: rest) fs) : SE X W (.JoinedStr (v1 :: v2 :: rest) pos) (eJoined fs) := (pe_joined h.pj).weak fun σ H Q ⟨A, loc, hp, hr, hl, hq⟩ => js_w hr hl hq

/-! ### a text many times -/
def repS (x : Str) (n : Int) : Str := if n < 1 then Str.empty else if (n == 1 || x.length == 0) = true then x else ⟨(List.replicate n.toNat x.cps).foldl (· ++ ·) #[]⟩
theorem op_repS : OpR X (binaryOp .Mult) (fun x y H Q => ∃ (a : Str) (n : Int), x = .str a ∧ y = .int n ∧ -1000 ≤ n ∧ n ≤ 1000 ∧ a.length ≤ 1000 ∧ (repS a n).length ≤ big ∧ Q (.str (repS a n)) H) := by
  intro pins s σ H x y v u Q I rx ry h
  obtain ⟨a, n, rfl, rfl, h1, h2, h3, h4, q⟩ := h
  obtain ⟨t, rfl⟩ := rx
  obtain ⟨t', rfl⟩ := ry
  have e64 : (2 : Int) ^ 63 = 9223372036854775808 := rfl
  refine PySem.P.mul_str ?_ (fun _ _ => ?_) (fun _ _ => ?_) ?_
  · simp only [e64]
    have a1 : ¬ n < -9223372036854775808 := by omega
    have a2 : ¬ n ≥ 9223372036854775808 := by omega
    simp [a1, a2]
  · rename_i hn1 _
    have hn : 1 ≤ n := by omega
    have : (1000000 : Int) ≤ (2 ^ 63 - 1) / n := by
      rw [e64]
      apply Int.le_ediv_of_mul_le (by omega)
      omega
    omega
  · have e : sizeLine = 16777216 := sizeLine_eq
    unfold Builtin.Str.tooLong
    have : a.length * n.toNat ≤ 1000 * 1000 := Nat.mul_le_mul h3 (by omega)
    simp only [decide_eq_false_iff_not]
    omega
  · have h4 := big_line h4
    unfold repS at q h4
    split
    · rename_i hh; rw [if_pos hh] at q h4; exact ⟨h4, .str _, H, I.tok _, ⟨_, rfl⟩, q⟩
    · rename_i hh
      rw [if_neg hh] at q h4
      split
      · rename_i h5; rw [if_pos h5] at q; exact ⟨.str _, H, I, ⟨_, rfl⟩, q⟩
      · rename_i h5; rw [if_neg h5] at q h4; exact ⟨h4, .str _, H, I.tok _, ⟨_, rfl⟩, q⟩
def gRepS : D → D → HM → O D := fun x y hp => match x, y with
  | .str a, .int n => if -1000 ≤ n ∧ n ≤ 1000 ∧ a.length ≤ 1000 ∧ (repS a n).length ≤ big then .ok (.str (repS a n)) hp else .bad
  | _, _ => .bad
theorem og_repS {K : PySem.W.Frag} {mg : Str → Option Value} : OpG K mg (fun x y H Q => ∃ (a : Str) (n : Int), x = .str a ∧ y = .int n ∧ -1000 ≤ n ∧ n ≤ 1000 ∧ a.length ≤ 1000 ∧ (repS a n).length ≤ big ∧ Q (.str (repS a n)) H) gRepS := fun W σ A H hp v1 v2 d1 d2 Q r q1 q2 g => by
  unfold gRepS at g
  split at g
  · rename_i a n
    by_cases hz : -1000 ≤ n ∧ n ≤ 1000 ∧ a.length ≤ 1000 ∧ (repS a n).length ≤ big
    · rw [if_pos hz] at g
      exact ⟨a, n, q1.str_inv, q2.int_inv, hz.1, hz.2.1, hz.2.2.1, hz.2.2.2, g.here r (.str _)⟩
    · rw [if_neg hz] at g; exact g.elim
  · exact g.elim

/-! ### range of one -/
def iRg1 (fs : AM) : IM := fun loc hp => (fs loc hp).bind fun ds hp1 => match ds with
  | [.int j] => if -lim ≤ j ∧ j ≤ lim then .ok ⟨rngD 0 j.toNat, none⟩ hp1 else .bad
  | _ => .bad
theorem si_rg1 {tg a : PySem.Expr} {p : Pos} {fs : AM} (hm : X.mg "range" = none) (ha : SA X W [a] fs) (hg : Gl X "range" := by rfl) (hs : starEach [a] X.env = [(false, eval a X.env)] := by rfl) : SI X W tg (.Call (.Name "range" p) [a] [] pos) (iRg1 fs) := si_range1 hm ha hg hs

/-! ### the module's names -/
theorem se_globI {x : Str} {i : Int} {p : Pos} (h : ∃ t, X.mg x = some (.int i t)) (hg : Gl X x := by rfl) (hd : (x == ("__debug__" : Str)) = false := by decide) : SE X W (.Name x p) (eC (.int i)) := by
  obtain ⟨t, h⟩ := h
  exact se_glob (v := .int i) h ⟨_, rfl⟩ (fun _ _ => .int i) hg hd
theorem se_globS {x y : Str} {p : Pos} (h : ∃ t, X.mg x = some (.str y t)) (hg : Gl X x := by rfl) (hd : (x == ("__debug__" : Str)) = false := by decide) : SE X W (.Name x p) (eC (.str y)) := by
  obtain ⟨t, h⟩ := h
  exact se_glob (v := .str y) h ⟨_, rfl⟩ (fun _ _ => .str y) hg hd
/-- a written tuple of ints -/
theorem se_globT {x : Str} {ns : List Int} {p : Pos} (h : ∃ a, X.mg x = some (.ref a) ∧ ∀ H, SqT X.K H a (ns.map V.int)) (hg : Gl X x := by rfl) (hd : (x == ("__debug__" : Str)) = false := by decide) : SE X W (.Name x p) (eC (.tup (ns.map .int))) := by
  obtain ⟨a, h, k⟩ := h
  exact se_glob (v := .ref a) h rfl (fun _ _ => .tup (.wr k) ints_rpl) hg hd
/-- a def keeps to its mirror -/
def Ok (z : Bool) (P : Program) (w : World) (K : PySem.W.Frag) (mg : Str → Option Value) (base : Heap) (k : Nat) (x : Str) (st : Stmt) (ps : List Str) (n : Nat) (m : Fn) : Prop :=
  ∃ f fd, Dfn K mg x st ps f fd ∧ FnOk P w K mg base (CXz z P w) k f fd ps (spOf K mg n m)
theorem se_own {z z' : Bool} {fs : AM} {x : Str} {st : Stmt} {ps : List Str} {p : Pos} {k j n : Nat} {m : Fn} (h : Ok z' X.prog X.w X.K X.mg X.base k x st ps n m) (hr : Room j X.A) (tk : Tk z X W) (ha : SA X W (e :: es) fs) (hk : k ≤ j := by decide) (hz : (z' || !z) = true := by rfl) (hg : Gl X x := by rfl)
    (hdb : (x == ("__debug__" : Str)) = false := by decide) (he : starEach (e :: es) X.env = (false, eval e X.env) :: starEach es X.env := by rfl) (hpl : (backTo pos (starEach es X.env)).any (·.1) = false := by rfl) :
    SE X W (.Call (.Name x p) (e :: es) [] pos) (eCall (argc n m) fs) := by
  obtain ⟨f, fd, d, F⟩ := h
  exact se_callK d F (hr.mono hk) tk hz ha hg hdb he hpl
section
variable {P : Program} {w : World} {K : PySem.W.Frag} {mg : Str → Option Value} {base : Heap}
theorem ok_fn {z : Bool} {x : Str} {st : Stmt} {N ps : List Str} {k n : Nat} {body : SM} (d : ∃ f fd, Dfn K mg x st ps f fd) (S : FnScope N ps (defScope st)) (hn : ps.length = n)
    (hbody : ∀ (f : Addr) (cdv : Value) (A : Around) (outer : List Env) (s : Shared) (H : Hp) (E : XK), Room k (A.deeper (PyProof.Rows.envOfC x (defScope st) s.heap.objs.size f cdv)) →
      SSs (cxOf (CXz z P w) P w K mg base N x (defScope st) f cdv A outer s H E) (WD E) (defBody st) body) (hj : ∀ A H σ, Amb.J A H σ := by exact fun _ _ _ => trivial) : Ok z P w K mg base (k + 1) x st ps n (fnOf n N.length body) := by
  obtain ⟨f, fd, d⟩ := d
  exact ⟨f, fd, d, fn_sim d.F S hn (hbody f) hj⟩
theorem ok_keep {z : Bool} {x : Str} {st : Stmt} {N ps : List Str} {k n : Nat} {body : SM} (d : ∃ f fd, Dfn K mg x st ps f fd) (S : FnScope N ps (defScope st)) (hn : ps.length = n)
    (hbody : ∀ (f : Addr) (cdv : Value) (A : Around) (outer : List Env) (s : Shared) (H : Hp) (E : XK), Room k (A.deeper (PyProof.Rows.envOfC x (defScope st) s.heap.objs.size f cdv)) →
      SSs (cxOf (CXz z P w) P w K mg base N x (defScope st) f cdv A outer s H E) (WD E) (defBody st) body) (hj : ∀ A H σ, Amb.J A H σ := by exact fun _ _ _ => trivial) : Ok z P w K mg base (k + 1) x st ps n (fnKeep n N.length body) := by
  obtain ⟨f, fd, d⟩ := d
  exact ⟨f, fd, d, fn_keep d.F S hn (hbody f) hj⟩
theorem ok_zero {z : Bool} {x : Str} {st : Stmt} {ps : List Str} {k n : Nat} (d : ∃ f fd, Dfn K mg x st ps f fd) : Ok z P w K mg base k x st ps n (fun _ _ => .bad) := by
  obtain ⟨f, fd, d⟩ := d
  exact ⟨f, fd, d, fun vs H Q E h => by obtain ⟨_, _, _, _, _, _, g⟩ := h; exact g.elim, fun _ _ _ _ _ _ _ _ _ _ _ _ _ h => by obtain ⟨_, _, _, _, _, _, g⟩ := h; exact g.elim⟩
end

/-! ### raise, try -/
theorem ss_raiseE {z : Bool} {x m : Str} {j : Nat} {p p2 cpos : Pos} (T : ∃ C, ExcX X.K X.mg x C) (tk : TakesZ z X W) (hc : X.calm = true := by rfl) (hg : Gl X x := by rfl) (hdb : (x == ("__debug__" : Str)) = false := by decide) :
    SS X W (.Raise (some (.Call (.Name x p) [.Constant (.str m) j p2] [] cpos)) none pos) (sRaise x) := by
  obtain ⟨C, T⟩ := T
  exact ss_raise T tk hc hg hdb
theorem LocR.hide {K : PySem.W.Frag} {A : List Addr} {H : Hp} {σ : L2.St} {loc : Loc} (l : LocR K A H σ loc) (i : Nat) (o : Option V) (ok : Amb.ok i = true) : LocR K A H (σ.set i o) (loc.set i none) := by
  refine ⟨by simp [l.1], fun j d h => ?_, Amb.set i o ok l.2.2⟩
  by_cases hj : i = j
  · subst hj
    by_cases hl : i < loc.length
    · rw [List.getElem?_set_self hl] at h; cases h
    · rw [List.getElem?_eq_none (by simpa using hl)] at h; cases h
  · rw [List.getElem?_set_ne hj] at h ⊢
    exact l.2.1 j d h
/-- an exception x, caught as what it is; of the class y too -/
structure Caught (K : PySem.W.Frag) (mg : Str → Option Value) (x y : Str) : Prop where
  ex : ∃ C D, mg x = some (.ref C) ∧ mg y = some (.ref D) ∧ L2.ExcC K C ∧ PySem.W.exmOne K (.ref C) (.ref C) = some true ∧ PySem.W.kitOne K (.ref C) (.ref D) = some true
/-- try: body / except x as n: if isinstance(n, y): return e -/
def sTryIs (x : Str) (i : Nat) (body : SM) (fe : EM) : SM := fun loc hp => match body loc hp with
  | .exc ex l hp' => if ex.cls = x ∧ ex.fld = none ∧ i < l.length then (match fe (l.set i none) hp' with
    | .ok d hp2 => .rt d hp2
    | _ => .bad) else .bad
  | .nx l h => .nx l h
  | .rt d h => .rt d h
  | .bk l h => .bk l h
  | .ct l h => .ct l h
  | .bad => .bad
theorem ss_tryIs {i : Nat} {x y n : Str} {body : List Stmt} {np pos' ip cp p1 p2 p3 rp : Pos} {fb : SM} (hs : X.stack = X.env :: X.outer) (hf : X.env.frame = some X.env.locals) (hN : X.N.Nodup) (C : Caught X.K X.mg x y) (hm : X.mg "isinstance" = none)
    (hb : ∀ (W : WX) (pn : List (Addr × Obj)) (xe : Value → Shared → Prop), TakesZ false (X.tr pn xe) W → PassesOwn (model X.prog X.w) X.A X.env xe → SSs (X.tr pn xe) W body fb)
    (he : ∀ (a : Addr) (oe : Obj) (pn : List (Addr × Obj)), SE (X.suite a ((a, oe) :: pn)) (fun _ _ _ _ => False) e fe)
    (hi : X.N[i]? = some n := by rfl) (hln : X.env.kindOf n = some .local := by rfl) (hgx : Gl X x := by rfl) (hgy : Gl X y := by rfl) (hg : Gl X "isinstance" := by rfl) (hxd : (x == ("__debug__" : Str)) = false := by decide) (hyd : (y == ("__debug__" : Str)) = false := by decide)
    (hnd : (n == ("__debug__" : Str)) = false := by decide) (hnc : (n == ("__classdict__" : Str)) = false := by decide) (ok : Amb.ok i = true := by rfl) :
    SS X W (.Try body [.ExceptHandler (some (.Name x np)) (some n) [.If (.Call (.Name "isinstance" p1) [.Name n p2, .Name y p3] [] cp) [.Return (some e) rp] [] ip] pos'] [] [] pos) (sTryIs x i fb fe) := by
  obtain ⟨CB, CS, gx, gy, T, hx, hk⟩ := C.ex
  have key := ps_try_as (X := X) (Wout := fun _ _ _ _ => False) (x := x) (n := n) (c := .ref CB) (i := i) (body := body) (b₀ := .If (.Call (.Name "isinstance" p1) [.Name n p2, .Name y p3] [] cp) [.Return (some e) rp] [] ip) (suite := []) (np := np) (pos := pos) (pos' := pos')
    (tb := fun W => tS X.K X.mg W fb) (ts := fun a cls d T σ H => cls = .ref CB ∧ d = none ∧ σ[i]? = some (some (.ref a)) ∧ tRet (tG X.K X.mg (fun _ _ _ _ => False) (Rp X.K) fe) T σ H)
    hs hf hN hi hln ⟨hgx, hxd, .inl gx⟩ takes0 (fun W pn xe tk po => hb W pn xe tk po) (fun a oe cls d pn hz hfld => ⟨fun pins s σ H T' I q => by
      obtain ⟨rfl, rfl, hσ, q⟩ := q
      have vis : Vis X.env.scope n := .inl hln
      have pe : PE (X.suite a ((a, oe) :: pn)) (.Call (.Name "isinstance" p1) [.Name n p2, .Name y p3] [] cp) (tCB (rIsE X.K CB a) (tCons (tVar i) (tCons (tC (.ref CS)) tNil))) :=
        pe_callB (X := X.suite a ((a, oe) :: pn)) (call_isE T hz hfld) hg hm (by decide +kernel) (pa_cons (pe_var hi vis hnd hnc) (pa_cons (pe_glob hgy gy rfl hyd) pa_nil)) (by decide) (by decide)
      exact (pss_one (ps_if (pt_val pe) (pss_one (ps_ret (he a oe pn))) pss_nil)).run pins s σ H T' I ⟨_, hσ, .ref CS, .ref CS, true, rfl, fun u r => r, hk, true, rfl, iteT q⟩⟩)
  refine key.weak fun T' σ H ⟨A, loc, hp, r, hl, q⟩ => ⟨A, loc, hp, r, hl, ?_⟩
  unfold sTryIs at q
  cases o : fb loc hp with
  | exc ex l hp' =>
    rw [o] at q
    simp only at q
    by_cases hz : ex.cls = x ∧ ex.fld = none ∧ i < l.length
    · rw [if_pos hz] at q
      intro A2 H2 σ2 c od e2 r2 l2 hx2
      obtain ⟨x1, x2⟩ := hx2
      rw [hz.1, gx] at x1
      cases x1
      rw [hz.2.1] at x2
      refine ⟨true, hx, fun _ a ha => ⟨rfl, x2, ?_, ?_⟩, fun z => by cases z⟩
      · rw [List.getElem?_set_self (by rw [l2.1]; exact hz.2.2)]
      · cases o2 : fe (l.set i none) hp' with
        | ok d hp2 =>
          rw [o2] at q
          refine ⟨A2, l.set i none, hp', r2, l2.hide i _ ok, ?_⟩
          rw [o2]
          exact fun A3 H3 v e3 r3 q3 => q A3 H3 v (e2.trans e3) r3 q3
        | exc _ _ => rw [o2] at q; exact q.elim
        | bad => rw [o2] at q; exact q.elim
    · rw [if_neg hz] at q; exact q.elim
  | nx l h => rw [o] at q; exact q
  | rt d h => rw [o] at q; exact q
  | bk l h => rw [o] at q; exact q
  | ct l h => rw [o] at q; exact q
  | bad => rw [o] at q; exact q
end
end Ms

/-! Statements behind which a token is given out: str.replace. -/
namespace Ms
open PySem L2 PySem.Spec PyProof.Rows
variable [Amb]
section
variable {X : Cx} {W : WX} {pos : Pos} {e a b : PySem.Expr} {es : List PySem.Expr} {fe fa fb : EM} {st : Stmt} {rest : List Stmt} {f g : SM}
structure SET (X : Cx) (W : WX) (e : PySem.Expr) (f : EM) : Prop where
  run : PET X e (tG X.K X.mg W (Rp X.K) f)
structure SAT (X : Cx) (W : WX) (es : List PySem.Expr) (f : AM) : Prop where
  run : PAT X es (tG X.K X.mg W (RpL X.K) f)
structure SST (X : Cx) (W : WX) (st : Stmt) (f : SM) : Prop where
  run : PST X st (tS X.K X.mg W f)
structure SSsT (X : Cx) (W : WX) (st : List Stmt) (f : SM) : Prop where
  run : PSsT X st (tS X.K X.mg W f)
theorem set_of (h : SE X W e fe) : SET X W e fe := ⟨fun pins s σ H Q _ I q => h.run pins s σ H Q I q⟩
theorem sst_of (h : SS X W st f) : SST X W st f := ⟨PST.of h⟩
theorem ssst_of (h : SSs X W rest f) : SSsT X W rest f := ⟨PSsT.of h⟩
theorem set_bin {op : Operator} {r : R2} {gg : D → D → HM → O D} (ho : OpR X (binaryOp op) r) (hg : OpG X.K X.mg r gg) (ha : SET X W a fa) (hb : SET X W b fb) : SET X W (.BinOp a op b pos) (eBin gg fa fb) :=
  ⟨fun pins s σ H Q h0 I q => CwR.pet_op ho ha.run hb.run pins s σ H Q h0 I (bin_w hg σ H Q q)⟩
theorem sat_nil : SAT X W [] aNil := ⟨fun pos pins s σ H Q h0 I q => (sa_nil (X := X) (W := W)).run pos pins s σ H Q I q⟩
theorem sat_cons {fs : AM} (ha : SET X W e fe) (hr : SAT X W es fs) (hs : starEach (e :: es) X.env = (false, eval e X.env) :: starEach es X.env := by rfl) : SAT X W (e :: es) (aCons fe fs) := by
  refine ⟨fun pos pins s σ H Q h0 I q => ?_⟩
  refine pat_cons ha.run hr.run hs pos pins s σ H Q h0 I ?_
  obtain ⟨A, loc, hp, r, hl, hq⟩ := q
  refine ⟨A, loc, hp, r, hl, (Good.bind (R := Rp X.K) hq).mono ?_⟩
  rintro v1 H1 ⟨A1, hp1, d1, e1, r1, q1, g1⟩
  refine ⟨A1, loc, hp1, r1, hl.ext e1, (Good.bind (R := RpL X.K) g1).mono ?_⟩
  rintro vs H2 ⟨A2, hp2, ds, e2, r2, q2, g2⟩
  exact g2 A2 H2 _ (.refl _ _) r2 (.cons (q1.ext e2) q2)
theorem set_lst {fs : AM} (h : SAT X W es fs) : SET X W (.List es pos) (eLst fs) := by
  refine ⟨fun pins s σ H Q h0 I q => ?_⟩
  refine pet_lst h.run pins s σ H Q h0 I ?_
  obtain ⟨A, loc, hp, r, hl, hq⟩ := q
  refine ⟨A, loc, hp, r, hl, (Good.bind (R := RpL X.K) hq).mono ?_⟩
  rintro vs H1 ⟨A1, hp1, ds, e1, r1, q1, g1⟩
  by_cases hz : ds.length ≤ big
  · rw [if_pos hz] at g1
    exact ⟨by rw [q1.length]; exact big_line hz, new_lst r1 q1 g1⟩
  · rw [if_neg hz] at g1; exact g1.elim
theorem pet_tup {t : TA} {k : Nat} (h : PAT X es t) : PET X (.Tuple es k pos) (tTup t) := fun pins s σ H Q h0 I hq => by
  refine wpAny_Tuple_spliced (thn (h pos pins s σ H _ h0 I hq) fun us s1 ⟨xs, H1, I1, r, z, q⟩ => ⟨r.length ▸ z, ?_⟩)
  have hf := I1.hok.fresh (Nat.le_refl s1.heap.objs.size)
  exact ⟨.ref s1.heap.objs.size, _, I1.laid (t' := s1.toks) (o := .tup xs) (fun b u e => Heap.get?_push_of_some _ e) (Nat.le_refl _) ⟨z, us, r, ⟨_, Heap.get?_push_size _ rfl, rfl, _, rfl⟩⟩, rfl, q _ hf⟩
theorem set_tup {fs : AM} {k : Nat} (h : SAT X W es fs) : SET X W (.Tuple es k pos) (eTup fs) := by
  refine ⟨fun pins s σ H Q h0 I q => ?_⟩
  refine pet_tup h.run pins s σ H Q h0 I ?_
  obtain ⟨A, loc, hp, r, hl, hq⟩ := q
  refine ⟨A, loc, hp, r, hl, (Good.bind (R := RpL X.K) hq).mono ?_⟩
  rintro vs H1 ⟨A1, hp1, ds, e1, r1, q1, g1⟩
  by_cases hz : ds.length ≤ big
  · rw [if_pos hz] at g1
    exact ⟨by rw [q1.length]; exact big_line hz, new_tup r1 q1 g1⟩
  · rw [if_neg hz] at g1; exact g1.elim
/-- o.replace('y', 'z') -/
def eRepl (f : EM) (y z : Str) : EM := fun loc hp => (f loc hp).bind fun d hp1 => match d with
  | .str x => if x.length + (x.length + 1) * z.length ≤ big then .ok (.str (Txt.replace x y z)) hp1 else .bad
  | _ => .bad
theorem set_repl {y z : Str} {j k : Nat} {c0 c1 apos : Pos} (ho : SE X W e fe) (hyz : (y == z) = false := by decide)
    (hst : starEach [.Constant (.str y) j c0, .Constant (.str z) k c1] X.env = [(false, eval (.Constant (.str y) j c0) X.env), (false, eval (.Constant (.str z) k c1) X.env)] := by rfl)
    (hbase : attributeBase e "replace" X.env (eval e X.env) = eval e X.env := by rfl) (hline : (apos.endLine == pos.line) = true := by rfl) :
    SET X W (.Call (.Attribute e "replace" apos) [.Constant (.str y) j c0, .Constant (.str z) k c1] [] pos) (eRepl fe y z) := by
  refine ⟨fun pins s σ H Q h0 I q => ?_⟩
  refine CwR.pet_replC ho hyz hst hbase hline pins s σ H Q h0 I ?_
  obtain ⟨A, loc, hp, r, hl, hq⟩ := q
  refine ⟨A, loc, hp, r, hl, (Good.bind (R := Rp X.K) hq).mono ?_⟩
  rintro v1 H1 ⟨A1, hp1, d1, e1, r1, q1, g1⟩
  cases d1 with
  | str x =>
    simp only at g1
    by_cases hz : x.length + (x.length + 1) * z.length ≤ big
    · rw [if_pos hz] at g1
      exact ⟨x, q1.str_inv, Nat.le_trans hz (by decide), g1.here r1 (.str _)⟩
    · rw [if_neg hz] at g1; exact g1.elim
  | _ => exact g1.elim
theorem sst_asg {i : Nat} {x : Str} {pos' : Pos} (hN : X.N.Nodup) (he : SET X W e fe) (hi : X.N[i]? = some x := by rfl) (hx : L2.Loc X.env.scope x := by first | exact Or.inl rfl | exact Or.inr rfl) (hs : swapsWith e (some (.Name x pos')) pos.line X.env = pure false := by rfl)
    (hf : X.fn x = true ∨ X.env.scope.names.lookup x = some .local := by first | exact .inl rfl | exact .inr rfl | assumption) (ok : Amb.ok i = true := by rfl) : SST X W (.Assign [.Name x pos'] e pos) (sAsg fe i) := by
  refine ⟨fun pins s σ H T h0 I q => ?_⟩
  obtain ⟨A, loc, hp, r, hl, hq⟩ := q
  refine wpAny_Assign_Name (thn (he.run pins s σ H (fun y H1 => T.nx (σ.set i (some y)) H1) h0 I ⟨A, loc, hp, r, hl, (GoodS.bind (R := Rp X.K) hl hq).mono ?_⟩) fun v s1 ⟨y, H1, I1, r1, q1⟩ => ?_) hs
  · rintro v H1 ⟨A1, hp1, d1, e1, r1, q1, l1, g1⟩
    exact g1 A1 H1 _ (.refl _ _) r1 (l1.set i q1 ok)
  · exact store_ok I1 hN hi hx r1 (fun s2 I2 => ⟨_, H1, I2, q1⟩) hf
theorem ssst_cons (h1 : SST X W st f) (h2 : SSsT X W rest g) : SSsT X W (st :: rest) (sSeq f g) := by
  refine ⟨fun pins s σ H T h0 I q => ?_⟩
  refine psst_cons h1.run h2.run pins s σ H T h0 I ?_
  obtain ⟨A, loc, hp, r, hl, q⟩ := q
  refine ⟨A, loc, hp, r, hl, ?_⟩
  unfold sSeq at q
  cases o : f loc hp with
  | nx l h => rw [o] at q; exact fun A1 H1 σ1 e1 r1 l1 => ⟨A1, l, h, r1, l1, q.ext e1⟩
  | rt d h => rw [o] at q; exact q
  | bk l h => rw [o] at q; exact q
  | ct l h => rw [o] at q; exact q
  | exc x l h => rw [o] at q; exact q
  | bad => rw [o] at q; exact q
/-- x = k op b, k a written int: a token is given out -/
theorem ss_consK {i : Nat} {x : Str} {pos' p1 p2 : Pos} {k : Int} {j : Nat} {op : Operator} {r : R2} {gg : D → D → HM → O D} (hN : X.N.Nodup) (ho : OpR X (binaryOp op) r) (hg : OpG X.K X.mg r gg) (hb : SE X W b fb) (h2 : SSsT X W rest g)
    (hi : X.N[i]? = some x := by rfl) (hx : L2.Loc X.env.scope x := by first | exact Or.inl rfl | exact Or.inr rfl) (hs : swapsWith (.BinOp (.Constant (.int k) j p1) op b p2) (some (.Name x pos')) pos.line X.env = pure false := by rfl)
    (hf : X.fn x = true ∨ X.env.scope.names.lookup x = some .local := by first | exact .inl rfl | exact .inr rfl | assumption) (ok : Amb.ok i = true := by rfl) :
    SSs X W (.Assign [.Name x pos'] (.BinOp (.Constant (.int k) j p1) op b p2) pos :: rest) (sSeq (sAsg (eBin gg (eC (.int k)) fb) i) g) := by
  refine ⟨fun pins s σ H T I q => ?_⟩
  obtain ⟨A, loc, hp, hr, hl, q⟩ := q
  -- what follows, behind the store
  have q : GoodS X.K X.mg W A H (sE ((eBin gg (eC (.int k)) fb) loc hp) loc fun d hp1 => g (loc.set i (some d)) hp1) T := by
    unfold sSeq sAsg at q
    cases o : eBin gg (eC (.int k)) fb loc hp with
    | ok d hp1 => rw [o] at q; exact q
    | exc x h => rw [o] at q; exact q
    | bad => rw [o] at q; exact q
  have tok : wpAny (model X.prog X.w) X.A (eval (.BinOp (.Constant (.int k) j p1) op b p2) X.env) (fun u s' => 1 ≤ s'.toks ∧ EP X pins σ (fun y H1 => tS X.K X.mg W g T (σ.set i (some y)) H1) u s') X.xe s := by
    refine wpAny_BinOp (wpAny_Constant_int ?_)
    have I1 := I.tok (s.toks + 1)
    have q' := GoodS.bind (R := Rp X.K) (σ := σ) hl q
    have hbr := hb.run pins { s with toks := s.toks + 1 } σ H (fun y H2 => r (.int k) y H2 fun z H3 => tS X.K X.mg W g T (σ.set i (some z)) H3) I1 ⟨A, loc, hp, hr, hl, (Good.bind (R := Rp X.K) (k := fun y hp2 => gg (.int k) y hp2) (o := fb loc hp) q').mono (by
        rintro v2 H2 ⟨A2, hp2, d2, e2, r2, q2, g2⟩
        refine hg W σ A2 H2 hp2 _ v2 _ d2 _ r2 (.int k) q2 (g2.mono ?_)
        rintro v3 H3 ⟨A3, hp3, d3, e3, r3, q3, l3, g3⟩
        exact ⟨A3, _, hp3, r3, l3.set i q3 ok, g3⟩)⟩
    refine wpAny_mono (wpAny_toks_of (n := 1) (Nat.le_add_left 1 s.toks) hbr) (fun u s2 z => ?_) fun _ _ z => z.2
    obtain ⟨h1, y, H2, I2, r2, q2⟩ := z
    exact wpAny_mono (wpAny_toks_of (n := 1) h1 (ho pins s2 σ H2 (.int k) y _ u _ I2 ⟨_, rfl⟩ r2 q2)) (fun _ _ z => z) fun _ _ z => z.2
  have key : wpAny (model X.prog X.w) X.A (exec (.Assign [.Name x pos'] (.BinOp (.Constant (.int k) j p1) op b p2) pos) X.env) (fun fl s1 => fl = .next ∧ 1 ≤ s1.toks ∧ ∃ σ' H', Inv X pins σ' H' s1 ∧ tS X.K X.mg W g T σ' H') X.xe s := by
    refine wpAny_Assign_Name (thn tok fun v s1 ⟨h1, y, H1, I1, r1, q1⟩ => ?_) hs
    have st := store_ok (M := model X.prog X.w) (A := X.A) (E := X.xe) (Q := fun _ s2 => ∃ σ' H', Inv X pins σ' H' s2 ∧ tS X.K X.mg W g T σ' H') I1 hN hi hx r1 (fun s2 I2 => ⟨_, H1, I2, q1⟩) hf
    exact wpAny_mono (wpAny_toks_of (n := 1) h1 st) (fun _ s2 z => ⟨rfl, z.1, z.2⟩) fun _ _ z => z.2
  refine wpAny_execs_cons (thn key fun fl s1 ⟨e1, h1, σ', H', I1, q1⟩ => ?_)
  subst e1
  exact h2.run pins s1 σ' H' T h1 I1 q1
end
end Ms

/-! What the top has written, by what k_is finds; the end. -/
namespace Ms
open PySem L2
variable [Amb]
section
variable {K : PySem.W.Frag} {h : Heap} {mg : Str → Option Value}
theorem dfn_mk {x : Str} {st : Stmt} {ps : List Str} {f : Addr} {oc kV dc pm cd ct : Value} {od an : Option Addr} {sl : Array (Option Value)} (X : K.In h) (G : h.Ns mainGlobals mg) (a : PySem.W.nsIn K mainGlobals x = some (some (.ref f)))
    (l : K.lookup f = some ⟨oc, od, .func (PySem.W.fnOf x x (defArgs st) (defBody st) (defScope st) .none kV dc pm an cd ct), sl⟩) (c : PySem.W.codeIn K cd x = true) (k : PySem.W.keepIn K (.ref f) = true)
    (hb : ∀ (kV doc pm : Value) (an : Option Addr) (cdv ct : Value) (us : List Value), us.length = ps.length → bindArgs (PySem.W.fnOf x x (defArgs st) (defBody st) (defScope st) .none kV doc pm an cdv ct) ⟨us, []⟩ = pure (ps.zip us)) : ∃ f fd, Dfn K mg x st ps f fd :=
  ⟨f, _, PySem.W.mg_of X G a, fun_mk l c k, (fun_mk l c k).binds hb⟩
theorem tup_mk {x : Str} {ns : List Int} {a : Addr} {its : Array Value} {n : Nat} (X : K.In h) (G : h.Ns mainGlobals mg) (ha : PySem.W.nsIn K mainGlobals x = some (some (.ref a))) (l : K.lookup a = some { cls := .type "tuple", data := .seq its n })
    (z : its.size ≤ 1000) (r : Vals (ns.map V.int) its.toList) : ∃ a, mg x = some (.ref a) ∧ ∀ H, SqT K H a (ns.map V.int) :=
  ⟨a, PySem.W.mg_of X G ha, fun H => .inr ⟨_, its, n, l, rfl, rfl, Nat.le_trans z (by decide), r⟩⟩
theorem int_mk {x : Str} {i : Int} {u : Value} (X : K.In h) (G : h.Ns mainGlobals mg) (a : PySem.W.nsIn K mainGlobals x = some (some u)) (r : ∃ t, u = .int i t) : ∃ t, mg x = some (.int i t) := by
  obtain ⟨t, e⟩ := r
  exact ⟨t, by rw [PySem.W.mg_of X G a, e]⟩
theorem str_mk {x y : Str} {u : Value} (X : K.In h) (G : h.Ns mainGlobals mg) (a : PySem.W.nsIn K mainGlobals x = some (some u)) (r : ∃ t, u = .str y t) : ∃ t, mg x = some (.str y t) := by
  obtain ⟨t, e⟩ := r
  exact ⟨t, by rw [PySem.W.mg_of X G a, e]⟩
theorem exc_mk {x : Str} {C : Addr} (X : K.In h) (G : h.Ns mainGlobals mg) (a : PySem.W.nsIn K mainGlobals x = some (some (.ref C)))
    (e : PySem.W.excIn K C [.type "ValueError", .type "Exception", .type "BaseException", .type "object"] "ValueError.__new__" = true) (k : PySem.W.keepIn K (.ref C) = true) (b : PySem.W.subIn K (.ref C) (.type "BaseException") = some true)
    (t : PySem.W.typeIn K (.ref C) = some (.type "type")) : ∃ C, ExcX K mg x C := ⟨C, PySem.W.mg_of X G a, e, k, b, t⟩
theorem caught_mk {x y : Str} {C D : Addr} (X : K.In h) (G : h.Ns mainGlobals mg) (a : PySem.W.nsIn K mainGlobals x = some (some (.ref C))) (b : PySem.W.nsIn K mainGlobals y = some (some (.ref D)))
    (g1 : PySem.W.findIn K (.ref C) "__getattribute__" = some (some (.builtin "BaseException.__getattribute__"))) (g2 : PySem.W.findIn K (.ref C) "__getattr__" = some none) (g3 : PySem.W.subIn K (.ref C) (.type "BaseException") = some true) (g4 : PySem.W.hasDictIn K C = true)
    (g5 : PySem.W.findIn K (.ref C) "__class__" = some (some (.builtin "object.__class__"))) (g6 : PySem.W.specialIn K (.builtin "object.__class__") "__get__" = some (some (.builtin "getset_descriptor.__get__"))) (g7 : PySem.W.takesIn K (.builtin "object.__class__") = some true)
    (g8 : PySem.W.mroIn K C (.type "object") = some true) (hx : PySem.W.exmOne K (.ref C) (.ref C) = some true) (hk : PySem.W.kitOne K (.ref C) (.ref D) = some true) : Caught K mg x y :=
  ⟨C, D, PySem.W.mg_of X G a, PySem.W.mg_of X G b, ⟨g1, g2, g3, g4, g5, g6, g7, g8⟩, hx, hk⟩
end
theorem body_cast {X : Cx} {W : WX} {l l' : List Stmt} {f : SM} (e : l = l') (h : SSs X W l' f) : SSs X W l f := by rw [e]; exact h
/-- the end of a law: its mirror says True of every script -/
theorem walk_law {z : Bool} {l : PySem.W.OpenLaw} {q : Program} {loose : List Str} {XP : (Str → Option Value) → Heap → Prop} {YP : World → Heap → Prop} {d : DefRec} {K : Params → PySem.W.Frag} {m : Fn} {st : Stmt} {j : Nat} (hn : l.most = some 63) (hdf : d.params.defaults = []) (hr : Room j callerA)
    (hb : ∀ (kV doc pm : Value) (an : Option Addr) (cdv ct : Value) (u : Value), bindArgs (PySem.W.fnOf d.name d.name (defArgs st) (defBody st) (defScope st) .none kV doc pm an cdv ct) ⟨[u], []⟩ = pure [(("script" : Str), u)])
    (hY : ∀ (w : World) (h : Heap), YP w h → (K w.params).In h)
    (F : ∀ (w : World) (mg : Str → Option Value) (h : Heap), (K w.params).In h → h.Ns mainGlobals mg → ∀ base : Heap, Ok z l.prog w (K w.params) mg base j d.name st ["script"] 1 m)
    (T : ∀ ns : List Int, ns.length ≤ 63 → ∃ hp, m [.scr ns] [] = .ok (.bl true) hp) :
    PySem.W.WalkO q loose XP YP l.row.toRowW d [] (fun f vs => PySem.call f vs) := by
  refine L2.walk_of (n := 63) (k := j) (x := "script") (CX := fun w => CXz z l.prog w) (sp := fun w vs H Q E => ∃ (a : Addr) (ns : List Int), vs = [.ref a] ∧ ns.length ≤ 63 ∧ SqL (K w.params) H a (ns.map V.int) ∧ ∀ H', Q (.bl true) H') hn (by decide) hdf hr hY
    (fun w mg fa h KX G hmg => ?_) (fun w H a ns hl hO hS => ⟨a, ns, rfl, hl, hS, fun _ => rfl⟩) fun w H s e s' zz => ?_
  · obtain ⟨f, fd, D0, _⟩ := F w mg h KX G h
    obtain ⟨oc, od, kV, doc, pm, an, cdv, ct, osl, e1, _⟩ := D0.F.ex
    have ef : f = fa := by
      have := D0.m
      rw [hmg] at this
      cases this; rfl
    subst ef
    refine ⟨fd, fun s u => .of_eq (by rw [e1]; exact hb kV doc pm an cdv ct u), fun base hK hG => ?_⟩
    obtain ⟨f2, fd2, D2, F2⟩ := F w mg h KX G base
    have ef2 : f2 = f := by
      have := D2.m
      rw [hmg] at this
      cases this; rfl
    subst ef2
    have efd : fd2 = fd := by
      obtain ⟨_, _, _, _, _, _, _, _, _, _, lk, _⟩ := D0.F.ex
      obtain ⟨_, _, _, _, _, _, _, _, _, _, lk2, _⟩ := D2.F.ex
      rw [lk] at lk2
      cases lk2; rfl
    subst efd
    refine F2.imp fun vs H Q E z => ?_
    obtain ⟨a, ns, rfl, hl, hS, k⟩ := z
    obtain ⟨hp, hT⟩ := T ns hl
    refine ⟨rfl, [], [], [.scr ns], ⟨rfl, List.nodup_nil, fun n mo a h => by simp at h⟩, .cons (.scr ?_) .nil, ?_⟩
    · rcases hS with hS | hS
      · exact .own (by simp) hS
      · exact .wr fun H' => .inr hS
    · rw [hT]
      intro A' H' v _ _ qv
      rw [qv.bl_inv]
      exact k H'
  · cases z
    · obtain ⟨_, _, _, _, _, _, _, _, _, _, _, _, x⟩ := zz
      exact x
    · obtain ⟨_, _, _, _, _, _, _, _, _, _, _, _, x⟩ := zz
      exact x
end Ms

/-! Exceptions whose __init__ says super().__init__(text). -/
namespace Ms
open PySem L2 PySem.Spec PyProof.Rows NdefX
/-- what of the text is asked: C's own __init__ at f (its record F, its cell of the class at cc) -/
structure SupC (P : Program) (K : PySem.W.Frag) (mg : Str → Option Value) (C f cc : Addr) (F : NF) (doc pm ctv : Value) : Prop where
  oex : OexC K C
  fn : ∃ oc od osl, K.lookup f = some ⟨oc, od, .func (F.fd doc pm ctv), osl⟩
  cl : F.cl = [(("__class__" : Str), cc)]
  cell : ∃ cls dv sl, K.lookup cc = some ⟨cls, dv, .cell (some (.ref C)), sl⟩
  code : ∃ cls dv vs sl file tf, K.lookup F.c = some ⟨cls, dv, .fields vs, sl⟩ ∧ vs[2]? = some (.str file tf) ∧ ((P.main.file : Str) == file) = true
  cin : PySem.W.codeIn K (.ref F.c) F.qual = true
  top : (P.main.scope.names.lookup ("super" : Str)).isSome = false
  gsup : mg "super" = none
  ssup : F.scope.names.lookup ("super" : Str) = some .globalImplicit
  scls : F.scope.names.lookup ("__class__" : Str) = some .free
  opq : PySem.W.nsIn K cStatics "thirdparty.any" = some none
  sup : PySem.W.ks_superIn K C C "__init__" = some (some (.builtin "ValueError.__init__"))
  sub : PySem.W.subIn K (.ref C) (.type "ValueError") = some true
  mro : PySem.W.mroIn K C (.ref C) = some true
section
variable {X : Cx} {pins : List (Addr × Obj)} {σ : L2.St} {H : Hp} {s : Shared} {C f cc a L : Addr} {F : NF} {doc pm ctv : Value} {ar : Arg} {e : PySem.Expr} {te : TE} {p0 p1 ap pos : Pos}
/-- the value of super(), read -/
theorem super_at {body : List Stmt} {whole : Sem Value} {E : Value → Shared → Prop} {Q : Value → Shared → Prop} (S : SupC X.prog X.K X.mg C f cc F doc pm ctv) (I : Inv X pins σ H s) (henv : X.env = envF F f L) (hA : F.params.posonlyargs ++ F.params.args = ar :: [] ∨ ∃ r, F.params.posonlyargs ++ F.params.args = ar :: r)
    (hself : σ[0]? = some (some (.ref a))) (hN : X.N[0]? = some ar.arg) (hka : F.scope.names.lookup ar.arg = some .local) (hcf : ∀ c, X.env.cells.lookup ar.arg ≠ some c) (ea : H a = some (exo a C none))
    (h : ∀ so h', h'.get? so = some (PySem.W.ks_superObj C a C) → (∀ b o, s.heap.get? b = some o → h'.get? b = some o) → Inv X pins σ H { s with heap := h' } → Q (.ref so) { s with heap := h' }) :
    _root_.PySem.wpAt (model X.prog X.w) X.A (.func body X.env) (attributeBase (.Call (.Name "super" p0) [] [] p1) "__init__" X.env whole) Q E s := by
  obtain ⟨oc, od, osl, hf⟩ := S.fn
  obtain ⟨cls, dv, sl, hcell⟩ := S.cell
  obtain ⟨kc, dc, vs, slc, file, tf, hcode, hvs, hfile⟩ := S.code
  obtain ⟨t1, ho⟩ := exo_at I.hok ea
  obtain ⟨m, hns, hloc⟩ := I.loc
  obtain ⟨nm, q, N, bs, bm, sn, sub, ab, col, dd, k0, k1, k2, k3, k5, hC, hbm⟩ := S.oex.cls
  have KI : X.K.In s.heap := I.kIn
  have hkind : X.env.scope.kind = .function := I.ok.kind
  have es : X.env.scope = F.scope := by rw [henv]
  obtain ⟨mb, b1, b2⟩ := I.mod.blt
  have hself2 : m ar.arg = some (.ref a) := by
    obtain ⟨u, ru, lk⟩ := hloc 0 ar.arg (.ref a) hN hself (.inl (by rw [es]; exact hka))
    obtain rfl : u = Value.ref a := ru
    rcases lk with lk | ⟨_, c, lk, _⟩
    · exact lk.2
    · exact absurd lk (hcf c)
  refine PySem.ks_wpAt_super_base (fd := F.fd doc pm ctv) (f := f) (cc := F.c) (ar := ar) (vs := vs) (file := file) (tf := tf) (by rw [henv]; exact S.ssup) (by rw [henv]; exact S.scls) (by decide) (by rw [henv]) (KI _ _ hf) rfl ?_ (by rw [henv]) (KI _ _ hcode) rfl hvs hfile S.top ?_
  · rcases hA with hA | ⟨r, hA⟩
    · show (F.params.posonlyargs ++ F.params.args).head? = some ar
      rw [hA]; rfl
    · show (F.params.posonlyargs ++ F.params.args).head? = some ar
      rw [hA]; rfl
  refine PySem.W.ks_loadName_global hkind (by rw [henv]; exact S.ssup) (Calls.loadGlobal_builtin (by rw [I.ok.glob]; exact I.mod.glob.keeps I.bk) S.gsup (by rw [I.ok.blt]; exact b1.keeps I.bk) ((b2 "super" (by decide)).trans (by decide +kernel)) ⟨rfl, ?_⟩)
  refine wpAny_loadName_free hkind (by rw [henv]; exact S.scls) (c := cc) (by rw [henv]; show F.cl.lookup _ = _; rw [S.cl]; rfl) ⟨_, KI _ _ hcell, rfl⟩ ?_
  refine wpAny_loadName_local hkind (by rw [henv]; exact hka) hns hself2 ?_
  obtain ⟨hp, g, d, t, os⟩ := s
  have hD := KI _ _ hC
  refine PySem.ks_wpAny_isType_cls hD rfl ⟨rfl, ?_⟩
  refine PySem.ks_wpAny_call_super hD rfl ho rfl (fun c z => by cases z) (PySem.W.looks_mroIn KI S.mro) (fun h' z k => ?_)
  exact h _ h' z k (I.kept (t' := t) k)
/-- the statement super().__init__(e) -/
theorem superinit_at {body : List Stmt} {pe : Pos} {Q : Flow → Shared → Prop} (S : SupC X.prog X.K X.mg C f cc F doc pm ctv) (I : Inv X pins σ H s) (henv : X.env = envF F f L) (hA : F.params.posonlyargs ++ F.params.args = ar :: [] ∨ ∃ r, F.params.posonlyargs ++ F.params.args = ar :: r)
    (hself : σ[0]? = some (some (.ref a))) (hN : X.N[0]? = some ar.arg) (hka : F.scope.names.lookup ar.arg = some .local) (hcf : ∀ c, X.env.cells.lookup ar.arg ≠ some c) (ea : H a = some (exo a C none))
    (he : PE X e te) (hte : te σ H fun x H1 => [x].length = 1 ∧ H1 a = some (exo a C none) ∧ ∀ s', Inv X pins σ H1 s' → Q .next s')
    (hst : starEach [e] X.env = (false, eval e X.env) :: starEach [] X.env) (hi : interactive X.env = false := by rfl) (hs : swapsWith (.Call (.Attribute (.Call (.Name "super" p0) [] [] p1) "__init__" ap) [e] [] pos) none pe.line X.env = pure false := by rfl)
    (hcall : eval (.Call (.Attribute (.Call (.Name "super" p0) [] [] p1) "__init__" ap) [e] [] pos) X.env = (do
      let ov ← attributeBase (.Call (.Name "super" p0) [] [] p1) "__init__" X.env (eval (.Call (.Name "super" p0) [] [] p1) X.env)
      standAt ap.atName
      let (f, first) ← holding [ov] (getMethod ov "__init__" (pure false))
      callWith pos f first (backTo pos (starEach [e] X.env)) []) := by rfl) :
    _root_.PySem.wpAt (model X.prog X.w) X.A (.func body X.env) (exec (.Expr (.Call (.Attribute (.Call (.Name "super" p0) [] [] p1) "__init__" ap) [e] [] pos) pe) X.env) Q X.xe s := by
  refine PySem.ks_wpAt_Expr_any (PySem.ks_wpAt_MethodCall (super_at S I henv hA hself hN hka hcf ea fun so h' hso k I1 => ?_) hcall) hi hs
  obtain ⟨nm, q, N, bs, bm, sn, sub, ab, col, dd, k0, k1, k2, k3, k5, hC, hbm⟩ := S.oex.cls
  have hcl : PySem.W.clsIn X.K C = some { name := nm, bases := bs, mro := .ref C :: bm, ns := N, qualname := q, hasDict := true, slotNames := sn, subclasses := sub, abstract := ab, collection := col, hasDel := false } := by
    unfold PySem.W.clsIn
    rw [hC]
  have KI : X.K.In h' := I1.kIn
  obtain ⟨t1, ho⟩ := exo_at I1.hok ea
  have J : PySem.W.InstAt h' a { cls := .ref C, dict := none, data := .fields #[.ref t1, .none, .none, .none, .bool false, .none] } C none := ⟨ho, rfl, rfl, trivial⟩
  have hm := S.sup
  unfold PySem.W.ks_superIn at hm
  rw [hcl] at hm
  obtain ⟨hp, g, d, t, os⟩ := s
  refine PySem.W.kxs_getMethod PySem.W.kxs_ValueError hso (PySem.W.looks_opaque KI S.opq) (l₀ := .ref C :: bm) ?_ rfl KI hm (J.type.andThen (PySem.W.looks_subIn KI S.sub)) (PySem.W.ks_ne KI J hcl) (by decide) ?_
  · exact fun A Q E s k q => wpAny_bind ((PySem.W.looks_clsIn KI hcl) A _ E s k (wpAny_pure q))
  have I2 : Inv X ((h'.objs.size, PySem.W.kxs_mw "ValueError.__init__" a) :: pins) σ H { heap := h'.push (PySem.W.kxs_mw "ValueError.__init__" a), gens := g, drawn := d, toks := t + 1, os := os } :=
    ClX.pin_new (t' := t + 1) I1 (fun b o z => Heap.get?_push_of_some _ z) (Nat.le_refl _) (Heap.get?_push_at rfl rfl) (fun v z => by cases z)
  have hpa : PA X [e] (tCons te tNil) := pa_cons he pa_nil hst
  have hrun := fun Q0 q0 => hpa.run pos _ _ σ H Q0 I2 q0
  rw [hst] at hrun ⊢
  refine PySem.W.kxs_callWith (i := "ValueError.__init__") (x := a) rfl (Calls.evalArgs_plain ?_)
  refine wpAny_mono (hrun (fun vs H1 => vs.length = 1 ∧ H1 a = some (exo a C none) ∧ ∀ s', Inv X pins σ H1 s' → Q .next s') hte) (fun us s1 hz => ?_) fun _ _ y => y
  obtain ⟨vs, H1, I3, rv, hl1, ea1, hq⟩ := hz
  have hlen : us.length ≤ sizeLine := by rw [← Paired.length rv, hl1, sizeLine_eq]; omega
  have hu := (I3.pin _ (List.mem_append_right _ (List.mem_cons_self))).1
  refine ⟨hu, ?_⟩
  have I4 : Inv X pins σ H1 s1 := ClX.unpin I3
  obtain ⟨t2, ho2⟩ := exo_at I4.hok ea1
  obtain ⟨hp2, g2, d2, tk2, os2⟩ := s1
  show wpAny _ _ (call (.ref h'.objs.size) us) _ _ _
  refine wpAny_call (codeAny_of_tree ?_)
  show wpAny _ X.A.in1 (callAny (.ref h'.objs.size) ⟨us, []⟩) _ _ _
  simp only [callAny]
  refine wpAny_bind (wpAny_load hu ?_)
  simp only [PySem.W.kxs_mw, show (Value.type "method-wrapper" == Value.type "method" || Value.type "method-wrapper" == Value.type "builtin_function_or_method" || Value.type "method-wrapper" == Value.type "method-wrapper") = true by decide, if_true]
  refine PySem.W.KFB.if_so (by decide) ?_
  refine wpAny_bind (PySem.W.check_bound_init PySem.F.excBase_ValueError.toExcCallFacts (I4.kIn _ _ hC) ho2 rfl ?_)
  refine wpAny_bind (wpAny_pure (wpAny_pure ?_))
  refine ⟨plainId_quiet PySem.F.excBase_ValueError.init.plain _, codeAny_builtin PySem.F.excBase_ValueError.initEntry ?_⟩
  refine PySem.W.exc_init_tree (cls := .ref C) (t0 := t2) (dv := none) (c2 := .none) (c3 := .none) (b4 := .bool false) ho2 hlen fun h3 k3 he3 _ => ?_
  have J3 := I4.write (t' := tk2) (x := a) (e := a) (o := exo a C none) (by rw [ea1]; exact True.intro) (.inl rfl) k3 ⟨_, he3⟩ (exo_ok he3)
  have eu : upd H1 a (exo a C none) = H1 := by
    funext b
    by_cases hb : b = a
    · rw [hb, upd_same, ea1]
    · rw [upd_ne hb]
  rw [eu] at J3
  exact hq _ J3
end
end Ms

/-! An exception whose __init__ says super().__init__(f'a {i} b'); self.f = i: its promise, calm and hot. -/
namespace Ms
open PySem L2 PySem.Spec PyProof.Rows NdefX L2H HotX
/-- __init__(self, i) of the class at C -/
def spIni (C : Addr) (f : Str) : Sp := fun vs H Q _ => ∃ (a : Addr) (i : Int), vs = [.ref a, .int i] ∧ i.natAbs.log2 < 1000 ∧ H a = some (exo a C none) ∧
  ∀ d, H d = none → d ≠ a → Q .non (upd (upd H d (exd d [(f, .int i)])) a (exo a C (some d)))
/-- the text of its body -/
def IniT (F : NF) (f y : Str) : Prop := ∃ (t1 t2 : Str) (j1 j2 : Nat) (p0 p1 ap pos pe q1 q2 q3 q4 q5 q6 q7 q8 q9 : Pos), t1.length ≤ 1000 ∧ t2.length ≤ 1000 ∧
    F.body = [.Expr (.Call (.Attribute (.Call (.Name "super" p0) [] [] p1) "__init__" ap) [.JoinedStr [.Constant (.str t1) j1 q1, .FormattedValue (.Name y q2) (-1) none q3, .Constant (.str t2) j2 q4] q5] [] pos) pe,
      .Assign [.Attribute (.Name "self" q6) f q7] (.Name y q8) q9] ∧
    ∀ fa L : Addr, interactive (envF F fa L) = false ∧ swapsWith (.Call (.Attribute (.Call (.Name "super" p0) [] [] p1) "__init__" ap) [.JoinedStr [.Constant (.str t1) j1 q1, .FormattedValue (.Name y q2) (-1) none q3, .Constant (.str t2) j2 q4] q5] [] pos) none pe.line (envF F fa L) = pure false ∧ swapsWith (.Name y q8) (some (.Attribute (.Name "self" q6) f q7)) q9.line (envF F fa L) = pure false ∧
      eval (.Call (.Attribute (.Call (.Name "super" p0) [] [] p1) "__init__" ap) [.JoinedStr [.Constant (.str t1) j1 q1, .FormattedValue (.Name y q2) (-1) none q3, .Constant (.str t2) j2 q4] q5] [] pos) (envF F fa L) = (do
      let ov ← attributeBase (.Call (.Name "super" p0) [] [] p1) "__init__" (envF F fa L) (eval (.Call (.Name "super" p0) [] [] p1) (envF F fa L))
      standAt ap.atName
      let (f, first) ← holding [ov] (getMethod ov "__init__" (pure false))
      callWith pos f first (backTo pos (starEach [.JoinedStr [.Constant (.str t1) j1 q1, .FormattedValue (.Name y q2) (-1) none q3, .Constant (.str t2) j2 q4] q5] (envF F fa L))) [])
section
variable {X : Cx} {H : Hp} {s : Shared} {C f cc a L : Addr} {F : NF} {doc pm ctv : Value} {fl y : Str} {i : Int}
theorem ini_body {Q : Flow → Shared → Prop} (S : SupC X.prog X.K X.mg C f cc F doc pm ctv) (B : IniT F fl y) (henv : X.env = envF F f L) (hN : X.N = [Str.ofString "self", y, Str.ofString "__class__"]) (sc : NScope ["self", y, "__class__"] ["self", y] ["__class__"] F.scope)
    (har : ∃ ar br, ar.arg = Str.ofString "self" ∧ F.params.posonlyargs ++ F.params.args = [ar, br]) (I : Inv X [] (startF ["self", y, "__class__"] [.ref a, .int i] [none]) H s) (ea : H a = some (exo a C none)) (hi : i.natAbs.log2 < 1000)
    (hno : PySem.W.findIn X.K (.ref C) fl = some none) (hyd : (y == ("__debug__" : Str)) = false) (hyc : (y == ("__classdict__" : Str)) = false)
    (hq : ∀ d s' σ', H d = none → d ≠ a → Inv X [] σ' (upd (upd H d (exd d [(fl, .int i)])) a (exo a C (some d))) s' → Q .next s') :
    _root_.PySem.wpAt (model X.prog X.w) X.A (.func F.body X.env) (execs F.body X.env) Q X.xe s := by
  obtain ⟨t1, t2, j1, j2, p0, p1, ap, pos, pe, q1, q2, q3, q4, q5, q6, q7, q8, q9, z1, z2, hb, hE⟩ := B
  obtain ⟨hE1, hE2, hE3, hE4⟩ := hE f L
  obtain ⟨ar, br, har, hpa⟩ := har
  have es : X.env.scope = F.scope := by rw [henv]
  have v0 : Vis X.env.scope "self" := .inl (by rw [es]; exact sc.par _ (by simp))
  have v1 : Vis X.env.scope y := .inl (by rw [es]; exact sc.par _ (by simp))
  have n0 : X.N[0]? = some (Str.ofString "self") := by rw [hN]; rfl
  have n1 : X.N[1]? = some y := by rw [hN]; rfl
  have sl : (toString i : String).length ≤ 3000 := by
    have e := int_text_length_le (k := 1000) (a := i) (by decide) hi
    omega
  have lt : (Str.ofString (toString i)).length ≤ 3000 := by rw [PySem.ofString_length]; exact sl
  have js : PJ X [.Constant (.str t1) j1 q1, .FormattedValue (.Name y q2) (-1) none q3, .Constant (.str t2) j2 q4] [tC (.str t1), tFmt (tVar 1), tC (.str t2)] :=
    .cons pe_str (.cons (pe_fmt (pe_var n1 v1 hyd hyc)) (.cons pe_str .nil))
  have T := S.oex
  rw [hb]
  refine PySem.ks_wpAt_execs_cons ?_
  refine superinit_at (te := fun σ H Q => tJs [tC (.str t1), tFmt (tVar 1), tC (.str t2)] Str.empty σ H fun out H1 => Q (.str out) H1) S I henv (.inr ⟨[br], hpa⟩) rfl (by rw [har]; exact n0) (by rw [har]; exact sc.par _ (by simp)) (fun c hc => ?_) ea (pe_joined js) ?_ rfl (by rw [henv]; exact hE1) (by rw [henv]; exact hE2) (by rw [henv]; exact hE4)
  · rw [henv, har] at hc
    have hc : F.cl.lookup (Str.ofString "self") = some c := hc
    rw [S.cl] at hc
    exact nomatch (show (none : Option Addr) = some c from hc)
  · refine ⟨t1, rfl, ?_, .int i, rfl, .inr ⟨i, rfl, Nat.lt_trans hi (by decide), Str.ofString (toString i), rfl, ?_, t2, rfl, ?_, rfl, ea, fun s' J => ?_⟩⟩
    · have : (Str.empty ++ t1).length = t1.length := by simp [Str.length_append]; rfl
      rw [this, sizeLine_eq]; omega
    · have : (Str.empty ++ t1 ++ Str.ofString (toString i)).length = t1.length + (Str.ofString (toString i)).length := by simp [Str.length_append]; rfl
      rw [this, sizeLine_eq]; omega
    · have : (Str.empty ++ t1 ++ Str.ofString (toString i) ++ t2).length = t1.length + (Str.ofString (toString i)).length + t2.length := by simp [Str.length_append]; rfl
      rw [this, sizeLine_eq]; omega
    · refine wpAt_of_wpAny ?_
      refine wpAny_mono ((pss_one (ps_ost (pe_var n0 v0) (pe_var n1 v1 hyd hyc) (by rw [henv]; exact hE3))).run [] s' _ H { nx := fun σ' H' => ∃ d, H d = none ∧ d ≠ a ∧ H' = upd (upd H d (exd d [(fl, .int i)])) a (exo a C (some d)), rt := fun _ _ => False } J
        ⟨.int i, rfl, .ref a, rfl, a, C, rfl, T, hno, .inl ⟨ea, fun d h1 h2 => ⟨d, h1, h2, rfl⟩⟩⟩) (fun fw s2 hs => ?_) fun _ _ y => y
      cases fw with
      | next =>
        obtain ⟨σ', H', J2, d, h1, h2, e⟩ := hs
        subst e
        exact hq d s2 σ' h1 h2 J2
      | ret u =>
        obtain ⟨_, _, _, _, _, q⟩ := hs
        exact q.elim
      | brk =>
        obtain ⟨_, _, _, q⟩ := hs
        exact q.elim
      | cont =>
        obtain ⟨_, _, _, q⟩ := hs
        exact q.elim
end
section
variable {P : Program} {w : World} {K : PySem.W.Frag} {mg : Str → Option Value} {base : Heap} {CX : CXT} {C f cc : Addr} {F : NF} {doc pm ctv : Value} {fl y : Str}
/-- the promises of this __init__ -/
theorem ini_cells {H : Hp} {A : Around} {outer : List Env} {s : Shared} (S : SupC P K mg C f cc F doc pm ctv) (e0 : Env0 P w K mg base A outer s H) : CellsAt F.cl [Str.ofString "__class__"] [none] s.heap H := by
  obtain ⟨cls, dv, sl, hcell⟩ := S.cell
  have KI := e0.mod.kin
  have hb := e0.bs _ _ (KI _ _ hcell)
  have one : ∀ x c, F.cl.lookup x = some c → x = Str.ofString "__class__" ∧ c = cc := fun x c h => by
    rw [S.cl] at h
    have := PySem.mem_of_lookup h
    simp at this
    exact this
  refine ⟨rfl, fun x c h => ?_, fun x z c h1 h2 => by rw [(one x c h1).1, (one z c h2).1], fun i x h => ?_⟩
  · obtain ⟨_, rfl⟩ := one x c h
    exact ⟨hb.2, _, _, hb.1, rfl⟩
  · cases i with
    | zero =>
      simp at h
      subst h
      exact ⟨cc, by rw [S.cl]; rfl, fun v z => by simp at z⟩
    | succ i => simp at h
theorem ini_ok (S : SupC P K mg C f cc F doc pm ctv) (B : IniT F fl y) (sc : NScope ["self", y, "__class__"] ["self", y] ["__class__"] F.scope) (har : ∃ ar br, ar.arg = Str.ofString "self" ∧ F.params.posonlyargs ++ F.params.args = [ar, br])
    (hno : PySem.W.findIn K (.ref C) fl = some none) (hyd : (y == ("__debug__" : Str)) = false) (hyc : (y == ("__classdict__" : Str)) = false) (hgl : True) : FnOk P w K mg base CX 1 f (F.fd doc pm ctv) ["self", y] (spIni C fl) := by
  refine ⟨fun vs H Q E h => by obtain ⟨a, i, rfl, _⟩ := h; rfl, fun A outer s H args us vs Q E hr e0 hb hv hs => ?_⟩
  obtain ⟨a, i, rfl, hi, ea, hq⟩ := hs
  obtain ⟨oc, od, osl, hf⟩ := S.fn
  have hfs := e0.bs _ _ (e0.mod.kin _ _ hf)
  have lim : s.heap.NoLimit := e0.mod.nolimit.keeps fun b o e => (e0.bs b o e).1
  obtain ⟨kc, dc, vs, slc, file, tf, hcode, hvs, hfile⟩ := S.code
  refine PySem.ks_codeAny_call_defAt (fd := F.fd doc pm ctv) (body := F.body) (binds := (["self", y] : List Str).zip us) hr.depth hfs.1 rfl lim ?_ rfl hb sc.nocell (fun x hx => sc.par _ (List.of_mem_zip (l₁ := ["self", y]) (a := x.1) (b := x.2) hx).1) (fun h₀ hns kp => ?_) sc.co sc.gen sc.kind
  · exact PySem.W.codeRec_of (e0.mod.kin.keeps fun b o e => (e0.bs b o e).1) S.cin
  · have I := inv_startN (CX := CX) (F := F) (f := f) (E := E) (N := ["self", y, "__class__"]) (fr := ["__class__"]) (ws := [none]) (vs := [.ref a, .int i]) (tk := s.toks + ((["self", y] : List Str).zip us).length) sc hr.hd e0 rfl hv (ini_cells S e0) hns kp
    refine ini_body (X := ncx CX P w K mg base ["self", y, "__class__"] F f A outer s H E) (L := s.heap.objs.size) S B rfl rfl sc har I ea hi hno hyd hyc fun d s' σ' h1 h2 J => ?_
    exact ⟨.non, _, J.os, J.bare, J.base, J.hok, rfl, hq d h1 h2⟩
theorem ini_okH (S : SupC P K mg C f cc F doc pm ctv) (B : IniT F fl y) (sc : NScope ["self", y, "__class__"] ["self", y] ["__class__"] F.scope) (har : ∃ ar br, ar.arg = Str.ofString "self" ∧ F.params.posonlyargs ++ F.params.args = [ar, br])
    (hno : PySem.W.findIn K (.ref C) fl = some none) (hyd : (y == ("__debug__" : Str)) = false) (hyc : (y == ("__classdict__" : Str)) = false) : FnH P w K mg base CX 1 f (F.fd doc pm ctv) ["self", y] (spIni C fl) := by
  refine ⟨fun vs H Q E h => by obtain ⟨a, i, rfl, _⟩ := h; rfl, fun A outer s H args us vs Q E p hr h1 hpin e0 hb hv hs => ?_⟩
  obtain ⟨a, i, rfl, hi, ea, hq⟩ := hs
  obtain ⟨oc, od, osl, hf⟩ := S.fn
  have hfs := e0.bs _ _ (e0.mod.kin _ _ hf)
  have lim : s.heap.NoLimit := e0.mod.nolimit.keeps fun b o e => (e0.bs b o e).1
  refine PySem.ks_codeAny_call_defAt (fd := F.fd doc pm ctv) (body := F.body) (binds := (["self", y] : List Str).zip us) hr.depth hfs.1 rfl lim ?_ rfl hb sc.nocell (fun x hx => sc.par _ (List.of_mem_zip (l₁ := ["self", y]) (a := x.1) (b := x.2) hx).1) (fun h₀ hns kp => ?_) sc.co sc.gen sc.kind
  · exact PySem.W.codeRec_of (e0.mod.kin.keeps fun b o e => (e0.bs b o e).1) S.cin
  · have I := inv_startNH (CX := CX) (F := F) (f := f) (E := E) (N := ["self", y, "__class__"]) (fr := ["__class__"]) (ws := [none]) (vs := [.ref a, .int i]) (tk := s.toks + ((["self", y] : List Str).zip us).length) sc hpin e0 rfl hv (ini_cells S e0) hns kp
    refine ini_body (X := ncxH CX P w K mg base ["self", y, "__class__"] F f A outer s H E p) (L := s.heap.objs.size) S B rfl rfl sc har I ea hi hno hyd hyc fun d s' σ' h1 h2 J => ?_
    exact ⟨.non, _, J.os, J.bare, J.base, J.hok, rfl, hq d h1 h2⟩
end
end Ms

/-! raise X(i), also from None in an except suite; try .. except x: suite that raises. -/
namespace Ms
open PySem L2 PySem.Spec PyProof.Rows L2H HotX
variable [Amb]
/-- what the top wrote of X, whose __init__ keeps an int in the field fl -/
structure IniC (P : Program) (K : PySem.W.Frag) (mg : Str → Option Value) (x fl : Str) : Prop where
  ex : ∃ (C f : Addr) (fd : FuncData) (ps : List Str), mg x = some (.ref C) ∧ OexC K C ∧ PySem.W.findIn K (.ref C) "__init__" = some (some (.ref f)) ∧ PySem.W.typeIn K (.ref f) = some (.type "function") ∧ Binds K fd ps [] ∧
    (∀ w base CX, FnOk P w K mg base CX 1 f fd ps (spIni C fl)) ∧ ∀ w base CX, FnH P w K mg base CX 1 f fd ps (spIni C fl)
/-- raise x(e) -/
def sRaiseI (x fl : Str) (f : EM) : SM := fun loc hp => sE (f loc hp) loc fun d hp1 => match d with
  | .int i => if i.natAbs.log2 < 1000 then .exc ⟨x, some (fl, i)⟩ loc hp1 else .bad
  | _ => .bad
section
variable {X : Cx} {W : WX} {e : PySem.Expr} {fe : EM} {x fl : Str} {p cpos pos : Pos}
theorem raiseI_w {C : Addr} (gx : X.mg x = some (.ref C)) : ∀ T σ H, tS X.K X.mg W (sRaiseI x fl fe) T σ H → tMkO C (spIni C fl) [] (tCons (tG X.K X.mg W (Rp X.K) fe) tNil) σ H fun cls d H' => W cls d σ H' := by
  rintro T σ H ⟨A, loc, hp, r, hl, q⟩
  refine ⟨A, loc, hp, r, hl, (GoodS.bind (R := Rp X.K) hl q).mono ?_⟩
  rintro v1 H1 ⟨A1, hp1, d1, e1, r1, q1, l1, g1⟩
  cases d1 with
  | int i =>
    simp only at g1
    by_cases hz : i.natAbs.log2 < 1000
    · rw [if_pos hz] at g1
      have := q1.int_inv
      subst this
      refine ⟨by simp, fun a na => ⟨a, i, rfl, hz, upd_same, fun d hd hne => ⟨rfl, d, [(fl, .int i)], upd_same, ?_, ?_, ?_⟩⟩⟩
      · rw [upd_ne hne, upd_same]
      · rw [upd_ne hne] at hd; exact hd
      · have hd1 : H1 d = none := by rw [upd_ne hne] at hd; exact hd
        have eH : upd (L2.del (upd (upd (upd H1 a (exo a C none)) d (exd d [(fl, .int i)])) a (exo a C (some d))) a) d (.xd [(fl, .int i)]) = upd H1 d (.xd [(fl, .int i)]) := by
          funext b
          by_cases hb : b = d
          · subst hb; rw [upd_same, upd_same]
          · rw [upd_ne hb, upd_ne hb]
            by_cases hba : b = a
            · subst hba; rw [del_same, na]
            · rw [del_ne hba, upd_ne hba, upd_ne hb, upd_ne hba]
        rw [eH]
        obtain ⟨e2, r2⟩ := r1.new (o := .xd [(fl, .int i)]) hd1
        exact g1 A1 _ σ _ (some d) e2 r2 (l1.ext e2) ⟨gx, d, rfl, upd_same⟩
    · rw [if_neg hz] at g1; exact g1.elim
  | _ => exact g1.elim
theorem ss_raiseI (T : IniC X.prog X.K X.mg x fl) (tk : TakesZ false X W) (hr : Room 2 X.A) (he : SE X W e fe) (hc : X.calm = true := by rfl) (hg : Gl X x := by rfl) (hdb : (x == ("__debug__" : Str)) = false := by decide)
    (hs : starEach [e] X.env = (false, eval e X.env) :: starEach [] X.env := by rfl) : SS X W (.Raise (some (.Call (.Name x p) [e] [] cpos)) none pos) (sRaiseI x fl fe) := by
  obtain ⟨C, f, fd, ps, gx, T1, iC, tI, hb, F1, _⟩ := T.ex
  exact (L2.ps_raise hc tk (pmk_oex T1 iC tI (F1 X.w X.base CX0) hr hb .nil pass0 hg gx (pa_cons he pa_nil hs) hdb hs)).weak (raiseI_w gx)
theorem ss_raiseIF {j : Nat} {p3 : Pos} (T : IniC X.prog X.K X.mg x fl) (tk : L2.Takes X W) (hc : HotC X) (hr : RoomH 2 X.A) (he : SE X W e fe) (hg : Gl X x := by rfl) (hdb : (x == ("__debug__" : Str)) = false := by decide)
    (hs : starEach [e] X.env = (false, eval e X.env) :: starEach [] X.env := by rfl) : SS X W (.Raise (some (.Call (.Name x p) [e] [] cpos)) (some (.Constant .none j p3)) pos) (sRaiseI x fl fe) := by
  obtain ⟨C, f, fd, ps, gx, T1, iC, tI, hb, _, F1⟩ := T.ex
  exact (L2H.ps_raiseHN hc tk (pmk5_oexH T1 iC tI (F1 X.w X.base CX0) hr hc hb pass0 hg gx (pa_cons he pa_nil hs) hdb hs)).weak (raiseI_w gx)
/-- an except clause -/
structure Clause (K : PySem.W.Frag) (mg : Str → Option Value) (x : Str) : Prop where
  ex : ∃ C, mg x = some (.ref C) ∧ PySem.W.exmOne K (.ref C) (.ref C) = some true
/-- try: body / except x: suite -/
def sTryX (x : Str) (body suite : SM) : SM := fun loc hp => match body loc hp with
  | .exc ex l hp' => if ex.cls = x then suite l hp' else .bad
  | o => o
theorem ss_tryX {body suite : List Stmt} {b₀ : Stmt} {np pos' : Pos} {fb fs : SM} (C : Clause X.K X.mg x) (hs : X.stack = X.env :: X.outer) (hf : X.env.frame = some X.env.locals) (tk : TakesZ false X W)
    (hpa : ∀ hd : Option Value, PassesOwnAt (model X.prog X.w) (X.A.mark hd) X.A X.env X.xe)
    (hb : ∀ (W' : WX) (pn : List (Addr × Obj)) (xe : Value → Shared → Prop), TakesZ true (X.tr pn xe) W' → PassesOwn (model X.prog X.w) X.A X.env xe → SSs (X.tr pn xe) W' body fb)
    (hsu : ∀ (a : Addr) (pn : List (Addr × Obj)), L2.Takes (suiteX X a pn) W → HotC (suiteX X a pn) → SSs (suiteX X a pn) W (b₀ :: suite) fs)
    (hgx : Gl X x := by rfl) (hxd : (x == ("__debug__" : Str)) = false := by decide) : SS X W (.Try body [.ExceptHandler (some (.Name x np)) none (b₀ :: suite) pos'] [] [] pos) (sTryX x fb fs) := by
  obtain ⟨CB, gx, hx⟩ := C.ex
  have key := L2H.ps_try_onlyX (X := X) (x := x) (c := .ref CB) (np := np) (pos := pos) (pos' := pos') (tb := fun W' => tS X.K X.mg W' fb) (ts := fun a cls d => tS X.K X.mg W fs) (Wout := W) hs hf ⟨hgx, hxd, .inl gx⟩ hpa tk
    (fun W' pn xe t1 _ po => hb W' pn xe t1 po) (fun a oe cls d pn _ _ t2 hot => hsu a _ t2 hot)
  refine key.weak fun T σ H ⟨A, loc, hp, r, hl, q⟩ => ⟨A, loc, hp, r, hl, ?_⟩
  unfold sTryX at q
  cases o : fb loc hp with
  | exc ex l hp' =>
    rw [o] at q
    simp only at q
    by_cases hz : ex.cls = x
    · rw [if_pos hz] at q
      intro A2 H2 σ2 c od e2 r2 l2 hx2
      have x1 := hx2.1
      rw [hz, gx] at x1
      cases x1
      exact ⟨true, hx, fun _ a ha => ⟨A2, l, hp', r2, l2, q.ext e2⟩, fun z => by cases z⟩
    · rw [if_neg hz] at q; exact q.elim
  | nx l h => rw [o] at q; exact q
  | rt d h => rw [o] at q; exact q
  | bk l h => rw [o] at q; exact q
  | ct l h => rw [o] at q; exact q
  | bad => rw [o] at q; exact q
end
end Ms

/-! try .. except y as n: suite that asks of n its class and its field; calls there. -/
namespace Ms
open PySem L2 PySem.Spec PyProof.Rows L2H HotX
/-- what the suite knows of the exception ex, at a, in the slot i -/
@[reducible] def ambE (am : Amb) (i : Nat) (a : Addr) (d : Option Addr) (ex : Exn) : Amb where
  J A H σ := am.J A H σ ∧ σ[i]? = some (some (.ref a)) ∧ (match ex.fld with
    | none => d = none
    | some (f, v) => ∃ dd, d = some dd ∧ dd ∉ A ∧ H dd = some (.xd [(f, .int v)]))
  ext := fun {A A' H H' σ} e h => ⟨am.ext e h.1, h.2.1, by
    have h2 := h.2.2
    split at h2
    · exact h2
    · obtain ⟨dd, e1, e2, e3⟩ := h2
      exact ⟨dd, e1, (e.keep dd _ e3 e2).2, (e.keep dd _ e3 e2).1⟩⟩
  ok j := am.ok j && j != i
  set := fun {A H σ} j o h q => by
    rw [Bool.and_eq_true] at h
    have hj : j ≠ i := by simpa using h.2
    exact ⟨am.set j o h.1 q.1, by rw [List.getElem?_set_ne hj]; exact q.2.1, q.2.2⟩
/-- the facts of the suite -/
structure InE (X : Cx) (a : Addr) (oe : Obj) (cls : Value) (d : Option Addr) (ex : Exn) : Prop where
  hz : Zc cls d oe
  hf : ∃ vs, oe.data = .fields vs
  hm : X.mg ex.cls = some cls
/-- isinstance(n, y) of an exception of the class c -/
structure IsEC (K : PySem.W.Frag) (mg : Str → Option Value) (c y : Str) (b : Bool) : Prop where
  ex : ∃ C D, mg c = some (.ref C) ∧ mg y = some (.ref D) ∧ L2.ExcC K C ∧ PySem.W.kitOne K (.ref C) (.ref D) = some b
/-- n.f of an exception of the class c -/
structure FldC (K : PySem.W.Frag) (mg : Str → Option Value) (c f : Str) : Prop where
  ex : ∃ C, mg c = some (.ref C) ∧ XfC K C ∧ PySem.W.findIn K (.ref C) f = some none
def rIsD (K : PySem.W.Frag) (D a : Addr) (d : Option Addr) : List V → Hp → VK → Prop := fun xs H Q => ∃ (c : V) (cv : Value) (b : Bool), xs = [.ref a, c] ∧ (∀ u, RelV c u → u = cv) ∧ PySem.W.kitOne K (.ref D) cv = some b ∧ (∀ dd, d = some dd → ∃ fs, H dd = some (.xd fs)) ∧ Q (.bl b) H
theorem call_isD {X : Cx} {a D : Addr} {d : Option Addr} {oe : Obj} {pn : List (Addr × Obj)} (C : ExcC X.K D) (hz : Zc (.ref D) d oe) (hf : ∃ vs, oe.data = .fields vs) : CallR (X.suite a ((a, oe) :: pn)) (.builtin "isinstance") (rIsD X.K D a d) := by
  intro pins s σ H xs us Q I r h
  obtain ⟨c, cv, b, rfl, hcv, e, hd, q⟩ := h
  cases r with
  | cons rx rr =>
    cases rr with
    | cons rt rr =>
      cases rr
      cases rx
      have ec := hcv _ rt
      subst ec
      obtain ⟨hget, _⟩ := I.pin (a, oe) (List.mem_append.mpr (.inl List.mem_cons_self))
      obtain ⟨vs, hv⟩ := hf
      have fin : ∀ od, PySem.W.InstAt s.heap a oe D od → wpAny (model X.prog X.w) (X.suite a ((a, oe) :: pn)).A (call (.builtin "isinstance") [.ref a, _]) (EP (X.suite a ((a, oe) :: pn)) pins σ Q) (X.suite a ((a, oe) :: pn)).xe s := fun od J =>
        PySem.W.kia_one (PySem.W.kitx_exc (by obtain ⟨cd, hc, _⟩ := PySem.W.any_some C.hd; rw [hc] <;> rfl) C.hg C.hk C.hs C.ha C.hn C.ht C.hm) I.kIn J e (fun z => nomatch z) fun tk => ⟨.bl b, H, I.kept (t' := tk) fun _ _ z => z, rfl, q⟩
      cases d with
      | none => exact fin none ⟨hget, hz.1, by unfold PySem.W.notCls; rw [hv], by rw [hz.2]; trivial⟩
      | some dd =>
        obtain ⟨fs, hx⟩ := hd dd rfl
        have hx' : ObjOk X.prog X.w H s.heap dd (.xd fs) := I.hok dd _ hx
        obtain ⟨mA, ⟨o, es, ep, ho, _⟩, _⟩ := hx'
        exact fin (some o) ⟨hget, hz.1, by unfold PySem.W.notCls; rw [hv], by rw [hz.2]; exact ho⟩
def eIsE (tab : List (Str × Bool)) (ex : Exn) : EM := fun _ hp => match tab.lookup ex.cls with
  | some b => .ok (.bl b) hp
  | none => .bad
def eFldE (cs : List Str) (f : Str) (ex : Exn) : EM := fun _ hp => match ex.fld with
  | some (g, v) => if g = f ∧ cs.contains ex.cls = true then .ok (.int v) hp else .bad
  | none => .bad
section
variable {am : Amb} {X : Cx} {W : WX} {i : Nat} {a : Addr} {oe : Obj} {cls : Value} {d : Option Addr} {ex : Exn} {pn : List (Addr × Obj)} {pos p1 p2 p3 : Pos} {n y f : Str}
theorem se_isE {tab : List (Str × Bool)} (q : InE X a oe cls d ex) (hT : ∀ c b, (c, b) ∈ tab → IsEC X.K X.mg c y b) (hm : X.mg "isinstance" = none) (hi : X.N[i]? = some n := by rfl) (hln : X.env.kindOf n = some .local := by rfl)
    (hgy : Gl X y := by rfl) (hg : Gl X "isinstance" := by rfl) (hyd : (y == ("__debug__" : Str)) = false := by decide) (hnd : (n == ("__debug__" : Str)) = false := by decide) (hnc : (n == ("__classdict__" : Str)) = false := by decide) :
    @SE (ambE am i a d ex) (X.suite a ((a, oe) :: pn)) W (.Call (.Name "isinstance" p1) [.Name n p2, .Name y p3] [] pos) (eIsE tab ex) := ⟨fun pins s σ H Q I z => by
  obtain ⟨A, loc, hp, hr, hl, g⟩ := z
  unfold eIsE at g
  cases hb : tab.lookup ex.cls with
  | none => rw [hb] at g; exact g.elim
  | some b =>
    rw [hb] at g
    obtain ⟨CC, D, g1, g2, T, hk⟩ := (hT _ _ (PySem.mem_of_lookup hb)).ex
    have hm1 := q.hm
    rw [g1] at hm1
    cases hm1
    obtain ⟨_, hσ, hd⟩ := hl.2.2
    have vis : Vis X.env.scope n := .inl hln
    have pe : PE (X.suite a ((a, oe) :: pn)) (.Call (.Name "isinstance" p1) [.Name n p2, .Name y p3] [] pos) (tCB (rIsD X.K CC a d) (tCons (tVar i) (tCons (tC (.ref D)) tNil))) :=
      pe_callB (X := X.suite a ((a, oe) :: pn)) (call_isD T q.hz q.hf) hg hm (by decide +kernel) (pa_cons (pe_var hi vis hnd hnc) (pa_cons (pe_glob hgy g2 rfl hyd) pa_nil)) (by decide) (by decide)
    refine pe.run pins s σ H Q I ⟨_, hσ, .ref D, .ref D, b, rfl, fun u r => r, hk, fun dd e => ?_, g A H _ (.refl A H) hr (.bl b)⟩
    subst e
    split at hd
    · cases hd
    · obtain ⟨d2, e1, _, e3⟩ := hd
      cases e1
      exact ⟨_, e3⟩⟩
theorem se_fldE {cs : List Str} (q : InE X a oe cls d ex) (hT : ∀ c, c ∈ cs → FldC X.K X.mg c f) (hi : X.N[i]? = some n := by rfl) (hln : X.env.kindOf n = some .local := by rfl)
    (hb : attributeBase (.Name n p2) f X.env (eval (.Name n p2) X.env) = eval (.Name n p2) X.env := by rfl) (hnd : (n == ("__debug__" : Str)) = false := by decide) (hnc : (n == ("__classdict__" : Str)) = false := by decide) :
    @SE (ambE am i a d ex) (X.suite a ((a, oe) :: pn)) W (.Attribute (.Name n p2) f pos) (eFldE cs f ex) := ⟨fun pins s σ H Q I z => by
  obtain ⟨A, loc, hp, hr, hl, g⟩ := z
  unfold eFldE at g
  obtain ⟨_, hσ, hd⟩ := hl.2.2
  split at g
  · rename_i gg v hfl
    by_cases hz : gg = f ∧ cs.contains ex.cls = true
    · rw [if_pos hz] at g
      obtain ⟨C, g1, T, hno⟩ := (hT _ (by simpa using hz.2)).ex
      have hm1 := q.hm
      rw [g1] at hm1
      cases hm1
      rw [hfl] at hd
      obtain ⟨dd, e1, _, e3⟩ := hd
      have vis : Vis X.env.scope n := .inl hln
      refine (pe_xf (cls := .ref C) (d := d) T hno q.hz q.hf (pe_var hi vis hnd hnc) hb).run pins s σ H Q I ⟨_, hσ, rfl, rfl, dd, _, .int v, e1, e3, ?_, g A H _ (.refl A H) hr (.int v)⟩
      rw [hz.1]
      simp [List.lookup]
    · rw [if_neg hz] at g; exact g.elim
  · exact g.elim⟩
/-- an exception of the class x is caught by «except y» -/
structure CatchC (K : PySem.W.Frag) (mg : Str → Option Value) (x y : Str) : Prop where
  ex : ∃ C D, mg x = some (.ref C) ∧ mg y = some (.ref D) ∧ PySem.W.exmOne K (.ref C) (.ref D) = some true
def sTryAs (xs : List Str) (i : Nat) (body : SM) (suite : Exn → SM) : SM := fun loc hp => match body loc hp with
  | .exc ex l hp' => if xs.contains ex.cls = true ∧ i < l.length then (match suite ex (l.set i none) hp' with
    | .nx l' h => .nx (l'.set i none) h
    | .bk l' h => .bk (l'.set i none) h
    | .ct l' h => .ct (l'.set i none) h
    | .rt d h => .rt d h
    | _ => .bad) else .bad
  | o => o
theorem HRel.xd_out {K : PySem.W.Frag} {mg : Str → Option Value} {A : List Addr} {H : Hp} {hp : HM} (r : HRel K mg A H hp) {dd : Addr} {fs : List (Str × V)} (h : H dd = some (.xd fs)) : dd ∉ A := fun z => by
  obtain ⟨j, hj⟩ := List.mem_iff_getElem?.mp z
  have hl : j < hp.length := by rw [← r.len]; exact (List.getElem?_eq_some_iff.mp hj).1
  have ob := r.ob j hp[j] dd (List.getElem?_eq_getElem hl) hj
  cases e : hp[j] with
  | lst ds =>
    rw [e] at ob
    obtain ⟨vs, e1, _⟩ := ob
    rw [h] at e1; cases e1
  | ins c fs =>
    rw [e] at ob
    obtain ⟨C, dx, vfs, _, e1, _⟩ := ob
    rw [h] at e1; cases e1
theorem ss_tryAs [am : Amb] {xs : List Str} {body suite : List Stmt} {b₀ : Stmt} {np pos' : Pos} {fb : SM} {fs : Exn → SM} (hs : X.stack = X.env :: X.outer) (hf : X.env.frame = some X.env.locals) (hN : X.N.Nodup) (hxs : ∀ x, x ∈ xs → CatchC X.K X.mg x y) (hy : ∃ D, X.mg y = some (.ref D)) (tk : TakesZ false X W)
    (hb : ∀ (W : WX) (pn : List (Addr × Obj)) (xe : Value → Shared → Prop), TakesZ false (X.tr pn xe) W → PassesOwn (model X.prog X.w) X.A X.env xe → SSs (X.tr pn xe) W body fb)
    (hsu : ∀ (a : Addr) (oe : Obj) (cls : Value) (d : Option Addr) (pn : List (Addr × Obj)) (ex : Exn), InE X a oe cls d ex → @SSs (ambE am i a d ex) (X.suite a ((a, oe) :: pn)) (fun _ _ _ _ => False) (b₀ :: suite) (fs ex))
    (hi : X.N[i]? = some n := by rfl) (hln : X.env.kindOf n = some .local := by rfl) (hgy : Gl X y := by rfl) (hyd : (y == ("__debug__" : Str)) = false := by decide) (ok : Amb.ok i = true := by rfl) :
    SS X W (.Try body [.ExceptHandler (some (.Name y np)) (some n) (b₀ :: suite) pos'] [] [] pos) (sTryAs xs i fb fs) := by
  obtain ⟨D, gy⟩ := hy
  have key := L2.ps_try_as (X := X) (Wout := W) (x := y) (n := n) (c := .ref D) (i := i) (body := body) (b₀ := b₀) (suite := suite) (np := np) (pos := pos) (pos' := pos')
    (tb := fun W => tS X.K X.mg W fb) (ts := fun a cls d T σ H => ∃ (ex : Exn) (oe : Obj), InE X a oe cls d ex ∧ @tS (ambE am i a d ex) X.K X.mg (fun _ _ _ _ => False) (fs ex) T σ H)
    hs hf hN hi hln ⟨hgy, hyd, .inl gy⟩ tk (fun W pn xe tk po => hb W pn xe tk po) (fun a oe cls d pn hz hfld => ⟨fun pins s σ H T' I q => by
      obtain ⟨ex, oe', q0, q⟩ := q
      have q1 : InE X a oe cls d ex := ⟨hz, hfld, q0.hm⟩
      exact (hsu a oe cls d pn ex q1).run pins s σ H T' I q⟩)
  refine key.weak fun T' σ H ⟨A, loc, hp, r, hl, q⟩ => ⟨A, loc, hp, r, hl, ?_⟩
  unfold sTryAs at q
  cases o : fb loc hp with
  | exc ex l hp' =>
    rw [o] at q
    simp only at q
    by_cases hz : xs.contains ex.cls = true ∧ i < l.length
    · rw [if_pos hz] at q
      intro A2 H2 σ2 c od e2 r2 l2 hx2
      obtain ⟨x1, x2⟩ := hx2
      obtain ⟨C, D2, g1, g2, hx⟩ := (hxs _ (by simpa using hz.1)).ex
      rw [gy] at g2
      cases g2
      have x1' := x1
      rw [g1] at x1
      cases x1
      refine ⟨true, hx, fun _ a ha => ?_, fun z => by cases z⟩
      let oe0 : Obj := { cls := .ref C, dict := od, data := .fields #[] }
      refine ⟨ex, oe0, ⟨⟨rfl, rfl⟩, ⟨_, rfl⟩, x1'⟩, A2, l.set i none, hp', r2, ⟨(l2.hide i (some (.ref a)) ok).1, (l2.hide i (some (.ref a)) ok).2.1, (l2.hide i (some (.ref a)) ok).2.2, ?_, ?_⟩, ?_⟩
      · rw [List.getElem?_set_self (by rw [l2.1]; exact hz.2)]
      · revert x2
        cases ex.fld with
        | none => exact fun x2 => x2
        | some fv =>
          obtain ⟨f, v⟩ := fv
          rintro ⟨dd, e1, e3⟩
          exact ⟨dd, e1, r2.xd_out e3, e3⟩
      · cases o2 : fs ex (l.set i none) hp' with
        | rt d h =>
          rw [o2] at q
          exact fun A3 H3 v e3 r3 q3 => q A3 H3 v (e2.trans e3) r3 q3
        | nx l' h =>
          rw [o2] at q
          exact fun A3 H3 σ3 e3 r3 l3 => q A3 H3 (σ3.set i none) (e2.trans e3) r3 (LocR.hide ⟨l3.1, l3.2.1, l3.2.2.1⟩ i none ok)
        | bk l' h =>
          rw [o2] at q
          exact fun A3 H3 σ3 e3 r3 l3 => q A3 H3 (σ3.set i none) (e2.trans e3) r3 (LocR.hide ⟨l3.1, l3.2.1, l3.2.2.1⟩ i none ok)
        | ct l' h =>
          rw [o2] at q
          exact fun A3 H3 σ3 e3 r3 l3 => q A3 H3 (σ3.set i none) (e2.trans e3) r3 (LocR.hide ⟨l3.1, l3.2.1, l3.2.2.1⟩ i none ok)
        | exc _ _ _ => rw [o2] at q; exact q.elim
        | bad => rw [o2] at q; exact q.elim
    · rw [if_neg hz] at q; exact q.elim
  | nx l h => rw [o] at q; exact q
  | rt d h => rw [o] at q; exact q
  | bk l h => rw [o] at q; exact q
  | ct l h => rw [o] at q; exact q
  | bad => rw [o] at q; exact q
end

/-! ### calls while an exception is handled, of defs that neither raise nor walk -/
structure FnQ (P : Program) (w : World) (K : PySem.W.Frag) (mg : Str → Option Value) (base : Heap) (CX : CXT) (k : Nat) (f : Addr) (fd : FuncData) (ps : List Str) (sp : Sp) : Prop where
  len : ∀ vs H Q E, sp vs H Q E → vs.length = ps.length
  run : ∀ (A : Around) (outer : List Env) (s : Shared) (H : Hp) (args : Args) (us : List Value) (vs : List V) (Q : VK) (E : XK), RoomH k A → Env0 P w K mg base A outer s H → BindsTo s fd args (ps.zip us) → Vals vs us → sp vs H Q E →
    codeAny (model P w) A (.call (.ref f) args) (CR CX outer P w H s Q E) s
def cxQ (CX : CXT) (P : Program) (w : World) (K : PySem.W.Frag) (mg : Str → Option Value) (base : Heap) (N : List Str) (qual : Str) (scope : Scope) (f : Addr) (cd : Value) (A : Around) (outer : List Env) (s : Shared) (H : Hp) (E : XK) : Cx :=
  { cxOf CX P w K mg base N qual scope f cd A outer s H E with calm := false }
theorem inv_startQ {CX : CXT} {P : Program} {w : World} {K : PySem.W.Frag} {mg : Str → Option Value} {base : Heap} {N ps : List Str} {qual : Str} {scope : Scope} {f : Addr} {cd : Value} {A : Around} {outer : List Env} {s s1 : Shared} {H : Hp} {E : XK} {us : List Value} {vs : List V}
    (S : FnScope N ps scope) (e0 : Env0 P w K mg base A outer s H) (hl : vs.length = ps.length) (r : Vals vs us)
    (x : InCallC s s.heap.objs.size (bindL (PyProof.Rows.envOfC qual scope s.heap.objs.size f cd).kindOf (ps.zip us) fun _ => none) (cellsFrom (s.heap.objs.size + 1) scope.names []) (bindC (PyProof.Rows.envOfC qual scope s.heap.objs.size f cd).kindOf (ps.zip us) fun _ => none) s1) :
    Inv (cxQ CX P w K mg base N qual scope f cd A outer s H E) [] (L2.start N vs) H s1 := by
  have hpl : ps.length ≤ N.length := by have := congrArg List.length S.pre; rw [List.length_take] at this; omega
  obtain ⟨h1, tk, rfl, hk⟩ := x.done
  have noA : ∀ b : Addr, b ∉ (cxQ CX P w K mg base N qual scope f cd A outer s H E).ex := fun b z => absurd (show b ∈ ([] : List Addr) from z) (by simp)
  refine ⟨⟨e0.mod, S.kind, rfl, rfl, Nat.le_refl _, fun y z c h1 h2 => ?_, fun y hy => ?_, fun y c _ h => ?_, (fun z => Bool.noConfusion (show false = true from z)), Around.frames_deeper e0.frames, .inr ⟨rfl, rfl⟩, fun b z => absurd z (noA b), e0.bs, e0.bsz, fun b _ _ => noA b, fun b z => absurd z (noA b), e0.funs, e0.frf⟩,
    rfl, e0.bare, Un.kept hk, ⟨_, x.toInCall.ns, fun i y v h1 h2 h3 => ?_⟩, fun y c h => ⟨_, x.cell y c h⟩, e0.hok.fresh (Nat.le_refl _), fun y c h => ?_, fun q hq => absurd (show q ∈ ([] : List (Addr × Obj)) from hq) (by simp), e0.hok.kept hk, ?_⟩
  · exact name_of_addr x.apart (PySem.mem_of_lookup h1) (PySem.mem_of_lookup h2)
  · have hy : scope.names.lookup y = some .cell ∨ scope.names.lookup y = some .free := hy
    rcases hy with hy | hy
    · exact cell_has hy
    · exact absurd rfl (S.nofree _ (PySem.mem_of_lookup hy))
  · exact Nat.le_of_lt (x.above y c (PySem.mem_of_lookup h))
  · have hi : i < vs.length := by
      unfold L2.start at h2
      by_cases hi : i < vs.length
      · exact hi
      · rw [List.getElem?_append_right (by simpa using hi)] at h2
        rw [List.getElem?_replicate] at h2
        split at h2 <;> cases h2
    have ha : vs[i]? = some v := by
      unfold L2.start at h2
      rw [List.getElem?_append_left (by simpa using hi), List.getElem?_map] at h2
      cases e : vs[i]? with
      | none => rw [e] at h2; cases h2
      | some a => rw [e] at h2; cases h2; rfl
    obtain ⟨u, hu, rv⟩ := r.get ha
    have hp : ps[i]? = some y := by
      rw [← S.pre, List.getElem?_take_of_lt (by omega)]; exact h1
    have ndP : ps.Nodup := by rw [← S.pre]; exact S.nd.sublist (List.take_sublist _ _)
    refine ⟨u, rv, ?_⟩
    rcases S.par y (List.mem_of_getElem? hp) with k | k
    · exact .inl ⟨k, bindL_get ndP hp hu k⟩
    · obtain ⟨c, e⟩ := cell_has (n := s.heap.objs.size + 1) k
      refine .inr ⟨.inl k, c, e, ?_⟩
      have q := x.cell y c e
      rw [bindC_get ndP hp hu (by show scope.names.lookup y ≠ _; rw [k]; decide)] at q
      exact q
  · exact e0.hok.fresh (Nat.le_of_lt (x.above y c (PySem.mem_of_lookup h)))
  · unfold L2.start
    show _ = N.length
    rw [List.length_append, List.length_map, List.length_replicate]
    omega
theorem fn_ofQ {CX : CXT} {P : Program} {w : World} {K : PySem.W.Frag} {mg : Str → Option Value} {base : Heap} {k : Nat} {f : Addr} {name qual : Str} {params : Arguments} {body : List Stmt} {scope : Scope} {dV kV doc pm cdv ct oc : Value} {an od : Option Addr}
    {osl : Array (Option Value)} {N ps : List Str} {sp : Sp} (lk : K.lookup f = some ⟨oc, od, .func (PySem.W.fnOf name qual params body scope dV kV doc pm an cdv ct), osl⟩) (hcd : PySem.W.codeIn K cdv qual = true) (S : FnScope N ps scope)
    (len : ∀ vs H Q E, sp vs H Q E → vs.length = ps.length)
    (hbody : ∀ (A : Around) (outer : List Env) (s : Shared) (H : Hp) (vs : List V) (Q : VK) (E : XK), RoomH k (A.deeper (PyProof.Rows.envOfC qual scope s.heap.objs.size f cdv)) → sp vs H Q E →
      ∃ t, PSs (cxQ CX P w K mg base N qual scope f cdv A outer s H E) body t ∧ t { nx := fun _ H' => Q .non H', rt := Q } (L2.start N vs) H) :
    FnQ P w K mg base CX (k + 1) f (PySem.W.fnOf name qual params body scope dV kV doc pm an cdv ct) ps sp := by
  refine ⟨len, fun A outer s H args us vs Q E hr e0 hb r hsp => ?_⟩
  have hl := len _ _ _ _ hsp
  have KX : K.In s.heap := e0.mod.kin.keeps fun b o e => (e0.bs b o e).1
  have lim : s.heap.NoLimit := e0.mod.nolimit.keeps fun b o e => (e0.bs b o e).1
  have hkind : ∀ y ∈ ps.zip us, scope.names.lookup y.1 = some .local ∨ (scope.names.lookup y.1 = some .cell ∧ ((cellsFrom (s.heap.objs.size + 1) scope.names []).lookup y.1).isSome = true) := fun ⟨n, v⟩ hy => by
    rcases S.par n (List.of_mem_zip hy).1 with q | q
    · exact .inl q
    · exact .inr ⟨q, PySem.W.cellsFrom_some _ _ _ (.inl q)⟩
  refine codeAny_call_function hr.depth (KX _ _ lk) rfl S.co S.gen rfl (PySem.W.codeRec_of KX hcd) (hb _ _ _ _ ?_)
  refine wpAny_newFunctionEnv_cells S.kind hkind fun env he s1 x => ?_
  subst he
  refine ⟨lim.keeps x.toInCall.keep, codeAny_func ?_⟩
  obtain ⟨t, ht, hq⟩ := hbody A outer s H vs Q E (hr.deeper _) hsp
  have I : Inv (cxQ CX P w K mg base N qual scope f cdv A outer s H E) [] (L2.start N vs) H s1 := inv_startQ S e0 hl r x
  refine wpAny_mono (ht.run [] s1 (L2.start N vs) H _ I hq) (fun fl s' hs => ?_) fun e s' hs => hs
  have fin : ∀ {σ' : L2.St} {H' : Hp} {v : V} {u : Value}, Inv (cxQ CX P w K mg base N qual scope f cdv A outer s H E) [] σ' H' s' → RelV v u → Q v H' → CE outer P w H s Q u s' :=
    fun {σ' H' v u} J rv q => ⟨v, H', J.os, J.bare, J.base, J.hok, rv, q⟩
  cases fl with
  | ret u =>
    obtain ⟨v, σ', H', J, rv, q⟩ := hs
    exact fin J rv q
  | next =>
    obtain ⟨σ', H', J, q⟩ := hs
    exact fin (v := V.non) (u := Value.none) J rfl q
  | brk =>
    obtain ⟨_, _, _, q⟩ := hs
    exact False.elim q
  | cont =>
    obtain ⟨_, _, _, q⟩ := hs
    exact False.elim q
section
variable [Amb] {P : Program} {w : World} {K : PySem.W.Frag} {mg : Str → Option Value} {base : Heap}
/-- a def keeps to its mirror also while an exception is handled -/
def OkQ (P : Program) (w : World) (K : PySem.W.Frag) (mg : Str → Option Value) (base : Heap) (k : Nat) (x : Str) (st : Stmt) (ps : List Str) (n : Nat) (m : Fn) : Prop :=
  ∃ f fd, Dfn K mg x st ps f fd ∧ FnQ P w K mg base (CXz false P w) k f fd ps (spOf K mg n m)
theorem ok_fnQ {x : Str} {st : Stmt} {N ps : List Str} {k n : Nat} {body : SM} (d : ∃ f fd, Dfn K mg x st ps f fd) (S : FnScope N ps (defScope st)) (hn : ps.length = n)
    (hbody : ∀ (f : Addr) (cdv : Value) (A : Around) (outer : List Env) (s : Shared) (H : Hp) (E : XK), SSs (cxQ (CXz false P w) P w K mg base N x (defScope st) f cdv A outer s H E) (WD E) (defBody st) body) (hj : ∀ A H σ, Amb.J A H σ := by exact fun _ _ _ => trivial) :
    OkQ P w K mg base (k + 1) x st ps n (fnKeep n N.length body) := by
  obtain ⟨f, fd, d⟩ := d
  refine ⟨f, fd, d, ?_⟩
  obtain ⟨oc, od, kV, doc, pm, an, cdv, ct, osl, rfl, lk, hcd⟩ := d.F.ex
  refine fn_ofQ lk hcd S (fun vs H Q E h => h.1.trans hn.symm) fun A outer s H vs Q E hr h => ?_
  obtain ⟨hl, A1, hp, ds, r, q, g⟩ := h
  refine ⟨_, hbody f cdv A outer s H E, A1, _, hp, r, start_rel q hl (hj _ _ _), ?_⟩
  unfold fnKeep at g
  cases o : body (ds.map some ++ List.replicate (N.length - n) none) hp with
  | rt d hp' => rw [o] at g; exact g
  | nx l hp' => rw [o] at g; exact fun A2 H2 σ2 e2 r2 q2 => g A2 H2 .non e2 r2 .non
  | exc x l hp' => rw [o] at g; exact fun A2 H2 σ2 c od e2 r2 q2 hx => g A2 H2 c od e2 r2 hx
  | bk l h => rw [o] at g; exact g.elim
  | ct l h => rw [o] at g; exact g.elim
  | bad => rw [o] at g; exact g.elim
end
section
variable [Amb] {X : Cx} {x : Str} {p pos : Pos} {e : PySem.Expr} {es : List PySem.Expr}
/-- f(..) in an except suite -/
theorem se_callQ {a : Addr} {pn : List (Addr × Obj)} {fs : AM} {st : Stmt} {ps : List Str} {k j n : Nat} {m : Fn} (h : OkQ X.prog X.w X.K X.mg X.base k x st ps n m) (hr : Room j X.A) (ha : SA (X.suite a pn) (fun _ _ _ _ => False) (e :: es) fs) (hk : k ≤ j := by decide) (hg : Gl X x := by rfl)
    (hdb : (x == ("__debug__" : Str)) = false := by decide) (he : starEach (e :: es) X.env = (false, eval e X.env) :: starEach es X.env := by rfl) (hpl : (backTo pos (starEach es X.env)).any (·.1) = false := by rfl) :
    SE (X.suite a pn) (fun _ _ _ _ => False) (.Call (.Name x p) (e :: es) [] pos) (eCall (argc n m) fs) := by
  obtain ⟨f, fd, d, F⟩ := h
  refine ⟨fun pins s σ H Q I z => ?_⟩
  obtain ⟨A, loc, hp, hr1, hl, hq⟩ := z
  refine wpAny_Call_Name_kw (ld_glob (X := X.suite a pn) I hg d.m ?_ hdb)
  refine PySem.W.callWith_K (h₀ := X.base) I.ok.mod.kin d.F.kp (thn (ha.run pos pins s σ H _ I ⟨A, loc, hp, hr1, hl, Good.bind (R := RpL X.K) hq⟩) fun us s1 ⟨vs, H1, I1, r, q⟩ => ⟨I1.kIn, ?_⟩) he hpl
  obtain ⟨A1, hp1, ds, e1, r1, q1, g1⟩ := q
  unfold argc at g1
  by_cases hz : ds.length = n
  · rw [if_pos hz] at g1
    have sp : spOf X.K X.mg n m vs H1 Q (fun _ _ _ => False) := ⟨by rw [q1.length]; exact hz, A1, hp1, ds, r1, q1, g1.retag fun _ _ _ h => h⟩
    have hlen : us.length = ps.length := by rw [← r.length]; exact F.len _ _ _ _ sp
    have b := d.b s1 us I1.kIn (by rw [List.append_nil]; exact hlen)
    rw [List.append_nil] at b
    refine wpAny_call (codeAny_mono (F.run (X.suite a pn).A X.stack s1 H1 ⟨us, []⟩ us vs Q (fun _ _ _ => False) (roomH_mark (hr.mono hk) _) I1.env0 b r sp) fun r s' hq => ?_)
    cases r with
    | error er =>
      obtain ⟨_, _, _, _, _, _, _, _, _, _, _, _, zz⟩ := hq
      exact zz.elim
    | ok fl =>
      cases fl with
      | ret u => exact I1.after hq
      | next => exact False.elim hq
      | brk => exact False.elim hq
      | cont => exact False.elim hq
  · rw [if_neg hz] at g1; exact g1.elim
end
end Ms

/-! Classes: instances made, fields, methods. -/
namespace Ms
open PySem L2 PySem.Spec PyProof.Rows
variable [Amb]
def putD (f : Str) (v : D) : List (Str × D) → List (Str × D)
  | [] => [(f, v)]
  | (g, x) :: r => if g = f then (g, v) :: r else (g, x) :: putD f v r
theorem putF_rp {K : PySem.W.Frag} {A : List Addr} {H : Hp} {f : Str} {v : V} {d : D} (q : Rp K A H v d) : ∀ {xs : List (Str × V)} {ys : List (Str × D)}, FldR K A H xs ys → FldR K A H (putF f v xs) (putD f d ys)
  | _, _, .nil => .cons ⟨rfl, q⟩ .nil
  | _, _, .cons (a := x) (b := y) r t => by
    obtain ⟨x1, x2⟩ := x
    obtain ⟨y1, y2⟩ := y
    obtain ⟨e, r2⟩ := r
    have e : x1 = y1 := e
    subst e
    unfold putF putD
    by_cases h : x1 = f
    · rw [if_pos h, if_pos h]
      exact .cons ⟨rfl, q⟩ t
    · rw [if_neg h, if_neg h]
      exact .cons ⟨rfl, r2⟩ (putF_rp q t)
theorem fld_lookup {K : PySem.W.Frag} {A : List Addr} {H : Hp} {f : Str} : ∀ {xs : List (Str × V)} {ys : List (Str × D)}, FldR K A H xs ys → (∀ d, ys.lookup f = some d → ∃ v, xs.lookup f = some v ∧ Rp K A H v d) ∧ (ys.lookup f = none → xs.lookup f = none) ∧ xs.length = ys.length
  | _, _, .nil => ⟨(fun d h => by cases h), (fun _ => rfl), rfl⟩
  | _, _, .cons (a := x) (b := y) r t => by
    obtain ⟨x1, x2⟩ := x
    obtain ⟨y1, y2⟩ := y
    obtain ⟨e, r2⟩ := r
    have e : x1 = y1 := e
    subst e
    obtain ⟨i1, i2, i3⟩ := fld_lookup (f := f) t
    refine ⟨fun d h => ?_, fun h => ?_, by simp [i3]⟩
    · unfold List.lookup at h ⊢
      split at h
      · cases h; exact ⟨x2, rfl, r2⟩
      · exact i1 d h
    · unfold List.lookup at h ⊢
      split at h
      · cases h
      · exact i2 h
/-- the instance that d is -/
def insOf (hp : HM) : D → Option (Nat × Str × List (Str × D))
  | .ref n => match hp[n]? with
    | some (.ins c fs) => some (n, c, fs)
    | _ => none
  | _ => none
section
variable {K : PySem.W.Frag} {mg : Str → Option Value} {A : List Addr} {H : Hp} {hp : HM}
theorem insOf_rp (r : HRel K mg A H hp) {v : V} {d : D} {n : Nat} {c : Str} {fs : List (Str × D)} (q : Rp K A H v d) (h : insOf hp d = some (n, c, fs)) :
    ∃ a C dx vfs, v = .ref a ∧ d = .ref n ∧ A[n]? = some a ∧ mg c = some (.ref C) ∧ H a = some (.ins C dx vfs) ∧ H dx = some (.own a) ∧ dx ∉ A ∧ FldR K A H vfs fs := by
  unfold insOf at h
  split at h
  · rename_i m
    obtain ⟨a, rfl, ha⟩ := q.ref_inv
    have hl : m < hp.length := by rw [← r.len]; exact (List.getElem?_eq_some_iff.mp ha).1
    rw [List.getElem?_eq_getElem hl] at h
    cases hm : hp[m] with
    | lst ds => rw [hm] at h; cases h
    | ins c' fs' =>
      rw [hm] at h
      simp only [Option.some.injEq, Prod.mk.injEq] at h
      obtain ⟨rfl, rfl, rfl⟩ := h
      obtain ⟨C, dx, vfs, g1, g2, g3, g4, g5⟩ := r.ob m _ a (by rw [List.getElem?_eq_getElem hl, hm]) ha
      exact ⟨a, C, dx, vfs, rfl, rfl, ha, g1, g2, g3, g4, g5⟩
  · cases h
end
/-- what the top wrote of the class c and its field f -/
structure FldX (K : PySem.W.Frag) (mg : Str → Option Value) (c f : Str) : Prop where
  ex : ∃ C, mg c = some (.ref C) ∧ Cls K C ∧ NoAttr K C f
/-- o.f, o an instance of c -/
def eFld (c f : Str) (fo : EM) : EM := fun loc hp => (fo loc hp).bind fun o hp1 => match insOf hp1 o with
  | some (_, c', fs) => if c' = c then (match fs.lookup f with
    | some d => .ok d hp1
    | none => .bad) else .bad
  | none => .bad
/-- o.f = e -/
def sFldS (c f : Str) (fe fo : EM) : SM := fun loc hp => sE (fe loc hp) loc fun d hp1 => sE (fo loc hp1) loc fun o hp2 => match insOf hp2 o with
  | some (n, c', fs) => if c' = c ∧ fs.length < 1000 then .nx loc (hp2.set n (.ins c (putD f d fs))) else .bad
  | none => .bad
section
variable {z : Bool} {X : Cx} {W : WX} {o e : PySem.Expr} {es : List PySem.Expr} {fo fe : EM} {fs : AM} {c f m x : Str} {p apos pos pos' : Pos}
theorem se_fld (T : FldX X.K X.mg c f) (ho : SE X W o fo) (hb : attributeBase o f X.env (eval o X.env) = eval o X.env := by rfl) : SE X W (.Attribute o f pos) (eFld c f fo) := (pe_fld ho hb).weak fun σ H Q ⟨A, loc, hp, hr, hl, hq⟩ => by
  obtain ⟨C, gc, c1, n1⟩ := T.ex
  refine ⟨A, loc, hp, hr, hl, (Good.bind (R := Rp X.K) hq).mono ?_⟩
  rintro v1 H1 ⟨A1, hp1, d1, e1, r1, q1, g1⟩
  cases h : insOf hp1 d1 with
  | none => rw [h] at g1; exact g1.elim
  | some t =>
    obtain ⟨n, c', flds⟩ := t
    rw [h] at g1
    simp only at g1
    by_cases hc : c' = c
    · rw [if_pos hc] at g1
      subst hc
      obtain ⟨a, C', dx, vfs, rfl, rfl, ha, g2, g3, g4, g5, g6⟩ := insOf_rp r1 q1 h
      rw [gc] at g2
      cases g2
      cases hl : flds.lookup f with
      | none => rw [hl] at g1; exact g1.elim
      | some d =>
        rw [hl] at g1
        obtain ⟨v, l1, q⟩ := (fld_lookup g6).1 d hl
        exact ⟨a, C, dx, vfs, v, rfl, g3, c1, n1, l1, g1.here r1 q⟩
    · rw [if_neg hc] at g1; exact g1.elim
theorem ss_fld (T : FldX X.K X.mg c f) (he : SE X W e fe) (ho : SE X W o fo) (hs : swapsWith e (some (.Attribute o f pos')) pos.line X.env = pure false := by rfl) : SS X W (.Assign [.Attribute o f pos'] e pos) (sFldS c f fe fo) := (ps_fld ho he hs).weak fun T' σ H ⟨A, loc, hp, r, hl, q⟩ => by
  obtain ⟨C, gc, c1, n1⟩ := T.ex
  refine ⟨A, loc, hp, r, hl, (GoodS.bind (R := Rp X.K) hl q).mono ?_⟩
  rintro v H1 ⟨A1, hp1, d1, e1, r1, q1, l1, g1⟩
  refine ⟨A1, loc, hp1, r1, l1, (GoodS.bind (R := Rp X.K) l1 g1).mono ?_⟩
  rintro ov H2 ⟨A2, hp2, d2, e2, r2, q2, l2, g2⟩
  cases h : insOf hp2 d2 with
  | none => rw [h] at g2; exact g2.elim
  | some t =>
    obtain ⟨n, c', flds⟩ := t
    rw [h] at g2
    simp only at g2
    by_cases hc : c' = c ∧ flds.length < 1000
    · rw [if_pos hc] at g2
      obtain ⟨rfl, hlen⟩ := hc
      obtain ⟨a, C', dx, vfs, rfl, rfl, ha, g3, g4, g5, g6, g7⟩ := insOf_rp r2 q2 h
      rw [gc] at g3
      cases g3
      refine ⟨a, C, dx, vfs, rfl, g4, c1, n1, by rw [(fld_lookup (f := f) g7).2.2]; exact hlen, ?_⟩
      have dxa : dx ≠ a := fun z => by
        rw [z, g4] at g5
        cases g5
      obtain ⟨e3, r3⟩ := r2.write (o := .ins C dx (putF f v vfs)) (mo := .ins c' (putD f d1 flds)) ha fun e4 => ⟨C, dx, _, gc, upd_same, by rw [upd_ne dxa]; exact g5, g6, putF_rp ((q1.ext e2).ext e4) (g7.ext e4)⟩
      exact g2 A2 _ σ e3 r3 (l2.ext e3)
    · rw [if_neg hc] at g2; exact g2.elim
/-- a method keeps to its mirror -/
def OkM (z : Bool) (P : Program) (w : World) (K : PySem.W.Frag) (mg : Str → Option Value) (base : Heap) (k : Nat) (c m : Str) (n : Nat) (mm : Fn) : Prop :=
  ∃ C f fd ps, mg c = some (.ref C) ∧ Cls K C ∧ Meth K C m f ∧ Binds K fd ps [] ∧ FnOk P w K mg base (CXz z P w) k f fd ps (spOf K mg n mm)
def eMeth (c m : Str) (n : Nat) (mm : Fn) (fo : EM) (fs : AM) : EM := fun loc hp => (fo loc hp).bind fun o hp1 => match insOf hp1 o with
  | some (_, c', flds) => if c' = c ∧ (flds.lookup m).isNone = true then (fs loc hp1).bind fun ds hp2 => argc n mm (o :: ds) hp2 else .bad
  | none => .bad
theorem meth_w {z z' : Bool} {k j n : Nat} {mm : Fn} {C fa : Addr} {fd : FuncData} {ps : List Str} (gc : X.mg c = some (.ref C)) :
    ∀ σ H Q, tG X.K X.mg W (Rp X.K) (eMeth c m n mm fo fs) σ H Q → tG X.K X.mg W (Rp X.K) fo σ H fun x H1 => ∃ a dx vfs, x = .ref a ∧ H1 a = some (.ins C dx vfs) ∧ vfs.lookup m = none ∧ tG X.K X.mg W (RpL X.K) fs σ H1 fun vs H2 => spOf X.K X.mg n mm (x :: vs) H2 Q (WE W σ) := by
  rintro σ H Q ⟨A, loc, hp, hr1, hl, hq⟩
  refine ⟨A, loc, hp, hr1, hl, (Good.bind (R := Rp X.K) hq).mono ?_⟩
  rintro v1 H1 ⟨A1, hp1, d1, e1, r1, q1, g1⟩
  cases h : insOf hp1 d1 with
  | none => rw [h] at g1; exact g1.elim
  | some t =>
    obtain ⟨nn, c', flds⟩ := t
    rw [h] at g1
    simp only at g1
    by_cases hc : c' = c ∧ (flds.lookup m).isNone = true
    · rw [if_pos hc] at g1
      obtain ⟨rfl, hn⟩ := hc
      obtain ⟨a, C', dx, vfs, rfl, rfl, ha, g2, g3, g4, g5, g6⟩ := insOf_rp r1 q1 h
      rw [gc] at g2
      cases g2
      refine ⟨a, dx, vfs, rfl, g3, (fld_lookup g6).2.1 (by simpa using hn), A1, loc, hp1, r1, hl.ext e1, (Good.bind (R := RpL X.K) g1).mono ?_⟩
      rintro vs H2 ⟨A2, hp2, ds, e2, r2, q2, g2⟩
      unfold argc at g2
      by_cases hz : (D.ref nn :: ds).length = n
      · rw [if_pos hz] at g2
        exact ⟨by rw [← hz]; simp [q2.length], A2, hp2, _, r2, .cons (q1.ext e2) q2, g2.retag fun _ _ _ h => h⟩
      · rw [if_neg hz] at g2; exact g2.elim
    · rw [if_neg hc] at g1; exact g1.elim
theorem se_meth {pl : Sem Bool} {z z' : Bool} {k j n : Nat} {mm : Fn} (T : OkM z' X.prog X.w X.K X.mg X.base k c m n mm) (hr : Room j X.A) (tk : Tk z X W) (ho : SE X W o fo) (ha : SA X W (e :: es) fs) (hk : k ≤ j := by decide) (hz : (z' || !z) = true := by rfl)
    (hst : starEach (e :: es) X.env = (false, eval e X.env) :: starEach es X.env := by rfl) (hpl : (backTo pos (starEach es X.env)).any (·.1) = false := by rfl)
    (ht : eval (.Call (.Attribute o m apos) (e :: es) [] pos) X.env = (do
      let ov ← eval o X.env
      standAt apos.atName
      let (f, first) ← holding [ov] (getMethod ov m pl)
      callWith pos f first (backTo pos (starEach (e :: es) X.env)) (backToKw pos (keywordEach [] X.env))) := by rfl) :
    SE X W (.Call (.Attribute o m apos) (e :: es) [] pos) (eMeth c m n mm fo fs) := by
  obtain ⟨C, fa, fd, ps, gc, cC, mC, hb, F⟩ := T
  refine ⟨fun pins s σ H Q I h => ?_⟩
  have h := meth_w (z := z) (z' := z') (k := k) (j := j) (fa := fa) (fd := fd) (ps := ps) gc σ H Q h
  refine PySem.W.methodCall_KW (pl := pl) (thn (ho.run pins s σ H _ I h) fun u s1 ⟨x, H1, I1, rx, a, dx, vfs, ex, ea, l, q⟩ => ?_) ht
  subst ex
  obtain rfl : u = Value.ref a := rx
  refine getmeth_ok I1 ea cC mC l ?_
  refine PySem.W.callWith_K (first := [.ref a]) (h₀ := X.base) I.ok.mod.kin mC.kp (thn (ha.run pos pins s1 σ H1 _ I1 q) fun us s2 ⟨vs, H2, I2, r, q2⟩ => ⟨I2.kIn, ?_⟩) hst hpl
  exact run_fnSD (us := .ref a :: us) (vs := .ref a :: vs) (dvs := []) (ds := []) (E := fun σ => WE W σ) F (hr.mono hk) hb .nil (passTk tk hz σ) I2 (.cons rfl r) (by rw [List.append_nil]; exact q2)
theorem se_meth0 {pl : Sem Bool} {z z' : Bool} {k j n : Nat} {mm : Fn} (T : OkM z' X.prog X.w X.K X.mg X.base k c m n mm) (hr : Room j X.A) (tk : Tk z X W) (ho : SE X W o fo) (hk : k ≤ j := by decide) (hz : (z' || !z) = true := by rfl)
    (ht : eval (.Call (.Attribute o m apos) [] [] pos) X.env = (do
      let ov ← eval o X.env
      standAt apos.atName
      let (f, first) ← holding [ov] (getMethod ov m pl)
      callWith pos f first (backTo pos (starEach [] X.env)) (backToKw pos (keywordEach [] X.env))) := by rfl) :
    SE X W (.Call (.Attribute o m apos) [] [] pos) (eMeth c m n mm fo aNil) := by
  obtain ⟨C, fa, fd, ps, gc, cC, mC, hb, F⟩ := T
  refine ⟨fun pins s σ H Q I h => ?_⟩
  have h := meth_w (z := z) (z' := z') (k := k) (j := j) (fa := fa) (fd := fd) (ps := ps) gc σ H Q h
  refine PySem.W.methodCall_KW (pl := pl) (thn (ho.run pins s σ H _ I h) fun u s1 ⟨x, H1, I1, rx, a, dx, vfs, ex, ea, l, q⟩ => ?_) ht
  subst ex
  obtain rfl : u = Value.ref a := rx
  refine getmeth_ok I1 ea cC mC l ?_
  have q3 := (sa_nil (X := X) (W := W)).run pos pins s1 σ H1 _ I1 q
  refine PySem.W.callWith_K0 (first := [.ref a]) I1.kIn mC.kp ?_
  obtain ⟨A9, loc9, hp9, r9, l9, g9⟩ := q
  exact run_fnSD (us := [.ref a]) (vs := [.ref a]) (dvs := []) (ds := []) (E := fun σ => WE W σ) F (hr.mono hk) hb .nil (passTk tk hz σ) I1 (.cons rfl .nil) (by rw [List.append_nil]; exact g9 A9 H1 [] (.refl _ _) r9 .nil)
/-- an __init__ keeps to its mirror; dd: the defaults -/
def OkI (z : Bool) (P : Program) (w : World) (K : PySem.W.Frag) (mg : Str → Option Value) (base : Heap) (k : Nat) (c : Str) (n : Nat) (dd : List D) (mm : Fn) : Prop :=
  ∃ C f fd ps ds dvs, mg c = some (.ref C) ∧ Mk K C f ∧ Binds K fd ps ds ∧ Vals dvs ds ∧ (∀ A H, RpL K A H dvs dd) ∧ FnOk P w K mg base (CXz z P w) k f fd ps (spOf K mg n mm)
/-- c(..) -/
def eNew (c : Str) (n : Nat) (dd : List D) (mm : Fn) (fs : AM) : EM := fun loc hp => (fs loc hp).bind fun ds hp1 => (argc n mm (.ref hp1.length :: (ds ++ dd)) (hp1 ++ [.ins c []])).bind fun d hp2 => match d with
  | .non => .ok (.ref hp1.length) hp2
  | _ => .bad
theorem run_makeS {CX : CXT} {k : Nat} {f C : Addr} {fd : FuncData} {ps : List Str} {sp : Sp} {dvs : List V} {ds : List Value} {E : XK} {pins : List (Addr × Obj)} {σ : L2.St} {H : Hp} {s : Shared} {Q : VK} {us : List Value} {vs : List V} (M : Mk X.K C f) (F : FnOk X.prog X.w X.K X.mg X.base CX k f fd ps sp) (hr : Room (k + 1) X.A) (hb : Binds X.K fd ps ds) (hd : Vals dvs ds)
    (hx : PassesAt CX X σ E) (I : Inv X pins σ H s) (r : Vals vs us)
    (h : ∀ x dx, H x = none → H dx = none → dx ≠ x → sp (.ref x :: (vs ++ dvs)) (upd (upd H dx (.own x)) x (.ins C dx [])) (fun v H2 => v = .non ∧ Q (.ref x) H2) E) :
    wpAny (model X.prog X.w) X.A (call (.ref C) us) (EP X pins σ Q) X.xe s := by
  have hq := h (s.heap.objs.size + 1) s.heap.objs.size (I.hok.fresh (Nat.le_succ _)) (I.hok.fresh (Nat.le_refl _)) (Nat.ne_of_lt (Nat.lt_succ_self _))
  have I2 := Inv.made (C := C) I
  have r2 : Vals (V.ref (s.heap.objs.size + 1) :: (vs ++ dvs)) (Value.ref (s.heap.objs.size + 1) :: (us ++ ds)) := .cons rfl (r.append hd)
  have hl : (Value.ref (s.heap.objs.size + 1) :: us ++ ds).length = ps.length := by
    have e := r2.length
    rw [F.len _ _ _ _ hq] at e
    exact e.symm
  refine wpAny_call (make_map (f := f) I.kIn M.makes M.init (beq_iff_eq.mp M.fn) (codeAny_mono (F.run _ X.stack _ _ ⟨Value.ref (s.heap.objs.size + 1) :: us, []⟩ (Value.ref (s.heap.objs.size + 1) :: (us ++ ds)) _ _ E (hr.make C us [])
    (I2.env0.make C us []) (hb _ (Value.ref (s.heap.objs.size + 1) :: us) I2.kIn hl) r2 hq) fun r s' hq' => ?_))
  cases r with
  | error e => exact hx pins _ _ e s' I2 hq'
  | ok fl =>
    cases fl with
    | ret u =>
      obtain ⟨v, H', I3, rv, ev, q3⟩ := I2.after hq'
      subst ev
      exact ⟨rv, ⟨V.ref (s.heap.objs.size + 1), H', I3, rfl, q3⟩⟩
    | next => exact False.elim hq'
    | brk => exact False.elim hq'
    | cont => exact False.elim hq'
theorem new_w {n : Nat} {dd : List D} {dvs : List V} {mm : Fn} {C : Addr} (gc : X.mg c = some (.ref C)) (hd : ∀ A H, RpL X.K A H dvs dd) :
    ∀ σ H Q, tG X.K X.mg W (Rp X.K) (eNew c n dd mm fs) σ H Q → tG X.K X.mg W (RpL X.K) fs σ H fun vs H1 => ∀ x dx, H1 x = none → H1 dx = none → dx ≠ x →
      spOf X.K X.mg n mm (.ref x :: (vs ++ dvs)) (upd (upd H1 dx (.own x)) x (.ins C dx [])) (fun v H2 => v = .non ∧ Q (.ref x) H2) (WE W σ) := by
  rintro σ H Q ⟨A, loc, hp, hr1, hl, hq⟩
  refine ⟨A, loc, hp, hr1, hl, (Good.bind (R := RpL X.K) hq).mono ?_⟩
  rintro vs H1 ⟨A1, hp1, ds, e1, r1, q1, g1⟩ x dx hx hdx hne
  obtain ⟨e2, r2⟩ := r1.new (o := .own x) hdx
  have hx2 : upd H1 dx (.own x) x = none := by rw [upd_ne hne.symm]; exact hx
  have np := r2.fresh hx2
  have dxA : dx ∉ A1 ++ [x] := by
    simp only [List.mem_append, List.mem_singleton, not_or]
    exact ⟨r1.fresh hdx, hne⟩
  obtain ⟨e3, r3⟩ := r2.track (o := .ins C dx []) (mo := .ins c []) hx2 ⟨C, dx, [], gc, upd_same, by rw [upd_ne hne, upd_same], dxA, .nil⟩
  unfold argc at g1
  by_cases hz : (D.ref hp1.length :: (ds ++ dd)).length = n
  · rw [if_pos hz] at g1
    have self : Rp X.K (A1 ++ [x]) (upd (upd H1 dx (.own x)) x (.ins C dx [])) (.ref x) (.ref hp1.length) := .ref (by rw [← r1.len]; simp)
    refine ⟨by rw [← hz]; simp [q1.length, (hd A1 H1).length], A1 ++ [x], _, _, r3, .cons self (((q1.ext e2).ext e3).append (hd _ _)), ?_⟩
    have g2 := Good.ext g1 (e2.trans e3)
    refine ((Good.bind (R := Rp X.K) g2).mono ?_).retag fun _ _ _ h => h
    rintro v H4 ⟨A4, hp4, d4, e4, r4, q4, g4⟩
    cases d4 with
    | non => exact ⟨q4.non_inv, g4 A4 H4 _ (.refl _ _) r4 (self.ext e4)⟩
    | _ => exact g4.elim
  · rw [if_neg hz] at g1; exact g1.elim
theorem se_new {z z' : Bool} {k j n : Nat} {dd : List D} {mm : Fn} (T : OkI z' X.prog X.w X.K X.mg X.base k c n dd mm) (hr : Room j X.A) (tk : Tk z X W) (ha : SA X W (e :: es) fs) (hk : k + 1 ≤ j := by decide) (hz : (z' || !z) = true := by rfl) (hg : Gl X c := by rfl)
    (hdb : (c == ("__debug__" : Str)) = false := by decide) (he : starEach (e :: es) X.env = (false, eval e X.env) :: starEach es X.env := by rfl) (hpl : (backTo pos (starEach es X.env)).any (·.1) = false := by rfl) :
    SE X W (.Call (.Name c p) (e :: es) [] pos) (eNew c n dd mm fs) := by
  obtain ⟨C, fa, fd, ps, ds, dvs, gc, M, hb, hd, hdd, F⟩ := T
  refine ⟨fun pins s σ H Q I h => ?_⟩
  have h := new_w gc hdd σ H Q h
  refine wpAny_Call_Name_kw (ld_glob I hg gc ?_ hdb)
  refine PySem.W.callWith_K (h₀ := X.base) I.ok.mod.kin M.kp (thn (ha.run pos pins s σ H _ I h) fun us s1 ⟨vs, H1, I1, r, q⟩ => ⟨I1.kIn, ?_⟩) he hpl
  exact run_makeS M F (hr.mono hk) hb hd (passTk tk hz σ) I1 r q
theorem se_new0 {z z' : Bool} {k j n : Nat} {dd : List D} {mm : Fn} (T : OkI z' X.prog X.w X.K X.mg X.base k c n dd mm) (hr : Room j X.A) (tk : Tk z X W) (hk : k + 1 ≤ j := by decide) (hz : (z' || !z) = true := by rfl) (hg : Gl X c := by rfl)
    (hdb : (c == ("__debug__" : Str)) = false := by decide) : SE X W (.Call (.Name c p) [] [] pos) (eNew c n dd mm aNil) := by
  obtain ⟨C, fa, fd, ps, ds, dvs, gc, M, hb, hd, hdd, F⟩ := T
  refine ⟨fun pins s σ H Q I h => ?_⟩
  have h := new_w gc hdd σ H Q h
  refine wpAny_Call_Name_kw (ld_glob I hg gc ?_ hdb)
  obtain ⟨A9, loc9, hp9, r9, l9, g9⟩ := h
  refine PySem.W.callWith_K0 I.kIn M.kp (run_makeS (us := []) (vs := []) M F (hr.mono hk) hb hd (passTk tk hz σ) I .nil ?_)
  exact g9 A9 H [] (.refl _ _) r9 .nil
end
end Ms

/-! enumerate(list), enumerate(tuple), max(tuple), xs.extend(ys), list * int. -/
namespace PySem
open Sem (wp)
open AutoSeq1 (wpAny_loadPart')
theorem ms_meets_enumerate_newT (l : Addr) (items : Array Value) :
    Meets (Builtin.«enumerate.__new__» ⟨[.type "enumerate", .ref l], []⟩) (fun _ R s => s.heap.IsTuple l items ∧
      R (.ok (.ret (.ref (s.heap.push { cls := .type "tuple_iterator", data := .fields #[.ref l, .int 0 0] }).objs.size)))
        { s with heap := (s.heap.push { cls := .type "tuple_iterator", data := .fields #[.ref l, .int 0 0] }).push { cls := .type "enumerate", data := .fields #[.none, .bool false, .ref s.heap.objs.size, rawInt 0, .none, .none] } }) :=
  .of_wp fun prog w A R s h => by
    obtain ⟨hp, g, d, tk, os⟩ := s; obtain ⟨hl, h⟩ := h
    have hsub := sub_enumerate
    have q1 : ∀ {A' : Around} {E : Value → Shared → Prop} {Q : Value → Shared → Prop}, Q (.ref hp.objs.size) ⟨hp.push { cls := .type "tuple_iterator", data := .fields #[.ref l, .int 0 0] }, g, d, tk, os⟩ → wpAny (model prog w) A' (pyIter (.ref l)) Q E ⟨hp, g, d, tk, os⟩ :=
      fun q => (begins_tuple l items).iter prog w _ _ ⟨hp, g, d, tk, os⟩ _ hl q
    wp_walk using q1
    refine wpAny_stack_any fun st => wpAny_pure ?_
    split
    · rename_i c _ _ _ _ _
      cases (c == Value.type "enumerate")
      · wp_walk using q1
        exact ⟨_, rfl, h⟩
      · wp_walk using q1
        exact ⟨_, rfl, h⟩
    · wp_walk using q1
      exact ⟨_, rfl, h⟩
section
variable {prog : Program} {w : World} {A : Around} {E : Value → Shared → Prop} {s : Shared}
theorem ms_call_enumerate_tuple {l : Addr} {items : Array Value} {Q : Value → Shared → Prop} (hL : s.heap.IsTuple l items)
    (h : ∀ h', IsEnum h' (s.heap.objs.size + 1) s.heap.objs.size 0 .none → h'.IsTupleIter s.heap.objs.size l 0 → h'.objs.size = s.heap.objs.size + 2 →
      (∀ b o, s.heap.get? b = some o → h'.get? b = some o) → Q (.ref (s.heap.objs.size + 1)) { s with heap := h' }) :
    wpAny (model prog w) A (call (.type "enumerate") [.ref l]) Q E s := by
  refine callType_new F.called_enumerate (by decide) (F.typeCall_enumerate_1 _) (F.newCall_enumerate_1 _) (fun obj => F.args_object_init_2 obj _) F.entry_enumerate_new
    (ms_meets_enumerate_newT l items) ⟨hL, ?_⟩
  have hz : (s.heap.push { cls := .type "tuple_iterator", data := .fields #[.ref l, .int 0 0] }).objs.size = s.heap.objs.size + 1 := Heap.size_push ..
  show _ ∧ _
  rw [hz]
  have he : IsEnum ((s.heap.push { cls := .type "tuple_iterator", data := .fields #[.ref l, .int 0 0] }).push
      { cls := .type "enumerate", data := .fields #[.none, .bool false, .ref s.heap.objs.size, rawInt 0, .none, .none] }) (s.heap.objs.size + 1) s.heap.objs.size 0 .none := by
    have := Heap.get?_push_size (s.heap.push { cls := .type "tuple_iterator", data := .fields #[.ref l, .int 0 0] })
      (o := { cls := .type "enumerate", data := .fields #[.none, .bool false, .ref s.heap.objs.size, rawInt 0, .none, .none] }) rfl
    rw [hz] at this; exact this
  refine ⟨⟨_, he, rfl⟩, h _ he ⟨_, Heap.get?_push_of_some _ (Heap.get?_push_size _ rfl), rfl, rfl⟩ (by rw [Heap.size_push, hz]) fun b o x => Heap.get?_push_of_some _ (Heap.get?_push_of_some _ x)⟩
theorem ms_enum_endT {e it l : Addr} {i : Nat} {items : Array Value} {old : Value} {Q : Option Value → Shared → Prop} (hh : A.handled = none)
    (he : IsEnum s.heap e it i old) (hit : s.heap.IsTupleIter it l i) (hl : s.heap.IsTuple l items) (hx : items[i]? = none)
    (hQ : ∀ h', Heap.ExtBut it s.heap h' → Q none { s with heap := h' }) : wpAny (model prog w) A (pyNext (.ref e)) Q E s := by
  have hT : s.TypeIs (.ref e) "enumerate" := ⟨_, he, rfl⟩
  unfold pyNext
  refine wpAny_bind (wpAny_attempt (wpAny_callSpecial?_slot (name := Str.ofString "__next__") hT F.slot_enumerate_next
    (wpAny_call_entry F.slot_enumerate_next hT F.entry_enumerate_next ?_ (F.args_enumerate_next_1 _))))
  show wpAny _ _ (field (.ref e) 2 >>= _) _ _ _
  refine wpAny_bind (wpAny_field he rfl (x := .ref it) rfl ?_)
  refine wpAny_bind (wpAny_nextOf_tuple_end (A := A.in1) hh hit hl hx fun h' x he' hx' => ?_)
  obtain ⟨o, ho, hc⟩ := hx'
  refine wpAny_bind (wpAny_isInstance (T := "StopIteration") (b := true) ⟨o, ho, hc⟩ isSubtype_stop ?_)
  exact wpAny_pure (hQ _ he')
theorem ms_max_tuple {l : Addr} {xs : Array (Int × Tok)} {Q : Value → Shared → Prop} (hh : A.handled = none) (hl : s.heap.IsTuple l (intItems xs)) (hne : 0 < xs.size)
    (h : ∀ v h' tk, (intItems xs)[argBest (fun i j => decide (numAt xs i > numAt xs j)) (xs.size - 1)]? = some v → (∀ b o, s.heap.get? b = some o → h'.get? b = some o) → Q v { s with heap := h', toks := tk }) :
    wpAny (model prog w) A (call (.builtin "max") [.ref l]) Q E s := by
  have hlt : l < s.heap.objs.size := by obtain ⟨_, e, _⟩ := hl; exact Heap.lt_size e
  refine call_max_walk (wpAny_pyIter_tuple hl ?_)
  refine ⟨s.heap.objs.size, [s.heap.objs.size, l], [s.heap.objs.size], _, _, _, _, rfl, Walks.tuple (A := A.in1) hh _ l (Nat.ne_of_lt hlt) (intItems xs), ⟨⟨_, Heap.get?_push_size _ rfl, rfl, rfl⟩, hl.push _⟩, fun b hb => ?_, by simpa [intItems] using hne, CmpOf.ints_gt (numAt xs) (fun _ _ => intItems_at), fun v h' tk hP hk => ?_⟩
  · show b < (s.heap.push _).objs.size
    rw [Heap.size_push]
    rcases List.mem_cons.mp hb with rfl | hb
    · exact Nat.lt_succ_self _
    · rcases List.mem_cons.mp hb with rfl | hb
      · exact Nat.lt_succ_of_lt hlt
      · cases hb
  · refine h v h' tk (by simpa [intItems] using hP) fun b o e => hk b o (fun hm => ?_) (Heap.get?_push_of_some _ e)
    rcases List.mem_cons.mp hm with e1 | hm
    · exact absurd (e1 ▸ Heap.lt_size e) (Nat.lt_irrefl _)
    · cases hm
end
end PySem
namespace Ms
open PySem L2 PySem.Spec PyProof.Rows
/-! ### enumerate -/
def IteT (K : PySem.W.Frag) (a : Addr) : It :=
  ⟨fun i H => ∃ (xs : List V) (x : V), SqT K H a xs ∧ xs[i]? = some x, fun i H v H' => ∃ T x, v = .ref T ∧ H T = none ∧ H' = upd H T (.tup [.int (i : Nat), x]) ∧ ∀ xs, SqT K H a xs → xs[i]? = some x, fun i H => ∃ xs : List V, SqT K H a xs ∧ xs.length ≤ i⟩
theorem turn_enumT {P : Program} {w : World} {K : PySem.W.Frag} {elts : List PySem.Expr} {kk : Nat} {tpos : Pos} (a e it : Addr) :
    Turn P w K (.Tuple elts kk tpos) (IteT K a) [e, it] e (fun i h => (∃ old, IsEnum h e it ((i : Nat) : Int) old) ∧ h.IsTupleIter it a i ∧ e ≠ it) where
  mem := by simp
  obj := fun i h st b hb => by
    obtain ⟨⟨old, he⟩, ⟨o, ho, hc, hd⟩, _⟩ := st
    have e' : b = e ∨ b = it := by simpa using hb
    rcases e' with z | z
    · rw [z]; exact ⟨_, he, fun v q => nomatch q⟩
    · rw [z]; exact ⟨o, ho, fun v q => by rw [hd] at q; cases q⟩
  keep := fun i h h' st k => let ⟨⟨old, he⟩, hi, hne⟩ := st; ⟨⟨old, k e (by simp) _ he⟩, hi.at fun o q => k it (by simp) o q, hne⟩
  item := by
    intro X hP hw hK hc i pins s σ H E I hf st hg
    subst hP hw hK
    obtain ⟨⟨old, he⟩, hit, hne⟩ := st
    obtain ⟨xs, x, hq, hx⟩ := hg
    obtain ⟨its, rv, p, hz⟩ := I.tuple hq
    obtain ⟨u, hu, ru⟩ := rv.get hx
    have hel : e < s.heap.objs.size := Heap.lt_size he
    have hil : it < s.heap.objs.size := by obtain ⟨_, q, _⟩ := hit; exact Heap.lt_size q
    have hT : s.heap.IsTuple a its.toArray := p
    have ai : a ≠ it := fun z => by
      obtain ⟨o1, h1, _, n1, d1⟩ := hT
      obtain ⟨o2, h2, _, d2⟩ := hit
      rw [z, h2] at h1
      cases h1
      rw [d2] at d1
      cases d1
    have ae : e ≠ a := fun z => by
      obtain ⟨o1, h1, _, n1, d1⟩ := hT
      have h2 : s.heap.get? a = some _ := z ▸ he
      rw [h2] at h1
      cases h1
      cases d1
    have hil2 : i < its.toArray.size := by
      have := (List.getElem?_eq_some_iff.mp hu).1
      simpa using this
    refine wpAny_pyNext_enum_itemD (Draws.tuple (A := X.A.in1) (I.ok.hd hc) it a ai its.toArray) he ⟨hit, hT⟩ hil2 hne (by simp [hne, ae]) fun x2 h' tk hP ho hst' hTn hsz hk => ?_
    obtain ⟨hit', _⟩ := hst'
    have ex : x2 = u := by
      have : its.toArray[i]? = some u := by simpa using hu
      rw [this] at hP
      exact (Option.some.inj hP).symm
    subst ex
    refine ⟨_, rfl, wpAny_letOwnedTupleGo_enum (s := { s with heap := h', toks := tk + 1 }) ho fun h'' he' sb => ?_⟩
    have hT2 : h''.get? s.heap.objs.size = some { cls := .type "tuple", data := .seq #[.int i tk, x2] } := (sb.2 _ (Nat.ne_of_gt hel)).trans hTn
    have new : ObjOk X.prog X.w (upd H s.heap.objs.size (.tup [.int (i : Nat), x])) h'' s.heap.objs.size (.tup [.int (i : Nat), x]) :=
      ⟨by show 2 ≤ sizeLine; decide, [.int i tk, x2], .cons ⟨_, rfl⟩ (.cons ru .nil), ⟨_, hT2, rfl, _, rfl⟩⟩
    have I1 : Inv X pins σ (upd H s.heap.objs.size (.tup [.int (i : Nat), x])) { s with heap := h'', toks := tk + 1 } :=
      I.turnedNew (ch := [e, it]) (fun b ob hb q => (sb.2 b (fun z => hb (by simp [z]))).trans (hk b ob (fun z => hb (by simp [z])) (fun z => hb (by simp [z])) q)) hf (Nat.le_refl _) new
    refine ⟨.ref s.heap.objs.size, _, I1, rfl, ⟨_, x, rfl, I.hok.fresh (Nat.le_refl _), rfl, fun ys hy => by rw [I.tuple_inj hy hq]; exact hx⟩, ⟨⟨x2, ?_⟩, hit'.at fun o q => (sb.2 it (Ne.symm hne)).trans q, hne⟩, fun b hb => ?_⟩
    · have e1 : ((i + 1 : Nat) : Int) = (i : Int) + 1 := by omega
      rw [e1]; exact he'
    · have hb' : b < s.heap.objs.size := by
        have e' : b = e ∨ b = it := by simpa using hb
        rcases e' with z | z
        · rw [z]; exact hel
        · rw [z]; exact hil
      rw [upd_ne (Nat.ne_of_lt hb')]
      exact (hf b hb).1
  done := by
    intro X hP hw hK hc i pins s σ H E I hf st hg
    subst hP hw hK
    obtain ⟨⟨old, he⟩, hit, hne⟩ := st
    obtain ⟨xs, hq, hx⟩ := hg
    obtain ⟨its, rv, p, hz⟩ := I.tuple hq
    obtain ⟨f0, f1, f2, f3, f4, f5⟩ := hf it (by simp)
    have hl := rv.length
    exact ms_enum_endT (I.ok.hd hc) he hit (show s.heap.IsTuple a its.toArray from p) (by simp; omega) fun h' eb => ⟨rfl, I.turned (t' := s.toks) (fun b o hb q => eb b o hb q) f0 f1 f3 f4 f5⟩
  self := fun A i s Q E st h => let ⟨⟨_, he⟩, _⟩ := st; wpAny_pyIter_enum he h
def iEnumT (K : PySem.W.Frag) (ta : TA) : TI := fun σ H R => ta σ H fun vs H1 => ∃ a xs, vs = [.ref a] ∧ SqT K H1 a xs ∧ R (IteT K a) H1
theorem pi_enumT {X : Cx} {e : PySem.Expr} {ta : TA} {p pos tpos : Pos} {elts : List PySem.Expr} {kk : Nat} (hg : Gl X "enumerate") (hm : X.mg "enumerate" = none) (ha : PA X [e] ta) (hs : starEach [e] X.env = [(false, eval e X.env)] := by rfl) :
    PI X (.Tuple elts kk tpos) (.Call (.Name "enumerate" p) [e] [] pos) (iEnumT X.K ta) := by
  refine ⟨fun pins s σ H R I h => ?_⟩
  refine Call_ (ld_blt I hg hm boot_enumerate (PyProof.Rows.callWith_type1 (thn (ha.run pos pins s σ H _ I h) fun us s1 ⟨vs, H1, I1, r1, q1⟩ => ?_) hs rfl))
  obtain ⟨a, xs, ex, hq, q⟩ := q1
  subst ex
  cases r1 with
  | cons r rr =>
    cases rr
    cases r
    obtain ⟨its, rv, p', hz⟩ := I1.tuple hq
    refine ms_call_enumerate_tuple (show s1.heap.IsTuple a its.toArray from p') fun h' he hit hsz hk => wpAny_pyIter_enum he ?_
    have I2 : Inv X pins σ H1 { s1 with heap := h' } := I1.kept (t' := s1.toks) hk
    refine ⟨s1.heap.objs.size + 1, [s1.heap.objs.size + 1, s1.heap.objs.size], _, _, H1, rfl, I2, turn_enumT a (s1.heap.objs.size + 1) s1.heap.objs.size, ⟨⟨.none, he⟩, hit, Nat.succ_ne_self _⟩, fun b hb => ?_, q⟩
    have e' : b = s1.heap.objs.size + 1 ∨ b = s1.heap.objs.size := by simpa using hb
    have hle : s1.heap.objs.size ≤ b := by
      rcases e' with z | z
      · rw [z]; exact Nat.le_add_right _ _
      · rw [z]; exact Nat.le_refl _
    exact I1.fpOk hle (I1.hok.fresh hle)
def enumD : Nat → List D → List D
  | _, [] => []
  | i, d :: ds => .tup [.int (i : Nat), d] :: enumD (i + 1) ds
theorem enumD_get : ∀ {ds : List D} {k i : Nat} {d : D}, (enumD k ds)[i]? = some d → ∃ x, ds[i]? = some x ∧ d = .tup [.int ((k + i : Nat) : Int), x]
  | [], _, _, _, h => by simp [enumD] at h
  | x :: xs, k, 0, d, h => by simp [enumD] at h; exact ⟨x, rfl, by rw [← h]; rfl⟩
  | x :: xs, k, i + 1, d, h => by
    obtain ⟨y, h1, h2⟩ := enumD_get (ds := xs) (k := k + 1) (i := i) (by simpa [enumD] using h)
    exact ⟨y, by simpa using h1, by rw [h2, show k + 1 + i = k + (i + 1) by omega]⟩
theorem enumD_len : ∀ {ds : List D} {k : Nat}, (enumD k ds).length = ds.length
  | [], _ => rfl
  | x :: xs, k => by simp only [enumD, List.length_cons, enumD_len (ds := xs) (k := k + 1)]
variable [Amb]
/-- enumerate of a tuple, of a list (a changing one: it stays while it is walked) -/
def iEnumM (fs : AM) : IM := fun loc hp => (fs loc hp).bind fun ds hp1 => match ds with
  | [.tup xs] => .ok ⟨enumD 0 xs, none⟩ hp1
  | [.lst xs] => .ok ⟨enumD 0 xs, none⟩ hp1
  | _ => .bad
theorem si_enum {X : Cx} {W : WX} {e : PySem.Expr} {p pos tpos : Pos} {elts : List PySem.Expr} {kk : Nat} {fs : AM} (hm : X.mg "enumerate" = none) (ha : SA X W [e] fs) (hg : Gl X "enumerate" := by rfl) (hs : starEach [e] X.env = [(false, eval e X.env)] := by rfl) :
    SI X W (.Tuple elts kk tpos) (.Call (.Name "enumerate" p) [e] [] pos) (iEnumM fs) := (pi_or (pi_enumT hg hm ha hs) (pi_enum hg hm ha hs)).weak fun σ H R ⟨A, loc, hp, r, hl, q⟩ => by
  unfold iEnumM at q
  cases o : fs loc hp with
  | bad => rw [o] at q; exact q.elim
  | exc x h => rw [o] at q; exact .inl ⟨A, loc, hp, r, hl, by rw [o]; exact q⟩
  | ok ds hp1 =>
    rw [o] at q
    simp only [O.bind] at q
    split at q
    · rename_i xs
      refine .inl ⟨A, loc, hp, r, hl, ?_⟩
      rw [o]
      intro A1 H1 vs e1 r1 q1
      cases q1 with
      | cons qx qr =>
        cases qr
        obtain ⟨a1, vx, rfl, tx, rx⟩ := qx.tup_inv
        refine ⟨a1, vx, rfl, tx.sq, q A1 H1 _ e1 r1 ?_⟩
        intro A2 H2 hp2 e2 r2 _
        have sx := (tx.ext e2).sq
        have lx := rx.length
        refine ⟨fun i hi => ?_, fun i d x H' hd hy => ?_, fun i hi => ?_⟩
        · have hi : i < (enumD 0 xs).length := hi
          rw [enumD_len] at hi
          have h1 : i < vx.length := by omega
          exact ⟨vx, vx[i], sx, by simp [h1]⟩
        · obtain ⟨x1, hx, rfl⟩ := enumD_get hd
          obtain ⟨T, vx1, rfl, nT, rfl, kx⟩ := hy
          obtain ⟨u1, hu1, p1⟩ := (rx.ext e2).get hx
          have := kx vx sx
          rw [hu1] at this; cases this
          obtain ⟨e3, r3⟩ := r2.new (o := .tup [.int (i : Nat), vx1]) nT
          refine ⟨e3, r3, .tup (.new (r2.fresh nT)) (.cons ?_ (.cons (p1.ext e3) .nil))⟩
          rw [Nat.zero_add]
          exact .int _
        · have hi : (enumD 0 xs).length ≤ i := hi
          rw [enumD_len] at hi
          exact ⟨vx, sx, by omega⟩
    · rename_i xs
      refine .inr ⟨A, loc, hp, r, hl, ?_⟩
      rw [o]
      intro A1 H1 vs e1 r1 q1
      cases q1 with
      | cons qx qr =>
        cases qr
        obtain ⟨a1, vx, rfl, na, tx, rx⟩ := qx.lst_inv
        refine ⟨a1, vx, rfl, SqL.of tx, q A1 H1 _ e1 r1 ?_⟩
        intro A2 H2 hp2 e2 r2 _
        have sx := SqL.of (K := X.K) (e2.keep a1 _ tx na).1
        have lx := rx.length
        refine ⟨fun i hi => ?_, fun i d x H' hd hy => ?_, fun i hi => ?_⟩
        · have hi : i < (enumD 0 xs).length := hi
          rw [enumD_len] at hi
          have h1 : i < vx.length := by omega
          exact ⟨vx, vx[i], sx, by simp [h1]⟩
        · obtain ⟨x1, hx, rfl⟩ := enumD_get hd
          obtain ⟨T, vx1, rfl, nT, rfl, kx⟩ := hy
          obtain ⟨u1, hu1, p1⟩ := (rx.ext e2).get hx
          have := kx vx sx
          rw [hu1] at this; cases this
          obtain ⟨e3, r3⟩ := r2.new (o := .tup [.int (i : Nat), vx1]) nT
          refine ⟨e3, r3, .tup (.new (r2.fresh nT)) (.cons ?_ (.cons (p1.ext e3) .nil))⟩
          rw [Nat.zero_add]
          exact .int _
        · have hi : (enumD 0 xs).length ≤ i := hi
          rw [enumD_len] at hi
          exact ⟨vx, sx, by omega⟩
    · exact q.elim
/-! ### max of a tuple of ints -/
def rMaxT (K : PySem.W.Frag) : List V → Hp → VK → Prop := fun vs H Q => ∃ (a : Addr) (ns : List Int), vs = [V.ref a] ∧ SqT K H a (ns.map V.int) ∧ 0 < ns.length ∧ ∀ m, m ∈ ns → (∀ y, y ∈ ns → y ≤ m) → Q (.int m) H
theorem cr_maxT {X : Cx} (hc : X.calm = true) : CallR X (.builtin "max") (rMaxT X.K) := by
  intro pins s σ H vs us Q I r h
  obtain ⟨a, ns, rfl, hs, hne, q⟩ := h
  obtain ⟨its, rv, hl, _⟩ := I.tuple hs
  rw [Vals.ref1 r]
  have hl : s.heap.IsTuple a its.toArray := hl
  obtain ⟨xs, e⟩ := rv.ints.allInts.items
  have hn : numsOf (intItems xs).toList = ns := by rw [← e]; exact rv.ints.numsOf
  rw [nums_intItems] at hn
  subst hn
  rw [e] at hl
  have hsz : 0 < xs.size := by simpa using hne
  refine ms_max_tuple (I.ok.hd hc) hl hsz fun v h' tk hv hk => ?_
  obtain ⟨t, rfl⟩ := intItems_at hv
  obtain ⟨h1, h2⟩ := argBest_gt (numAt xs) (xs.size - 1)
  refine ⟨.int _, H, I.kept hk, ⟨_, rfl⟩, q _ ?_ fun a ha => ?_⟩
  · rw [numAt_eq]; exact PySem.getD_mem (by rw [List.length_map, Array.length_toList]; omega)
  · obtain ⟨j, hj, rfl⟩ := mem_getD ha
    rw [List.length_map, Array.length_toList] at hj
    rw [← numAt_eq]; exact h2 j (by omega)
def intsOf : List D → Option (List Int)
  | [] => some []
  | .int i :: r => (intsOf r).map (i :: ·)
  | _ => none
def maxI : Int → List Int → Int
  | m, [] => m
  | m, i :: r => maxI (if i > m then i else m) r
theorem maxI_spec : ∀ (l : List Int) (m : Int), (maxI m l = m ∨ maxI m l ∈ l) ∧ m ≤ maxI m l ∧ ∀ y ∈ l, y ≤ maxI m l
  | [], m => ⟨.inl rfl, Int.le_refl _, fun y h => by cases h⟩
  | i :: r, m => by
    obtain ⟨h1, h2, h3⟩ := maxI_spec r (if i > m then i else m)
    unfold maxI
    by_cases h : i > m
    · rw [if_pos h] at h1 h2 h3 ⊢
      refine ⟨.inr ?_, by omega, fun y hy => ?_⟩
      · rcases h1 with h1 | h1
        · rw [h1]; exact List.mem_cons_self
        · exact List.mem_cons_of_mem _ h1
      · rcases List.mem_cons.mp hy with rfl | hy
        · exact h2
        · exact h3 y hy
    · rw [if_neg h] at h1 h2 h3 ⊢
      refine ⟨h1.imp id (List.mem_cons_of_mem _), h2, fun y hy => ?_⟩
      rcases List.mem_cons.mp hy with rfl | hy
      · omega
      · exact h3 y hy
def gMaxT : Fn := gOne fun d hp => match d with
  | .tup ds => (match intsOf ds with
    | some (i :: r) => .ok (.int (maxI i r)) hp
    | _ => .bad)
  | _ => .bad
theorem intsOf_rp {K : PySem.W.Frag} {A : List Addr} {H : Hp} : ∀ {ds : List D} {vs : List V} {ns : List Int}, RpL K A H vs ds → intsOf ds = some ns → vs = ns.map V.int
  | [], vs, ns, q, h => by cases q; cases h; rfl
  | d :: ds, vs, ns, q, h => by
    cases q with
    | cons r rs =>
      cases d with
      | int i =>
        unfold intsOf at h
        cases h1 : intsOf ds with
        | none => rw [h1] at h; cases h
        | some ms =>
          rw [h1] at h
          simp only [Option.map_some, Option.some.injEq] at h
          subst h
          rw [r.int_inv, intsOf_rp rs h1]
          rfl
      | _ => cases h
theorem cg_maxT {K : PySem.W.Frag} {mg : Str → Option Value} : CallG K mg (rMaxT K) gMaxT := fun W σ A H hp vs ds Q r q g => by
  obtain ⟨x, d, rfl, rfl, q1, g1⟩ := one_of q g
  cases d with
  | tup ds =>
    simp only at g1
    obtain ⟨a, vx, rfl, tx, rx⟩ := q1.tup_inv
    split at g1
    · rename_i i r' hi
      have e := intsOf_rp rx hi
      subst e
      refine ⟨a, i :: r', rfl, tx.sq, by simp, fun m hm hy => ?_⟩
      obtain ⟨h1, h2, h3⟩ := maxI_spec r' i
      have em : m = maxI i r' := by
        have a1 : m ≤ maxI i r' := by
          rcases List.mem_cons.mp hm with rfl | hm
          · exact h2
          · exact h3 m hm
        have a2 : maxI i r' ≤ m := by
          rcases h1 with h1 | h1
          · rw [h1]; exact hy i List.mem_cons_self
          · exact hy _ (List.mem_cons_of_mem _ h1)
        omega
      subst em
      exact g1.here r (.int _)
    · exact g1.elim
  | _ => exact g1.elim
end Ms

/-! xs.extend(ys), list * int, tuple * int. -/
namespace Ms
open PySem L2 PySem.Spec PyProof.Rows
variable [Amb]
section
variable {X : Cx} {W : WX} {o e : PySem.Expr} {fo fe : EM} {pos : Pos}
/-- the other list is not a changing one -/
def eExtend (fo fe : EM) : EM := fun loc hp => (fo loc hp).bind fun x hp1 => match x with
  | .ref n => match hp1[n]? with
    | some (.lst _) => (fe loc hp1).bind fun y hp2 => match y with
      | .lst zs => (match hp2[n]? with
        | some (.lst ds) => if ds.length + zs.length ≤ big then .ok .non (hp2.set n (.lst (ds ++ zs))) else .bad
        | _ => .bad)
      | _ => .bad
    | _ => .bad
  | _ => .bad
theorem se_extend {apos : Pos} (ho : SE X W o fo) (he : SE X W e fe)
    (hbase : attributeBase o "extend" X.env (eval o X.env) = eval o X.env := by rfl)
    (hfew : ((backTo pos (starEach [e] X.env)).all (fun x => !x.1) && (backToKw pos (keywordEach [] X.env)).all (fun x => x.1.isSome)
      && decide ([e].length + ([] : List Keyword).length + (if ([] : List Keyword).isEmpty then 0 else 1) < 30)) = true := by rfl)
    (hline : (apos.endLine == pos.line) = true := by rfl) (hs : starEach [e] X.env = (false, eval e X.env) :: starEach [] X.env := by rfl) (hplain : (backTo pos (starEach [] X.env)).any (·.1) = false := by rfl) :
    SE X W (.Call (.Attribute o "extend" apos) [e] [] pos) (eExtend fo fe) :=
  (pe_bm PySem.F.plainAttrs_list PySem.F.slot_list_extend PySem.F.type_list_extend mt_extend ho (pa_cons he pa_nil hs) hbase hfew hline hs hplain).weak fun σ H Q ⟨A, loc, hp, r, hl, q⟩ => by
  refine ⟨A, loc, hp, r, hl, (Good.bind (R := Rp X.K) q).mono ?_⟩
  rintro v1 H1 ⟨A1, hp1, d1, e1, r1, q1, g1⟩
  cases d1 with
  | ref n =>
    obtain ⟨a, rfl, ha⟩ := q1.ref_inv
    simp only at g1
    cases hm : hp1[n]? with
    | none => rw [hm] at g1; exact g1.elim
    | some mo =>
      cases mo with
      | lst ds0 =>
        rw [hm] at g1
        obtain ⟨vs0, h0, _⟩ := r1.ob n _ a hm ha
        refine ⟨.inl ⟨rfl, vs0, SqL.of h0⟩, A1, loc, hp1, r1, hl.ext e1, (Good.bind (R := Rp X.K) g1).mono ?_⟩
        rintro v2 H2 ⟨A2, hp2, d2, e2, r2, q2, g2⟩
        have ha2 := e2.at ha
        cases d2 with
        | lst zs =>
          obtain ⟨b, vz, rfl, nb, hb, rz⟩ := q2.lst_inv
          simp only at g2
          cases hm2 : hp2[n]? with
          | none => rw [hm2] at g2; exact g2.elim
          | some mo2 =>
            cases mo2 with
            | lst ds =>
              rw [hm2] at g2
              simp only at g2
              by_cases hz : ds.length + zs.length ≤ big
              · rw [if_pos hz] at g2
                obtain ⟨vs, h2, rl⟩ := r2.ob n _ a hm2 ha2
                refine ⟨a, b, vs, vz, rfl, rfl, h2, hb, by rw [rl.length, rz.length]; exact big_line hz, ?_⟩
                obtain ⟨e4, r4⟩ := r2.write (o := .lst (vs ++ vz)) (mo := .lst (ds ++ zs)) ha2 fun e4 => ⟨_, upd_same, RpL.append (rl.ext e4) (rz.ext e4)⟩
                exact g2 A2 _ .non e4 r4 .non
              · rw [if_neg hz] at g2; exact g2.elim
            | ins c fs => rw [hm2] at g2; exact g2.elim
        | _ => exact g2.elim
      | ins c fs => rw [hm] at g1; exact g1.elim
  | _ => exact g1.elim
/-! ### * -/
theorem rep_rpl {K : PySem.W.Frag} {A : List Addr} {H : Hp} {vs : List V} {ds : List D} (r : RpL K A H vs ds) : ∀ n : Nat, RpL K A H (List.replicate n vs).flatten (List.replicate n ds).flatten
  | 0 => .nil
  | n + 1 => by simpa [List.replicate_succ] using r.append (rep_rpl r n)
def rRepA (K : PySem.W.Frag) : R2 := fun x y H Q => rRep x y H Q ∨ rRepT K x y H Q
theorem op_repA : OpR X (binaryOp .Mult) (rRepA X.K) := op_rep.or op_repT
/-- list * int; tuple * int (of 2 and more) -/
def gRepL : D → D → HM → O D := fun x y hp => match x, y with
  | .lst ds, .int k => if 0 ≤ k ∧ k ≤ 1000 ∧ ds.length ≤ 1000 then .ok (.lst (List.replicate k.toNat ds).flatten) hp else .bad
  | .tup ds, .int k => if 2 ≤ k ∧ k ≤ 1000 ∧ ds.length ≤ 1000 ∧ ds.isEmpty = false then .ok (.tup (List.replicate k.toNat ds).flatten) hp else .bad
  | _, _ => .bad
theorem og_repA {K : PySem.W.Frag} {mg : Str → Option Value} : OpG K mg (rRepA K) gRepL := fun W σ A H hp v1 v2 d1 d2 Q r q1 q2 g => by
  unfold gRepL at g
  split at g
  · rename_i ds k
    by_cases hz : 0 ≤ k ∧ k ≤ 1000 ∧ ds.length ≤ 1000
    · rw [if_pos hz] at g
      obtain ⟨a, vs, rfl, na, hb, rz⟩ := q1.lst_inv
      refine .inl ⟨a, k, vs, rfl, q2.int_inv, hb, by omega, by omega, ?_, new_lst r (rep_rpl rz _) g⟩
      rw [rz.length, sizeLine_eq]
      have : ds.length * k.toNat ≤ 1000 * 1000 := Nat.mul_le_mul hz.2.2 (by omega)
      omega
    · rw [if_neg hz] at g; exact g.elim
  · rename_i ds k
    by_cases hz : 2 ≤ k ∧ k ≤ 1000 ∧ ds.length ≤ 1000 ∧ ds.isEmpty = false
    · rw [if_pos hz] at g
      obtain ⟨a, vs, rfl, ta, rz⟩ := q1.tup_inv
      refine .inr ⟨a, k, vs, rfl, q2.int_inv, ta.sq, fun z => ?_, hz.1, hz.2.1, by rw [rz.length]; exact hz.2.2.1, new_tup r (rep_rpl rz _) g⟩
      subst z
      cases rz
      simp at hz
    · rw [if_neg hz] at g; exact g.elim
  · exact g.elim
end
end Ms

/-! Facts of the top for classes and exceptions; how k_is's finds are put together. -/
namespace Ms
open PySem L2 PySem.Spec PyProof.Rows NdefX
variable [Amb]
/-- the j-th statement of a class's body -/
def clsSt (st : Stmt) (j : Nat) : Stmt := match st with
  | .ClassDef _ _ _ body _ _ _ _ _ _ _ => body.getD j (.Pass ⟨0, 0, 0, 0⟩)
  | _ => .Pass ⟨0, 0, 0, 0⟩
def stParams (st : Stmt) : Arguments := defArgs st
structure MDfn (K : PySem.W.Frag) (mg : Str → Option Value) (c m qn : Str) (st : Stmt) (ps : List Str) : Prop where
  ex : ∃ C f fd, mg c = some (.ref C) ∧ Cls K C ∧ Meth K C m f ∧ Fun K m qn st f fd ∧ Binds K fd ps []
structure IDfn (K : PySem.W.Frag) (mg : Str → Option Value) (c qn : Str) (st : Stmt) (ps : List Str) : Prop where
  ex : ∃ C f fd, mg c = some (.ref C) ∧ Mk K C f ∧ Fun K "__init__" qn st f fd ∧ Binds K fd ps []
section
variable {P : Program} {w : World} {K : PySem.W.Frag} {mg : Str → Option Value} {base : Heap}
theorem ok_meth {z : Bool} {c m qn : Str} {st : Stmt} {N ps : List Str} {k n : Nat} {body : SM} (d : MDfn K mg c m qn st ps) (S : FnScope N ps (defScope st)) (hn : ps.length = n)
    (hbody : ∀ (f : Addr) (cdv : Value) (A : Around) (outer : List Env) (s : Shared) (H : Hp) (E : XK), Room k (A.deeper (PyProof.Rows.envOfC qn (defScope st) s.heap.objs.size f cdv)) →
      SSs (cxOf (CXz z P w) P w K mg base N qn (defScope st) f cdv A outer s H E) (WD E) (defBody st) body) (hj : ∀ A H σ, Amb.J A H σ := by exact fun _ _ _ => trivial) : OkM z P w K mg base (k + 1) c m n (fnOf n N.length body) := by
  obtain ⟨C, f, fd, g, cC, mC, F, b⟩ := d.ex
  exact ⟨C, f, fd, ps, g, cC, mC, b, fn_sim F S hn (hbody f) hj⟩
theorem ok_methK {z : Bool} {c m qn : Str} {st : Stmt} {N ps : List Str} {k n : Nat} {body : SM} (d : MDfn K mg c m qn st ps) (S : FnScope N ps (defScope st)) (hn : ps.length = n)
    (hbody : ∀ (f : Addr) (cdv : Value) (A : Around) (outer : List Env) (s : Shared) (H : Hp) (E : XK), Room k (A.deeper (PyProof.Rows.envOfC qn (defScope st) s.heap.objs.size f cdv)) →
      SSs (cxOf (CXz z P w) P w K mg base N qn (defScope st) f cdv A outer s H E) (WD E) (defBody st) body) (hj : ∀ A H σ, Amb.J A H σ := by exact fun _ _ _ => trivial) : OkM z P w K mg base (k + 1) c m n (fnKeep n N.length body) := by
  obtain ⟨C, f, fd, g, cC, mC, F, b⟩ := d.ex
  exact ⟨C, f, fd, ps, g, cC, mC, b, fn_keep F S hn (hbody f) hj⟩
theorem ok_initK {z : Bool} {c qn : Str} {st : Stmt} {N ps : List Str} {k n : Nat} {body : SM} (d : IDfn K mg c qn st ps) (S : FnScope N ps (defScope st)) (hn : ps.length = n)
    (hbody : ∀ (f : Addr) (cdv : Value) (A : Around) (outer : List Env) (s : Shared) (H : Hp) (E : XK), Room k (A.deeper (PyProof.Rows.envOfC qn (defScope st) s.heap.objs.size f cdv)) →
      SSs (cxOf (CXz z P w) P w K mg base N qn (defScope st) f cdv A outer s H E) (WD E) (defBody st) body) (hj : ∀ A H σ, Amb.J A H σ := by exact fun _ _ _ => trivial) : OkI z P w K mg base (k + 1) c n [] (fnKeep n N.length body) := by
  obtain ⟨C, f, fd, g, M, F, b⟩ := d.ex
  exact ⟨C, f, fd, ps, [], [], g, M, b, .nil, fun _ _ => .nil, fn_keep F S hn (hbody f) hj⟩
end
section
variable {P : Program} {K : PySem.W.Frag} {h : Heap} {mg : Str → Option Value}
theorem mdfn_mk {c m qn : Str} {st : Stmt} {ps : List Str} {C f : Addr} {oc kV dc pm cd ct : Value} {od an : Option Addr} {sl : Array (Option Value)} (X : K.In h) (G : h.Ns mainGlobals mg) (a : PySem.W.nsIn K mainGlobals c = some (some (.ref C)))
    (pg : PySem.W.plainGet K C Str.empty = true) (hd : PySem.W.hasDictIn K C = true) (po : PySem.W.plainOver K C = true) (sa : PySem.W.findIn K (.ref C) "__setattr__" = some (some (.builtin "object.__setattr__")))
    (at_ : PySem.W.findIn K (.ref C) m = some (some (.ref f))) (fn : PySem.W.isFn K (.ref f) = true) (l : K.lookup f = some ⟨oc, od, .func (PySem.W.fnOf m qn (defArgs st) (defBody st) (defScope st) .none kV dc pm an cd ct), sl⟩) (cI : PySem.W.codeIn K cd qn = true) (k : PySem.W.keepIn K (.ref f) = true)
    (hb : ∀ (kV doc pm : Value) (an : Option Addr) (cdv ct : Value) (us : List Value), us.length = ps.length → bindArgs (PySem.W.fnOf m qn (defArgs st) (defBody st) (defScope st) .none kV doc pm an cdv ct) ⟨us, []⟩ = pure (ps.zip us)) : MDfn K mg c m qn st ps :=
  ⟨C, f, _, PySem.W.mg_of X G a, ⟨pg, hd, po, sa⟩, ⟨at_, fn, k⟩, fun_mk l cI k, (fun_mk l cI k).binds hb⟩
theorem idfn_mk {c qn : Str} {st : Stmt} {ps : List Str} {C f : Addr} {oc kV dc pm cd ct : Value} {od an : Option Addr} {sl : Array (Option Value)} (X : K.In h) (G : h.Ns mainGlobals mg) (a : PySem.W.nsIn K mainGlobals c = some (some (.ref C)))
    (mk : PySem.W.makesIn K C = true) (kc : PySem.W.keepIn K (.ref C) = true)
    (at_ : PySem.W.findIn K (.ref C) "__init__" = some (some (.ref f))) (fn : PySem.W.isFn K (.ref f) = true) (l : K.lookup f = some ⟨oc, od, .func (PySem.W.fnOf "__init__" qn (defArgs st) (defBody st) (defScope st) .none kV dc pm an cd ct), sl⟩) (cI : PySem.W.codeIn K cd qn = true) (k : PySem.W.keepIn K (.ref f) = true)
    (hb : ∀ (kV doc pm : Value) (an : Option Addr) (cdv ct : Value) (us : List Value), us.length = ps.length → bindArgs (PySem.W.fnOf "__init__" qn (defArgs st) (defBody st) (defScope st) .none kV doc pm an cdv ct) ⟨us, []⟩ = pure (ps.zip us)) : IDfn K mg c qn st ps :=
  ⟨C, f, _, PySem.W.mg_of X G a, ⟨mk, at_, fn, kc⟩, fun_mk l cI k, (fun_mk l cI k).binds hb⟩
theorem fldx_mk {c f : Str} {C : Addr} (X : K.In h) (G : h.Ns mainGlobals mg) (a : PySem.W.nsIn K mainGlobals c = some (some (.ref C)))
    (pg : PySem.W.plainGet K C Str.empty = true) (hd : PySem.W.hasDictIn K C = true) (po : PySem.W.plainOver K C = true) (sa : PySem.W.findIn K (.ref C) "__setattr__" = some (some (.builtin "object.__setattr__")))
    (n : PySem.W.findIn K (.ref C) f = some none) : FldX K mg c f := ⟨C, PySem.W.mg_of X G a, ⟨pg, hd, po, sa⟩, n⟩
theorem isec_mk {x y : Str} {b : Bool} {C D : Addr} (X : K.In h) (G : h.Ns mainGlobals mg) (a : PySem.W.nsIn K mainGlobals x = some (some (.ref C))) (b' : PySem.W.nsIn K mainGlobals y = some (some (.ref D)))
    (g1 : PySem.W.findIn K (.ref C) "__getattribute__" = some (some (.builtin "BaseException.__getattribute__"))) (g2 : PySem.W.findIn K (.ref C) "__getattr__" = some none) (g3 : PySem.W.subIn K (.ref C) (.type "BaseException") = some true) (g4 : PySem.W.hasDictIn K C = true)
    (g5 : PySem.W.findIn K (.ref C) "__class__" = some (some (.builtin "object.__class__"))) (g6 : PySem.W.specialIn K (.builtin "object.__class__") "__get__" = some (some (.builtin "getset_descriptor.__get__"))) (g7 : PySem.W.takesIn K (.builtin "object.__class__") = some true)
    (g8 : PySem.W.mroIn K C (.type "object") = some true) (hk : PySem.W.kitOne K (.ref C) (.ref D) = some b) : IsEC K mg x y b :=
  ⟨C, D, PySem.W.mg_of X G a, PySem.W.mg_of X G b', ⟨g1, g2, g3, g4, g5, g6, g7, g8⟩, hk⟩
theorem fldc_mk {x f : Str} {C : Addr} (X : K.In h) (G : h.Ns mainGlobals mg) (a : PySem.W.nsIn K mainGlobals x = some (some (.ref C)))
    (g1 : PySem.W.findIn K (.ref C) "__getattribute__" = some (some (.builtin "BaseException.__getattribute__"))) (g2 : PySem.W.findIn K (.ref C) "__getattr__" = some none) (g3 : PySem.W.subIn K (.ref C) (.type "BaseException") = some true) (g4 : PySem.W.hasDictIn K C = true)
    (n : PySem.W.findIn K (.ref C) f = some none) : FldC K mg x f := ⟨C, PySem.W.mg_of X G a, ⟨g1, g2, g3, g4⟩, n⟩
theorem catch_mk {x y : Str} {C D : Addr} (X : K.In h) (G : h.Ns mainGlobals mg) (a : PySem.W.nsIn K mainGlobals x = some (some (.ref C))) (b : PySem.W.nsIn K mainGlobals y = some (some (.ref D)))
    (hx : PySem.W.exmOne K (.ref C) (.ref D) = some true) : CatchC K mg x y := ⟨C, D, PySem.W.mg_of X G a, PySem.W.mg_of X G b, hx⟩
theorem clause_mk {x : Str} {C : Addr} (X : K.In h) (G : h.Ns mainGlobals mg) (a : PySem.W.nsIn K mainGlobals x = some (some (.ref C))) (hx : PySem.W.exmOne K (.ref C) (.ref C) = some true) : Clause K mg x := ⟨C, PySem.W.mg_of X G a, hx⟩
theorem glcls_mk {x : Str} {C : Addr} (X : K.In h) (G : h.Ns mainGlobals mg) (a : PySem.W.nsIn K mainGlobals x = some (some (.ref C))) : ∃ D, mg x = some (.ref D) := ⟨C, PySem.W.mg_of X G a⟩
theorem inic_mk {x fl y qn : Str} {st : Stmt} {C f cc cd : Addr} {nm q : Str} {N : Addr} {bs bm : List Value} {sn : List Str} {sub : List Value} {ab : Bool} {col : Option Bool} {dd : Option Addr} {m0 m1 m2 m3 m5 : Option Value}
    {oc oc2 oc3 dc pm ct : Value} {od od2 od3 : Option Addr} {sl sl2 sl3 : Array (Option Value)} {vs : Array Value} {file : Str} {tf : Tok} (X : K.In h) (G : h.Ns mainGlobals mg) (a : PySem.W.nsIn K mainGlobals x = some (some (.ref C)))
    (xL : K.lookup C = some (excClassObj nm q C N bs bm true sn sub ab col dd m0 m1 m2 m3 m5 "ValueError.__new__")) (rv : PySem.HandSPX.refsVE bm = true)
    (sa : PySem.W.findIn K (.ref C) "__setattr__" = some (some (.builtin "object.__setattr__"))) (eC : PySem.W.subIn K (.ref C) (.type "BaseException") = some true) (tC : PySem.W.typeIn K (.ref C) = some (.type "type")) (kC : PySem.W.keepIn K (.ref C) = true)
    (at_ : PySem.W.findIn K (.ref C) "__init__" = some (some (.ref f))) (tI : PySem.W.typeIn K (.ref f) = some (.type "function"))
    (l : K.lookup f = some ⟨oc, od, .func (PySem.W.fnX "__init__" qn (C8.fnArgs st) (C8.fnBody st) (C8.fnScope st) [(("__class__" : Str), cc)] .none .none dc pm none (.ref cd) ct), sl⟩)
    (ce : K.lookup cc = some ⟨oc2, od2, .cell (some (.ref C)), sl2⟩) (co : K.lookup cd = some ⟨oc3, od3, .fields vs, sl3⟩) (v2 : vs[2]? = some (.str file tf)) (vf : ((P.main.file : Str) == file) = true) (cI : PySem.W.codeIn K (.ref cd) qn = true)
    (tp : (P.main.scope.names.lookup ("super" : Str)).isSome = false) (gs : PySem.W.nsIn K mainGlobals "super" = some none)
    (ss : (C8.fnScope st).names.lookup ("super" : Str) = some .globalImplicit) (sc : (C8.fnScope st).names.lookup ("__class__" : Str) = some .free)
    (op : PySem.W.nsIn K cStatics "thirdparty.any" = some none) (su : PySem.W.ks_superIn K C C "__init__" = some (some (.builtin "ValueError.__init__"))) (sv : PySem.W.subIn K (.ref C) (.type "ValueError") = some true) (mr : PySem.W.mroIn K C (.ref C) = some true)
    (nf : PySem.W.findIn K (.ref C) fl = some none)
    (B : ∀ cl c, IniT (NF.of st "__init__" qn cl c) fl y) (S : NScope ["self", y, "__class__"] ["self", y] ["__class__"] (C8.fnScope st))
    (har : ∃ ar br, ar.arg = Str.ofString "self" ∧ (C8.fnArgs st).posonlyargs ++ (C8.fnArgs st).args = [ar, br])
    (hb : ∀ (F : NF) (doc pm ctv : Value) (us : List Value), F = NF.of st "__init__" qn [(("__class__" : Str), cc)] cd → us.length = 2 → bindArgs (F.fd doc pm ctv) ⟨us, []⟩ = pure ((["self", y] : List Str).zip us))
    (hyd : (y == ("__debug__" : Str)) = false) (hyc : (y == ("__classdict__" : Str)) = false) : IniC P K mg x fl := by
  have SC : SupC P K mg C f cc (NF.of st "__init__" qn [(("__class__" : Str), cc)] cd) dc pm ct :=
    { oex := ⟨⟨nm, q, N, bs, bm, sn, sub, ab, col, dd, m0, m1, m2, m3, m5, xL, rv⟩, sa, eC, tC, kC⟩, fn := ⟨oc, od, sl, l⟩, cl := rfl, cell := ⟨oc2, od2, sl2, ce⟩, code := ⟨oc3, od3, vs, sl3, file, tf, co, v2, vf⟩, cin := cI, top := tp,
      gsup := PySem.W.mg_none_of X G gs, ssup := ss, scls := sc, opq := op, sup := su, sub := sv, mro := mr }
  refine ⟨C, f, (NF.of st "__init__" qn [(("__class__" : Str), cc)] cd).fd dc pm ct, ["self", y], PySem.W.mg_of X G a, SC.oex, at_, tI, Binds.all fun us hl => hb _ dc pm ct us rfl hl, fun w base CX => ini_ok SC (B _ _) S har nf hyd hyc trivial, fun w base CX => ini_okH SC (B _ _) S har nf hyd hyc⟩
end
/-! lists of facts -/
theorem tab_nil {P : Str → Bool → Prop} : ∀ c b, (c, b) ∈ ([] : List (Str × Bool)) → P c b := fun c b h => by cases h
theorem tab_cons {P : Str → Bool → Prop} {c0 : Str} {b0 : Bool} {l : List (Str × Bool)} (h : P c0 b0) (r : ∀ c b, (c, b) ∈ l → P c b) : ∀ c b, (c, b) ∈ (c0, b0) :: l → P c b := fun c b m => by
  rcases List.mem_cons.mp m with e | m
  · cases e; exact h
  · exact r c b m
theorem lst_nil {P : Str → Prop} : ∀ c, c ∈ ([] : List Str) → P c := fun c h => by cases h
theorem lst_cons {P : Str → Prop} {c0 : Str} {l : List Str} (h : P c0) (r : ∀ c, c ∈ l → P c) : ∀ c, c ∈ c0 :: l → P c := fun c m => by
  rcases List.mem_cons.mp m with e | m
  · cases e; exact h
  · exact r c m
end Ms

namespace Gm
open PySem L2 Ms
/-! _law_numbers -/
def b__law_numbers : SM :=
  (sSeq (sAsg (eLstT aNil) 2)
    (sSeq (sAsg (eVar 0) 3)
    (sSeq (sFor (iRg1 (aCons (eVar 1) aNil)) (tgName 4) (sIf (mAnd (mT (eBin gGe (eVar 0) (eBin gPow (eC (.int 10)) (eC (.int 18))))) (mT (eBin gGt (eVar 3) (eC (.int 0))))) (sSeq (sDrop (eAppend (eVar 2) (eBin gMod (eCall gInt (aCons (eVar 3) aNil)) (eC (.int 4099)))))
    (sAsg (eBin gDiv (eVar 3) (eC (.int 4099))) 3)) (sSeq (sAsg (eBin gMod (eCall gInt (aCons (eBin gAdd (eBin gMul (eVar 0) (eC (.int 69621))) (eBin gMul (eBin gAdd (eVar 4) (eC (.int 1))) (eC (.int 48271)))) aNil)) (eC (.int 2147483647))) 5)
    (sSeq (sAsg (eBin gMod (eCall gInt (aCons (eBin gAdd (eBin gAdd (eBin gMul (eVar 5) (eVar 5)) (eBin gMul (eVar 5) (eC (.int 16807)))) (eBin gMul (eVar 4) (eC (.int 7919)))) aNil)) (eC (.int 2147483629))) 5)
    (sSeq (sAsg (eBin gMod (eCall gInt (aCons (eBin gAdd (eBin gAdd (eBin gMul (eVar 5) (eVar 5)) (eVar 0)) (eBin gMul (eC (.int 17)) (eVar 4))) aNil)) (eC (.int 2147483587))) 5)
    (sDrop (eAppend (eVar 2) (eBin gMod (eBin gDiv (eVar 5) (eC (.int 5))) (eC (.int 4099))))))))))
    (sRet (eVar 2)))))
def m__law_numbers : Fn := fnOf 2 6 b__law_numbers
/-! _law_cell -/
def b__law_cell : SM :=
  (sSeq (sIf (mT (eBin gLt (eVar 1) (eCall gLen (aCons (eVar 0) aNil)))) (sRet (eBin gIx (eVar 0) (eVar 1))) sNext)
    (sRet (eC (.int 0))))
def m__law_cell : Fn := fnKeep 2 2 b__law_cell
/-! _law_pool -/
def b__law_pool : SM :=
  (sSeq (sAsg (eLst aNil) 1)
    (sSeq (sFor (iRg1 (aCons (eCall gMin2 (aCons (eC (.int 6)) (aCons (eCall gMax2 (aCons (eC (.int 1)) (aCons (eCall gLen (aCons (eVar 0) aNil)) aNil))) aNil))) aNil)) (tgName 2) (sAsg (eBin gAdd (eVar 1) (eCall (argc 2 m__law_numbers) (aCons (eBin gAdd (eCall (argc 2 m__law_cell) (aCons (eVar 0) (aCons (eVar 2) aNil))) (eBin gMul (eC (.int 11)) (eVar 2))) (aCons (eC (.int 24)) aNil)))) 1))
    (sRet (eLst (aCons (eVar 1) (aCons (eLstT (aCons (eC (.int 0)) aNil)) aNil))))))
def m__law_pool : Fn := fnKeep 1 3 b__law_pool
/-! _law_join -/
def b__law_join : SM :=
  (sSeq (sAsg (eC (.str "")) 2)
    (sSeq (sFor (iRg1 (aCons (eCall gLen (aCons (eVar 1) aNil)) aNil)) (tgName 3) (sSeq (sIf (mT (eBin gGt (eVar 3) (eC (.int 0)))) (sAsg (eBin gAdd (eVar 2) (eVar 0)) 2) sNext)
    (sAsg (eBin gAdd (eVar 2) (eBin gIx (eVar 1) (eVar 3))) 2)))
    (sRet (eVar 2))))
def m__law_join : Fn := fnKeep 2 4 b__law_join
/-! _law_set_text -/
def b__law_set_text : SM :=
  (sSeq (sIf (mT (eBin gEq (eCall gLen (aCons (eVar 0) aNil)) (eC (.int 0)))) (sRet (eC (.str "-"))) sNext)
    (sRet (eCall (argc 2 m__law_join) (aCons (eC (.str ",")) (aCons (eComp (iSeq (eVar 0)) (tgName 1) mYes (eCall gStrI (aCons (eVar 1) aNil)) [1]) aNil)))))
def m__law_set_text : Fn := fnKeep 1 2 b__law_set_text
/-! _law_sign -/
def b__law_sign : SM :=
  (sSeq (sIf (mT (eBin gLt (eVar 0) (eC (.int 0)))) (sRet (eC (.str "-"))) sNext)
    (sRet (eCall gStrI (aCons (eVar 0) aNil))))
def m__law_sign : Fn := fnKeep 1 1 b__law_sign
/-! _law_plant_lines -/
def b__law_plant_lines : SM :=
  (sSeq (sAsg (eLstT (aCons (eBin gAdd (eC (.str "deeds ")) (eCall gStrI (aCons (eCall gLen (aCons (eBin gIx (eBin gIx (eVar 0) (eC (.int 0))) (eC (.int 0))) aNil)) aNil))) aNil)) 1)
    (sSeq (sFor (iSeq (eBin gIx (eVar 0) (eC (.int 0)))) (tgName 2) (sDrop (eAppend (eVar 1) (eBin gAdd (eC (.str "state ")) (eCall (argc 2 m__law_join) (aCons (eC (.str " ")) (aCons (eComp (iSeq (eVar 2)) (tgName 3) mYes (eCall (argc 1 m__law_sign) (aCons (eVar 3) aNil)) [3]) aNil)))))))
    (sRet (eBin gAdd (eVar 1) (eLst (aCons (eBin gAdd (eC (.str "ends ")) (eCall (argc 1 m__law_set_text) (aCons (eBin gIx (eVar 0) (eC (.int 1))) aNil))) aNil))))))
def m__law_plant_lines : Fn := fnOf 1 4 b__law_plant_lines
/-! _law_kind -/
def b__law_kind : SM :=
  (sSeq (sIf (mTru (eIsi .bool (eVar 0))) (sRet (eC (.int 1))) sNext)
    (sSeq (sIf (mTru (eIsi .int (eVar 0))) (sRet (eC (.int 2))) sNext)
    (sSeq (sIf (mTru (eIsi .str (eVar 0))) (sRet (eC (.int 3))) sNext)
    (sSeq (sIf (mTru (eIsi .tuple (eVar 0))) (sRet (eC (.int 4))) sNext)
    (sSeq (sIf (mTru (eIsi .list (eVar 0))) (sRet (eC (.int 5))) sNext)
    (sSeq (sIf (mT (eBin gIsN (eVar 0) (eC .non))) (sRet (eC (.int 6))) sNext)
    (sRet (eC (.int 0)))))))))
def m__law_kind : Fn := fnKeep 1 1 b__law_kind
/-! _law_equal -/
def b__law_equal (rec : Fn) : SM :=
  (sSeq (sIf (mOr (mT (eBin gNe (eCall (argc 1 m__law_kind) (aCons (eVar 0) aNil)) (eCall (argc 1 m__law_kind) (aCons (eVar 1) aNil)))) (mT (eBin gEq (eCall (argc 1 m__law_kind) (aCons (eVar 0) aNil)) (eC (.int 0))))) (sRet (eC (.bl false))) sNext)
    (sSeq (sIf (mOr (mTru (eIsi .tuple (eVar 1))) (mTru (eIsi .list (eVar 1)))) (sSeq (sIf (mT (eBin gNe (eCall gLen (aCons (eVar 0) aNil)) (eCall gLen (aCons (eVar 1) aNil)))) (sRet (eC (.bl false))) sNext)
    (sSeq (sFor (iRg1 (aCons (eCall gLen (aCons (eVar 1) aNil)) aNil)) (tgName 2) (sIf (mNot (mTru (eCall (argc 2 rec) (aCons (eBin gIx (eVar 0) (eVar 2)) (aCons (eBin gIx (eVar 1) (eVar 2)) aNil))))) (sRet (eC (.bl false))) sNext))
    (sRet (eC (.bl true))))) sNext)
    (sRet (eBin gEq (eVar 0) (eVar 1)))))
def m__law_equal : Nat → Fn
  | 0 => fun _ _ => .bad
  | i + 1 => fnKeep 2 3 (b__law_equal (m__law_equal i))
/-! _law_draw -/
def b__law_draw : SM :=
  (sSeq (sAsg (eBin gIx (eBin gIx (eVar 0) (eC (.int 1))) (eC (.int 0))) 2)
    (sSeq (sSub (eBin gAdd (eVar 2) (eC (.int 1))) (eBin gIx (eVar 0) (eC (.int 1))) (eC (.int 0)))
    (sSeq (sAsg (eBin gDiv (eVar 2) (eCall gLen (aCons (eBin gIx (eVar 0) (eC (.int 0))) aNil))) 3)
    (sRet (eBin gMod (eCall gInt (aCons (eBin gAdd (eBin gAdd (eBin gIx (eBin gIx (eVar 0) (eC (.int 0))) (eBin gMod (eVar 2) (eCall gLen (aCons (eBin gIx (eVar 0) (eC (.int 0))) aNil)))) (eBin gMul (eVar 3) (eC (.int 1013)))) (eBin gMul (eBin gMul (eVar 3) (eVar 2)) (eC (.int 7)))) aNil)) (eVar 1))))))
def m__law_draw : Fn := fnKeep 2 4 b__law_draw
/-! PlantReader___init__ -/
def b_PlantReader___init__ : SM :=
  (sSeq (sFldS "PlantReader" "_deeds" (eC (.int 0)) (eVar 0))
    (sSeq (sFldS "PlantReader" "_rows" (eLstT aNil) (eVar 0))
    (sFldS "PlantReader" "plant" (eC .non) (eVar 0))))
def m_PlantReader___init__ : Fn := fnKeep 1 1 b_PlantReader___init__
/-! require -/
def b_require : SM :=
  (sIf (mNot (mTru (eVar 0))) (sRaise "BadText") sNext)
def m_require : Fn := fnKeep 1 1 b_require
/-! number_of -/
def b_number_of : SM :=
  (sSeq (sIf (mOr (mNot (mT (eChain gLe gLe (eC (.int 1)) (eCall gLen (aCons (eVar 0) aNil)) (eC (.int (9)))))) (mAnd (mT (eBin gEq (eBin gIx (eVar 0) (eC (.int 0))) (eC (.str "0")))) (mT (eBin gGt (eCall gLen (aCons (eVar 0) aNil)) (eC (.int 1)))))) (sRaise "BadText") sNext)
    (sSeq (sIf (mNot (mTru (eCall (gBls fun bs => bs.all id) (aCons (eComp (iStrM (eVar 0)) (tgName 1) mYes (eBin gInSign (eVar 1) (eC (.str "0123456789"))) [1]) aNil)))) (sRaise "BadText") sNext)
    (sRet (eCall gInt (aCons (eVar 0) aNil)))))
def m_number_of : Fn := fnKeep 1 2 b_number_of
/-! is_ascending -/
def b_is_ascending : SM :=
  (sRet (eCall (gBls fun bs => bs.all id) (aCons (eComp (iRange2 (aCons (eC (.int 1)) (aCons (eCall gLen (aCons (eVar 0) aNil)) aNil))) (tgName 1) mYes (eBin gLt (eBin gIx (eVar 0) (eBin gSub (eVar 1) (eC (.int 1)))) (eBin gIx (eVar 0) (eVar 1))) [1]) aNil)))
def m_is_ascending : Fn := fnKeep 1 2 b_is_ascending
/-! read_set -/
def b_read_set : SM :=
  (sSeq (sAsg (eIf (mT (eBin gEq (eVar 0) (eC (.str "-")))) (eTup aNil) (eCall gTuple (aCons (eComp (iSeq (eM1 gSplit (eVar 0) (eC (.str ",")))) (tgName 2) mYes (eCall (argc 1 m_number_of) (aCons (eVar 2) aNil)) [2]) aNil))) 1)
    (sSeq (sDrop (eCall (argc 1 m_require) (aCons (eCall (argc 1 m_is_ascending) (aCons (eVar 1) aNil)) aNil)))
    (sRet (eVar 1))))
def m_read_set : Fn := fnKeep 1 3 b_read_set
/-! is_integer -/
def b_is_integer : SM :=
  (sRet (eAnd (eIsi .int (eVar 0)) (eNot (eIsi .bool (eVar 0)))))
def m_is_integer : Fn := fnKeep 1 1 b_is_integer
/-! is_number -/
def b_is_number : SM :=
  (sRet (eAnd (eCall (argc 1 m_is_integer) (aCons (eVar 0) aNil)) (eChain gLe gLe (eVar 1) (eVar 0) (eVar 2))))
def m_is_number : Fn := fnKeep 3 3 b_is_number
/-! are_integers -/
def b_are_integers : SM :=
  (sRet (eAnd (eIsi .tuple (eVar 0)) (eCall (gBls fun bs => bs.all id) (aCons (eComp (iSeq (eVar 0)) (tgName 3) mYes (eCall (argc 3 m_is_number) (aCons (eVar 3) (aCons (eVar 1) (aCons (eVar 2) aNil)))) [3]) aNil))))
def m_are_integers : Fn := fnKeep 3 4 b_are_integers
/-! are_numbers -/
def b_are_numbers : SM :=
  (sRet (eAnd (eCall (argc 3 m_are_integers) (aCons (eVar 0) (aCons (eVar 1) (aCons (eVar 2) aNil)))) (eCall (argc 1 m_is_ascending) (aCons (eVar 0) aNil))))
def m_are_numbers : Fn := fnKeep 3 3 b_are_numbers
/-! is_tuple -/
def b_is_tuple : SM :=
  (sRet (eAnd (eIsi .tuple (eVar 0)) (eBin gEq (eCall gLen (aCons (eVar 0) aNil)) (eVar 1))))
def m_is_tuple : Fn := fnKeep 2 2 b_is_tuple
/-! is_between -/
def b_is_between : SM :=
  (sRet (eAnd (eIsi .tuple (eVar 0)) (eChain gLe gLe (eVar 1) (eCall gLen (aCons (eVar 0) aNil)) (eVar 2))))
def m_is_between : Fn := fnKeep 3 3 b_is_between
/-! has_states -/
def b_has_states : SM :=
  (sSeq (sIf (mOr (mNot (mTru (eCall (argc 2 m_is_tuple) (aCons (eVar 0) (aCons (eC (.int 2)) aNil))))) (mOr (mNot (mTru (eCall (argc 3 m_is_between) (aCons (eBin gIx (eVar 0) (eC (.int 0))) (aCons (eC (.int 1)) (aCons (eVar 1) aNil)))))) (mNot (mTru (eIsi .tuple (eBin gIx (eBin gIx (eVar 0) (eC (.int 0))) (eC (.int 0)))))))) (sRet (eC (.bl false))) sNext)
    (sSeq (sAsgT (eVar 0) (tgTup 2 (tgsCons (tgName 3) (tgsCons (tgName 4) tgsNil))))
    (sSeq (sAsg (eCall gLen (aCons (eBin gIx (eVar 3) (eC (.int 0))) aNil)) 2)
    (sSeq (sIf (mOr (mNot (mT (eChain gLe gLe (eC (.int 1)) (eVar 2) (eC (.int (4)))))) (mNot (mTru (eCall (gBls fun bs => bs.all id) (aCons (eComp (iSeq (eVar 3)) (tgName 5) mYes (eCall (argc 2 m_is_tuple) (aCons (eVar 5) (aCons (eVar 2) aNil))) [5]) aNil))))) (sRet (eC (.bl false))) sNext)
    (sRet (eAnd (eCall (gBls fun bs => bs.all id) (aCons (eComp (iSeq (eVar 3)) (tgName 5) mYes (eCall (argc 3 m_are_integers) (aCons (eVar 5) (aCons (eC (.int (-1))) (aCons (eBin gSub (eCall gLen (aCons (eVar 3) aNil)) (eC (.int 1))) aNil)))) [5]) aNil)) (eCall (argc 3 m_are_numbers) (aCons (eVar 4) (aCons (eC (.int 0)) (aCons (eBin gSub (eCall gLen (aCons (eVar 3) aNil)) (eC (.int 1))) aNil))))))))))
def m_has_states : Fn := fnKeep 2 6 b_has_states
/-! is_plant -/
def b_is_plant : SM :=
  (sRet (eCall (argc 2 m_has_states) (aCons (eVar 0) (aCons (eC (.int (16))) aNil))))
def m_is_plant : Fn := fnKeep 1 1 b_is_plant
/-! read_sign -/
def b_read_sign : SM :=
  (sRet (eIf (mT (eBin gEq (eVar 0) (eC (.str "-")))) (eC (.int (-1))) (eCall (argc 1 m_number_of) (aCons (eVar 0) aNil))))
def m_read_sign : Fn := fnKeep 1 1 b_read_sign
/-! PlantReader_take -/
def b_PlantReader_take : SM :=
  (sSeq (sAsgT (eM1 gPart (eVar 1) (eC (.str " "))) (tgTup 3 (tgsCons (tgName 2) (tgsCons (tgName 3) (tgsCons (tgName 4) tgsNil)))))
    (sSeq (sDrop (eCall (argc 1 m_require) (aCons (eAnd (eBin gEq (eVar 3) (eC (.str " "))) (eBin gIsN (eFld "PlantReader" "plant" (eVar 0)) (eC .non))) aNil)))
    (sIf (mT (eBin gEq (eFld "PlantReader" "_deeds" (eVar 0)) (eC (.int 0)))) (sSeq (sDrop (eCall (argc 1 m_require) (aCons (eBin gEq (eVar 2) (eC (.str "deeds"))) aNil)))
    (sSeq (sAsg (eCall (argc 1 m_number_of) (aCons (eVar 4) aNil)) 5)
    (sSeq (sDrop (eCall (argc 1 m_require) (aCons (eChain gLe gLe (eC (.int 1)) (eVar 5) (eC (.int (4)))) aNil)))
    (sFldS "PlantReader" "_deeds" (eVar 5) (eVar 0))))) (sIf (mT (eBin gEq (eVar 2) (eC (.str "state")))) (sSeq (sAsg (eCall gTuple (aCons (eComp (iSeq (eM1 gSplit (eVar 4) (eC (.str " ")))) (tgName 8) mYes (eCall (argc 1 m_read_sign) (aCons (eVar 8) aNil)) [8]) aNil)) 6)
    (sSeq (sDrop (eCall (argc 1 m_require) (aCons (eAnd (eBin gEq (eCall gLen (aCons (eVar 6) aNil)) (eFld "PlantReader" "_deeds" (eVar 0))) (eAnd (eBin gLt (eCall gMaxT (aCons (eVar 6) aNil)) (eC (.int (16)))) (eBin gLt (eCall gLen (aCons (eFld "PlantReader" "_rows" (eVar 0)) aNil)) (eC (.int (16)))))) aNil)))
    (sDrop (eAppend (eFld "PlantReader" "_rows" (eVar 0)) (eVar 6))))) (sSeq (sDrop (eCall (argc 1 m_require) (aCons (eBin gEq (eVar 2) (eC (.str "ends"))) aNil)))
    (sSeq (sAsg (eTup (aCons (eCall gTuple (aCons (eFld "PlantReader" "_rows" (eVar 0)) aNil)) (aCons (eCall (argc 1 m_read_set) (aCons (eVar 4) aNil)) aNil))) 7)
    (sSeq (sDrop (eCall (argc 1 m_require) (aCons (eCall (argc 1 m_is_plant) (aCons (eVar 7) aNil)) aNil)))
    (sFldS "PlantReader" "plant" (eVar 7) (eVar 0)))))))))
def m_PlantReader_take : Fn := fnKeep 2 9 b_PlantReader_take
/-! read_plant -/
def b_read_plant : SM :=
  (sSeq (sAsg (eNew "PlantReader" 1 [] m_PlantReader___init__ aNil) 1)
    (sSeq (sAsg (eM1 gSplit (eVar 0) (eC (.str "\n"))) 2)
    (sSeq (sFor (iEnumM (aCons (eVar 2) aNil)) (tgTup 2 (tgsCons (tgName 3) (tgsCons (tgName 4) tgsNil))) (sTryX "BadText" (sDrop (eMeth "PlantReader" "take" 2 m_PlantReader_take (eVar 1) (aCons (eVar 4) aNil))) (sRaiseI "BadLine" "line" (eVar 3))))
    (sSeq (sIf (mT (eBin gIsN (eFld "PlantReader" "plant" (eVar 1)) (eC .non))) (sRaiseI "BadLine" "line" (eCall gLen (aCons (eVar 2) aNil))) sNext)
    (sRet (eFld "PlantReader" "plant" (eVar 1)))))))
def m_read_plant : Fn := fnOf 1 5 b_read_plant
/-! _law_plant -/
def b__law_plant : SM :=
  (sSeq (sAsg (eBin gAdd (eC (.int 1)) (eCall (argc 2 m__law_draw) (aCons (eVar 0) (aCons (eVar 1) aNil)))) 3)
    (sSeq (sIf (mT (eBin gEq (eCall (argc 2 m__law_draw) (aCons (eVar 0) (aCons (eC (.int 3)) aNil))) (eC (.int 0)))) (sAsg (eVar 1) 3) sNext)
    (sSeq (sAsg (eBin gIx (eLst (aCons (eC (.int 2)) (aCons (eC (.int 3)) (aCons (eC (.int 5)) (aCons (eC (.int 9)) aNil))))) (eCall (argc 2 m__law_draw) (aCons (eVar 0) (aCons (eC (.int 4)) aNil)))) 4)
    (sSeq (sAsg (eTup aNil) 5)
    (sSeq (sFor (iRg1 (aCons (eVar 3) aNil)) (tgName 6) (sSeq (sAsg (eTup aNil) 8)
    (sSeq (sFor (iRg1 (aCons (eVar 2) aNil)) (tgName 9) (sSeq (sAsg (eCall (argc 2 m__law_draw) (aCons (eVar 0) (aCons (eVar 3) aNil))) 10)
    (sSeq (sIf (mT (eBin gEq (eCall (argc 2 m__law_draw) (aCons (eVar 0) (aCons (eVar 4) aNil))) (eC (.int 0)))) (sAsg (eNeg (eC (.int 1))) 10) sNext)
    (sAsg (eBin gAdd (eVar 8) (eTup (aCons (eVar 10) aNil))) 8))))
    (sAsg (eBin gAdd (eVar 5) (eTup (aCons (eVar 8) aNil))) 5))))
    (sSeq (sAsg (eBin gAdd (eC (.int 2)) (eCall (argc 2 m__law_draw) (aCons (eVar 0) (aCons (eC (.int 2)) aNil)))) 7)
    (sRet (eTup (aCons (eVar 5) (aCons (eCall gTuple (aCons (eComp (iRg1 (aCons (eVar 3) aNil)) (tgName 6) (mT (eBin gEq (eCall (argc 2 m__law_draw) (aCons (eVar 0) (aCons (eVar 7) aNil))) (eC (.int 0)))) (eVar 6) [6]) aNil)) aNil))))))))))
def m__law_plant : Fn := fnKeep 3 11 b__law_plant
/-! _law_wide -/
def b__law_wide : SM :=
  (sSeq (sAsg (eTup aNil) 3)
    (sSeq (sFor (iRg1 (aCons (eVar 1) aNil)) (tgName 4) (sSeq (sAsg (eTup aNil) 5)
    (sSeq (sFor (iRg1 (aCons (eVar 2) aNil)) (tgName 6) (sAsg (eBin gAdd (eVar 5) (eTup (aCons (eBin gSub (eCall (argc 2 m__law_draw) (aCons (eVar 0) (aCons (eBin gAdd (eVar 1) (eC (.int 1))) aNil))) (eC (.int 1))) aNil))) 5))
    (sAsg (eBin gAdd (eVar 3) (eTup (aCons (eVar 5) aNil))) 3))))
    (sRet (eTup (aCons (eVar 3) (aCons (eCall gTuple (aCons (eComp (iRg1 (aCons (eVar 1) aNil)) (tgName 4) (mT (eBin gEq (eCall (argc 2 m__law_draw) (aCons (eVar 0) (aCons (eC (.int 3)) aNil))) (eC (.int 0)))) (eVar 4) [4]) aNil)) aNil))))))
def m__law_wide : Fn := fnKeep 3 7 b__law_wide
/-! write_set -/
def b_write_set : SM :=
  (sRet (eIf (mT (eBin gGt (eCall gLen (aCons (eVar 0) aNil)) (eC (.int 0)))) (eM1 gJoin (eC (.str ",")) (eComp (iSeq (eVar 0)) (tgName 1) mYes (eCall gStrI (aCons (eVar 1) aNil)) [1])) (eC (.str "-"))))
def m_write_set : Fn := fnKeep 1 2 b_write_set
/-! sign_of -/
def b_sign_of : SM :=
  (sRet (eIf (mT (eBin gEq (eVar 0) (eC (.int (-1))))) (eC (.str "-")) (eCall gStrI (aCons (eVar 0) aNil))))
def m_sign_of : Fn := fnKeep 1 1 b_sign_of
/-! write_plant -/
def b_write_plant : SM :=
  (sSeq (sAsg (eLstT (aCons (eBin gAdd (eC (.str "deeds ")) (eCall gStrI (aCons (eCall gLen (aCons (eBin gIx (eBin gIx (eVar 0) (eC (.int 0))) (eC (.int 0))) aNil)) aNil))) aNil)) 1)
    (sSeq (sDrop (eExtend (eVar 1) (eComp (iSeq (eBin gIx (eVar 0) (eC (.int 0)))) (tgName 2) mYes (eBin gAdd (eC (.str "state ")) (eM1 gJoin (eC (.str " ")) (eComp (iSeq (eVar 2)) (tgName 3) mYes (eCall (argc 1 m_sign_of) (aCons (eVar 3) aNil)) [3]))) [2])))
    (sRet (eM1 gJoin (eC (.str "\n")) (eBin gAdd (eVar 1) (eLst (aCons (eBin gAdd (eC (.str "ends ")) (eCall (argc 1 m_write_set) (aCons (eBin gIx (eVar 0) (eC (.int 1))) aNil))) aNil)))))))
def m_write_plant : Fn := fnOf 1 4 b_write_plant
/-! _law_kind? -/
def mq__law_kind : Fn := fnKeep 1 1 b__law_kind
end Gm

namespace Gm
open PySem L2 Ms

/-- the body of the numbers' loop -/
def nbody : SM := (sIf (mAnd (mT (eBin gGe (eVar 0) (eBin gPow (eC (.int 10)) (eC (.int 18))))) (mT (eBin gGt (eVar 3) (eC (.int 0))))) (sSeq (sDrop (eAppend (eVar 2) (eBin gMod (eCall gInt (aCons (eVar 3) aNil)) (eC (.int 4099)))))
    (sAsg (eBin gDiv (eVar 3) (eC (.int 4099))) 3)) (sSeq (sAsg (eBin gMod (eCall gInt (aCons (eBin gAdd (eBin gMul (eVar 0) (eC (.int 69621))) (eBin gMul (eBin gAdd (eVar 4) (eC (.int 1))) (eC (.int 48271)))) aNil)) (eC (.int 2147483647))) 5)
    (sSeq (sAsg (eBin gMod (eCall gInt (aCons (eBin gAdd (eBin gAdd (eBin gMul (eVar 5) (eVar 5)) (eBin gMul (eVar 5) (eC (.int 16807)))) (eBin gMul (eVar 4) (eC (.int 7919)))) aNil)) (eC (.int 2147483629))) 5)
    (sSeq (sAsg (eBin gMod (eCall gInt (aCons (eBin gAdd (eBin gAdd (eBin gMul (eVar 5) (eVar 5)) (eVar 0)) (eBin gMul (eC (.int 17)) (eVar 4))) aNil)) (eC (.int 2147483587))) 5)
    (sDrop (eAppend (eVar 2) (eBin gMod (eBin gDiv (eVar 5) (eC (.int 5))) (eC (.int 4099)))))))))
theorem cmul_r {i j : Int} (h1 : -1000000 < j) (h2 : j < 1000000000) : CMul i j := .inr ⟨by omega, by omega⟩
theorem cmul_l {i j : Int} (h1 : -1000000 < i) (h2 : i < 10000000000) : CMul i j := .inl ⟨by omega, by omega⟩
theorem mod_in {x m : Int} (h : 0 < m) : 0 ≤ x % m ∧ x % m < m := ⟨Int.emod_nonneg _ (by omega), Int.emod_lt_of_pos _ h⟩
theorem nturn (c left k : Int) (acc : List Int) (l5 : Option D) (hl : acc.length < 1000) (hk : 0 ≤ k) (hk2 : k < 1000) : ∃ v left' l', nbody [some (.int c), some (.int 24), some (.ref 0), some (.int left), some (.int k), l5] [.lst (acc.map .int)] =
    .nx [some (.int c), some (.int 24), some (.ref 0), some (.int left'), some (.int k), l'] [.lst ((acc ++ [v]).map .int)] := by
  have hb : acc.length < 1000000 := by omega
  by_cases h : 1000000000000000000 ≤ c ∧ 0 < left
  · refine ⟨left % 4099, left / 4099, l5, ?_⟩
    simp [nbody, sIf, mAnd, mOr, mNot, mT, mTru, eBin, gGe, gI0, gPow, gI, CPow, eC, eVar, O.bind, sE, gGt, gLt, gLe, gEq, gNe, eqS, sSeq, sDrop, eAppend, eCall, argc, aCons, aNil, gInt, gOne, gMod, gDiv, CDiv, sAsg, gAdd, Ms.gSub, gMul, sRet, sNext, sSub, setD, gIx, eTup, eLst, eLstT, gLen, lstOf, seqOf, eIf, eNeg, h.1, h.2, hb]
  · obtain ⟨m1, hm1⟩ : ∃ m, (c * 69621 + (k + 1) * 48271) % 2147483647 = m := ⟨_, rfl⟩
    have b1 := mod_in (x := c * 69621 + (k + 1) * 48271) (m := 2147483647) (by decide)
    obtain ⟨m2, hm2⟩ : ∃ m, (m1 * m1 + m1 * 16807 + k * 7919) % 2147483629 = m := ⟨_, rfl⟩
    have b2 := mod_in (x := m1 * m1 + m1 * 16807 + k * 7919) (m := 2147483629) (by decide)
    obtain ⟨m3, hm3⟩ : ∃ m, (m2 * m2 + c + 17 * k) % 2147483587 = m := ⟨_, rfl⟩
    rw [hm1] at b1
    rw [hm2] at b2
    have c0 : CMul c 69621 := cmul_r (by decide) (by decide)
    have c1 : CMul (k + 1) 48271 := cmul_r (by decide) (by decide)
    have c2 : CMul m1 m1 := cmul_l (by omega) (by omega)
    have c3 : CMul m1 16807 := cmul_r (by decide) (by decide)
    have c4 : CMul k 7919 := cmul_r (by decide) (by decide)
    have c5 : CMul m2 m2 := cmul_l (by omega) (by omega)
    have c6 : CMul 17 k := cmul_l (by decide) (by decide)
    refine ⟨m3 / 5 % 4099, left, some (.int m3), ?_⟩
    have cond : mAnd (mT (eBin gGe (eVar 0) (eBin gPow (eC (.int 10)) (eC (.int 18))))) (mT (eBin gGt (eVar 3) (eC (.int 0)))) [some (.int c), some (.int 24), some (.ref 0), some (.int left), some (.int k), l5] [.lst (acc.map .int)] = .ok false [.lst (acc.map .int)] := by
      by_cases h1 : 1000000000000000000 ≤ c
      · have h2 : ¬ 0 < left := fun z => h ⟨h1, z⟩
        simp [sIf, mAnd, mOr, mNot, mT, mTru, eBin, gGe, gI0, gPow, gI, CPow, eC, eVar, O.bind, sE, gGt, gLt, gLe, gEq, gNe, eqS, sSeq, sDrop, eAppend, eCall, argc, aCons, aNil, gInt, gOne, gMod, gDiv, CDiv, sAsg, gAdd, Ms.gSub, gMul, sRet, sNext, sSub, setD, gIx, eTup, eLst, eLstT, gLen, lstOf, seqOf, eIf, eNeg, h1, h2]
      · simp [sIf, mAnd, mOr, mNot, mT, mTru, eBin, gGe, gI0, gPow, gI, CPow, eC, eVar, O.bind, sE, gGt, gLt, gLe, gEq, gNe, eqS, sSeq, sDrop, eAppend, eCall, argc, aCons, aNil, gInt, gOne, gMod, gDiv, CDiv, sAsg, gAdd, Ms.gSub, gMul, sRet, sNext, sSub, setD, gIx, eTup, eLst, eLstT, gLen, lstOf, seqOf, eIf, eNeg, h1]
    unfold nbody sIf
    rw [cond]
    simp [sIf, mAnd, mOr, mNot, mT, mTru, eBin, gGe, gI0, gPow, gI, CPow, eC, eVar, O.bind, sE, gGt, gLt, gLe, gEq, gNe, eqS, sSeq, sDrop, eAppend, eCall, argc, aCons, aNil, gInt, gOne, gMod, gDiv, CDiv, sAsg, gAdd, Ms.gSub, gMul, sRet, sNext, sSub, setD, gIx, eTup, eLst, eLstT, gLen, lstOf, seqOf, eIf, eNeg, hb, c0, c1, c2, c3, c4, c5, c6, hm1, hm2, hm3]
theorem nloop (c : Int) (it : Itm) (hi : it.src = none) : ∀ (ks : List Int) (acc : List Int) (left : Int) (l4 l5 : Option D), (∀ k ∈ ks, 0 ≤ k ∧ k < 1000) → acc.length + ks.length < 1000 → ∃ vs left' l4' l5', vs.length = ks.length ∧
    forGo it (tgName 4) nbody (ks.map .int) [some (.int c), some (.int 24), some (.ref 0), some (.int left), l4, l5] [.lst (acc.map .int)] = .nx [some (.int c), some (.int 24), some (.ref 0), some (.int left'), l4', l5'] [.lst ((acc ++ vs).map .int)]
  | [], acc, left, l4, l5, _, _ => ⟨[], left, l4, l5, rfl, by simp [forGo, Itm.chk, hi]⟩
  | k :: ks, acc, left, l4, l5, hk, hl => by
    simp only [List.length_cons] at hl
    obtain ⟨v, left', l', e⟩ := nturn c left k acc l5 (by omega) (hk k (by simp)).1 (hk k (by simp)).2
    obtain ⟨vs, left2, l42, l52, e1, e2⟩ := nloop c it hi ks (acc ++ [v]) left' (some (.int k)) l' (fun x hx => hk x (by simp [hx])) (by simp; omega)
    refine ⟨v :: vs, left2, l42, l52, by simp [e1], ?_⟩
    simp only [List.map_cons, forGo, Itm.chk, hi, tgName, List.set_cons_succ, List.set_cons_zero, if_true]
    rw [e]
    simp only
    rw [e2]
    simp
theorem numbers_ok (c : Int) : ∃ vs : List Int, vs.length = 24 ∧ m__law_numbers [.int c, .int 24] [] = .ok (.lst (vs.map .int)) [] := by
  have hr : rngD 0 24 = (([0,1,2,3,4,5,6,7,8,9,10,11,12,13,14,15,16,17,18,19,20,21,22,23] : List Int).map .int) := by rfl
  obtain ⟨vs, left', l4, l5, e1, e2⟩ := nloop c ⟨rngD 0 24, none⟩ rfl [0,1,2,3,4,5,6,7,8,9,10,11,12,13,14,15,16,17,18,19,20,21,22,23] [] c none none (by decide) (by decide)
  refine ⟨vs, e1, ?_⟩
  have okl : okL 0 (vs.map D.int) = true := by
    clear e1 e2
    induction vs with
    | nil => rfl
    | cons v vs ih => simpa [okL, okD] using ih
  have e3 : b__law_numbers [some (.int c), some (.int 24), none, none, none, none] [] = .rt (.ref 0) [.lst (vs.map .int)] := by
    show (sSeq (sAsg (eLstT aNil) 2) (sSeq (sAsg (eVar 0) 3) (sSeq (sFor (iRg1 (aCons (eVar 1) aNil)) (tgName 4) nbody) (sRet (eVar 2))))) [some (.int c), some (.int 24), none, none, none, none] [] = _
    rw [← hr] at e2
    simp [sIf, mAnd, mOr, mNot, mT, mTru, eBin, gGe, gI0, gPow, gI, CPow, eC, eVar, O.bind, sE, gGt, gLt, gLe, gEq, gNe, eqS, sSeq, sDrop, eAppend, eCall, argc, aCons, aNil, gInt, gOne, gMod, gDiv, CDiv, sAsg, gAdd, Ms.gSub, gMul, sRet, sNext, sSub, setD, gIx, eTup, eLst, eLstT, gLen, lstOf, seqOf, eIf, eNeg, sFor, iRg1, lim]
    simp only [List.map_nil] at e2
    rw [e2]
    simp
  simp [m__law_numbers, fnOf, e3, frz, okl]
end Gm

namespace Gm
open PySem hiding Loc
open L2 Ms

/-- the heap while the law runs: the pool's counter -/
abbrev HR (a : Int) (r : HM) : HM := .lst [.int a] :: r
abbrev HP (a : Int) : HM := HR a []
abbrev pl (rs : List Int) : D := .lst [.lst (rs.map .int), .ref 0]
theorem chk_none {it : Itm} (h : it.src = none) (hp : HM) : it.chk hp = true := by simp [Itm.chk, h]
theorem forI {it : Itm} {g : Tg} {body : SM} (hi : it.src = none) (ds : List D) (I : Nat → Loc → HM → Prop)
    (hs : ∀ j d, ds[j]? = some d → ∀ loc hp, I j loc hp → ∃ l1, g d loc = some l1 ∧ ∃ l h, body l1 hp = .nx l h ∧ I (j + 1) l h) :
    ∀ (r p : List D) (loc : Loc) (hp : HM), ds = p ++ r → I p.length loc hp → ∃ l h, forGo it g body r loc hp = .nx l h ∧ I ds.length l h
  | [], p, loc, hp, e, h => by
    rw [List.append_nil] at e
    subst e
    exact ⟨loc, hp, by simp [forGo, chk_none hi], h⟩
  | d :: r, p, loc, hp, e, h => by
    obtain ⟨l1, e1, l, h1, e2, h2⟩ := hs p.length d (by rw [e]; simp) loc hp h
    obtain ⟨l', h', e3, h3⟩ := forI hi ds I hs r (p ++ [d]) l h1 (by rw [e]; simp) (by simpa using h2)
    exact ⟨l', h', by simp only [forGo, chk_none hi, if_true, e1, e2]; exact e3, h3⟩
theorem compI {it : Itm} {g : Tg} {ft : TM} {fe : EM} {loc : Loc} (hi : it.src = none) (ds : List D) (I : Nat → HM → List D → Prop)
    (hs : ∀ j d, ds[j]? = some d → ∀ hp acc, I j hp acc → ∃ l, g d loc = some l ∧ ∃ b hp1, ft l hp = .ok b hp1 ∧ (b = false → I (j + 1) hp1 acc) ∧ (b = true → ∃ y hp2, fe l hp1 = .ok y hp2 ∧ acc.length < big ∧ I (j + 1) hp2 (acc ++ [y]))) :
    ∀ (r p : List D) (hp : HM) (acc : List D), ds = p ++ r → I p.length hp acc → ∃ acc' h, compGo it g ft fe loc r hp acc = .ok acc' h ∧ I ds.length h acc'
  | [], p, hp, acc, e, h => by
    rw [List.append_nil] at e
    subst e
    exact ⟨acc, hp, by simp [compGo, chk_none hi], h⟩
  | d :: r, p, hp, acc, e, h => by
    obtain ⟨l, e1, b, hp1, e2, h2, h3⟩ := hs p.length d (by rw [e]; simp) hp acc h
    cases b with
    | false =>
      obtain ⟨acc', h', e4, h4⟩ := compI hi ds I hs r (p ++ [d]) hp1 acc (by rw [e]; simp) (by simpa using h2 rfl)
      exact ⟨acc', h', by simp only [compGo, chk_none hi, if_true, e1, e2, O.bind]; simpa using e4, h4⟩
    | true =>
      obtain ⟨y, hp2, e5, hz, h5⟩ := h3 rfl
      obtain ⟨acc', h', e4, h4⟩ := compI hi ds I hs r (p ++ [d]) hp2 (acc ++ [y]) (by rw [e]; simp) (by simpa using h5)
      exact ⟨acc', h', by simp only [compGo, chk_none hi, if_true, e1, e2, O.bind, e5, hz]; exact e4, h4⟩
/-- a comprehension whose elements change nothing -/
theorem compP {it : Itm} {g : Tg} {ft : TM} {fe : EM} {loc : Loc} (hi : it.src = none) {α : Type} (dom f : α → D) {hp : HM} : ∀ (xs : List α) (acc : List D),
    (∀ x ∈ xs, ∃ l, g (dom x) loc = some l ∧ ft l hp = .ok true hp ∧ fe l hp = .ok (f x) hp) → acc.length + xs.length ≤ big → compGo it g ft fe loc (xs.map dom) hp acc = .ok (acc ++ xs.map f) hp
  | [], acc, _, _ => by simp [compGo, chk_none hi]
  | x :: xs, acc, h, hz => by
    obtain ⟨l, e1, e2, e3⟩ := h x (by simp)
    have hz1 : acc.length < big := by simp only [List.length_cons] at hz; omega
    simp only [List.map_cons, compGo, chk_none hi, if_true, e1, e2, O.bind, e3, hz1]
    rw [compP hi dom f xs (acc ++ [f x]) (fun y hy => h y (by simp [hy])) (by simp only [List.length_append, List.length_cons, List.length_nil] at hz ⊢; omega)]
    simp
/-- .. and one that raises -/
theorem compX {it : Itm} {g : Tg} {ft : TM} {fe : EM} {loc : Loc} (hi : it.src = none) {α : Type} (dom f : α → D) {hp : HM} {d : D} {ds : List D} {x : Exn} (hd : ∃ l, g d loc = some l ∧ ft l hp = .ok true hp ∧ fe l hp = .exc x hp) : ∀ (xs : List α) (acc : List D),
    (∀ x ∈ xs, ∃ l, g (dom x) loc = some l ∧ ft l hp = .ok true hp ∧ fe l hp = .ok (f x) hp) → acc.length + xs.length ≤ big → compGo it g ft fe loc (xs.map dom ++ d :: ds) hp acc = .exc x hp
  | [], acc, _, _ => by
    obtain ⟨l, e1, e2, e3⟩ := hd
    simp only [List.map_nil, List.nil_append, compGo, chk_none hi, if_true, e1, e2, O.bind, e3]
  | x :: xs, acc, h, hz => by
    obtain ⟨l, e1, e2, e3⟩ := h x (by simp)
    have hz1 : acc.length < big := by simp only [List.length_cons] at hz; omega
    simp only [List.map_cons, List.cons_append, compGo, chk_none hi, if_true, e1, e2, O.bind, e3, hz1]
    exact compX hi dom f hd xs (acc ++ [f x]) (fun y hy => h y (by simp [hy])) (by simp only [List.length_append, List.length_cons, List.length_nil] at hz ⊢; omega)
theorem rng_at {n j : Nat} {d : D} (h : (rngD 0 n)[j]? = some d) : d = .int j ∧ j < n := by
  simp only [rngD, List.getElem?_map] at h
  by_cases hj : j < n
  · rw [List.getElem?_range hj] at h
    simp only [Option.map_some, Option.some.injEq] at h
    exact ⟨by rw [← h]; simp, hj⟩
  · rw [List.getElem?_eq_none (by simpa using hj)] at h; cases h
theorem rng_len (n : Nat) : (rngD 0 n).length = n := by simp [rngD]
theorem at_ex {xs : List Int} {i : Int} (h0 : 0 ≤ i) (h1 : i < xs.length) : ∃ v, atI (xs.map D.int) i = some (.int v) := by
  obtain ⟨n, rfl⟩ := Int.eq_ofNat_of_zero_le h0
  have hn : n < xs.length := by omega
  exact ⟨xs[n], atI_nat (by simp [hn])⟩
theorem ok_ints (n : Nat) : ∀ vs : List Int, okL n (vs.map D.int) = true
  | [] => rfl
  | v :: vs => by simp [okL, okD, ok_ints n vs]

theorem fk_rt {n l : Nat} {body : SM} {ds : List D} {hp hp' : HM} {d : D} (h : body (ds.map some ++ List.replicate (l - n) none) hp = .rt d hp') : fnKeep n l body ds hp = .ok d hp' := by
  simp [fnKeep, h]
theorem fk_nx {n l : Nat} {body : SM} {ds : List D} {hp hp' : HM} {loc : Loc} (h : body (ds.map some ++ List.replicate (l - n) none) hp = .nx loc hp') : fnKeep n l body ds hp = .ok .non hp' := by
  simp [fnKeep, h]
theorem fk_exc {n l : Nat} {body : SM} {ds : List D} {hp hp' : HM} {x : Exn} {loc : Loc} (h : body (ds.map some ++ List.replicate (l - n) none) hp = .exc x loc hp') : fnKeep n l body ds hp = .exc x hp' := by
  simp [fnKeep, h]
theorem cell_ok (ns : List Int) (k : Nat) : ∃ c, m__law_cell [.scr ns, .int k] [] = .ok (.int c) [] := by
  by_cases h : k < ns.length
  · obtain ⟨v, e⟩ := at_ex (xs := ns) (i := k) (by omega) (by omega)
    refine ⟨v, ?_⟩
    simp [m__law_cell, fnKeep, b__law_cell, sIf, mAnd, mOr, mNot, mT, mTru, eBin, gGe, gI0, gPow, gI, CPow, eC, eVar, O.bind, sE, gGt, gLt, gLe, gEq, gNe, eqS, sSeq, sDrop, eAppend, eCall, argc, aCons, aNil, gInt, gOne, gMod, gDiv, CDiv, sAsg, gAdd, Ms.gSub, gMul, sRet, sNext, sSub, setD, gIx, eTup, eLst, eLstT, gLen, lstOf, seqOf, eIf, eNeg, h, e]
  · refine ⟨0, ?_⟩
    simp [m__law_cell, fnKeep, b__law_cell, sIf, mAnd, mOr, mNot, mT, mTru, eBin, gGe, gI0, gPow, gI, CPow, eC, eVar, O.bind, sE, gGt, gLt, gLe, gEq, gNe, eqS, sSeq, sDrop, eAppend, eCall, argc, aCons, aNil, gInt, gOne, gMod, gDiv, CDiv, sAsg, gAdd, Ms.gSub, gMul, sRet, sNext, sSub, setD, gIx, eTup, eLst, eLstT, gLen, lstOf, seqOf, eIf, eNeg, h]
def pbody : SM := (sAsg (eBin gAdd (eVar 1) (eCall (argc 2 m__law_numbers) (aCons (eBin gAdd (eCall (argc 2 m__law_cell) (aCons (eVar 0) (aCons (eVar 2) aNil))) (eBin gMul (eC (.int 11)) (eVar 2))) (aCons (eC (.int 24)) aNil)))) 1)
theorem pool_ok (ns : List Int) (hn : ns.length ≤ 63) : ∃ rs : List Int, 0 < rs.length ∧ rs.length ≤ 144 ∧ m__law_pool [.scr ns] [] = .ok (pl rs) (HP 0) := by
  obtain ⟨m, hm, h1, h6⟩ : ∃ m : Nat, (if (if (ns.length : Int) > 1 then (ns.length : Int) else 1) < 6 then (if (ns.length : Int) > 1 then (ns.length : Int) else 1) else 6) = (m : Int) ∧ 1 ≤ m ∧ m ≤ 6 := by
    refine ⟨(if (if (ns.length : Int) > 1 then (ns.length : Int) else 1) < 6 then (if (ns.length : Int) > 1 then (ns.length : Int) else 1) else 6).toNat, ?_, ?_, ?_⟩ <;> split <;> split <;> omega
  obtain ⟨l, h, e, rs, l2, hl, rfl, rfl⟩ := forI (it := ⟨rngD 0 m, none⟩) (g := tgName 2) (body := pbody) rfl (rngD 0 m)
    (fun j loc hp => ∃ (rs : List Int) (l2 : Option D), rs.length = 24 * j ∧ loc = [some (.scr ns), some (.lst (rs.map .int)), l2] ∧ hp = []) (by
      rintro j d hd loc hp ⟨rs, l2, hl, rfl, rfl⟩
      obtain ⟨rfl, hj⟩ := rng_at hd
      refine ⟨_, rfl, ?_⟩
      obtain ⟨c, ec⟩ := cell_ok ns j
      obtain ⟨vs, hv, ev⟩ := numbers_ok (c + 11 * j)
      have c1 : CMul 11 (j : Int) := cmul_l (by decide) (by decide)
      have hz : rs.length + vs.length ≤ 1000000 := by omega
      refine ⟨[some (.scr ns), some (.lst ((rs ++ vs).map .int)), some (.int j)], [], ?_, rs ++ vs, _, by simp; omega, rfl, rfl⟩
      simp [pbody, sIf, mAnd, mOr, mNot, mT, mTru, eBin, gGe, gI0, gPow, gI, CPow, eC, eVar, O.bind, sE, gGt, gLt, gLe, gEq, gNe, eqS, sSeq, sDrop, eAppend, eCall, argc, aCons, aNil, gInt, gOne, gMod, gDiv, CDiv, sAsg, gAdd, Ms.gSub, gMul, sRet, sNext, sSub, setD, gIx, eTup, eLst, eLstT, gLen, lstOf, seqOf, eIf, eNeg, tgName, ec, ev, c1, hz]) (rngD 0 m) [] [some (.scr ns), some (.lst []), none] [] rfl ⟨[], none, rfl, rfl, rfl⟩
  rw [rng_len] at hl
  refine ⟨rs, by omega, by omega, ?_⟩
  have hm2 : -1000000 ≤ (m : Int) ∧ (m : Int) ≤ 1000000 := by omega
  show fnKeep 1 3 (sSeq (sAsg (eLst aNil) 1) (sSeq (sFor (iRg1 (aCons (eCall gMin2 (aCons (eC (.int 6)) (aCons (eCall gMax2 (aCons (eC (.int 1)) (aCons (eCall gLen (aCons (eVar 0) aNil)) aNil))) aNil))) aNil)) (tgName 2) pbody) (sRet (eLst (aCons (eVar 1) (aCons (eLstT (aCons (eC (.int 0)) aNil)) aNil)))))) _ _ = _
  simp [fnKeep, sIf, mAnd, mOr, mNot, mT, mTru, eBin, gGe, gI0, gPow, gI, CPow, eC, eVar, O.bind, sE, gGt, gLt, gLe, gEq, gNe, eqS, sSeq, sDrop, eAppend, eCall, argc, aCons, aNil, gInt, gOne, gMod, gDiv, CDiv, sAsg, gAdd, Ms.gSub, gMul, sRet, sNext, sSub, setD, gIx, eTup, eLst, eLstT, gLen, lstOf, seqOf, eIf, eNeg, sFor, iRg1, gMin2, gMax2, hm, hm2, lim]
  rw [e]
  simp [big]
theorem draw_okR {rs : List Int} (hr : 0 < rs.length) (hr2 : rs.length ≤ 144) {a : Int} (h0 : 0 ≤ a) (h1 : a < 1000000) {many : Int} (hm : 0 < many) : ∃ v, 0 ≤ v ∧ v < many ∧ ∀ r, m__law_draw [pl rs, .int many] (HR a r) = .ok (.int v) (HR (a + 1) r) := by
  have hr' : (0 : Int) < rs.length := by omega
  have b1 := mod_in (x := a) hr'
  obtain ⟨v, ev⟩ := at_ex (xs := rs) b1.1 b1.2
  have q0 : 0 ≤ a / (rs.length : Int) := Int.ediv_nonneg h0 (by omega)
  have q1 : a / (rs.length : Int) ≤ a := Int.ediv_le_self _ h0
  have c1 : CMul (a / (rs.length : Int)) 1013 := cmul_r (by decide) (by decide)
  have c2 : CMul (a / (rs.length : Int)) a := cmul_l (by omega) (by omega)
  have c3 : CMul (a / (rs.length : Int) * a) 7 := cmul_r (by decide) (by decide)
  have i0 : atI [D.lst (rs.map .int), D.ref 0] 0 = some (D.lst (rs.map .int)) := rfl
  have i1 : atI [D.lst (rs.map .int), D.ref 0] 1 = some (D.ref 0) := rfl
  have i2 : atI [D.int a] 0 = some (D.int a) := rfl
  have b2 := mod_in (x := v + a / (rs.length : Int) * 1013 + a / (rs.length : Int) * a * 7) hm
  have cd : CDiv a (rs.length : Int) := ⟨hr', by omega⟩
  refine ⟨_, b2.1, b2.2, fun r => ?_⟩
  have st : setD (HR a r) (.ref 0) (.int 0) (.int (a + 1)) = some (HR (a + 1) r) := rfl
  refine fk_rt (d := .int ((v + a / (rs.length : Int) * 1013 + a / (rs.length : Int) * a * 7) % many)) ?_
  simp only [b__law_draw, sSeq, sSub, sAsg, sRet, sE, eBin, eVar, eC, O.bind, gIx, pl, lstOf, seqOf, List.map_cons, List.map_nil, List.cons_append, List.nil_append, List.replicate, List.getElem?_cons_zero, List.getElem?_cons_succ, i0, i1, i2, gAdd, st, List.set_cons_zero, List.set_cons_succ,
    gDiv, gMod, gMul, gI, gI0, eCall, argc, aCons, aNil, gInt, gOne, gLen, List.length_cons, List.length_nil, List.length_map, if_true, hr', ev, c1, c2, c3, cd, hm, Nat.sub_self, reduceCtorEq]
theorem draw_ok {rs : List Int} (hr : 0 < rs.length) (hr2 : rs.length ≤ 144) {a : Int} (h0 : 0 ≤ a) (h1 : a < 1000000) {many : Int} (hm : 0 < many) : ∃ v, 0 ≤ v ∧ v < many ∧ m__law_draw [pl rs, .int many] (HP a) = .ok (.int v) (HP (a + 1)) := by
  obtain ⟨v, e1, e2, e3⟩ := draw_okR hr hr2 h0 h1 hm
  exact ⟨v, e1, e2, e3 []⟩
end Gm

namespace Gm
open PySem hiding Loc
open L2 Ms
/-- at most k draws on -/
abbrev Up (k a b : Int) : Prop := a ≤ b ∧ b ≤ a + k
theorem comp_val {i : IM} {g : Tg} {ft : TM} {fe : EM} {own : List Nat} {loc : Loc} {hp h1 h : HM} {it : Itm} {acc : List D} (e1 : i loc hp = .ok it h1) (e2 : compGo it g ft fe (wipeL loc own) it.ds h1 [] = .ok acc h) (hz : acc.length ≤ 1000000) :
    eComp i g ft fe own loc hp = .ok (.lst acc) h := by simp [eComp, e1, e2, O.bind, big, hz]
theorem rg_val {e : EM} {loc : Loc} {hp : HM} {n : Nat} (hn : n ≤ 1000) (h : e loc hp = .ok (.int n) hp) : iRg1 (aCons e aNil) loc hp = .ok ⟨rngD 0 n, none⟩ hp := by
  have h2 : -1000000 ≤ (n : Int) ∧ (n : Int) ≤ 1000000 := by omega
  simp [iRg1, aCons, aNil, O.bind, h, lim, h2]
theorem draw_at {rs : List Int} (hr : 0 < rs.length) (hr2 : rs.length ≤ 144) (r : HM) {a : Int} (h0 : 0 ≤ a) (h1 : a < 1000000) {many : Int} (hm : 0 < many) : ∃ v, 0 ≤ v ∧ v < many ∧ m__law_draw [pl rs, .int many] (HR a r) = .ok (.int v) (HR (a + 1) r) := by
  obtain ⟨v, e1, e2, e3⟩ := draw_okR hr hr2 h0 h1 hm
  exact ⟨v, e1, e2, e3 r⟩
abbrev tD (e : List Int) : D := .tup (e.map .int)
abbrev rwsD (rows : List (List Int)) : D := .tup (rows.map tD)
abbrev plD (rows : List (List Int)) (es : List Int) : D := .tup [rwsD rows, tD es]
structure Plant (k n : Nat) (rows : List (List Int)) (es : List Int) : Prop where
  len : rows.length = n
  row : ∀ r ∈ rows, r.length = k ∧ ∀ v ∈ r, -1 ≤ v ∧ v < n
  up : es.Pairwise (· < ·)
  lo : ∀ v ∈ es, 0 ≤ v ∧ v < n
  el : es.length ≤ n
/-- a comprehension that draws for each state -/
theorem ends_ok {rs : List Int} (hr : 0 < rs.length) (hr2 : rs.length ≤ 144) {r : HM} {ft : TM} {v : Nat} {loc : Loc} (hv : v < loc.length) {a : Int} (h0 : 0 ≤ a) (h1 : a < 100000) {n : Nat} (hn : n ≤ 100)
    (hf : ∀ j : Nat, j < n → ∀ b : Int, 0 ≤ b → b < 200000 → ∃ q : Bool, ft ((wipeL loc [v]).set v (some (.int j))) (HR b r) = .ok q (HR (b + 1) r)) {e : EM} (he : e loc (HR a r) = .ok (.int n) (HR a r)) :
    ∃ (vs : List Int) (b : Int), Up 100 a b ∧ vs.Pairwise (· < ·) ∧ (∀ v ∈ vs, 0 ≤ v ∧ v < n) ∧ vs.length ≤ n ∧ eComp (iRg1 (aCons e aNil)) (tgName v) ft (eVar v) [v] loc (HR a r) = .ok (.lst (vs.map .int)) (HR b r) := by
  have hw : (wipeL loc [v]).length = loc.length := by simp [wipeL]
  obtain ⟨acc, h, e, vs, b, ha, hb1, hb2, hb3, hb4, hb5, hb6⟩ := compI (it := ⟨rngD 0 n, none⟩) (g := tgName v) (ft := ft) (fe := eVar v) (loc := wipeL loc [v]) rfl (rngD 0 n)
    (fun j hp acc => ∃ (vs : List Int) (b : Int), acc = vs.map .int ∧ hp = HR b r ∧ a ≤ b ∧ b ≤ a + j ∧ vs.Pairwise (· < ·) ∧ (∀ v ∈ vs, 0 ≤ v ∧ v < j) ∧ vs.length ≤ j) (by
      rintro j d hd hp acc ⟨vs, b, rfl, rfl, q1, q2, q3, q4, q5⟩
      obtain ⟨rfl, hj⟩ := rng_at hd
      obtain ⟨q, eq⟩ := hf j hj b (by omega) (by omega)
      refine ⟨_, rfl, q, HR (b + 1) r, eq, fun _ => ⟨vs, b + 1, rfl, rfl, by omega, by omega, q3, fun x hx => ?_, by omega⟩, fun _ => ⟨.int j, HR (b + 1) r, ?_, ?_, vs ++ [(j : Int)], b + 1, by simp, rfl, by omega, by omega, ?_, fun x hx => ?_, by simp; omega⟩⟩
      · have := q4 x hx; omega
      · simp only [eVar]; rw [List.getElem?_set_self (by omega)]
      · simp [big]; omega
      · rw [List.pairwise_append]
        refine ⟨q3, by simp, fun x hx y hy => ?_⟩
        have := q4 x hx
        simp at hy; omega
      · rw [List.mem_append] at hx
        rcases hx with hx | hx
        · have := q4 x hx; omega
        · simp at hx; omega)
    (rngD 0 n) [] (HR a r) [] rfl ⟨[], a, rfl, rfl, by omega, by simp, by simp, by simp, by simp⟩
  subst ha hb1
  rw [rng_len] at hb3 hb5 hb6
  exact ⟨vs, b, ⟨hb2, by omega⟩, hb4, hb5, hb6, comp_val (rg_val (n := n) (by omega) he) e (by simp; omega)⟩
/-! _law_plant -/
def prB : SM := (sSeq (sAsg (eCall (argc 2 m__law_draw) (aCons (eVar 0) (aCons (eVar 3) aNil))) 10)
    (sSeq (sIf (mT (eBin gEq (eCall (argc 2 m__law_draw) (aCons (eVar 0) (aCons (eVar 4) aNil))) (eC (.int 0)))) (sAsg (eNeg (eC (.int 1))) 10) sNext)
    (sAsg (eBin gAdd (eVar 8) (eTup (aCons (eVar 10) aNil))) 8)))
def poB : SM := (sSeq (sAsg (eTup aNil) 8) (sSeq (sFor (iRg1 (aCons (eVar 2) aNil)) (tgName 9) prB) (sAsg (eBin gAdd (eVar 5) (eTup (aCons (eVar 8) aNil))) 5)))
section
variable {rs : List Int} (hr : 0 < rs.length) (hr2 : rs.length ≤ 144) {r : HM} {a : Int} (h0 : 0 ≤ a)
include hr hr2 h0
theorem prow_ok (h1 : a < 10000) {k n : Nat} (hk : k ≤ 4) (hn1 : 1 ≤ n) (hn : n ≤ 16) {x1 x5 : D} {x6 x7 x9 x10 : Option D} {bare : Int} (hb : 0 < bare) :
    ∃ (row : List Int) (b : Int) (y9 y10 : Option D), Up 8 a b ∧ row.length = k ∧ (∀ v ∈ row, -1 ≤ v ∧ v < n) ∧ forGo ⟨rngD 0 k, none⟩ (tgName 9) prB (rngD 0 k) [some (pl rs), some x1, some (.int k), some (.int n), some (.int bare), some x5, x6, x7, some (.tup []), x9, x10] (HR a r) =
      .nx [some (pl rs), some x1, some (.int k), some (.int n), some (.int bare), some x5, x6, x7, some (tD row), y9, y10] (HR b r) := by
  obtain ⟨l, h, e, row, b, y9, y10, q1, q2, q3, q4, q5, q6⟩ := forI (it := ⟨rngD 0 k, none⟩) (g := tgName 9) (body := prB) rfl (rngD 0 k)
    (fun j loc hp => ∃ (row : List Int) (b : Int) (y9 y10 : Option D), loc = [some (pl rs), some x1, some (.int k), some (.int n), some (.int bare), some x5, x6, x7, some (tD row), y9, y10] ∧ hp = HR b r ∧ a ≤ b ∧ b ≤ a + 2 * j ∧ row.length = j ∧ (∀ v ∈ row, -1 ≤ v ∧ v < n)) (by
      rintro j d hd loc hp ⟨row, b, y9, y10, rfl, rfl, q1, q2, q3, q4⟩
      obtain ⟨rfl, hj⟩ := rng_at hd
      obtain ⟨v, v0, v1, ev⟩ := draw_at hr hr2 r (a := b) (by omega) (by omega) (many := n) (by omega)
      obtain ⟨u, u0, u1, eu⟩ := draw_at hr hr2 r (a := b + 1) (by omega) (by omega) (many := bare) hb
      have hz : row.length + 1 ≤ 1000000 := by omega
      by_cases hu : u = 0
      · refine ⟨_, rfl, _, HR (b + 1 + 1) r, ?_, row ++ [-1], b + 1 + 1, some (.int j), some (.int (-1)), rfl, rfl, by omega, by omega, by simp [q3], fun x hx => ?_⟩
        · simp [prB, sIf, mAnd, mOr, mNot, mT, mTru, eBin, gGe, gI0, gPow, gI, CPow, eC, eVar, O.bind, sE, gGt, gLt, gLe, gEq, gNe, eqS, sSeq, sDrop, eAppend, eCall, argc, aCons, aNil, gInt, gOne, gMod, gDiv, CDiv, sAsg, gAdd, Ms.gSub, gMul, sRet, sNext, sSub, setD, gIx, eTup, eLst, eLstT, gLen, lstOf, seqOf, eIf, eNeg, ev, eu, hu, big, hz]
        · rw [List.mem_append] at hx
          rcases hx with hx | hx
          · exact q4 x hx
          · simp at hx; omega
      · refine ⟨_, rfl, _, HR (b + 1 + 1) r, ?_, row ++ [v], b + 1 + 1, some (.int j), some (.int v), rfl, rfl, by omega, by omega, by simp [q3], fun x hx => ?_⟩
        · simp [prB, sIf, mAnd, mOr, mNot, mT, mTru, eBin, gGe, gI0, gPow, gI, CPow, eC, eVar, O.bind, sE, gGt, gLt, gLe, gEq, gNe, eqS, sSeq, sDrop, eAppend, eCall, argc, aCons, aNil, gInt, gOne, gMod, gDiv, CDiv, sAsg, gAdd, Ms.gSub, gMul, sRet, sNext, sSub, setD, gIx, eTup, eLst, eLstT, gLen, lstOf, seqOf, eIf, eNeg, ev, eu, hu, big, hz]
        · rw [List.mem_append] at hx
          rcases hx with hx | hx
          · exact q4 x hx
          · simp at hx; omega) (rngD 0 k) [] _ (HR a r) rfl ⟨[], a, x9, x10, rfl, rfl, by omega, by simp, by simp, by simp⟩
  subst q1 q2
  rw [rng_len] at q4 q5
  exact ⟨row, b, y9, y10, ⟨q3, by omega⟩, q5, q6, e⟩
theorem prows_ok (h1 : a < 1000) {k n : Nat} (hk : k ≤ 4) (hn1 : 1 ≤ n) (hn : n ≤ 16) {x1 : D} {x7 : Option D} {bare : Int} (hb : 0 < bare) :
    ∃ (rows : List (List Int)) (b : Int) (y6 y8 y9 y10 : Option D), Up 128 a b ∧ rows.length = n ∧ (∀ r ∈ rows, r.length = k ∧ ∀ v ∈ r, -1 ≤ v ∧ v < n) ∧ forGo ⟨rngD 0 n, none⟩ (tgName 6) poB (rngD 0 n) [some (pl rs), some x1, some (.int k), some (.int n), some (.int bare), some (.tup []), none, x7, none, none, none] (HR a r) =
      .nx [some (pl rs), some x1, some (.int k), some (.int n), some (.int bare), some (rwsD rows), y6, x7, y8, y9, y10] (HR b r) := by
  obtain ⟨l, h, e, rows, b, y6, y8, y9, y10, q1, q2, q3, q4, q5, q6⟩ := forI (it := ⟨rngD 0 n, none⟩) (g := tgName 6) (body := poB) rfl (rngD 0 n)
    (fun j loc hp => ∃ (rows : List (List Int)) (b : Int) (y6 y8 y9 y10 : Option D), loc = [some (pl rs), some x1, some (.int k), some (.int n), some (.int bare), some (rwsD rows), y6, x7, y8, y9, y10] ∧ hp = HR b r ∧ a ≤ b ∧ b ≤ a + 8 * j ∧ rows.length = j ∧ (∀ r ∈ rows, r.length = k ∧ ∀ v ∈ r, -1 ≤ v ∧ v < n)) (by
      rintro j d hd loc hp ⟨rows, b, y6, y8, y9, y10, rfl, rfl, q1, q2, q3, q4⟩
      obtain ⟨rfl, hj⟩ := rng_at hd
      obtain ⟨row, b1, z9, z10, u, g1, g2, g3⟩ := prow_ok hr hr2 (r := r) (a := b) (by omega) (by omega) hk hn1 hn (x1 := x1) (x5 := rwsD rows) (x6 := some (.int j)) (x7 := x7) (x9 := y9) (x10 := y10) hb
      have hz : rows.length + 1 ≤ 1000000 := by omega
      have hk2 : -1000000 ≤ (k : Int) ∧ (k : Int) ≤ 1000000 := by omega
      refine ⟨_, rfl, _, HR b1 r, ?_, rows ++ [row], b1, some (.int j), some (tD row), z9, z10, rfl, rfl, by omega, by omega, by simp [q3], fun x hx => ?_⟩
      · simp [poB, sIf, mAnd, mOr, mNot, mT, mTru, eBin, gGe, gI0, gPow, gI, CPow, eC, eVar, O.bind, sE, gGt, gLt, gLe, gEq, gNe, eqS, sSeq, sDrop, eAppend, eCall, argc, aCons, aNil, gInt, gOne, gMod, gDiv, CDiv, sAsg, gAdd, Ms.gSub, gMul, sRet, sNext, sSub, setD, gIx, eTup, eLst, eLstT, gLen, lstOf, seqOf, eIf, eNeg, sFor, iRg1, hk2, lim, big]
        simp only [rwsD, tD] at g3
        rw [g3]
        simp [big, hz]
      · rw [List.mem_append] at hx
        rcases hx with hx | hx
        · exact q4 x hx
        · simp at hx; subst hx; exact ⟨g1, g2⟩) (rngD 0 n) [] _ (HR a r) rfl ⟨[], a, none, none, none, none, rfl, rfl, by omega, by simp, by simp, by simp⟩
  subst q1 q2
  rw [rng_len] at q4 q5
  exact ⟨rows, b, y6, y8, y9, y10, ⟨q3, by omega⟩, q5, q6, e⟩
def peC : EM := (eComp (iRg1 (aCons (eVar 3) aNil)) (tgName 6) (mT (eBin gEq (eCall (argc 2 m__law_draw) (aCons (eVar 0) (aCons (eVar 7) aNil))) (eC (.int 0)))) (eVar 6) [6])
def plB : SM := (sSeq (sAsg (eBin gAdd (eC (.int 1)) (eCall (argc 2 m__law_draw) (aCons (eVar 0) (aCons (eVar 1) aNil)))) 3)
    (sSeq (sIf (mT (eBin gEq (eCall (argc 2 m__law_draw) (aCons (eVar 0) (aCons (eC (.int 3)) aNil))) (eC (.int 0)))) (sAsg (eVar 1) 3) sNext)
    (sSeq (sAsg (eBin gIx (eLst (aCons (eC (.int 2)) (aCons (eC (.int 3)) (aCons (eC (.int 5)) (aCons (eC (.int 9)) aNil))))) (eCall (argc 2 m__law_draw) (aCons (eVar 0) (aCons (eC (.int 4)) aNil)))) 4)
    (sSeq (sAsg (eTup aNil) 5)
    (sSeq (sFor (iRg1 (aCons (eVar 3) aNil)) (tgName 6) poB)
    (sSeq (sAsg (eBin gAdd (eC (.int 2)) (eCall (argc 2 m__law_draw) (aCons (eVar 0) (aCons (eC (.int 2)) aNil)))) 7)
    (sRet (eTup (aCons (eVar 5) (aCons (eCall gTuple (aCons peC aNil)) aNil))))))))))
theorem plant_ok (h1 : a < 800) {k m : Nat} (hk : k ≤ 4) (hm1 : 1 ≤ m) (hm : m ≤ 16) :
    ∃ (n : Nat) (rows : List (List Int)) (es : List Int) (b : Int), 1 ≤ n ∧ n ≤ m ∧ Up 240 a b ∧ Plant k n rows es ∧ m__law_plant [pl rs, .int m, .int k] (HR a r) = .ok (plD rows es) (HR b r) := by
  obtain ⟨v, v0, v1, ev⟩ := draw_at hr hr2 r (a := a) (by omega) (by omega) (many := m) (by omega)
  obtain ⟨u, u0, u1, eu⟩ := draw_at hr hr2 r (a := a + 1) (by omega) (by omega) (many := 3) (by omega)
  obtain ⟨w, w0, w1, ew⟩ := draw_at hr hr2 r (a := a + 1 + 1) (by omega) (by omega) (many := 4) (by omega)
  obtain ⟨bare, hb, eb⟩ : ∃ bare : Int, 0 < bare ∧ atI [D.int 2, .int 3, .int 5, .int 9] w = some (.int bare) := by
    have : w = 0 ∨ w = 1 ∨ w = 2 ∨ w = 3 := by omega
    rcases this with rfl | rfl | rfl | rfl
    · exact ⟨2, by omega, rfl⟩
    · exact ⟨3, by omega, rfl⟩
    · exact ⟨5, by omega, rfl⟩
    · exact ⟨9, by omega, rfl⟩
  obtain ⟨n, n1, n2, en⟩ : ∃ n : Nat, 1 ≤ n ∧ n ≤ m ∧ (n : Int) = if u = 0 then (m : Int) else 1 + v := by
    by_cases hu : u = 0
    · exact ⟨m, hm1, Nat.le_refl _, by simp [hu]⟩
    · obtain ⟨n, hn⟩ := Int.eq_ofNat_of_zero_le (a := 1 + v) (by omega)
      exact ⟨n, by omega, by omega, by simp [hu, hn]⟩
  obtain ⟨rows, b, y6, y8, y9, y10, ub, g1, g2, g3⟩ := prows_ok hr hr2 (r := r) (a := a + 1 + 1 + 1) (by omega) (by omega) (k := k) (n := n) hk n1 (by omega) (x1 := .int m) (x7 := none) hb
  obtain ⟨x, x0, x1, ex⟩ := draw_at hr hr2 r (a := b) (by omega) (by omega) (many := 2) (by omega)
  obtain ⟨es, b2, ub2, k1, k2, k3, ee⟩ := ends_ok hr hr2 (r := r) (v := 6) (loc := [some (pl rs), some (.int m), some (.int k), some (.int n), some (.int bare), some (rwsD rows), y6, some (.int (2 + x)), y8, y9, y10]) (by simp) (a := b + 1) (by omega) (by omega) (n := n) (by omega)
    (ft := mT (eBin gEq (eCall (argc 2 m__law_draw) (aCons (eVar 0) (aCons (eVar 7) aNil))) (eC (.int 0)))) (e := eVar 3) (by
      intro j hj c c0 c1
      obtain ⟨q, q0, q1, eq⟩ := draw_at hr hr2 r (a := c) (by omega) (by omega) (many := 2 + x) (by omega)
      exact ⟨decide (q = 0), by simp [wipeL, sIf, mAnd, mOr, mNot, mT, mTru, eBin, gGe, gI0, gPow, gI, CPow, eC, eVar, O.bind, sE, gGt, gLt, gLe, gEq, gNe, eqS, sSeq, sDrop, eAppend, eCall, argc, aCons, aNil, gInt, gOne, gMod, gDiv, CDiv, sAsg, gAdd, Ms.gSub, gMul, sRet, sNext, sSub, setD, gIx, eTup, eLst, eLstT, gLen, lstOf, seqOf, eIf, eNeg, eq]⟩) rfl
  refine ⟨n, rows, es, b2, n1, n2, ⟨by omega, by omega⟩, ⟨g1, g2, k1, k2, k3⟩, fk_rt (l := 11) (body := plB) ?_⟩
  have hk2 : -1000000 ≤ (n : Int) ∧ (n : Int) ≤ 1000000 := by omega
  show plB [some (pl rs), some (.int m), some (.int k), none, none, none, none, none, none, none, none] (HR a r) = _
  have e2 : peC [some (pl rs), some (.int m), some (.int k), some (.int n), some (.int bare), some (rwsD rows), y6, some (.int (2 + x)), y8, y9, y10] (HR (b + 1) r) = .ok (.lst (es.map .int)) (HR b2 r) := ee
  by_cases hu : u = 0
  · rw [if_pos hu] at en
    have en2 : n = m := by omega
    subst en2
    simp [plB, sIf, mAnd, mOr, mNot, mT, mTru, eBin, gGe, gI0, gPow, gI, CPow, eC, eVar, O.bind, sE, gGt, gLt, gLe, gEq, gNe, eqS, sSeq, sDrop, eAppend, eCall, argc, aCons, aNil, gInt, gOne, gMod, gDiv, CDiv, sAsg, gAdd, Ms.gSub, gMul, sRet, sNext, sSub, setD, gIx, eTup, eLst, eLstT, gLen, lstOf, seqOf, eIf, eNeg, sFor, iRg1, ev, eu, ew, hu, eb, hk2, lim, big]
    rw [g3]
    simp [ex, e2, gTuple, big, gOne, seqOf, lstOf]
  · rw [if_neg hu] at en
    have en2 := en.symm
    simp [plB, sIf, mAnd, mOr, mNot, mT, mTru, eBin, gGe, gI0, gPow, gI, CPow, eC, eVar, O.bind, sE, gGt, gLt, gLe, gEq, gNe, eqS, sSeq, sDrop, eAppend, eCall, argc, aCons, aNil, gInt, gOne, gMod, gDiv, CDiv, sAsg, gAdd, Ms.gSub, gMul, sRet, sNext, sSub, setD, gIx, eTup, eLst, eLstT, gLen, lstOf, seqOf, eIf, eNeg, en2, sFor, iRg1, ev, eu, ew, hu, eb, hk2, lim, big]
    rw [g3]
    simp [ex, e2, gTuple, big, gOne, seqOf, lstOf]
/-! _law_wide -/
def wrB : SM := (sAsg (eBin gAdd (eVar 5) (eTup (aCons (eBin gSub (eCall (argc 2 m__law_draw) (aCons (eVar 0) (aCons (eBin gAdd (eVar 1) (eC (.int 1))) aNil))) (eC (.int 1))) aNil))) 5)
def woB : SM := (sSeq (sAsg (eTup aNil) 5) (sSeq (sFor (iRg1 (aCons (eVar 2) aNil)) (tgName 6) wrB) (sAsg (eBin gAdd (eVar 3) (eTup (aCons (eVar 5) aNil))) 3)))
def weC : EM := (eComp (iRg1 (aCons (eVar 1) aNil)) (tgName 4) (mT (eBin gEq (eCall (argc 2 m__law_draw) (aCons (eVar 0) (aCons (eC (.int 3)) aNil))) (eC (.int 0)))) (eVar 4) [4])
def wB : SM := (sSeq (sAsg (eTup aNil) 3) (sSeq (sFor (iRg1 (aCons (eVar 1) aNil)) (tgName 4) woB) (sRet (eTup (aCons (eVar 3) (aCons (eCall gTuple (aCons weC aNil)) aNil))))))
theorem wrow_ok (h1 : a < 10000) {k n : Nat} (hk : k ≤ 4) (hn : n ≤ 16) {x3 : D} {x4 x6 : Option D} :
    ∃ (row : List Int) (b : Int) (y6 : Option D), Up 4 a b ∧ row.length = k ∧ (∀ v ∈ row, -1 ≤ v ∧ v < n) ∧ forGo ⟨rngD 0 k, none⟩ (tgName 6) wrB (rngD 0 k) [some (pl rs), some (.int n), some (.int k), some x3, x4, some (.tup []), x6] (HR a r) =
      .nx [some (pl rs), some (.int n), some (.int k), some x3, x4, some (tD row), y6] (HR b r) := by
  obtain ⟨l, h, e, row, b, y6, q1, q2, q3, q4, q5, q6⟩ := forI (it := ⟨rngD 0 k, none⟩) (g := tgName 6) (body := wrB) rfl (rngD 0 k)
    (fun j loc hp => ∃ (row : List Int) (b : Int) (y6 : Option D), loc = [some (pl rs), some (.int n), some (.int k), some x3, x4, some (tD row), y6] ∧ hp = HR b r ∧ a ≤ b ∧ b ≤ a + j ∧ row.length = j ∧ (∀ v ∈ row, -1 ≤ v ∧ v < n)) (by
      rintro j d hd loc hp ⟨row, b, y6, rfl, rfl, q1, q2, q3, q4⟩
      obtain ⟨rfl, hj⟩ := rng_at hd
      obtain ⟨v, v0, v1, ev⟩ := draw_at hr hr2 r (a := b) (by omega) (by omega) (many := n + 1) (by omega)
      have hz : row.length + 1 ≤ 1000000 := by omega
      refine ⟨_, rfl, _, HR (b + 1) r, ?_, row ++ [v - 1], b + 1, some (.int j), rfl, rfl, by omega, by omega, by simp [q3], fun x hx => ?_⟩
      · simp [wrB, sIf, mAnd, mOr, mNot, mT, mTru, eBin, gGe, gI0, gPow, gI, CPow, eC, eVar, O.bind, sE, gGt, gLt, gLe, gEq, gNe, eqS, sSeq, sDrop, eAppend, eCall, argc, aCons, aNil, gInt, gOne, gMod, gDiv, CDiv, sAsg, gAdd, Ms.gSub, gMul, sRet, sNext, sSub, setD, gIx, eTup, eLst, eLstT, gLen, lstOf, seqOf, eIf, eNeg, ev, big, hz]
      · rw [List.mem_append] at hx
        rcases hx with hx | hx
        · exact q4 x hx
        · simp at hx; omega) (rngD 0 k) [] _ (HR a r) rfl ⟨[], a, x6, rfl, rfl, by omega, by simp, by simp, by simp⟩
  subst q1 q2
  rw [rng_len] at q4 q5
  exact ⟨row, b, y6, ⟨q3, by omega⟩, q5, q6, e⟩
theorem wrows_ok (h1 : a < 1000) {k n : Nat} (hk : k ≤ 4) (hn : n ≤ 16) :
    ∃ (rows : List (List Int)) (b : Int) (y4 y5 y6 : Option D), Up 64 a b ∧ rows.length = n ∧ (∀ r ∈ rows, r.length = k ∧ ∀ v ∈ r, -1 ≤ v ∧ v < n) ∧ forGo ⟨rngD 0 n, none⟩ (tgName 4) woB (rngD 0 n) [some (pl rs), some (.int n), some (.int k), some (.tup []), none, none, none] (HR a r) =
      .nx [some (pl rs), some (.int n), some (.int k), some (rwsD rows), y4, y5, y6] (HR b r) := by
  obtain ⟨l, h, e, rows, b, y4, y5, y6, q1, q2, q3, q4, q5, q6⟩ := forI (it := ⟨rngD 0 n, none⟩) (g := tgName 4) (body := woB) rfl (rngD 0 n)
    (fun j loc hp => ∃ (rows : List (List Int)) (b : Int) (y4 y5 y6 : Option D), loc = [some (pl rs), some (.int n), some (.int k), some (rwsD rows), y4, y5, y6] ∧ hp = HR b r ∧ a ≤ b ∧ b ≤ a + 4 * j ∧ rows.length = j ∧ (∀ r ∈ rows, r.length = k ∧ ∀ v ∈ r, -1 ≤ v ∧ v < n)) (by
      rintro j d hd loc hp ⟨rows, b, y4, y5, y6, rfl, rfl, q1, q2, q3, q4⟩
      obtain ⟨rfl, hj⟩ := rng_at hd
      obtain ⟨row, b1, z6, u, g1, g2, g3⟩ := wrow_ok hr hr2 (r := r) (a := b) (by omega) (by omega) hk hn (x3 := rwsD rows) (x4 := some (.int j)) (x6 := y6)
      have hz : rows.length + 1 ≤ 1000000 := by omega
      have hk2 : -1000000 ≤ (k : Int) ∧ (k : Int) ≤ 1000000 := by omega
      refine ⟨_, rfl, _, HR b1 r, ?_, rows ++ [row], b1, some (.int j), some (tD row), z6, rfl, rfl, by omega, by omega, by simp [q3], fun x hx => ?_⟩
      · simp [woB, sIf, mAnd, mOr, mNot, mT, mTru, eBin, gGe, gI0, gPow, gI, CPow, eC, eVar, O.bind, sE, gGt, gLt, gLe, gEq, gNe, eqS, sSeq, sDrop, eAppend, eCall, argc, aCons, aNil, gInt, gOne, gMod, gDiv, CDiv, sAsg, gAdd, Ms.gSub, gMul, sRet, sNext, sSub, setD, gIx, eTup, eLst, eLstT, gLen, lstOf, seqOf, eIf, eNeg, sFor, iRg1, hk2, lim, big]
        simp only [rwsD, tD] at g3
        rw [g3]
        simp [big, hz]
      · rw [List.mem_append] at hx
        rcases hx with hx | hx
        · exact q4 x hx
        · simp at hx; subst hx; exact ⟨g1, g2⟩) (rngD 0 n) [] _ (HR a r) rfl ⟨[], a, none, none, none, rfl, rfl, by omega, by simp, by simp, by simp⟩
  subst q1 q2
  rw [rng_len] at q4 q5
  exact ⟨rows, b, y4, y5, y6, ⟨q3, by omega⟩, q5, q6, e⟩
theorem wide_ok (h1 : a < 800) {k n : Nat} (hk : k ≤ 4) (hn : n ≤ 16) :
    ∃ (rows : List (List Int)) (es : List Int) (b : Int), Up 240 a b ∧ Plant k n rows es ∧ m__law_wide [pl rs, .int n, .int k] (HR a r) = .ok (plD rows es) (HR b r) := by
  obtain ⟨rows, b, y4, y5, y6, ub, g1, g2, g3⟩ := wrows_ok hr hr2 (r := r) (a := a) (by omega) (by omega) (k := k) (n := n) hk hn
  obtain ⟨es, b2, ub2, k1, k2, k3, ee⟩ := ends_ok hr hr2 (r := r) (v := 4) (loc := [some (pl rs), some (.int n), some (.int k), some (rwsD rows), y4, y5, y6]) (by simp) (a := b) (by omega) (by omega) (n := n) (by omega)
    (ft := mT (eBin gEq (eCall (argc 2 m__law_draw) (aCons (eVar 0) (aCons (eC (.int 3)) aNil))) (eC (.int 0)))) (e := eVar 1) (by
      intro j hj c c0 c1
      obtain ⟨q, q0, q1, eq⟩ := draw_at hr hr2 r (a := c) (by omega) (by omega) (many := 3) (by omega)
      exact ⟨decide (q = 0), by simp [wipeL, sIf, mAnd, mOr, mNot, mT, mTru, eBin, gGe, gI0, gPow, gI, CPow, eC, eVar, O.bind, sE, gGt, gLt, gLe, gEq, gNe, eqS, sSeq, sDrop, eAppend, eCall, argc, aCons, aNil, gInt, gOne, gMod, gDiv, CDiv, sAsg, gAdd, Ms.gSub, gMul, sRet, sNext, sSub, setD, gIx, eTup, eLst, eLstT, gLen, lstOf, seqOf, eIf, eNeg, eq]⟩) rfl
  refine ⟨rows, es, b2, ⟨by omega, by omega⟩, ⟨g1, g2, k1, k2, k3⟩, fk_rt (l := 7) (body := wB) ?_⟩
  have hk2 : -1000000 ≤ (n : Int) ∧ (n : Int) ≤ 1000000 := by omega
  show wB [some (pl rs), some (.int n), some (.int k), none, none, none, none] (HR a r) = _
  have e2 : weC [some (pl rs), some (.int n), some (.int k), some (rwsD rows), y4, y5, y6] (HR b r) = .ok (.lst (es.map .int)) (HR b2 r) := ee
  simp [wB, sIf, mAnd, mOr, mNot, mT, mTru, eBin, gGe, gI0, gPow, gI, CPow, eC, eVar, O.bind, sE, gGt, gLt, gLe, gEq, gNe, eqS, sSeq, sDrop, eAppend, eCall, argc, aCons, aNil, gInt, gOne, gMod, gDiv, CDiv, sAsg, gAdd, Ms.gSub, gMul, sRet, sNext, sSub, setD, gIx, eTup, eLst, eLstT, gLen, lstOf, seqOf, eIf, eNeg, sFor, iRg1, hk2, lim, big]
  rw [g3]
  simp [e2, gTuple, big, gOne, seqOf, lstOf]
end
end Gm

namespace Gm
open PySem hiding Loc
open L2 Ms
/-- the text of a number -/
def tx (i : Int) : Str := Str.ofString (toString i)
abbrev Sm (i : Int) : Prop := (0 ≤ i ∧ i ≤ 16) ∨ i = 999999999
theorem Sm.cases {i : Int} (h : Sm i) : i = 0 ∨ i = 1 ∨ i = 2 ∨ i = 3 ∨ i = 4 ∨ i = 5 ∨ i = 6 ∨ i = 7 ∨ i = 8 ∨ i = 9 ∨ i = 10 ∨ i = 11 ∨ i = 12 ∨ i = 13 ∨ i = 14 ∨ i = 15 ∨ i = 16 ∨ i = 999999999 := by unfold Sm at h; omega
theorem str_ok {i : Int} (h : Sm i) (hp : HM) : gStrI [.int i] hp = .ok (.str (tx i)) hp := by
  have : i.natAbs.log2 < 1920 := by rcases h.cases with rfl | rfl | rfl | rfl | rfl | rfl | rfl | rfl | rfl | rfl | rfl | rfl | rfl | rfl | rfl | rfl | rfl | rfl <;> decide +kernel
  simp [gStrI, gOne, this, tx]
theorem num_ok {i : Int} (h : Sm i) (hp : HM) : m_number_of [.str (tx i)] hp = .ok (.int i) hp := by
  rcases h.cases with rfl | rfl | rfl | rfl | rfl | rfl | rfl | rfl | rfl | rfl | rfl | rfl | rfl | rfl | rfl | rfl | rfl | rfl <;> kernel_rfl
theorem tx_len {i : Int} (h : Sm i) : (tx i).length ≤ 9 := by
  rcases h.cases with rfl | rfl | rfl | rfl | rfl | rfl | rfl | rfl | rfl | rfl | rfl | rfl | rfl | rfl | rfl | rfl | rfl | rfl <;> decide +kernel
theorem tx_free {i : Int} (h : Sm i) {s : Nat} (hs : s < 48 ∨ 57 < s) : s ∉ TL.tl (tx i) := by
  obtain ⟨n, rfl⟩ := Int.eq_ofNat_of_zero_le (a := i) (by rcases h with h | h <;> omega)
  show s ∉ TL.tl (Str.ofString (toString ((n : Nat) : Int)))
  rw [TL.tl_num]
  exact TL.numL_free hs
/-- the text of a sign -/
def sg (i : Int) : Str := if i = -1 then "-" else tx i
abbrev Sg (i : Int) : Prop := i = -1 ∨ Sm i
theorem sg_neg : sg (-1) = "-" := rfl
theorem sg_num {i : Int} (h : Sm i) : sg i = tx i := by
  unfold sg
  rw [if_neg (by rcases h with h | h <;> omega)]
theorem sg_len {i : Int} (h : Sg i) : (sg i).length ≤ 9 := by
  rcases h with rfl | h
  · decide +kernel
  · rw [sg_num h]; exact tx_len h
theorem sg_free {i : Int} (h : Sg i) {s : Nat} (hs : s < 45 ∨ 57 < s) : s ∉ TL.tl (sg i) := by
  rcases h with rfl | h
  · rw [sg_neg]
    show s ∉ [45]
    simp; omega
  · rw [sg_num h]; exact tx_free h (by omega)
theorem rsign_ok {i : Int} (h : Sg i) (hp : HM) : m_read_sign [.str (sg i)] hp = .ok (.int i) hp := by
  rcases h with rfl | h
  · kernel_rfl
  · rcases h.cases with rfl | rfl | rfl | rfl | rfl | rfl | rfl | rfl | rfl | rfl | rfl | rfl | rfl | rfl | rfl | rfl | rfl | rfl <;> kernel_rfl
theorem wsign_ok {i : Int} (h : Sg i) (hp : HM) : m_sign_of [.int i] hp = .ok (.str (sg i)) hp := by
  rcases h with rfl | h
  · kernel_rfl
  · rcases h.cases with rfl | rfl | rfl | rfl | rfl | rfl | rfl | rfl | rfl | rfl | rfl | rfl | rfl | rfl | rfl | rfl | rfl | rfl <;> kernel_rfl
theorem lsign_ok {i : Int} (h : Sg i) (hp : HM) : m__law_sign [.int i] hp = .ok (.str (sg i)) hp := by
  rcases h with rfl | h
  · kernel_rfl
  · rcases h.cases with rfl | rfl | rfl | rfl | rfl | rfl | rfl | rfl | rfl | rfl | rfl | rfl | rfl | rfl | rfl | rfl | rfl | rfl <;> kernel_rfl
theorem req_ok (hp : HM) : m_require [.bl true] hp = .ok .non hp := by kernel_rfl
abbrev bt : Exn := ⟨"BadText", none⟩
theorem req_bad (hp : HM) : m_require [.bl false] hp = .exc bt hp := by kernel_rfl
/-! joins -/
theorem len_app (x y : Str) : (x ++ y).length = x.length + y.length := by
  rw [TL.len_tl (x ++ y), TL.tl_append, List.length_append, ← TL.len_tl, ← TL.len_tl]
theorem joinL_snoc (S : List Nat) (w : List Nat) : ∀ l : List (List Nat), l ≠ [] → TL.joinL S (l ++ [w]) = TL.joinL S l ++ (S ++ w)
  | [], h => absurd rfl h
  | [p], _ => rfl
  | p :: q :: r, _ => by
    show p ++ (S ++ TL.joinL S (q :: r ++ [w])) = (p ++ (S ++ TL.joinL S (q :: r))) ++ (S ++ w)
    rw [joinL_snoc S w (q :: r) (by simp)]
    simp
theorem joinL_len (S : List Nat) (L : Nat) : ∀ l : List (List Nat), (∀ w ∈ l, w.length ≤ L) → (TL.joinL S l).length ≤ l.length * (L + S.length)
  | [], _ => by simp [TL.joinL]
  | [p], h => by
    have := h p (by simp)
    simp [TL.joinL]; omega
  | p :: q :: r, h => by
    have h1 := h p (by simp)
    have h2 := joinL_len S L (q :: r) (fun w hw => h w (by simp at hw ⊢; right; exact hw))
    show (p ++ (S ++ TL.joinL S (q :: r))).length ≤ (q :: r).length.succ * (L + S.length)
    rw [Nat.succ_mul, List.length_append, List.length_append]
    omega
theorem joinL_free {S : List Nat} {s : Nat} (hS : s ∉ S) : ∀ l : List (List Nat), (∀ w ∈ l, s ∉ w) → s ∉ TL.joinL S l
  | [], _ => by simp [TL.joinL]
  | [p], h => h p (by simp)
  | p :: q :: r, h => by
    have h2 := joinL_free hS (q :: r) (fun w hw => h w (by simp at hw ⊢; right; exact hw))
    show s ∉ p ++ (S ++ TL.joinL S (q :: r))
    simp only [List.mem_append, not_or]
    exact ⟨h p (by simp), hS, h2⟩
theorem tl_j (y : Str) (ws : List Str) : TL.tl (Txt.join y ws) = TL.joinL (TL.tl y) (ws.map TL.tl) := by rw [TL.join_eq, TL.tl_join]
theorem join_len {y : Str} {ws : List Str} {L : Nat} (h : ∀ w ∈ ws, w.length ≤ L) : (Txt.join y ws).length ≤ ws.length * (L + y.length) := by
  rw [TL.len_tl, tl_j, TL.len_tl y]
  have := joinL_len (TL.tl y) L (ws.map TL.tl) (by
    intro w hw
    obtain ⟨z, hz, rfl⟩ := List.mem_map.mp hw
    rw [← TL.len_tl]; exact h z hz)
  simpa using this
theorem join_free {y : Str} {s : Nat} (hy : s ∉ TL.tl y) {ws : List Str} (h : ∀ w ∈ ws, s ∉ TL.tl w) : s ∉ TL.tl (Txt.join y ws) := by
  rw [tl_j]
  refine joinL_free hy _ fun w hw => ?_
  obtain ⟨z, hz, rfl⟩ := List.mem_map.mp hw
  exact h z hz
theorem join_snoc (y w : Str) {l : List Str} (h : l ≠ []) : Txt.join y (l ++ [w]) = Txt.join y l ++ y ++ w := by
  refine TL.ext_tl ?_
  rw [TL.tl_append, TL.tl_append, tl_j, tl_j, List.map_append, List.map_cons, List.map_nil, joinL_snoc _ _ _ (by simpa using h), List.append_assoc]
theorem join_one (y w : Str) : Txt.join y [w] = w := by
  refine TL.ext_tl ?_
  rw [tl_j]; rfl
/-- few and short -/
structure Few (ws : List Str) : Prop where
  few : ws.length ≤ 40
  sh : ∀ w ∈ ws, w.length ≤ 1000
theorem Few.len {ws : List Str} (h : Few ws) {y : Str} (hy : y.length ≤ 1) : (Txt.join y ws).length ≤ 41000 := by
  have h1 := join_len (y := y) h.sh
  have h2 : ws.length * (1000 + y.length) ≤ 40 * 1001 := Nat.mul_le_mul h.few (by omega)
  omega
theorem Few.take {ws : List Str} (h : Few ws) (j : Nat) : Few (ws.take j) := ⟨by rw [List.length_take]; have := h.few; omega, fun w hw => h.sh w (List.mem_of_mem_take hw)⟩
def jB : SM := (sSeq (sIf (mT (eBin gGt (eVar 3) (eC (.int 0)))) (sAsg (eBin gAdd (eVar 2) (eVar 0)) 2) sNext) (sAsg (eBin gAdd (eVar 2) (eBin gIx (eVar 1) (eVar 3))) 2))
theorem ljoin_ok {y : Str} (hy : y.length ≤ 1) {ws : List Str} (hw : Few ws) (hp : HM) : m__law_join [.str y, .lst (ws.map .str)] hp = .ok (.str (Txt.join y ws)) hp := by
  obtain ⟨l, h, e, l3, q1, q2⟩ := forI (it := ⟨rngD 0 ws.length, none⟩) (g := tgName 3) (body := jB) rfl (rngD 0 ws.length)
    (fun j loc hp' => ∃ l3, loc = [some (.str y), some (.lst (ws.map .str)), some (.str (Txt.join y (ws.take j))), l3] ∧ hp' = hp) (by
      rintro j d hd loc hp ⟨l3, rfl, rfl⟩
      obtain ⟨rfl, hj⟩ := rng_at hd
      refine ⟨_, rfl, _, hp, ?_, some (.int j), rfl, rfl⟩
      have ex : atI (ws.map D.str) (j : Int) = some (.str ws[j]) := atI_nat (by simp [hj])
      have l1 := (hw.take j).len hy
      have l2 := hw.sh ws[j] (by simp)
      rw [List.take_succ_eq_append_getElem hj]
      by_cases h0 : 0 < j
      · have h0' : (0 : Int) < j := by omega
        have hz1 : (Txt.join y (ws.take j)).length + y.length ≤ 1000000 := by omega
        have hz2 : (Txt.join y (ws.take j) ++ y).length + ws[j].length ≤ 1000000 := by
          rw [len_app]; omega
        rw [join_snoc y ws[j] (by intro hh; have := congrArg List.length hh; rw [List.length_take, List.length_nil] at this; omega)]
        simp only [jB, sSeq, sIf, sAsg, sE, mT, eBin, eVar, eC, O.bind, gGt, gI0, gIx, gAdd, seqOf, lstOf, List.set_cons_succ, List.set_cons_zero, List.getElem?_cons_succ, List.getElem?_cons_zero, h0', decide_true, if_true, big, hz1, hz2, ex]
      · have hj0 : j = 0 := by omega
        subst hj0
        rw [List.take_zero, List.nil_append, join_one]
        have je : Txt.join y [] = "" := rfl
        have hz2 : ("" : Str).length + ws[0].length ≤ 1000000 := by
          have : ("" : Str).length = 0 := rfl
          omega
        have ea : ("" : Str) ++ ws[0] = ws[0] := TL.ext_tl (by rw [TL.tl_append]; rfl)
        have ex0 : atI (ws.map D.str) 0 = some (.str ws[0]) := ex
        simp [jB, sIf, mAnd, mOr, mNot, mT, mTru, eBin, gGe, gI0, gPow, gI, CPow, eC, eVar, O.bind, sE, gGt, gLt, gLe, gEq, gNe, eqS, sSeq, sDrop, eAppend, eCall, argc, aCons, aNil, gInt, gOne, gMod, gDiv, CDiv, sAsg, gAdd, Ms.gSub, gMul, sRet, sNext, sSub, setD, gIx, eTup, eLst, eLstT, gLen, lstOf, seqOf, eIf, eNeg, je, hz2, ex0, big, ea])
    (rngD 0 ws.length) [] [some (.str y), some (.lst (ws.map .str)), some (.str ""), none] hp rfl ⟨none, rfl, rfl⟩
  subst q1 q2
  refine fk_rt (l := 4) (body := (sSeq (sAsg (eC (.str "")) 2) (sSeq (sFor (iRg1 (aCons (eCall gLen (aCons (eVar 1) aNil)) aNil)) (tgName 3) jB) (sRet (eVar 2))))) (d := .str (Txt.join y ws)) ?_
  have hk : -1000000 ≤ (ws.length : Int) ∧ (ws.length : Int) ≤ 1000000 := by have := hw.few; omega
  simp [sIf, mAnd, mOr, mNot, mT, mTru, eBin, gGe, gI0, gPow, gI, CPow, eC, eVar, O.bind, sE, gGt, gLt, gLe, gEq, gNe, eqS, sSeq, sDrop, eAppend, eCall, argc, aCons, aNil, gInt, gOne, gMod, gDiv, CDiv, sAsg, gAdd, Ms.gSub, gMul, sRet, sNext, sSub, setD, gIx, eTup, eLst, eLstT, gLen, lstOf, seqOf, eIf, eNeg, sFor, iRg1, hk, lim, big]
  rw [e, rng_len]
  simp
theorem strsOf_map : ∀ ws : List Str, strsOf (ws.map D.str) = some ws
  | [] => rfl
  | w :: ws => by simp [strsOf, strsOf_map ws]
theorem sum_le : ∀ {ws : List Str}, (∀ w ∈ ws, w.length ≤ 1000) → (ws.map (·.length)).sum ≤ ws.length * 1000
  | [], _ => by simp
  | w :: ws, h => by
    have h1 := h w (by simp)
    have h2 := sum_le (ws := ws) (fun x hx => h x (by simp [hx]))
    simp only [List.map_cons, List.sum_cons, List.length_cons, Nat.succ_mul]
    omega
theorem join_ok {y : Str} (hy : y.length ≤ 1) {ws : List Str} (hw : Few ws) (hp : HM) : gJoin (.str y) (.lst (ws.map .str)) hp = .ok (.str (Txt.join y ws)) hp := by
  have h1 := sum_le hw.sh
  have h2 : ws.length * y.length ≤ 40 * 1 := Nat.mul_le_mul hw.few hy
  have h3 := hw.few
  have h4 : (ws.map (·.length)).sum + ws.length * y.length ≤ 1000000 := by omega
  simp only [gJoin, seqOf, lstOf, strsOf_map, big, h4, if_true]
/-! comprehensions over tuples and lists -/
theorem seq_tup {f : EM} {loc : Loc} {hp : HM} {ds : List D} (h : f loc hp = .ok (.tup ds) hp) : iSeq f loc hp = .ok ⟨ds, none⟩ hp := by simp [iSeq, h, O.bind]
theorem seq_lst {f : EM} {loc : Loc} {hp : HM} {ds : List D} (h : f loc hp = .ok (.lst ds) hp) : iSeq f loc hp = .ok ⟨ds, none⟩ hp := by simp [iSeq, h, O.bind]
theorem comp_ok {i : IM} {g : Tg} {fe : EM} {own : List Nat} {loc : Loc} {hp : HM} {α : Type} {xs : List α} {dom out : α → D} (hi : i loc hp = .ok ⟨xs.map dom, none⟩ hp)
    (he : ∀ x ∈ xs, ∃ l, g (dom x) (wipeL loc own) = some l ∧ fe l hp = .ok (out x) hp) (hz : xs.length ≤ 1000) : eComp i g mYes fe own loc hp = .ok (.lst (xs.map out)) hp :=
  comp_val hi (by
    have := compP (it := ⟨xs.map dom, none⟩) (g := g) (ft := mYes) (fe := fe) (loc := wipeL loc own) rfl dom out (hp := hp) xs [] (fun x hx => by
      obtain ⟨l, e1, e2⟩ := he x hx
      exact ⟨l, e1, rfl, e2⟩) (by simp [big]; omega)
    simpa using this) (by simp; omega)
theorem comp_exc {i : IM} {g : Tg} {fe : EM} {own : List Nat} {loc : Loc} {hp : HM} {α : Type} {xs : List α} {dom out : α → D} {d : D} {ds : List D} {x : Exn} (hi : i loc hp = .ok ⟨xs.map dom ++ d :: ds, none⟩ hp)
    (hd : ∃ l, g d (wipeL loc own) = some l ∧ fe l hp = .exc x hp)
    (he : ∀ x ∈ xs, ∃ l, g (dom x) (wipeL loc own) = some l ∧ fe l hp = .ok (out x) hp) (hz : xs.length ≤ 1000) : eComp i g mYes fe own loc hp = .exc x hp := by
  have := compX (it := ⟨xs.map dom ++ d :: ds, none⟩) (g := g) (ft := mYes) (fe := fe) (loc := wipeL loc own) rfl dom out (hp := hp) (d := d) (ds := ds) (x := x) (by
      obtain ⟨l, e1, e2⟩ := hd
      exact ⟨l, e1, rfl, e2⟩) xs [] (fun x hx => by
      obtain ⟨l, e1, e2⟩ := he x hx
      exact ⟨l, e1, rfl, e2⟩) (by simp [big]; omega)
  simp only [eComp, hi, O.bind, this]
end Gm

namespace Gm
open PySem hiding Loc
open L2 Ms
/-! sets and rows -/
def joinTx (y : Str) (vs : List Int) : Str := if vs = [] then "-" else Txt.join y (vs.map tx)
structure Sv (vs : List Int) : Prop where
  few : vs.length ≤ 40
  sm : ∀ v ∈ vs, Sm v
theorem Sv.tx {vs : List Int} (h : Sv vs) : Few (vs.map Gm.tx) := ⟨by simpa using h.few, fun w hw => by
  obtain ⟨v, hv, rfl⟩ := List.mem_map.mp hw
  have := tx_len (h.sm v hv); omega⟩
def strC : EM := eComp (iSeq (eVar 0)) (tgName 1) mYes (eCall gStrI (aCons (eVar 1) aNil)) [1]
theorem strC_ok {vs : List Int} (h : Sv vs) (hp : HM) : strC [some (tD vs), none] hp = .ok (.lst ((vs.map tx).map .str)) hp := by
  have := comp_ok (i := iSeq (eVar 0)) (g := tgName 1) (fe := eCall gStrI (aCons (eVar 1) aNil)) (own := [1]) (loc := [some (tD vs), none]) (hp := hp) (xs := vs) (dom := .int) (out := fun v => .str (tx v)) (seq_tup rfl)
    (fun v hv => ⟨_, rfl, by simp [eCall, aCons, aNil, eVar, O.bind, wipeL, str_ok (h.sm v hv)]⟩) (by have := h.few; omega)
  rw [List.map_map]
  exact this
theorem wr_ok {y : Str} (hy : y.length ≤ 1) {vs : List Int} (h : Sv vs) (hp : HM) : fnKeep 1 2 (sRet (eIf (mT (eBin gGt (eCall gLen (aCons (eVar 0) aNil)) (eC (.int 0)))) (eM1 gJoin (eC (.str y)) strC) (eC (.str "-")))) [tD vs] hp = .ok (.str (joinTx y vs)) hp := by
  refine fk_rt (d := .str (joinTx y vs)) ?_
  have hl : ([tD vs].map some ++ List.replicate (2 - 1) (none : Option D)) = [some (tD vs), none] := rfl
  rw [hl]
  by_cases h0 : vs = []
  · subst h0; rfl
  · have h1 : 0 < vs.length := List.length_pos_iff.mpr h0
    have j := join_ok hy h.tx hp
    rw [joinTx, if_neg h0]
    simp [sIf, mAnd, mOr, mNot, mT, mTru, eBin, gGe, gI0, gPow, gI, CPow, eC, eVar, O.bind, sE, gGt, gLt, gLe, gEq, gNe, eqS, sSeq, sDrop, eAppend, eCall, argc, aCons, aNil, gInt, gOne, gMod, gDiv, CDiv, sAsg, gAdd, Ms.gSub, gMul, sRet, sNext, sSub, setD, gIx, eTup, eLst, eLstT, gLen, lstOf, seqOf, eIf, eNeg, h1, eM1, strC_ok h, -List.map_map, j]
theorem wset_ok {vs : List Int} (h : Sv vs) (hp : HM) : m_write_set [tD vs] hp = .ok (.str (joinTx "," vs)) hp := wr_ok (y := ",") (by decide +kernel) h hp
theorem lt_ok {y : Str} (hy : y.length ≤ 1) {vs : List Int} (h : Sv vs) (hp : HM) : fnKeep 1 2 (sSeq (sIf (mT (eBin gEq (eCall gLen (aCons (eVar 0) aNil)) (eC (.int 0)))) (sRet (eC (.str "-"))) sNext) (sRet (eCall (argc 2 m__law_join) (aCons (eC (.str y)) (aCons strC aNil))))) [tD vs] hp = .ok (.str (joinTx y vs)) hp := by
  refine fk_rt (d := .str (joinTx y vs)) ?_
  have hl : ([tD vs].map some ++ List.replicate (2 - 1) (none : Option D)) = [some (tD vs), none] := rfl
  rw [hl]
  by_cases h0 : vs = []
  · subst h0; rfl
  · have j := ljoin_ok hy h.tx hp
    rw [joinTx, if_neg h0]
    simp [sIf, mAnd, mOr, mNot, mT, mTru, eBin, gGe, gI0, gPow, gI, CPow, eC, eVar, O.bind, sE, gGt, gLt, gLe, gEq, gNe, eqS, sSeq, sDrop, eAppend, eCall, argc, aCons, aNil, gInt, gOne, gMod, gDiv, CDiv, sAsg, gAdd, Ms.gSub, gMul, sRet, sNext, sSub, setD, gIx, eTup, eLst, eLstT, gLen, lstOf, seqOf, eIf, eNeg, h0, strC_ok h, -List.map_map, j]
theorem lset_ok {vs : List Int} (h : Sv vs) (hp : HM) : m__law_set_text [tD vs] hp = .ok (.str (joinTx "," vs)) hp := lt_ok (y := ",") (by decide +kernel) h hp
/-! reading -/
def rdC (y : Str) (v : Nat) : EM := eComp (iSeq (eM1 gSplit (eVar 0) (eC (.str y)))) (tgName v) mYes (eCall (argc 1 m_number_of) (aCons (eVar v) aNil)) [v]
theorem split_ok {y t : Str} {ws : List Str} (hy : (y.length == 0) = false) (ht : t.length ≤ 1000000) (hs : Txt.split t y = ws) {f : EM} {loc : Loc} {hp : HM} (hf : f loc hp = .ok (.str t) hp) : eM1 gSplit f (eC (.str y)) loc hp = .ok (.lst (ws.map .str)) hp := by
  simp [eM1, hf, eC, O.bind, gSplit, hy, ht, hs, big]
theorem join_ne {y : Str} {s : Nat} {S : List Nat} (ey : TL.tl y = s :: S) (hne : 45 ∉ TL.tl y) {vs : List Int} (h : Sv vs) : joinTx y vs = "-" ↔ vs = [] := by
  constructor
  · intro e
    by_cases h0 : vs = []
    · exact h0
    · exfalso
      rw [joinTx, if_neg h0] at e
      have f := join_free (y := y) (s := 45) hne (ws := vs.map tx) (by
        intro w hw
        obtain ⟨v, hv, rfl⟩ := List.mem_map.mp hw
        exact tx_free (h.sm v hv) (by omega))
      rw [e] at f
      exact f (by show 45 ∈ [45]; simp)
  · rintro rfl; rfl
theorem split_tx {y : Str} {s : Nat} (ey : TL.tl y = [s]) (hs : s < 48 ∨ 57 < s) (hk : y.cps.all (· < 256) = true) {vs : List Int} (h : Sv vs) (h0 : vs ≠ []) : Txt.split (joinTx y vs) y = vs.map tx := by
  rw [joinTx, if_neg h0]
  refine TL.split_join ey hk (by simpa using h0) fun p hp => ?_
  obtain ⟨v, hv, rfl⟩ := List.mem_map.mp hp
  exact tx_free (h.sm v hv) hs
theorem nums_comp {f : EM} {v : Nat} {loc : Loc} {hp : HM} {vs : List Int} (hv : v < loc.length) (h : Sv vs) (hf : f loc hp = .ok (.lst ((vs.map tx).map .str)) hp) : eComp (iSeq f) (tgName v) mYes (eCall (argc 1 m_number_of) (aCons (eVar v) aNil)) [v] loc hp = .ok (.lst (vs.map .int)) hp :=
  comp_ok (xs := vs) (dom := fun x => .str (tx x)) (out := .int) (by rw [List.map_map] at hf; exact seq_lst hf) (fun x hx => ⟨_, rfl, by simp [eCall, argc, aCons, aNil, eVar, O.bind, wipeL, hv, num_ok (h.sm x hx)]⟩) (by have := h.few; omega)
theorem joinTx_len {y : Str} (hy : y.length ≤ 1) {vs : List Int} (h : Sv vs) : (joinTx y vs).length ≤ 41000 := by
  unfold joinTx
  split
  · decide +kernel
  · exact h.tx.len hy
def ascC : EM := eComp (iRange2 (aCons (eC (.int 1)) (aCons (eCall gLen (aCons (eVar 0) aNil)) aNil))) (tgName 1) mYes (eBin gLt (eBin gIx (eVar 0) (eBin gSub (eVar 1) (eC (.int 1)))) (eBin gIx (eVar 0) (eVar 1))) [1]
theorem asc_ok {vs : List Int} (h : vs.length ≤ 1000) (pw : vs.Pairwise (· < ·)) (hp : HM) : m_is_ascending [tD vs] hp = .ok (.bl true) hp := by
  have hl : ([tD vs].map some ++ List.replicate (2 - 1) (none : Option D)) = [some (tD vs), none] := rfl
  have e : ascC [some (tD vs), none] hp = _ := comp_ok (i := iRange2 (aCons (eC (.int 1)) (aCons (eCall gLen (aCons (eVar 0) aNil)) aNil))) (g := tgName 1) (fe := eBin gLt (eBin gIx (eVar 0) (eBin gSub (eVar 1) (eC (.int 1)))) (eBin gIx (eVar 0) (eVar 1))) (own := [1]) (loc := [some (tD vs), none]) (hp := hp) (xs := List.range (vs.length - 1)) (dom := fun k => .int (1 + (k : Int))) (out := fun _ => .bl true) (by
      have h1 : (-1000000 : Int) ≤ 1 ∧ (1 : Int) ≤ 1000000 ∧ (-1000000 : Int) ≤ vs.length ∧ (vs.length : Int) ≤ 1000000 := by omega
      have h2 : ((vs.length : Int) - 1).toNat = vs.length - 1 := by omega
      simp [iRange2, aCons, aNil, eC, eCall, gLen, gOne, O.bind, eVar, seqOf, lim, h1, rngD, h2])
    (fun k hk => by
      have hk2 : k + 1 < vs.length := by have := List.mem_range.mp hk; omega
      refine ⟨_, rfl, ?_⟩
      have e1 : atI (vs.map D.int) (k : Int) = some (.int vs[k]) := atI_nat (by simp <;> omega)
      have e2 : atI (vs.map D.int) (1 + (k : Int)) = some (.int vs[k + 1]) := by
        rw [show (1 : Int) + (k : Int) = ((k + 1 : Nat) : Int) by omega]
        exact atI_nat (by simp <;> omega)
      have e3 : vs[k] < vs[k + 1] := List.pairwise_iff_getElem.mp pw k (k + 1) (by omega) hk2 (by omega)
      have e4 : (1 : Int) + (k : Int) - 1 = (k : Int) := by omega
      simp [eBin, eVar, eC, O.bind, gIx, Ms.gSub, gI0, gLt, seqOf, e1, e2, e3, e4, wipeL]) (by simp; omega)
  refine fk_rt (l := 2) (d := .bl true) (body := sRet (eCall (gBls fun bs => bs.all id) (aCons ascC aNil))) ?_
  rw [hl]
  have hb : ∀ l : List Nat, blsOf (l.map fun _ => D.bl true) = some (l.map fun _ => true) := by
    intro l; induction l with
    | nil => rfl
    | cons x l ih => simp [blsOf, ih]
  simp [sRet, eCall, aCons, aNil, e, O.bind, gBls, gOne, lstOf, hb, sE, -List.map_const']
theorem rset_ok {vs : List Int} (h : Sv vs) (pw : vs.Pairwise (· < ·)) (hp : HM) : m_read_set [.str (joinTx "," vs)] hp = .ok (tD vs) hp := by
  have hl : ([D.str (joinTx "," vs)].map some ++ List.replicate (3 - 1) (none : Option D)) = [some (.str (joinTx "," vs)), none, none] := rfl
  by_cases h0 : vs = []
  · subst h0; kernel_rfl
  refine fk_rt (l := 3) (d := tD vs) (body := (sSeq (sAsg (eIf (mT (eBin gEq (eVar 0) (eC (.str "-")))) (eTup aNil) (eCall gTuple (aCons (rdC "," 2) aNil))) 1)
    (sSeq (sDrop (eCall (argc 1 m_require) (aCons (eCall (argc 1 m_is_ascending) (aCons (eVar 1) aNil)) aNil))) (sRet (eVar 1))))) ?_
  rw [hl]
  have e0 : joinTx "," vs ≠ "-" := fun e => h0 ((join_ne (y := ",") (s := 44) (S := []) rfl (by decide +kernel) h).mp e)
  have e1 : rdC "," 2 [some (.str (joinTx "," vs)), none, none] hp = .ok (.lst (vs.map .int)) hp :=
    nums_comp (by simp) h (split_ok (t := joinTx "," vs) (by decide +kernel) (by have := joinTx_len (y := ",") (by decide +kernel) h; omega) (split_tx (s := 44) rfl (by omega) (by decide +kernel) h h0) rfl)
  have e2 := asc_ok (by have := h.few; omega) pw hp
  simp [sIf, mAnd, mOr, mNot, mT, mTru, eBin, gGe, gI0, gPow, gI, CPow, eC, eVar, O.bind, sE, gGt, gLt, gLe, gEq, gNe, eqS, sSeq, sDrop, eAppend, eCall, argc, aCons, aNil, gInt, gOne, gMod, gDiv, CDiv, sAsg, gAdd, Ms.gSub, gMul, sRet, sNext, sSub, setD, gIx, eTup, eLst, eLstT, gLen, lstOf, seqOf, eIf, eNeg, e0, e1, gTuple, e2, req_ok]
/-! _law_equal -/
inductive Pl : Nat → D → Prop where
  | int (k : Nat) (i : Int) : Pl k (.int i)
  | str (k : Nat) (x : Str) : Pl k (.str x)
  | tup {k : Nat} {ds : List D} (hz : ds.length ≤ 1000) (h : ∀ d ∈ ds, Pl k d) : Pl (k + 1) (.tup ds)
theorem kind_int (i : Int) (hp : HM) : m__law_kind [.int i] hp = .ok (.int 2) hp := by kernel_rfl
theorem kind_str (x : Str) (hp : HM) : m__law_kind [.str x] hp = .ok (.int 3) hp := by kernel_rfl
theorem kind_tup (ds : List D) (hp : HM) : m__law_kind [.tup ds] hp = .ok (.int 4) hp := by kernel_rfl
def eqB (m : Fn) : SM := sIf (mNot (mTru (eCall (argc 2 m) (aCons (eBin gIx (eVar 0) (eVar 2)) (aCons (eBin gIx (eVar 1) (eVar 2)) aNil))))) (sRet (eC (.bl false))) sNext
theorem eq_ok {k : Nat} {d : D} (h : Pl k d) (hp : HM) : m__law_equal (k + 1) [d, d] hp = .ok (.bl true) hp := by
  induction h with
  | int k i =>
    refine fk_rt (l := 3) (d := .bl true) (body := b__law_equal (m__law_equal k)) ?_
    simp [b__law_equal, sIf, mAnd, mOr, mNot, mT, mTru, eBin, gGe, gI0, gPow, gI, CPow, eC, eVar, O.bind, sE, gGt, gLt, gLe, gEq, gNe, eqS, sSeq, sDrop, eAppend, eCall, argc, aCons, aNil, gInt, gOne, gMod, gDiv, CDiv, sAsg, gAdd, Ms.gSub, gMul, sRet, sNext, sSub, setD, gIx, eTup, eLst, eLstT, gLen, lstOf, seqOf, eIf, eNeg, kind_int, eIsi, isT, truD]
  | str k x =>
    refine fk_rt (l := 3) (d := .bl true) (body := b__law_equal (m__law_equal k)) ?_
    simp [b__law_equal, sIf, mAnd, mOr, mNot, mT, mTru, eBin, gGe, gI0, gPow, gI, CPow, eC, eVar, O.bind, sE, gGt, gLt, gLe, gEq, gNe, eqS, sSeq, sDrop, eAppend, eCall, argc, aCons, aNil, gInt, gOne, gMod, gDiv, CDiv, sAsg, gAdd, Ms.gSub, gMul, sRet, sNext, sSub, setD, gIx, eTup, eLst, eLstT, gLen, lstOf, seqOf, eIf, eNeg, kind_str, eIsi, isT, truD]
  | @tup k ds hz h ih =>
    obtain ⟨l, h', e, l2, q1, q2⟩ := forI (it := ⟨rngD 0 ds.length, none⟩) (g := tgName 2) (body := eqB (m__law_equal (k + 1))) rfl (rngD 0 ds.length)
      (fun j loc hp' => ∃ l2, loc = [some (.tup ds), some (.tup ds), l2] ∧ hp' = hp) (by
        rintro j d hd loc hp ⟨l2, rfl, rfl⟩
        obtain ⟨rfl, hj⟩ := rng_at hd
        refine ⟨_, rfl, _, hp, ?_, some (.int j), rfl, rfl⟩
        have ex : atI ds (j : Int) = some ds[j] := atI_nat (by simp)
        have e2 := ih ds[j] (by simp)
        have gx : gIx (.tup ds) (.int j) hp = .ok ds[j] hp := by simp [gIx, seqOf, ex]
        simp [eqB, sIf, mNot, mTru, eCall, argc, aCons, aNil, eBin, eVar, O.bind, gx, e2, truD, sNext, sE])
      (rngD 0 ds.length) [] [some (.tup ds), some (.tup ds), none] hp rfl ⟨none, rfl, rfl⟩
    subst q1 q2
    refine fk_rt (l := 3) (d := .bl true) (body := (sSeq (sIf (mOr (mT (eBin gNe (eCall (argc 1 m__law_kind) (aCons (eVar 0) aNil)) (eCall (argc 1 m__law_kind) (aCons (eVar 1) aNil)))) (mT (eBin gEq (eCall (argc 1 m__law_kind) (aCons (eVar 0) aNil)) (eC (.int 0))))) (sRet (eC (.bl false))) sNext)
    (sSeq (sIf (mOr (mTru (eIsi .tuple (eVar 1))) (mTru (eIsi .list (eVar 1)))) (sSeq (sIf (mT (eBin gNe (eCall gLen (aCons (eVar 0) aNil)) (eCall gLen (aCons (eVar 1) aNil)))) (sRet (eC (.bl false))) sNext)
    (sSeq (sFor (iRg1 (aCons (eCall gLen (aCons (eVar 1) aNil)) aNil)) (tgName 2) (eqB (m__law_equal (k + 1))))
    (sRet (eC (.bl true))))) sNext)
    (sRet (eBin gEq (eVar 0) (eVar 1)))))) ?_
    have hk : -1000000 ≤ (ds.length : Int) ∧ (ds.length : Int) ≤ 1000000 := by omega
    simp [sIf, mAnd, mOr, mNot, mT, mTru, eBin, gGe, gI0, gPow, gI, CPow, eC, eVar, O.bind, sE, gGt, gLt, gLe, gEq, gNe, eqS, sSeq, sDrop, eAppend, eCall, argc, aCons, aNil, gInt, gOne, gMod, gDiv, CDiv, sAsg, gAdd, Ms.gSub, gMul, sRet, sNext, sSub, setD, gIx, eTup, eLst, eLstT, gLen, lstOf, seqOf, eIf, eNeg, kind_tup, eIsi, isT, truD, sFor, iRg1, hk, lim]
    rw [e]
theorem Pl.ints (k : Nat) {vs : List Int} (h : vs.length ≤ 1000) : Pl (k + 1) (tD vs) := .tup (by simpa using h) fun d hd => by
  obtain ⟨v, hv, rfl⟩ := List.mem_map.mp hd
  exact .int _ _
theorem Pl.up {k : Nat} {d : D} (h : Pl k d) : Pl (k + 1) d := by
  induction h with
  | int => exact .int _ _
  | str => exact .str _ _
  | tup hz _ ih => exact .tup hz ih
theorem Pl.one {k : Nat} {d : D} (h : Pl k d) : Pl (k + 1) (.tup [d]) := .tup (by simp) (by simpa using h)
theorem eq8 {d : D} {hp : HM} (h : Pl 7 d) : m__law_equal 8 [d, d] hp = .ok (.bl true) hp := eq_ok h hp
theorem eqS8 (x : Str) (hp : HM) : m__law_equal 8 [.str x, .str x] hp = .ok (.bl true) hp := eq8 (.str _ _)

/-! are_integers, are_numbers -/
abbrev inr (lo hi v : Int) : Bool := decide (lo ≤ v) && decide (v ≤ hi)
theorem isnum_ok (v lo hi : Int) (hp : HM) : m_is_number [.int v, .int lo, .int hi] hp = .ok (.bl (inr lo hi v)) hp := by
  have e : m_is_integer [.int v] hp = .ok (.bl true) hp := by kernel_rfl
  refine fk_rt (l := 3) (d := .bl (inr lo hi v)) (body := b_is_number) ?_
  by_cases h : lo ≤ v
  · simp [b_is_number, sIf, mAnd, mOr, mNot, mT, mTru, eBin, gGe, gI0, gPow, gI, CPow, eC, eVar, O.bind, sE, gGt, gLt, gLe, gEq, gNe, eqS, sSeq, sDrop, eAppend, eCall, argc, aCons, aNil, gInt, gOne, gMod, gDiv, CDiv, sAsg, gAdd, Ms.gSub, gMul, sRet, sNext, sSub, setD, gIx, eTup, eLst, eLstT, gLen, lstOf, seqOf, eIf, eNeg, eAnd, e, eChain, h, inr]
  · simp [b_is_number, sIf, mAnd, mOr, mNot, mT, mTru, eBin, gGe, gI0, gPow, gI, CPow, eC, eVar, O.bind, sE, gGt, gLt, gLe, gEq, gNe, eqS, sSeq, sDrop, eAppend, eCall, argc, aCons, aNil, gInt, gOne, gMod, gDiv, CDiv, sAsg, gAdd, Ms.gSub, gMul, sRet, sNext, sSub, setD, gIx, eTup, eLst, eLstT, gLen, lstOf, seqOf, eIf, eNeg, eAnd, e, eChain, h, inr]
theorem bls_map {α : Type} (f : α → Bool) : ∀ l : List α, blsOf (l.map fun x => D.bl (f x)) = some (l.map f)
  | [] => rfl
  | x :: l => by simp [blsOf, bls_map f l]
def arC : EM := eComp (iSeq (eVar 0)) (tgName 3) mYes (eCall (argc 3 m_is_number) (aCons (eVar 3) (aCons (eVar 1) (aCons (eVar 2) aNil)))) [3]
theorem all_val {α : Type} {f : α → Bool} {xs : List α} {e : EM} {loc : Loc} {hp : HM} (h : e loc hp = .ok (.lst (xs.map fun x => D.bl (f x))) hp) : eCall (gBls fun bs => bs.all id) (aCons e aNil) loc hp = .ok (.bl (xs.all f)) hp := by
  simp only [eCall, aCons, aNil, h, O.bind, gBls, gOne, lstOf, bls_map]
  rw [List.all_map]; rfl
theorem aint_ok {vs : List Int} (h : vs.length ≤ 1000) (lo hi : Int) (hp : HM) : m_are_integers [tD vs, .int lo, .int hi] hp = .ok (.bl (vs.all (inr lo hi))) hp := by
  refine fk_rt (l := 4) (d := .bl (vs.all (inr lo hi))) (body := (sRet (eAnd (eIsi .tuple (eVar 0)) (eCall (gBls fun bs => bs.all id) (aCons arC aNil))))) ?_
  have e : arC [some (tD vs), some (.int lo), some (.int hi), none] hp = .ok (.lst (vs.map fun v => .bl (inr lo hi v))) hp :=
    comp_ok (xs := vs) (dom := .int) (out := fun v => .bl (inr lo hi v)) (seq_tup rfl) (fun v hv => ⟨_, rfl, by simp [eCall, argc, aCons, aNil, eVar, O.bind, wipeL, isnum_ok]⟩) h
  have e2 := all_val e
  show sRet (eAnd (eIsi .tuple (eVar 0)) (eCall (gBls fun bs => bs.all id) (aCons arC aNil))) [some (tD vs), some (.int lo), some (.int hi), none] hp = _
  simp only [sRet, eAnd, eIsi, eVar, O.bind, List.getElem?_cons_zero, isT, e2, sE]
theorem anum_ok {vs : List Int} (h : vs.length ≤ 1000) (lo hi : Int) (hp : HM) (pw : vs.all (inr lo hi) = true → vs.Pairwise (· < ·)) : m_are_numbers [tD vs, .int lo, .int hi] hp = .ok (.bl (vs.all (inr lo hi))) hp := by
  refine fk_rt (l := 3) (d := .bl (vs.all (inr lo hi))) (body := b_are_numbers) ?_
  have e := aint_ok h lo hi hp
  cases hq : vs.all (inr lo hi) with
  | false =>
    rw [hq] at e
    simp [b_are_numbers, sRet, eAnd, eCall, argc, aCons, aNil, eVar, O.bind, e, sE]
  | true =>
    rw [hq] at e
    simp [b_are_numbers, sRet, eAnd, eCall, argc, aCons, aNil, eVar, O.bind, e, asc_ok h (pw hq), sE]
theorem istup_ok (ds : List D) (n : Int) (hp : HM) : m_is_tuple [.tup ds, .int n] hp = .ok (.bl (decide ((ds.length : Int) = n))) hp := by
  refine fk_rt (l := 2) (d := .bl (decide ((ds.length : Int) = n))) (body := b_is_tuple) ?_
  simp [b_is_tuple, sIf, mAnd, mOr, mNot, mT, mTru, eBin, gGe, gI0, gPow, gI, CPow, eC, eVar, O.bind, sE, gGt, gLt, gLe, gEq, gNe, eqS, sSeq, sDrop, eAppend, eCall, argc, aCons, aNil, gInt, gOne, gMod, gDiv, CDiv, sAsg, gAdd, Ms.gSub, gMul, sRet, sNext, sSub, setD, gIx, eTup, eLst, eLstT, gLen, lstOf, seqOf, eIf, eNeg, eAnd, eIsi, isT]
theorem isbetween_ok (ds : List D) (lo hi : Int) (hp : HM) : m_is_between [.tup ds, .int lo, .int hi] hp = .ok (.bl (inr lo hi ds.length)) hp := by
  refine fk_rt (l := 3) (d := .bl (inr lo hi ds.length)) (body := b_is_between) ?_
  by_cases h : lo ≤ ds.length
  · simp [b_is_between, sIf, mAnd, mOr, mNot, mT, mTru, eBin, gGe, gI0, gPow, gI, CPow, eC, eVar, O.bind, sE, gGt, gLt, gLe, gEq, gNe, eqS, sSeq, sDrop, eAppend, eCall, argc, aCons, aNil, gInt, gOne, gMod, gDiv, CDiv, sAsg, gAdd, Ms.gSub, gMul, sRet, sNext, sSub, setD, gIx, eTup, eLst, eLstT, gLen, lstOf, seqOf, eIf, eNeg, eAnd, eIsi, isT, eChain, h, inr]
  · simp [b_is_between, sIf, mAnd, mOr, mNot, mT, mTru, eBin, gGe, gI0, gPow, gI, CPow, eC, eVar, O.bind, sE, gGt, gLt, gLe, gEq, gNe, eqS, sSeq, sDrop, eAppend, eCall, argc, aCons, aNil, gInt, gOne, gMod, gDiv, CDiv, sAsg, gAdd, Ms.gSub, gMul, sRet, sNext, sSub, setD, gIx, eTup, eLst, eLstT, gLen, lstOf, seqOf, eIf, eNeg, eAnd, eIsi, isT, eChain, h, inr]
end Gm

namespace Gm
open PySem hiding Loc
open L2 Ms
/-! is_plant -/
def hsT : TM := (mOr (mNot (mTru (eCall (argc 2 m_is_tuple) (aCons (eVar 0) (aCons (eC (.int 2)) aNil))))) (mOr (mNot (mTru (eCall (argc 3 m_is_between) (aCons (eBin gIx (eVar 0) (eC (.int 0))) (aCons (eC (.int 1)) (aCons (eVar 1) aNil)))))) (mNot (mTru (eIsi .tuple (eBin gIx (eBin gIx (eVar 0) (eC (.int 0))) (eC (.int 0))))))))
def hsA : EM := (eComp (iSeq (eVar 3)) (tgName 5) mYes (eCall (argc 2 m_is_tuple) (aCons (eVar 5) (aCons (eVar 2) aNil))) [5])
def hsB : EM := (eComp (iSeq (eVar 3)) (tgName 5) mYes (eCall (argc 3 m_are_integers) (aCons (eVar 5) (aCons (eC (.int (-1))) (aCons (eBin gSub (eCall gLen (aCons (eVar 3) aNil)) (eC (.int 1))) aNil)))) [5])
def hsU : TM := (mOr (mNot (mT (eChain gLe gLe (eC (.int 1)) (eVar 2) (eC (.int (4)))))) (mNot (mTru (eCall (gBls fun bs => bs.all id) (aCons hsA aNil)))))
def hsS : SM := (sSeq (sIf hsT (sRet (eC (.bl false))) sNext)
    (sSeq (sAsgT (eVar 0) (tgTup 2 (tgsCons (tgName 3) (tgsCons (tgName 4) tgsNil))))
    (sSeq (sAsg (eCall gLen (aCons (eBin gIx (eVar 3) (eC (.int 0))) aNil)) 2)
    (sSeq (sIf hsU (sRet (eC (.bl false))) sNext)
    (sRet (eAnd (eCall (gBls fun bs => bs.all id) (aCons hsB aNil)) (eCall (argc 3 m_are_numbers) (aCons (eVar 4) (aCons (eC (.int 0)) (aCons (eBin gSub (eCall gLen (aCons (eVar 3) aNil)) (eC (.int 1))) aNil))))))))))
theorem has_ok {k n : Nat} {rows : List (List Int)} {es : List Int} (k1 : 1 ≤ k) (k4 : k ≤ 4) (n1 : 1 ≤ n) (nz : n ≤ 1000) (hl : rows.length = n) (hrow : ∀ r ∈ rows, r.length = k ∧ ∀ v ∈ r, -1 ≤ v ∧ v < n) (he : es.length ≤ 1000)
    (hup : es.all (inr 0 ((n : Int) - 1)) = true → es.Pairwise (· < ·)) {m : Int} (hm : n ≤ m) (hp : HM) : m_has_states [plD rows es, .int m] hp = .ok (.bl (es.all (inr 0 ((n : Int) - 1)))) hp := by
  refine fk_rt (l := 6) (d := .bl (es.all (inr 0 ((n : Int) - 1)))) (body := hsS) ?_
  show hsS [some (plD rows es), some (.int m), none, none, none, none] hp = _
  obtain ⟨r0, rr, hr0⟩ : ∃ r0 rr, rows = r0 :: rr := by
    cases rows with
    | nil => simp at hl; omega
    | cons r0 rr => exact ⟨r0, rr, rfl⟩
  have g0 := (hrow r0 (by rw [hr0]; simp)).1
  have t1 := istup_ok [rwsD rows, tD es] 2 hp
  have t2 := isbetween_ok (rows.map tD) 1 m hp
  rw [List.length_map, hl, show inr 1 m n = true by simp [inr]; omega] at t2
  rw [show decide ((([rwsD rows, tD es] : List D).length : Int) = 2) = true from rfl] at t1
  have i0 : gIx (plD rows es) (.int 0) hp = .ok (rwsD rows) hp := rfl
  have i00 : gIx (rwsD rows) (.int 0) hp = .ok (tD r0) hp := by
    have ex : atI (rows.map tD) ((0 : Nat) : Int) = some (tD r0) := atI_nat (by rw [hr0]; rfl)
    have ex2 : atI (rows.map tD) 0 = some (tD r0) := ex
    simp only [gIx, rwsD, seqOf, ex2]
  have hT : hsT [some (plD rows es), some (.int m), none, none, none, none] hp = .ok false hp := by
    simp only [hsT, mOr, mNot, mTru, eCall, argc, aCons, aNil, eBin, eVar, eC, eIsi, O.bind, List.getElem?_cons_succ, List.getElem?_cons_zero, List.length_cons, List.length_nil, if_true, t1, i0, i00, t2, truD, isT]
    simp
  have hA : sAsgT (eVar 0) (tgTup 2 (tgsCons (tgName 3) (tgsCons (tgName 4) tgsNil))) [some (plD rows es), some (.int m), none, none, none, none] hp = .nx [some (plD rows es), some (.int m), none, some (rwsD rows), some (tD es), none] hp := rfl
  have hD : sAsg (eCall gLen (aCons (eBin gIx (eVar 3) (eC (.int 0))) aNil)) 2 [some (plD rows es), some (.int m), none, some (rwsD rows), some (tD es), none] hp = .nx [some (plD rows es), some (.int m), some (.int k), some (rwsD rows), some (tD es), none] hp := by
    simp only [sAsg, eCall, eBin, eVar, eC, aCons, aNil, O.bind, List.getElem?_cons_succ, List.getElem?_cons_zero, i00, gLen, gOne, seqOf, List.length_map, g0, sE, List.set_cons_succ, List.set_cons_zero]
  have eA : hsA [some (plD rows es), some (.int m), some (.int k), some (rwsD rows), some (tD es), none] hp = .ok (.lst (rows.map fun _ => .bl true)) hp :=
    comp_ok (xs := rows) (dom := tD) (out := fun _ => .bl true) (seq_tup rfl) (fun g hg => ⟨_, rfl, by
      have u1 := istup_ok (g.map D.int) k hp
      rw [List.length_map, (hrow g hg).1, decide_eq_true rfl] at u1
      simp [wipeL, eCall, argc, aCons, aNil, eVar, O.bind, u1]⟩) (by omega)
  have fA := all_val eA
  rw [show (rows.all fun _ => true) = true by simp] at fA
  have eB : hsB [some (plD rows es), some (.int m), some (.int k), some (rwsD rows), some (tD es), none] hp = .ok (.lst (rows.map fun _ => .bl true)) hp :=
    comp_ok (xs := rows) (dom := tD) (out := fun _ => .bl true) (seq_tup rfl) (fun g hg => ⟨_, rfl, by
      have r := hrow g hg
      have u2 := aint_ok (vs := g) (by omega) (-1) ((n : Int) - 1) hp
      rw [show g.all (inr (-1) ((n : Int) - 1)) = true from by
        rw [List.all_eq_true]
        intro v hv
        have := r.2 v hv
        simp [inr]; omega] at u2
      simp [wipeL, eCall, argc, aCons, aNil, eBin, eVar, eC, O.bind, gLen, gOne, seqOf, Ms.gSub, gI0, u2, hl]⟩) (by omega)
  have fB := all_val eB
  rw [show (rows.all fun _ => true) = true by simp] at fB
  have hk : (1 : Int) ≤ k ∧ (k : Int) ≤ 4 := by omega
  have hU : hsU [some (plD rows es), some (.int m), some (.int k), some (rwsD rows), some (tD es), none] hp = .ok false hp := by
    simp [hsU, mOr, mNot, mT, mTru, eChain, fA, O.bind, truD, eC, eVar, gLe, gI0, hk]
  have an := anum_ok he 0 ((n : Int) - 1) hp hup
  have hR : eAnd (eCall (gBls fun bs => bs.all id) (aCons hsB aNil)) (eCall (argc 3 m_are_numbers) (aCons (eVar 4) (aCons (eC (.int 0)) (aCons (eBin gSub (eCall gLen (aCons (eVar 3) aNil)) (eC (.int 1))) aNil)))) [some (plD rows es), some (.int m), some (.int k), some (rwsD rows), some (tD es), none] hp = .ok (.bl (es.all (inr 0 ((n : Int) - 1)))) hp := by
    simp only [eAnd, fB, O.bind]
    simp [eCall, O.bind, argc, aCons, aNil, eVar, eBin, eC, gLen, gOne, seqOf, hl, Ms.gSub, gI0, an]
  simp only [hsS, sSeq, sIf, hT, sE, Bool.false_eq_true, if_false, sNext, hA, hD, hU, sRet, hR]
section
variable {k n : Nat} {rows : List (List Int)} {es : List Int}
theorem isplant_ok (k1 : 1 ≤ k) (k4 : k ≤ 4) (n1 : 1 ≤ n) (nz : n ≤ 16) (hl : rows.length = n) (hrow : ∀ r ∈ rows, r.length = k ∧ ∀ v ∈ r, -1 ≤ v ∧ v < n) (he : es.length ≤ 1000)
    (hup : es.all (inr 0 ((n : Int) - 1)) = true → es.Pairwise (· < ·)) (hp : HM) : m_is_plant [plD rows es] hp = .ok (.bl (es.all (inr 0 ((n : Int) - 1)))) hp := by
  have e := has_ok k1 k4 n1 (by omega) hl hrow he hup (m := 16) (by omega) hp
  refine fk_rt (l := 1) (d := .bl (es.all (inr 0 ((n : Int) - 1)))) (body := b_is_plant) ?_
  simp [b_is_plant, sRet, eCall, argc, aCons, aNil, eVar, eC, O.bind, e, sE]
theorem Plant.isplant (P : Plant k n rows es) (k1 : 1 ≤ k) (k4 : k ≤ 4) (n1 : 1 ≤ n) (nz : n ≤ 16) (hp : HM) : m_is_plant [plD rows es] hp = .ok (.bl true) hp := by
  have e := isplant_ok k1 k4 n1 nz P.len P.row (by have := P.el; omega) (fun _ => P.up) hp
  rw [show es.all (inr 0 ((n : Int) - 1)) = true from by
    rw [List.all_eq_true]
    intro v hv
    have := P.lo v hv
    simp [inr]; omega] at e
  exact e
end
/-! the lines -/
def rowTx (row : List Int) : Str := "state " ++ Txt.join " " (row.map sg)
def plTx (k : Nat) (rows : List (List Int)) (es : List Int) : List Str := ("deeds " ++ tx k) :: (rows.map rowTx ++ [("ends " ++ joinTx "," es)])
structure Row (k : Nat) (row : List Int) : Prop where
  len : row.length = k
  sg : ∀ v ∈ row, Sg v
theorem Row.few {k : Nat} (k4 : k ≤ 40) {row : List Int} (h : Row k row) : Few (row.map Gm.sg) := ⟨by simp [h.len]; omega, fun w hw => by
  obtain ⟨v, hv, rfl⟩ := List.mem_map.mp hw
  have := sg_len (h.sg v hv); omega⟩
theorem sgj_len {k : Nat} {row : List Int} (h : Row k row) (k4 : k ≤ 40) : (Txt.join " " (row.map sg)).length ≤ 400 := by
  have h1 := join_len (y := " ") (ws := row.map sg) (L := 9) (fun w hw => by
    obtain ⟨v, hv, rfl⟩ := List.mem_map.mp hw
    exact sg_len (h.sg v hv))
  have h3 : (" " : Str).length = 1 := by decide +kernel
  rw [h3, List.length_map, h.len] at h1
  omega
theorem rowTx_len {k : Nat} {row : List Int} (h : Row k row) (k4 : k ≤ 40) : (rowTx row).length ≤ 500 := by
  have h1 := sgj_len h k4
  have h2 : ("state " : Str).length = 6 := by decide +kernel
  rw [rowTx, len_app]; omega
theorem rowTx_free {k : Nat} {row : List Int} (h : Row k row) : 10 ∉ TL.tl (rowTx row) := by
  rw [rowTx, TL.tl_append, List.mem_append, not_or]
  exact ⟨by decide +kernel, join_free (by decide +kernel) fun w hw => by
    obtain ⟨v, hv, rfl⟩ := List.mem_map.mp hw
    exact sg_free (h.sg v hv) (by omega)⟩
theorem set_free {vs : List Int} (h : Sv vs) {s : Nat} (hs : s < 44 ∨ 57 < s) : s ∉ TL.tl (joinTx "," vs) := by
  unfold joinTx
  split
  · show s ∉ [45]
    simp; omega
  · exact join_free (y := ",") (s := s) (by show s ∉ [44]; simp; omega) fun w hw => by
      obtain ⟨v, hv, rfl⟩ := List.mem_map.mp hw
      exact tx_free (h.sm v hv) (by omega)
theorem set_len {vs : List Int} (h : Sv vs) : (joinTx "," vs).length ≤ 400 := by
  unfold joinTx
  split
  · decide +kernel
  · have h1 := join_len (y := ",") (ws := vs.map tx) (L := 9) (by
      intro w hw
      obtain ⟨v, hv, rfl⟩ := List.mem_map.mp hw
      exact tx_len (h.sm v hv))
    have h3 : ("," : Str).length = 1 := by decide +kernel
    have h4 := h.few
    rw [h3, List.length_map] at h1
    omega
/-- lines that can be joined and cut again -/
structure Lns (ls : List Str) : Prop where
  ne : ls ≠ []
  few : ls.length ≤ 40
  sh : ∀ w ∈ ls, w.length ≤ 1000
  fr : ∀ w ∈ ls, 10 ∉ TL.tl w
theorem Lns.f {ls : List Str} (h : Lns ls) : Few ls := ⟨h.few, h.sh⟩
theorem Lns.split {ls : List Str} (h : Lns ls) : Txt.split (Txt.join "\n" ls) "\n" = ls := TL.split_join (s := 10) (S := []) rfl (by decide +kernel) h.ne h.fr
theorem Lns.len {ls : List Str} (h : Lns ls) : (Txt.join "\n" ls).length ≤ 41000 := h.f.len (by decide +kernel)
theorem Plant.rw {k n : Nat} {rows : List (List Int)} {es : List Int} (P : Plant k n rows es) (nz : n ≤ 17) : ∀ r ∈ rows, Row k r := fun r hr => ⟨(P.row r hr).1, fun v hv => by
  have := (P.row r hr).2 v hv
  by_cases h : v = -1
  · exact .inl h
  · exact .inr (.inl (by omega))⟩
theorem Plant.sv {k n : Nat} {rows : List (List Int)} {es : List Int} (P : Plant k n rows es) (nz : n ≤ 17) : Sv es := ⟨by have := P.el; omega, fun v hv => .inl (by have := P.lo v hv; omega)⟩
theorem endsTx_len {vs : List Int} (h : Sv vs) : ("ends " ++ joinTx "," vs).length ≤ 500 := by
  have h1 := set_len h
  have h2 : ("ends " : Str).length = 5 := by decide +kernel
  rw [len_app]; omega
theorem endsTx_free {vs : List Int} (h : Sv vs) : 10 ∉ TL.tl ("ends " ++ joinTx "," vs) := by
  rw [TL.tl_append, List.mem_append, not_or]
  exact ⟨by decide +kernel, set_free h (by omega)⟩
theorem deedsTx_len {k : Nat} (k4 : k ≤ 16) : ("deeds " ++ tx k).length ≤ 500 := by
  have h1 := tx_len (i := (k : Int)) (.inl (by omega))
  have h2 : ("deeds " : Str).length = 6 := by decide +kernel
  rw [len_app]; omega
theorem deedsTx_free {k : Nat} (k4 : k ≤ 16) : 10 ∉ TL.tl ("deeds " ++ tx k) := by
  rw [TL.tl_append, List.mem_append, not_or]
  exact ⟨by decide +kernel, tx_free (.inl (by omega)) (by omega)⟩
theorem Plant.lns {k n : Nat} {rows : List (List Int)} {es : List Int} (P : Plant k n rows es) (k4 : k ≤ 4) (nz : n ≤ 16) : Lns (plTx k rows es) := by
  refine ⟨by simp [plTx], by simp [plTx, P.len]; omega, fun w hw => ?_, fun w hw => ?_⟩ <;> (simp only [plTx, List.mem_cons, List.mem_append, List.mem_map, List.not_mem_nil, or_false] at hw)
  · rcases hw with rfl | ⟨r, hr, rfl⟩ | rfl
    · have := deedsTx_len (k := k) (by omega); omega
    · have := rowTx_len (P.rw (by omega) r hr) (by omega); omega
    · have := endsTx_len (P.sv (by omega)); omega
  · rcases hw with rfl | ⟨r, hr, rfl⟩ | rfl
    · exact deedsTx_free (by omega)
    · exact rowTx_free (P.rw (by omega) r hr)
    · exact endsTx_free (P.sv (by omega))
end Gm

namespace Gm
open PySem hiding Loc
open L2 Ms
abbrev Wf (hp : HM) : Prop := hp.all (fun m => okM hp.length m) = true
theorem get_last (hp : HM) (x : MO) : (hp ++ [x])[hp.length]? = some x := by simp
theorem set_last (hp : HM) (x y : MO) : (hp ++ [x]).set hp.length y = hp ++ [y] := by simp
theorem fo_rt {n l : Nat} {body : SM} {ds : List D} {hp ext : HM} {d : D} (wf : Wf hp) (h : body (ds.map some ++ List.replicate (l - n) none) hp = .rt d (hp ++ ext)) (hd : frz hp.length (hp ++ ext) d = some d) : fnOf n l body ds hp = .ok d hp := by
  simp only [fnOf, h, List.take_left, wf, if_true, hd]
theorem fo_exc {n l : Nat} {body : SM} {ds : List D} {hp ext : HM} {x : Exn} {loc : Loc} (wf : Wf hp) (h : body (ds.map some ++ List.replicate (l - n) none) hp = .exc x loc (hp ++ ext)) : fnOf n l body ds hp = .exc x hp := by
  simp only [fnOf, h, List.take_left, wf, if_true]
theorem sgC_ok {f : Fn} {hp : HM} (hf : ∀ v, Sg v → f [.int v] hp = .ok (.str (sg v)) hp) {i j : Nat} {loc : Loc} {row : List Int} {k : Nat} (h : Row k row) (k4 : k ≤ 40) (hi : loc[i]? = some (some (tD row))) (hj : j < loc.length) :
    eComp (iSeq (eVar i)) (tgName j) mYes (eCall (argc 1 f) (aCons (eVar j) aNil)) [j] loc hp = .ok (.lst ((row.map sg).map .str)) hp := by
  rw [List.map_map]
  exact comp_ok (xs := row) (dom := .int) (out := fun v => .str (sg v)) (seq_tup (by simp only [eVar, hi])) (fun v hv => ⟨_, rfl, by
    simp [eCall, argc, aCons, aNil, eVar, O.bind, wipeL, hj, hf v (h.sg v hv)]⟩) (by have := h.len; omega)
theorem deeds_ok {hp : HM} {loc : Loc} {rows : List (List Int)} {es : List Int} {k n : Nat} (P : Plant k n rows es) (n1 : 1 ≤ n) (k4 : k ≤ 16) (h0 : loc[0]? = some (some (plD rows es))) :
    eBin gAdd (eC (.str "deeds ")) (eCall gStrI (aCons (eCall gLen (aCons (eBin gIx (eBin gIx (eVar 0) (eC (.int 0))) (eC (.int 0))) aNil)) aNil)) loc hp = .ok (.str ("deeds " ++ tx k)) hp := by
  obtain ⟨r0, rr, hr0⟩ : ∃ r0 rr, rows = r0 :: rr := by
    cases hq : rows with
    | nil => have := P.len; rw [hq] at this; simp at this; omega
    | cons r0 rr => exact ⟨r0, rr, rfl⟩
  have g0 := (P.row r0 (by rw [hr0]; simp)).1
  have i0 : gIx (plD rows es) (.int 0) hp = .ok (rwsD rows) hp := rfl
  have ex : atI (rows.map tD) ((0 : Nat) : Int) = some (tD r0) := atI_nat (by rw [hr0]; rfl)
  have ex2 : atI (rows.map tD) 0 = some (tD r0) := ex
  have i00 : gIx (rwsD rows) (.int 0) hp = .ok (tD r0) hp := by simp only [gIx, rwsD, seqOf, ex2]
  have st := str_ok (i := (k : Int)) (.inl (by omega)) hp
  have z : ("deeds " : Str).length + (tx k).length ≤ 1000000 := by
    have h1 := tx_len (i := (k : Int)) (.inl (by omega))
    have h2 : ("deeds " : Str).length = 6 := by decide +kernel
    omega
  simp only [eBin, eC, eCall, aCons, aNil, eVar, h0, O.bind, i0, i00, gLen, gOne, seqOf, List.length_map, g0, st, gAdd, big, z, if_true]
theorem ends_tx {f : Fn} {hp : HM} {loc : Loc} {rows : List (List Int)} {es : List Int} (hf : f [tD es] hp = .ok (.str (joinTx "," es)) hp) (hs : Sv es) (h0 : loc[0]? = some (some (plD rows es))) :
    eBin gAdd (eC (.str "ends ")) (eCall (argc 1 f) (aCons (eBin gIx (eVar 0) (eC (.int 1))) aNil)) loc hp = .ok (.str ("ends " ++ joinTx "," es)) hp := by
  have i1 : gIx (plD rows es) (.int 1) hp = .ok (tD es) hp := rfl
  have z : ("ends " : Str).length + (joinTx "," es).length ≤ 1000000 := by
    have h1 := set_len hs
    have h2 : ("ends " : Str).length = 5 := by decide +kernel
    omega
  simp only [eBin, eC, eCall, argc, aCons, aNil, eVar, h0, O.bind, i1, List.length_cons, List.length_nil, if_true, hf, gAdd, big, z]
/-! _law_plant_lines -/
def lpB : SM := (sDrop (eAppend (eVar 1) (eBin gAdd (eC (.str "state ")) (eCall (argc 2 m__law_join) (aCons (eC (.str " ")) (aCons (eComp (iSeq (eVar 2)) (tgName 3) mYes (eCall (argc 1 m__law_sign) (aCons (eVar 3) aNil)) [3]) aNil))))))
theorem row_str {k : Nat} {row : List Int} (h : Row k row) (k4 : k ≤ 40) : ("state " : Str).length + (Txt.join " " (row.map sg)).length ≤ 1000000 := by
  have h1 := sgj_len h k4
  have h2 : ("state " : Str).length = 6 := by decide +kernel
  omega
theorem rowE_ok {k : Nat} {row : List Int} (h : Row k row) (k4 : k ≤ 40) {f : EM} {loc : Loc} {hp : HM} (e : f loc hp = .ok (.str (Txt.join " " (row.map sg))) hp) : eBin gAdd (eC (.str "state ")) f loc hp = .ok (.str (rowTx row)) hp := by
  have z := row_str h k4
  simp only [eBin, eC, e, O.bind, gAdd, big, z, if_true, rowTx]
theorem call1 {m f loc hp r d} (h : f loc hp = .ok d hp) (hm : m [d] hp = r) : eCall (argc 1 m) (aCons f aNil) loc hp = r := by
  simp only [eCall, argc, aCons, aNil, h, O.bind, List.length_cons, List.length_nil, if_true, hm]
theorem call2 {m f g loc} {hp hp' : HM} {r d d2} (h : f loc hp = .ok d hp) (h2 : g loc hp = .ok d2 hp') (hm : m [d, d2] hp' = r) : eCall (argc 2 m) (aCons f (aCons g aNil)) loc hp = r := by
  simp only [eCall, argc, aCons, aNil, h, h2, O.bind, List.length_cons, List.length_nil, if_true, hm]
theorem call3 {m f g k loc} {hp hp' : HM} {r d d2 d3} (h : f loc hp = .ok d hp) (h2 : g loc hp = .ok d2 hp) (h3 : k loc hp = .ok d3 hp') (hm : m [d, d2, d3] hp' = r) : eCall (argc 3 m) (aCons f (aCons g (aCons k aNil))) loc hp = r := by
  simp only [eCall, argc, aCons, aNil, h, h2, h3, O.bind, List.length_cons, List.length_nil, if_true, hm]
theorem okL_app {n : Nat} : ∀ {xs ys : List D}, okL n (xs ++ ys) = (okL n xs && okL n ys)
  | [], _ => by simp [okL]
  | x :: xs, ys => by simp [okL, okL_app (xs := xs) (ys := ys), Bool.and_assoc]
theorem okL_str (n : Nat) : ∀ ws : List Str, okL n (ws.map D.str) = true
  | [] => rfl
  | w :: ws => by simp [okL, okD, okL_str n ws]
theorem lines_ok {k n : Nat} {rows : List (List Int)} {es : List Int} (P : Plant k n rows es) (k4 : k ≤ 16) (n1 : 1 ≤ n) (nz : n ≤ 16) {hp : HM} (wf : Wf hp) : m__law_plant_lines [plD rows es] hp = .ok (.lst ((plTx k rows es).map .str)) hp := by
  have hd := deeds_ok P n1 k4 (hp := hp) (loc := [some (plD rows es), none, none, none]) rfl
  obtain ⟨l, h, e, l2, l3, q1, q2⟩ := forI (it := ⟨rows.map tD, none⟩) (g := tgName 2) (body := lpB) rfl (rows.map tD)
    (fun j loc h => ∃ l2 l3, loc = [some (plD rows es), some (.ref hp.length), l2, l3] ∧ h = hp ++ [.lst (D.str ("deeds " ++ tx k) :: ((rows.take j).map fun r => D.str (rowTx r)))]) (by
      rintro j d hd loc h ⟨l2, l3, rfl, rfl⟩
      rw [List.getElem?_map] at hd
      have hj : j < rows.length := by
        rcases Nat.lt_or_ge j rows.length with hj | hj
        · exact hj
        · rw [List.getElem?_eq_none hj] at hd; cases hd
      rw [List.getElem?_eq_getElem hj] at hd
      simp only [Option.map_some, Option.some.injEq] at hd
      subst hd
      have R := P.rw (by omega) rows[j] (by simp)
      refine ⟨_, rfl, _, _, ?_, some (tD rows[j]), l3, rfl, rfl⟩
      have ec := sgC_ok (f := m__law_sign) (hp := hp ++ [.lst (D.str ("deeds " ++ tx k) :: ((rows.take j).map fun r => D.str (rowTx r)))]) (fun v hv => lsign_ok hv _) (i := 2) (j := 3) (loc := [some (plD rows es), some (.ref hp.length), some (tD rows[j]), l3]) R (by omega) rfl (by simp)
      have ej := ljoin_ok (y := " ") (by decide +kernel) (R.few (by omega)) (hp ++ [.lst (D.str ("deeds " ++ tx k) :: ((rows.take j).map fun r => D.str (rowTx r)))])
      have er := rowE_ok R (by omega) (call2 (m := m__law_join) (f := eC (.str " ")) rfl ec ej)
      have z2 : (D.str ("deeds " ++ tx k) :: ((rows.take j).map fun r => D.str (rowTx r))).length < 1000000 := by rw [List.length_cons, List.length_map, List.length_take]; have := P.len; omega
      have gl := get_last hp (.lst (D.str ("deeds " ++ tx k) :: ((rows.take j).map fun r => D.str (rowTx r))))
      rw [List.take_succ_eq_append_getElem hj]
      simp only [List.set_cons_succ, List.set_cons_zero]
      unfold lpB
      simp only [sDrop, eAppend, eVar, List.getElem?_cons_succ, List.getElem?_cons_zero, O.bind, gl, er, big, z2, if_true, sE, set_last, List.map_append, List.map_cons, List.map_nil, List.cons_append])
    (rows.map tD) [] [some (plD rows es), some (.ref hp.length), none, none] (hp ++ [.lst [D.str ("deeds " ++ tx k)]]) rfl ⟨none, none, rfl, by simp⟩
  subst q1 q2
  rw [List.length_map, List.take_length] at e
  have es' := ends_tx (f := m__law_set_text) (hp := hp ++ [.lst (D.str ("deeds " ++ tx k) :: rows.map fun r => D.str (rowTx r))]) (loc := [some (plD rows es), some (.ref hp.length), l2, l3]) (rows := rows) (lset_ok (P.sv (by omega)) _) (P.sv (by omega)) rfl
  have gl := get_last hp (.lst (D.str ("deeds " ++ tx k) :: rows.map fun r => D.str (rowTx r)))
  have i0 : ∀ h, gIx (plD rows es) (.int 0) h = .ok (rwsD rows) h := fun _ => rfl
  have z : rows.length + 1 + 1 ≤ 1000000 := by have := P.len; omega
  refine fo_rt (l := 4) (ext := [.lst (D.str ("deeds " ++ tx k) :: rows.map fun r => D.str (rowTx r))]) (d := .lst ((plTx k rows es).map .str)) wf ?_ (by simp only [frz, okD, okL_str, if_true])
  show (sSeq (sAsg (eLstT (aCons (eBin gAdd (eC (.str "deeds ")) (eCall gStrI (aCons (eCall gLen (aCons (eBin gIx (eBin gIx (eVar 0) (eC (.int 0))) (eC (.int 0))) aNil)) aNil))) aNil)) 1)
    (sSeq (sFor (iSeq (eBin gIx (eVar 0) (eC (.int 0)))) (tgName 2) lpB)
    (sRet (eBin gAdd (eVar 1) (eLst (aCons (eBin gAdd (eC (.str "ends ")) (eCall (argc 1 m__law_set_text) (aCons (eBin gIx (eVar 0) (eC (.int 1))) aNil))) aNil)))))) [some (plD rows es), none, none, none] hp = _
  have e1 : sAsg (eLstT (aCons (eBin gAdd (eC (.str "deeds ")) (eCall gStrI (aCons (eCall gLen (aCons (eBin gIx (eBin gIx (eVar 0) (eC (.int 0))) (eC (.int 0))) aNil)) aNil))) aNil)) 1 [some (plD rows es), none, none, none] hp = .nx [some (plD rows es), some (.ref hp.length), none, none] (hp ++ [.lst [D.str ("deeds " ++ tx k)]]) := by
    simp only [sAsg, eLstT, aCons, aNil, hd, O.bind, sE, List.length_cons, List.length_nil, big, List.set_cons_succ, List.set_cons_zero]
    simp
  have e2 : sFor (iSeq (eBin gIx (eVar 0) (eC (.int 0)))) (tgName 2) lpB [some (plD rows es), some (.ref hp.length), none, none] (hp ++ [.lst [D.str ("deeds " ++ tx k)]]) = .nx [some (plD rows es), some (.ref hp.length), l2, l3] (hp ++ [.lst (D.str ("deeds " ++ tx k) :: rows.map fun r => D.str (rowTx r))]) := by
    simp only [sFor, iSeq, eBin, eVar, eC, O.bind, List.getElem?_cons_zero, i0, rwsD, sE]
    exact e
  have e3 : eLst (aCons (eBin gAdd (eC (.str "ends ")) (eCall (argc 1 m__law_set_text) (aCons (eBin gIx (eVar 0) (eC (.int 1))) aNil))) aNil) [some (plD rows es), some (.ref hp.length), l2, l3] (hp ++ [.lst (D.str ("deeds " ++ tx k) :: rows.map fun r => D.str (rowTx r))]) = .ok (.lst [.str ("ends " ++ joinTx "," es)]) (hp ++ [.lst (D.str ("deeds " ++ tx k) :: rows.map fun r => D.str (rowTx r))]) := by
    simp only [eLst, aCons, aNil, es', O.bind, List.length_cons, List.length_nil, big]
    simp
  simp only [sSeq, e1, e2, sRet, eBin, eVar, List.getElem?_cons_succ, List.getElem?_cons_zero, O.bind]
  rw [e3]
  simp [gAdd, seqOf, lstOf, gl, big, z, plTx, sE]
end Gm

namespace Gm
open PySem hiding Loc
open L2 Ms
/-! write_plant -/
def wpR : EM := (eBin gAdd (eC (.str "state ")) (eM1 gJoin (eC (.str " ")) (eComp (iSeq (eVar 2)) (tgName 3) mYes (eCall (argc 1 m_sign_of) (aCons (eVar 3) aNil)) [3])))
def wpC : EM := (eComp (iSeq (eBin gIx (eVar 0) (eC (.int 0)))) (tgName 2) mYes wpR [2])
def wpH : EM := (eBin gAdd (eC (.str "deeds ")) (eCall gStrI (aCons (eCall gLen (aCons (eBin gIx (eBin gIx (eVar 0) (eC (.int 0))) (eC (.int 0))) aNil)) aNil)))
def wpE : EM := (eBin gAdd (eC (.str "ends ")) (eCall (argc 1 m_write_set) (aCons (eBin gIx (eVar 0) (eC (.int 1))) aNil)))
def wpB : SM := (sSeq (sAsg (eLstT (aCons wpH aNil)) 1) (sSeq (sDrop (eExtend (eVar 1) wpC)) (sRet (eM1 gJoin (eC (.str "\n")) (eBin gAdd (eVar 1) (eLst (aCons wpE aNil)))))))
theorem jn_ok {y : Str} (hy : y.length ≤ 1) {ws : List Str} (hw : Few ws) {f : EM} {loc : Loc} {hp : HM} (e : f loc hp = .ok (.lst (ws.map .str)) hp) : eM1 gJoin (eC (.str y)) f loc hp = .ok (.str (Txt.join y ws)) hp := by
  simp only [eM1, eC, e, O.bind, join_ok hy hw]
theorem wplant_ok {k n : Nat} {rows : List (List Int)} {es : List Int} (P : Plant k n rows es) (k4 : k ≤ 4) (n1 : 1 ≤ n) (nz : n ≤ 16) {hp : HM} (wf : Wf hp) : m_write_plant [plD rows es] hp = .ok (.str (Txt.join "\n" (plTx k rows es))) hp := by
  have hd : wpH [some (plD rows es), none, none, none] hp = _ := deeds_ok P n1 (by omega) (hp := hp) rfl
  have i0 : ∀ h, gIx (plD rows es) (.int 0) h = .ok (rwsD rows) h := fun _ => rfl
  refine fo_rt (l := 4) (ext := [.lst (D.str ("deeds " ++ tx k) :: rows.map fun r => D.str (rowTx r))]) (d := .str (Txt.join "\n" (plTx k rows es))) (body := wpB) wf ?_ rfl
  show wpB [some (plD rows es), none, none, none] hp = _
  have e1 : sAsg (eLstT (aCons wpH aNil)) 1 [some (plD rows es), none, none, none] hp = .nx [some (plD rows es), some (.ref hp.length), none, none] (hp ++ [.lst [D.str ("deeds " ++ tx k)]]) := by
    simp only [sAsg, eLstT, aCons, aNil, hd, O.bind, sE, List.length_cons, List.length_nil, big, List.set_cons_succ, List.set_cons_zero]
    simp
  have ec : wpC [some (plD rows es), some (.ref hp.length), none, none] (hp ++ [.lst [D.str ("deeds " ++ tx k)]]) = .ok (.lst (rows.map fun r => D.str (rowTx r))) (hp ++ [.lst [D.str ("deeds " ++ tx k)]]) :=
    comp_ok (xs := rows) (dom := tD) (out := fun r => D.str (rowTx r)) (seq_tup (by simp only [eBin, eVar, eC, List.getElem?_cons_zero, O.bind, i0])) (fun r hr => ⟨_, rfl, by
      have R := P.rw (by omega) r hr
      exact rowE_ok R (by omega) (jn_ok (by decide +kernel) (R.few (by omega)) (sgC_ok (f := m_sign_of) (fun v hv => wsign_ok hv _) R (by omega) rfl (by simp [wipeL])))⟩) (by have := P.len; omega)
  have gl := get_last hp (.lst [D.str ("deeds " ++ tx k)])
  have gl2 := get_last hp (.lst (D.str ("deeds " ++ tx k) :: rows.map fun r => D.str (rowTx r)))
  have z : rows.length + 1 ≤ 1000000 := by have := P.len; omega
  have z2 : [D.str ("deeds " ++ tx k)].length + (rows.map fun r => D.str (rowTx r)).length ≤ 1000000 := by simp; omega
  have e2 : sDrop (eExtend (eVar 1) wpC) [some (plD rows es), some (.ref hp.length), none, none] (hp ++ [.lst [D.str ("deeds " ++ tx k)]]) = .nx [some (plD rows es), some (.ref hp.length), none, none] (hp ++ [.lst (D.str ("deeds " ++ tx k) :: rows.map fun r => D.str (rowTx r))]) := by
    simp only [sDrop, eExtend, eVar, List.getElem?_cons_succ, List.getElem?_cons_zero, O.bind, gl, ec, big, z2, if_true, sE, set_last, List.cons_append, List.nil_append]
  have es' : wpE [some (plD rows es), some (.ref hp.length), none, none] (hp ++ [.lst (D.str ("deeds " ++ tx k) :: rows.map fun r => D.str (rowTx r))]) = _ := ends_tx (f := m_write_set) (rows := rows) (wset_ok (P.sv (by omega)) _) (P.sv (by omega)) rfl
  have e3 : eBin gAdd (eVar 1) (eLst (aCons wpE aNil)) [some (plD rows es), some (.ref hp.length), none, none] (hp ++ [.lst (D.str ("deeds " ++ tx k) :: rows.map fun r => D.str (rowTx r))]) = .ok (.lst ((plTx k rows es).map .str)) (hp ++ [.lst (D.str ("deeds " ++ tx k) :: rows.map fun r => D.str (rowTx r))]) := by
    have z3 : rows.length + 1 + 1 ≤ 1000000 := by have := P.len; omega
    simp only [eBin, eVar, List.getElem?_cons_succ, List.getElem?_cons_zero, O.bind, eLst, aCons, aNil, es', List.length_cons, List.length_nil, big]
    simp [gAdd, seqOf, lstOf, gl2, big, z3, plTx]
  have e4 := jn_ok (y := "\n") (by decide +kernel) (P.lns k4 nz).f e3
  simp only [wpB, sSeq, e1, e2, sRet, e4, sE]
/-! the reader -/
abbrev rdF (n : Nat) (k : Int) (p : D) : List (Str × D) := [("_deeds", .int k), ("_rows", .ref (n + 1)), ("plant", p)]
abbrev rdO (n : Nat) (k : Int) (p : D) : MO := .ins "PlantReader" (rdF n k p)
abbrev RS (hp : HM) (k : Int) (rows : List D) (p : D) : HM := hp ++ [rdO hp.length k p, .lst rows]
theorem rs_0 (hp : HM) (x y : MO) : (hp ++ [x, y])[hp.length]? = some x := by simp
theorem rs_1 (hp : HM) (x y : MO) : (hp ++ [x, y])[hp.length + 1]? = some y := by
  rw [List.getElem?_append_right (by omega)]; simp
theorem rs_s0 (hp : HM) (x y z : MO) : (hp ++ [x, y]).set hp.length z = hp ++ [z, y] := by simp
theorem rs_s1 (hp : HM) (x y z : MO) : (hp ++ [x, y]).set (hp.length + 1) z = hp ++ [x, z] := by
  rw [List.set_append_right _ _ (by omega)]; simp
section
variable {hp : HM} {k : Int} {rows : List D} {p : D} {loc : Loc}
theorem rd_ins (hp : HM) (k : Int) (rows : List D) (p : D) : insOf (RS hp k rows p) (.ref hp.length) = some (hp.length, ("PlantReader" : Str), rdF hp.length k p) := by
  unfold insOf
  simp only
  rw [rs_0]
theorem fld_d (h0 : loc[0]? = some (some (.ref hp.length))) : eFld "PlantReader" "_deeds" (eVar 0) loc (RS hp k rows p) = .ok (.int k) (RS hp k rows p) := by
  have e : (rdF hp.length k p).lookup ("_deeds" : Str) = some (.int k) := rfl
  simp only [eFld, eVar, h0, O.bind, rd_ins, e, if_true]
theorem fld_r (h0 : loc[0]? = some (some (.ref hp.length))) : eFld "PlantReader" "_rows" (eVar 0) loc (RS hp k rows p) = .ok (.ref (hp.length + 1)) (RS hp k rows p) := by
  have e : (rdF hp.length k p).lookup ("_rows" : Str) = some (.ref (hp.length + 1)) := by kernel_rfl
  simp only [eFld, eVar, h0, O.bind, rd_ins, e, if_true]
theorem fld_p (h0 : loc[0]? = some (some (.ref hp.length))) : eFld "PlantReader" "plant" (eVar 0) loc (RS hp k rows p) = .ok p (RS hp k rows p) := by
  have e : (rdF hp.length k p).lookup ("plant" : Str) = some p := by kernel_rfl
  simp only [eFld, eVar, h0, O.bind, rd_ins, e, if_true]
theorem fst_d {f : EM} {i : Int} (h0 : loc[0]? = some (some (.ref hp.length))) (e : f loc (RS hp k rows p) = .ok (.int i) (RS hp k rows p)) : sFldS "PlantReader" "_deeds" f (eVar 0) loc (RS hp k rows p) = .nx loc (RS hp i rows p) := by
  have e2 : putD "_deeds" (.int i) (rdF hp.length k p) = rdF hp.length i p := by kernel_rfl
  simp only [sFldS, e, sE, eVar, h0, rd_ins, e2, List.length_cons, List.length_nil]
  simp
theorem fst_p {f : EM} {q : D} (h0 : loc[0]? = some (some (.ref hp.length))) (e : f loc (RS hp k rows p) = .ok q (RS hp k rows p)) : sFldS "PlantReader" "plant" f (eVar 0) loc (RS hp k rows p) = .nx loc (RS hp k rows q) := by
  have e2 : putD "plant" q (rdF hp.length k p) = rdF hp.length k q := by kernel_rfl
  simp only [sFldS, e, sE, eVar, h0, rd_ins, e2, List.length_cons, List.length_nil]
  simp
theorem lst_r : lstOf (RS hp k rows p) (.ref (hp.length + 1)) = some rows := by
  simp only [lstOf, rs_1]
theorem app_r {f : EM} {d : D} (h0 : loc[0]? = some (some (.ref hp.length))) (hz : rows.length < 1000000) (e : f loc (RS hp k rows p) = .ok d (RS hp k rows p)) : sDrop (eAppend (eFld "PlantReader" "_rows" (eVar 0)) f) loc (RS hp k rows p) = .nx loc (RS hp k (rows ++ [d]) p) := by
  simp only [sDrop, eAppend, fld_r h0, O.bind, rs_1, e, big, hz, if_true, sE, rs_s1]
theorem req_st {f : EM} {b : Bool} {h : HM} (e : f loc h = .ok (.bl b) h) : sDrop (eCall (argc 1 m_require) (aCons f aNil)) loc h = if b = true then .nx loc h else .exc bt loc h := by
  cases b with
  | true => simp only [sDrop, call1 e (req_ok h), sE, if_true]
  | false => simp only [sDrop, call1 e (req_bad h), sE, Bool.false_eq_true, if_false]
end
/-! take -/
def tkD : SM := (sSeq (sDrop (eCall (argc 1 m_require) (aCons (eBin gEq (eVar 2) (eC (.str "deeds"))) aNil)))
    (sSeq (sAsg (eCall (argc 1 m_number_of) (aCons (eVar 4) aNil)) 5)
    (sSeq (sDrop (eCall (argc 1 m_require) (aCons (eChain gLe gLe (eC (.int 1)) (eVar 5) (eC (.int (4)))) aNil)))
    (sFldS "PlantReader" "_deeds" (eVar 5) (eVar 0)))))
def tkC : EM := (eComp (iSeq (eM1 gSplit (eVar 4) (eC (.str " ")))) (tgName 8) mYes (eCall (argc 1 m_read_sign) (aCons (eVar 8) aNil)) [8])
def tkQ : EM := (eAnd (eBin gEq (eCall gLen (aCons (eVar 6) aNil)) (eFld "PlantReader" "_deeds" (eVar 0))) (eAnd (eBin gLt (eCall gMaxT (aCons (eVar 6) aNil)) (eC (.int (16)))) (eBin gLt (eCall gLen (aCons (eFld "PlantReader" "_rows" (eVar 0)) aNil)) (eC (.int (16))))))
def tkS : SM := (sSeq (sAsg (eCall gTuple (aCons tkC aNil)) 6)
    (sSeq (sDrop (eCall (argc 1 m_require) (aCons tkQ aNil)))
    (sDrop (eAppend (eFld "PlantReader" "_rows" (eVar 0)) (eVar 6)))))
def tkE : SM := (sSeq (sDrop (eCall (argc 1 m_require) (aCons (eBin gEq (eVar 2) (eC (.str "ends"))) aNil)))
    (sSeq (sAsg (eTup (aCons (eCall gTuple (aCons (eFld "PlantReader" "_rows" (eVar 0)) aNil)) (aCons (eCall (argc 1 m_read_set) (aCons (eVar 4) aNil)) aNil))) 7)
    (sSeq (sDrop (eCall (argc 1 m_require) (aCons (eCall (argc 1 m_is_plant) (aCons (eVar 7) aNil)) aNil)))
    (sFldS "PlantReader" "plant" (eVar 7) (eVar 0)))))
def tkR : EM := (eAnd (eBin gEq (eVar 3) (eC (.str " "))) (eBin gIsN (eFld "PlantReader" "plant" (eVar 0)) (eC .non)))
def tkB : SM := (sSeq (sAsgT (eM1 gPart (eVar 1) (eC (.str " "))) (tgTup 3 (tgsCons (tgName 2) (tgsCons (tgName 3) (tgsCons (tgName 4) tgsNil)))))
    (sSeq (sDrop (eCall (argc 1 m_require) (aCons tkR aNil)))
    (sIf (mT (eBin gEq (eFld "PlantReader" "_deeds" (eVar 0)) (eC (.int 0)))) tkD (sIf (mT (eBin gEq (eVar 2) (eC (.str "state")))) tkS tkE))))
section
variable {hp : HM} {k : Int} {rows : List D} {p : D} {line w b r : Str}
abbrev tloc (n : Nat) (line w b r : Str) : Loc := [some (.ref n), some (.str line), some (.str w), some (.str b), some (.str r), none, none, none, none]
theorem tk_1 (hl : line.length ≤ 1000) (hq : Txt.partition line " " = (w, b, r)) (h : HM) (n : Nat) : sAsgT (eM1 gPart (eVar 1) (eC (.str " "))) (tgTup 3 (tgsCons (tgName 2) (tgsCons (tgName 3) (tgsCons (tgName 4) tgsNil)))) [some (.ref n), some (.str line), none, none, none, none, none, none, none] h = .nx (tloc n line w b r) h := by
  have z : line.length ≤ 1000000 := by omega
  have e : gPart (.str line) (.str " ") h = .ok (.tup [.str w, .str b, .str r]) h := by
    have hb : (((" " : Str).length == 0) = false) := by decide +kernel
    simp only [gPart, hb, big, z, hq, and_self, if_true]
  simp only [sAsgT, eM1, eVar, eC, List.getElem?_cons_succ, List.getElem?_cons_zero, O.bind, e, sE]
  rfl
/-- the plant is there, or no blank -/
theorem take_no (hl : line.length ≤ 1000) (hq : Txt.partition line " " = (w, b, r)) (hb : b ≠ " " ∨ ∃ ds, p = .tup ds) : m_PlantReader_take [.ref hp.length, .str line] (RS hp k rows p) = .exc bt (RS hp k rows p) := by
  refine fk_exc (l := 9) (body := tkB) (loc := tloc hp.length line w b r) ?_
  have eR : tkR (tloc hp.length line w b r) (RS hp k rows p) = .ok (.bl false) (RS hp k rows p) := by
    by_cases h : b = " "
    · rcases hb with hb | ⟨ds, rfl⟩
      · exact absurd h hb
      · subst h
        have e := fld_p (hp := hp) (k := k) (rows := rows) (p := .tup ds) (loc := tloc hp.length line w " " r) rfl
        simp only [tkR, eAnd, eBin, eVar, eC, List.getElem?_cons_succ, List.getElem?_cons_zero, O.bind, gEq, eqS, e, gIsN, isN]
        simp
    · simp only [tkR, eAnd, eBin, eVar, eC, List.getElem?_cons_succ, List.getElem?_cons_zero, O.bind, gEq, eqS, h]
      simp [h]
  show tkB [some (.ref hp.length), some (.str line), none, none, none, none, none, none, none] (RS hp k rows p) = _
  simp only [tkB, sSeq, tk_1 hl hq, req_st eR]
  simp
/-- the rest -/
theorem take_go (hl : line.length ≤ 1000) (hq : Txt.partition line " " = (w, (" " : Str), r)) {o : SO} (h : (if k = 0 then tkD else if w = "state" then tkS else tkE) (tloc hp.length line w " " r) (RS hp k rows .non) = o) :
    tkB [some (.ref hp.length), some (.str line), none, none, none, none, none, none, none] (RS hp k rows .non) = o := by
  have eR : tkR (tloc hp.length line w " " r) (RS hp k rows .non) = .ok (.bl true) (RS hp k rows .non) := by
    have e := fld_p (hp := hp) (k := k) (rows := rows) (p := .non) (loc := tloc hp.length line w " " r) rfl
    simp only [tkR, eAnd, eBin, eVar, eC, List.getElem?_cons_succ, List.getElem?_cons_zero, O.bind, gEq, eqS, e, gIsN, isN]
    simp
  have ed := fld_d (hp := hp) (k := k) (rows := rows) (p := .non) (loc := tloc hp.length line w " " r) rfl
  have e1 : mT (eBin gEq (eFld "PlantReader" "_deeds" (eVar 0)) (eC (.int 0))) (tloc hp.length line w " " r) (RS hp k rows .non) = .ok (decide (k = 0)) (RS hp k rows .non) := by
    simp only [mT, eBin, ed, eC, O.bind, gEq, eqS]
  have e2 : mT (eBin gEq (eVar 2) (eC (.str "state"))) (tloc hp.length line w " " r) (RS hp k rows .non) = .ok (decide (w = "state")) (RS hp k rows .non) := by
    simp only [mT, eBin, eVar, eC, List.getElem?_cons_succ, List.getElem?_cons_zero, O.bind, gEq, eqS]
  simp only [tkB, sSeq, tk_1 hl hq, req_st eR, if_true, sIf, e1, e2, sE]
  by_cases h1 : k = 0
  · simp only [h1, decide_true, if_true] at h ⊢; exact h
  · by_cases h2 : w = "state"
    · simp only [h1, h2, decide_true, decide_false, Bool.false_eq_true, if_false, if_true] at h ⊢; exact h
    · simp only [h1, h2, decide_false, Bool.false_eq_true, if_false] at h ⊢; exact h
theorem take_nx (hl : line.length ≤ 1000) (hq : Txt.partition line " " = (w, (" " : Str), r)) {l : Loc} {h' : HM} (h : (if k = 0 then tkD else if w = "state" then tkS else tkE) (tloc hp.length line w " " r) (RS hp k rows .non) = .nx l h') :
    m_PlantReader_take [.ref hp.length, .str line] (RS hp k rows .non) = .ok .non h' := fk_nx (l := 9) (body := tkB) (take_go hl hq h)
theorem take_ex (hl : line.length ≤ 1000) (hq : Txt.partition line " " = (w, (" " : Str), r)) {l : Loc} {h' : HM} {x : Exn} (h : (if k = 0 then tkD else if w = "state" then tkS else tkE) (tloc hp.length line w " " r) (RS hp k rows .non) = .exc x l h') :
    m_PlantReader_take [.ref hp.length, .str line] (RS hp k rows .non) = .exc x h' := fk_exc (l := 9) (body := tkB) (take_go hl hq h)
end
end Gm

namespace Gm
open PySem hiding Loc
open L2 Ms
theorem aCons_def (f : EM) (fs : AM) (loc : Loc) (hp : HM) : aCons f fs loc hp = (f loc hp).bind fun d hp1 => (fs loc hp1).bind fun ds hp2 => .ok (d :: ds) hp2 := rfl
section
variable {hp h : HM} {n : Nat} {k : Int} {rows : List D} {line w b r : Str} {l5 l6 l7 l8 : Option D}
/-! deeds -/
theorem weq {loc : Loc} (x : Str) {w : Str} {i : Nat} (hi : loc[i]? = some (some (.str w))) (h : HM) : eBin gEq (eVar i) (eC (.str x)) loc h = .ok (.bl (decide (w = x))) h := by
  simp only [eBin, eVar, hi, eC, O.bind, gEq, eqS]
theorem tkD_word (hw : w ≠ "deeds") : tkD (tloc n line w " " r) h = .exc bt (tloc n line w " " r) h := by
  have e := req_st (weq (loc := tloc n line w " " r) "deeds" (i := 2) rfl h)
  simp only [hw, decide_false, Bool.false_eq_true, if_false] at e
  simp only [tkD, sSeq, e]
theorem tkD_num (e : m_number_of [.str r] h = .exc bt h) : ∃ l, tkD (tloc n line w " " r) h = .exc bt l h := by
  by_cases hw : w = "deeds"
  · subst hw
    have e1 := req_st (weq (loc := tloc n line "deeds" " " r) "deeds" (i := 2) rfl h)
    simp only [decide_true, if_true] at e1
    have e2 : eCall (argc 1 m_number_of) (aCons (eVar 4) aNil) (tloc n line "deeds" " " r) h = _ := call1 rfl e
    exact ⟨tloc n line "deeds" " " r, by simp only [tkD, sSeq, e1, sAsg, e2, sE]⟩
  · exact ⟨_, tkD_word hw⟩
theorem chain14 {loc : Loc} {i : Int} (j : Nat) (hj : loc[j]? = some (some (.int i))) (h : HM) : eChain gLe gLe (eC (.int 1)) (eVar j) (eC (.int (4))) loc h = .ok (.bl (decide (1 ≤ i) && decide (i ≤ 4))) h := by
  by_cases h1 : (1 : Int) ≤ i
  · simp [eChain, eC, eVar, hj, O.bind, gLe, gI0, h1]
  · simp [eChain, eC, eVar, hj, O.bind, gLe, gI0, h1]
theorem tkD_rng {i : Int} (e : m_number_of [.str r] h = .ok (.int i) h) (hi : ¬ (1 ≤ i ∧ i ≤ 4)) : ∃ l, tkD (tloc n line w " " r) h = .exc bt l h := by
  by_cases hw : w = "deeds"
  · subst hw
    have e1 := req_st (weq (loc := tloc n line "deeds" " " r) "deeds" (i := 2) rfl h)
    simp only [decide_true, if_true] at e1
    have e2 : eCall (argc 1 m_number_of) (aCons (eVar 4) aNil) (tloc n line "deeds" " " r) h = _ := call1 rfl e
    have e3 := req_st (chain14 (loc := [some (.ref n), some (.str line), some (.str "deeds"), some (.str " "), some (.str r), some (.int i), none, none, none]) 5 rfl h)
    have hf : (decide (1 ≤ i) && decide (i ≤ 4)) = false := by
      rw [Bool.and_eq_false_iff]; simp only [decide_eq_false_iff_not]; omega
    rw [hf] at e3
    simp only [Bool.false_eq_true, if_false] at e3
    exact ⟨[some (.ref n), some (.str line), some (.str "deeds"), some (.str " "), some (.str r), some (.int i), none, none, none], by simp only [tkD, sSeq, e1, sAsg, e2, sE, List.set_cons_succ, List.set_cons_zero, e3]⟩
  · exact ⟨_, tkD_word hw⟩
theorem tkD_ok {i : Int} (e : ∀ h, m_number_of [.str r] h = .ok (.int i) h) (hi : 1 ≤ i ∧ i ≤ 4) {p : D} : ∃ l, tkD (tloc hp.length line "deeds" " " r) (RS hp 0 rows p) = .nx l (RS hp i rows p) := by
  have e1 := req_st (weq (loc := tloc hp.length line "deeds" " " r) "deeds" (i := 2) rfl (RS hp 0 rows p))
  simp only [decide_true, if_true] at e1
  have e2 : eCall (argc 1 m_number_of) (aCons (eVar 4) aNil) (tloc hp.length line "deeds" " " r) (RS hp 0 rows p) = _ := call1 rfl (e _)
  have e3 := req_st (chain14 (loc := [some (.ref hp.length), some (.str line), some (.str "deeds"), some (.str " "), some (.str r), some (.int i), none, none, none]) 5 rfl (RS hp 0 rows p))
  have hf : (decide (1 ≤ i) && decide (i ≤ 4)) = true := by
    rw [Bool.and_eq_true]; simp only [decide_eq_true_eq]; omega
  rw [hf] at e3
  simp only [if_true] at e3
  have e4 := fst_d (hp := hp) (k := 0) (rows := rows) (p := p) (f := eVar 5) (i := i) (loc := [some (.ref hp.length), some (.str line), some (.str "deeds"), some (.str " "), some (.str r), some (.int i), none, none, none]) rfl rfl
  exact ⟨_, by simp only [tkD, sSeq, e1, sAsg, e2, sE, List.set_cons_succ, List.set_cons_zero, e3]; exact e4⟩
/-! state -/
theorem tkS_exc (e : tkC (tloc n line w " " r) h = .exc bt h) : tkS (tloc n line w " " r) h = .exc bt (tloc n line w " " r) h := by
  simp only [tkS, sSeq, sAsg, eCall, aCons, aNil, e, O.bind, sE]
abbrev sloc (n : Nat) (line w r : Str) (vs : List Int) : Loc := [some (.ref n), some (.str line), some (.str w), some (.str " "), some (.str r), none, some (tD vs), none, none]
theorem intsOf_map : ∀ vs : List Int, intsOf (vs.map D.int) = some vs
  | [] => rfl
  | v :: vs => by simp [intsOf, intsOf_map vs]
theorem max_ok {v : Int} {vs : List Int} (h : HM) : gMaxT [tD (v :: vs)] h = .ok (.int (maxI v vs)) h := by
  have := intsOf_map (v :: vs)
  simp only [gMaxT, gOne, this]
theorem tkQ_ok {v : Int} {vs : List Int} : tkQ (sloc hp.length line w r (v :: vs)) (RS hp k rows .non) = .ok (.bl (decide (((v :: vs).length : Int) = k) && (decide (maxI v vs < 16) && decide ((rows.length : Int) < 16)))) (RS hp k rows .non) := by
  have ed := fld_d (hp := hp) (k := k) (rows := rows) (p := .non) (loc := sloc hp.length line w r (v :: vs)) rfl
  have er := fld_r (hp := hp) (k := k) (rows := rows) (p := .non) (loc := sloc hp.length line w r (v :: vs)) rfl
  have em := max_ok (v := v) (vs := vs) (RS hp k rows .non)
  have el : eCall gLen (aCons (eVar 6) aNil) (sloc hp.length line w r (v :: vs)) (RS hp k rows .non) = .ok (.int (v :: vs).length) (RS hp k rows .non) := by
    simp only [eCall, aCons, aNil, eVar, List.getElem?_cons_succ, List.getElem?_cons_zero, O.bind, gLen, gOne, seqOf, List.length_map]
  have e1 : eBin gEq (eCall gLen (aCons (eVar 6) aNil)) (eFld "PlantReader" "_deeds" (eVar 0)) (sloc hp.length line w r (v :: vs)) (RS hp k rows .non) = .ok (.bl (decide (((v :: vs).length : Int) = k))) (RS hp k rows .non) := by
    simp only [eBin, el, ed, O.bind, gEq, eqS]
  have e2 : eBin gLt (eCall gMaxT (aCons (eVar 6) aNil)) (eC (.int (16))) (sloc hp.length line w r (v :: vs)) (RS hp k rows .non) = .ok (.bl (decide (maxI v vs < 16))) (RS hp k rows .non) := by
    simp only [eBin, eCall, aCons, aNil, eVar, List.getElem?_cons_succ, List.getElem?_cons_zero, O.bind, em, eC, gLt, gI0]
  have e3 : eBin gLt (eCall gLen (aCons (eFld "PlantReader" "_rows" (eVar 0)) aNil)) (eC (.int (16))) (sloc hp.length line w r (v :: vs)) (RS hp k rows .non) = .ok (.bl (decide ((rows.length : Int) < 16))) (RS hp k rows .non) := by
    simp only [eBin, eCall, aCons, aNil, er, O.bind, gLen, gOne, seqOf, lst_r, eC, gLt, gI0]
  unfold tkQ
  simp only [eAnd, e1, e2, e3, O.bind]
  cases decide (((v :: vs).length : Int) = k) <;> cases decide (maxI v vs < 16) <;> rfl
theorem tkS_val {v : Int} {vs : List Int} (e : tkC (tloc hp.length line w " " r) (RS hp k rows .non) = .ok (.lst ((v :: vs).map .int)) (RS hp k rows .non)) (hz : rows.length < 1000000) :
    tkS (tloc hp.length line w " " r) (RS hp k rows .non) = if (decide (((v :: vs).length : Int) = k) && (decide (maxI v vs < 16) && decide ((rows.length : Int) < 16))) = true then .nx (sloc hp.length line w r (v :: vs)) (RS hp k (rows ++ [tD (v :: vs)]) .non) else .exc bt (sloc hp.length line w r (v :: vs)) (RS hp k rows .non) := by
  have e1 : sAsg (eCall gTuple (aCons tkC aNil)) 6 (tloc hp.length line w " " r) (RS hp k rows .non) = .nx (sloc hp.length line w r (v :: vs)) (RS hp k rows .non) := by
    simp only [sAsg, eCall, aCons, aNil, e, O.bind, gTuple, gOne, seqOf, lstOf, sE, List.set_cons_succ, List.set_cons_zero]
  have e2 := req_st (tkQ_ok (hp := hp) (k := k) (rows := rows) (line := line) (w := w) (r := r) (v := v) (vs := vs))
  have e3 := app_r (hp := hp) (k := k) (rows := rows) (p := .non) (f := eVar 6) (d := tD (v :: vs)) (loc := sloc hp.length line w r (v :: vs)) rfl hz rfl
  by_cases hB : (decide (((v :: vs).length : Int) = k) && (decide (maxI v vs < 16) && decide ((rows.length : Int) < 16))) = true
  · rw [if_pos hB] at e2 ⊢
    simp only [tkS, sSeq, e1, e2]; exact e3
  · rw [if_neg hB] at e2 ⊢
    simp only [tkS, sSeq, e1, e2]
theorem maxI_lt {b : Int} : ∀ (vs : List Int) (m : Int), m < b → (∀ v ∈ vs, v < b) → maxI m vs < b
  | [], m, h, _ => h
  | v :: vs, m, h, hv => maxI_lt vs _ (by have := hv v (by simp); split <;> omega) (fun x hx => hv x (by simp [hx]))
/-! ends -/
theorem tkE_word (hw : w ≠ "ends") : tkE (tloc n line w " " r) h = .exc bt (tloc n line w " " r) h := by
  have e := req_st (weq (loc := tloc n line w " " r) "ends" (i := 2) rfl h)
  simp only [hw, decide_false, Bool.false_eq_true, if_false] at e
  simp only [tkE, sSeq, e]
theorem tup_rows (hl : n = hp.length) : eCall gTuple (aCons (eFld "PlantReader" "_rows" (eVar 0)) aNil) (tloc n line w " " r) (RS hp k rows .non) = .ok (.tup rows) (RS hp k rows .non) := by
  have er := fld_r (hp := hp) (k := k) (rows := rows) (p := .non) (loc := tloc n line w " " r) (by rw [hl]; rfl)
  simp only [eCall, aCons, aNil, er, O.bind, gTuple, gOne, seqOf, lst_r]
theorem tkE_set (e : ∀ h, m_read_set [.str r] h = .exc bt h) : ∃ l, tkE (tloc hp.length line w " " r) (RS hp k rows .non) = .exc bt l (RS hp k rows .non) := by
  by_cases hw : w = "ends"
  · subst hw
    have e1 := req_st (weq (loc := tloc hp.length line "ends" " " r) "ends" (i := 2) rfl (RS hp k rows .non))
    simp only [decide_true, if_true] at e1
    have e2 : eCall (argc 1 m_read_set) (aCons (eVar 4) aNil) (tloc hp.length line "ends" " " r) (RS hp k rows .non) = _ := call1 rfl (e _)
    have e3 := tup_rows (hp := hp) (k := k) (rows := rows) (line := line) (w := "ends") (r := r) rfl
    refine ⟨tloc hp.length line "ends" " " r, ?_⟩
    simp only [tkE, sSeq, e1, sAsg, eTup, aCons_def, aNil, e3, e2, O.bind, sE]
  · exact ⟨_, tkE_word hw⟩
theorem tkE_val {vs : List Int} {q : Bool} (e : ∀ h, m_read_set [.str r] h = .ok (tD vs) h) (hq : ∀ h, m_is_plant [.tup [.tup rows, tD vs]] h = .ok (.bl q) h) :
    ∃ l, tkE (tloc hp.length line "ends" " " r) (RS hp k rows .non) = if q = true then .nx l (RS hp k rows (.tup [.tup rows, tD vs])) else .exc bt l (RS hp k rows .non) := by
  have e1 := req_st (weq (loc := tloc hp.length line "ends" " " r) "ends" (i := 2) rfl (RS hp k rows .non))
  simp only [decide_true, if_true] at e1
  have e2 : eCall (argc 1 m_read_set) (aCons (eVar 4) aNil) (tloc hp.length line "ends" " " r) (RS hp k rows .non) = _ := call1 rfl (e _)
  have e3 := tup_rows (hp := hp) (k := k) (rows := rows) (line := line) (w := "ends") (r := r) rfl
  have e4 : sAsg (eTup (aCons (eCall gTuple (aCons (eFld "PlantReader" "_rows" (eVar 0)) aNil)) (aCons (eCall (argc 1 m_read_set) (aCons (eVar 4) aNil)) aNil))) 7 (tloc hp.length line "ends" " " r) (RS hp k rows .non) = .nx [some (.ref hp.length), some (.str line), some (.str "ends"), some (.str " "), some (.str r), none, none, some (.tup [.tup rows, tD vs]), none] (RS hp k rows .non) := by
    simp only [sAsg, eTup, aCons_def, e3, e2, O.bind, aNil, sE, List.length_cons, List.length_nil, big, List.set_cons_succ, List.set_cons_zero]
    simp
  have e5 := req_st (call1 (m := m_is_plant) (f := eVar 7) (loc := [some (.ref hp.length), some (.str line), some (.str "ends"), some (.str " "), some (.str r), none, none, some (.tup [.tup rows, tD vs]), none]) (hp := RS hp k rows .non) rfl (hq _))
  have e6 := fst_p (hp := hp) (k := k) (rows := rows) (p := .non) (f := eVar 7) (q := .tup [.tup rows, tD vs]) (loc := [some (.ref hp.length), some (.str line), some (.str "ends"), some (.str " "), some (.str r), none, none, some (.tup [.tup rows, tD vs]), none]) rfl rfl
  refine ⟨[some (.ref hp.length), some (.str line), some (.str "ends"), some (.str " "), some (.str r), none, none, some (.tup [.tup rows, tD vs]), none], ?_⟩
  cases q with
  | true => simp only [if_true] at e5 ⊢; simp only [tkE, sSeq, e1, e4, e5]; exact e6
  | false => simp only [Bool.false_eq_true, if_false] at e5 ⊢; simp only [tkE, sSeq, e1, e4, e5]
end
end Gm

namespace Gm
open PySem hiding Loc
open L2 Ms
theorem part_word {w : Str} (h : 32 ∉ TL.tl w) (r : Str) : Txt.partition (w ++ " " ++ r) " " = (w, (" " : Str), r) := TL.partition_app (s := 32) (S := []) rfl h
theorem sp_state : ("state " : Str) = "state" ++ " " := TL.ext_tl (by decide +kernel)
theorem sp_deeds : ("deeds " : Str) = "deeds" ++ " " := TL.ext_tl (by decide +kernel)
theorem sp_ends : ("ends " : Str) = "ends" ++ " " := TL.ext_tl (by decide +kernel)
theorem part_state (r : Str) : Txt.partition ("state " ++ r) " " = (("state" : Str), (" " : Str), r) := by rw [sp_state]; exact part_word (by decide +kernel) r
theorem part_deeds (r : Str) : Txt.partition ("deeds " ++ r) " " = (("deeds" : Str), (" " : Str), r) := by rw [sp_deeds]; exact part_word (by decide +kernel) r
theorem part_ends (r : Str) : Txt.partition ("ends " ++ r) " " = (("ends" : Str), (" " : Str), r) := by rw [sp_ends]; exact part_word (by decide +kernel) r
theorem sd_ne : ("state" : Str) ≠ "deeds" := fun e => absurd (congrArg TL.tl e) (by decide +kernel)
theorem ed_ne : ("ends" : Str) ≠ "state" := fun e => absurd (congrArg TL.tl e) (by decide +kernel)
/-- what the reader holds -/
structure Rd where
  k : Int
  rows : List D
  p : D
abbrev RSt (hp : HM) (s : Rd) : HM := RS hp s.k s.rows s.p
def Tk1 (hp : HM) (s : Rd) (w : Str) (s' : Rd) : Prop := m_PlantReader_take [.ref hp.length, .str w] (RSt hp s) = .ok .non (RSt hp s')
def Bd1 (hp : HM) (s : Rd) (w : Str) : Prop := m_PlantReader_take [.ref hp.length, .str w] (RSt hp s) = .exc bt (RSt hp s)
section
variable {hp : HM} {k : Nat} {rows : List D}
theorem kne (k1 : 1 ≤ k) : ¬ ((k : Int) = 0) := by omega
theorem tk_deeds (k1 : 1 ≤ k) (k4 : k ≤ 4) : Tk1 hp ⟨0, [], .non⟩ ("deeds " ++ tx k) ⟨k, [], .non⟩ := by
  obtain ⟨l, e⟩ := tkD_ok (hp := hp) (rows := []) (line := "deeds " ++ tx k) (r := tx k) (i := k) (p := .non) (num_ok (i := (k : Int)) (.inl (by omega))) (by omega)
  exact take_nx (by have := deedsTx_len (k := k) (by omega); omega) (part_deeds _) (l := l) (by rw [if_pos rfl]; exact e)
/-- signs read -/
theorem signs_ok {n : Nat} {line w : Str} {m : Nat} {row : List Int} (R : Row m row) (m1 : 1 ≤ m) (m4 : m ≤ 40) (h : HM) : tkC (tloc n line w " " (Txt.join " " (row.map sg))) h = .ok (.lst (row.map .int)) h := by
  have ne : row ≠ [] := fun e => by have := R.len; rw [e] at this; simp at this; omega
  have sp := split_ok (y := " ") (f := eVar 4) (t := Txt.join " " (row.map sg)) (ws := row.map sg) (loc := tloc n line w " " (Txt.join " " (row.map sg))) (hp := h) (by decide +kernel) (by have := sgj_len R m4; omega)
    (TL.split_join (s := 32) (S := []) rfl (by decide +kernel) (by simpa using ne) fun p hp => by
      obtain ⟨v, hv, rfl⟩ := List.mem_map.mp hp
      exact sg_free (R.sg v hv) (by omega)) rfl
  rw [List.map_map] at sp
  exact comp_ok (xs := row) (dom := fun v => .str (sg v)) (out := .int) (seq_lst sp) (fun v hv => ⟨_, rfl, by
    simp [eCall, argc, aCons, aNil, eVar, O.bind, wipeL, rsign_ok (R.sg v hv)]⟩) (by have := R.len; omega)
/-- a sign that is none -/
theorem signs_exc {n : Nat} {line w r : Str} {row : List Int} (hs : ∀ v ∈ row, Sg v) (hz : row.length ≤ 40) {x : Str} {xs : List Str} (hr : r.length ≤ 1000) (hsp : Txt.split r " " = row.map sg ++ x :: xs) (h : HM) (hx : m_read_sign [.str x] h = .exc bt h) : tkC (tloc n line w " " r) h = .exc bt h := by
  have sp := split_ok (y := " ") (f := eVar 4) (t := r) (ws := row.map sg ++ x :: xs) (loc := tloc n line w " " r) (hp := h) (by decide +kernel) (by omega) hsp rfl
  rw [List.map_append, List.map_map, List.map_cons] at sp
  exact comp_exc (xs := row) (dom := fun v => .str (sg v)) (out := .int) (seq_lst sp) ⟨_, rfl, by
    simp [eCall, argc, aCons, aNil, eVar, O.bind, wipeL, hx]⟩ (fun v hv => ⟨_, rfl, by
    simp [eCall, argc, aCons, aNil, eVar, O.bind, wipeL, rsign_ok (hs v hv)]⟩) (by omega)
theorem tk_state (k1 : 1 ≤ k) (k4 : k ≤ 4) {row : List Int} (R : Row k row) (h16 : ∀ v ∈ row, v < 16) (hz : rows.length < 16) : Tk1 hp ⟨k, rows, .non⟩ (rowTx row) ⟨k, rows ++ [tD row], .non⟩ := by
  cases row with
  | nil => have := R.len; simp at this; omega
  | cons v vs =>
    have e := tkS_val (hp := hp) (k := k) (rows := rows) (line := rowTx (v :: vs)) (w := "state") (r := Txt.join " " ((v :: vs).map sg)) (signs_ok R k1 (by omega) _) (by omega)
    rw [if_pos (by
      have h1 := maxI_lt (b := 16) vs v (h16 v (by simp)) (fun x hx => h16 x (by simp [hx]))
      have h2 := R.len
      simp only [h1, h2, decide_true, Bool.true_and, decide_eq_true_eq]; omega)] at e
    exact take_nx (line := rowTx (v :: vs)) (by have := rowTx_len R (by omega); omega) (part_state _) (by rw [if_neg (kne k1), if_pos rfl]; exact e)
/-- wrong many, or too great -/
theorem bd_state {m : Nat} {row : List Int} (R : Row m row) (m1 : 1 ≤ m) (m4 : m ≤ 40) (k1 : 1 ≤ k) (hz : rows.length ≤ 16) (hq : m ≠ k ∨ (∃ v ∈ row, 16 ≤ v) ∨ 16 ≤ rows.length) : Bd1 hp ⟨k, rows, .non⟩ (rowTx row) := by
  cases row with
  | nil => have := R.len; simp at this; omega
  | cons v vs =>
    have e := tkS_val (hp := hp) (k := k) (rows := rows) (line := rowTx (v :: vs)) (w := "state") (r := Txt.join " " ((v :: vs).map sg)) (signs_ok R m1 (by omega) _) (by omega)
    rw [if_neg (by
      have h2 := R.len
      rw [h2]
      have h3 := @maxI_spec Amb.no vs v
      simp only [Bool.and_eq_true, decide_eq_true_eq]
      rintro ⟨q1, q2, q3⟩
      rcases hq with hq | ⟨x, hx, h16⟩ | hq
      · omega
      · rw [List.mem_cons] at hx
        rcases hx with rfl | hx
        · omega
        · have := h3.2.2 x hx; omega
      · omega)] at e
    exact take_ex (line := rowTx (v :: vs)) (by have := rowTx_len R (by omega); omega) (part_state _) (by rw [if_neg (kne k1), if_pos rfl]; exact e)
theorem bd_sign {r : Str} (k1 : 1 ≤ k) {row : List Int} (hs : ∀ v ∈ row, Sg v) (hz : row.length ≤ 40) {x : Str} {xs : List Str} (hr : r.length ≤ 900) (hsp : Txt.split r " " = row.map sg ++ x :: xs) (hx : ∀ h, m_read_sign [.str x] h = .exc bt h) : Bd1 hp ⟨k, rows, .non⟩ ("state " ++ r) := by
  have h2 : ("state " : Str).length = 6 := by decide +kernel
  exact take_ex (by rw [len_app]; omega) (part_state _) (by rw [if_neg (kne k1), if_pos rfl]; exact tkS_exc (signs_exc hs hz (by omega) hsp _ (hx _)))
theorem bd_word {w r : Str} (k1 : 1 ≤ k) (hl : (w ++ " " ++ r).length ≤ 1000) (hw : 32 ∉ TL.tl w) (h1 : w ≠ "state") (h2 : w ≠ "ends") : Bd1 hp ⟨k, rows, .non⟩ (w ++ " " ++ r) :=
  take_ex hl (part_word hw r) (by rw [if_neg (kne k1), if_neg h1]; exact tkE_word h2)
theorem bd_no {s : Rd} {line : Str} (hl : line.length ≤ 1000) (hb : (Txt.partition line " ").2.1 ≠ " ") : Bd1 hp s line :=
  take_no hl (w := (Txt.partition line " ").1) (b := (Txt.partition line " ").2.1) (r := (Txt.partition line " ").2.2) rfl (.inl hb)
theorem bd_done {k : Int} {ds : List D} {line : Str} (hl : line.length ≤ 1000) : Bd1 hp ⟨k, rows, .tup ds⟩ line :=
  take_no hl (w := (Txt.partition line " ").1) (b := (Txt.partition line " ").2.1) (r := (Txt.partition line " ").2.2) rfl (.inr ⟨ds, rfl⟩)
theorem bd_f0 {rows : List D} {line w r : Str} (hl : line.length ≤ 1000) (hq : Txt.partition line " " = (w, (" " : Str), r)) (hw : w ≠ "deeds") : Bd1 hp ⟨0, rows, .non⟩ line :=
  take_ex hl hq (by rw [if_pos rfl]; exact tkD_word hw)
theorem bd_f1 {rows : List D} {line w r : Str} (hl : line.length ≤ 1000) (hq : Txt.partition line " " = (w, (" " : Str), r)) (hx : ∀ h, m_number_of [.str r] h = .exc bt h) : Bd1 hp ⟨0, rows, .non⟩ line := by
  obtain ⟨l, e⟩ := tkD_num (n := hp.length) (line := line) (w := w) (hx (RS hp 0 rows .non))
  exact take_ex hl hq (by rw [if_pos rfl]; exact e)
theorem bd_f2 {rows : List D} {line w r : Str} {i : Int} (hl : line.length ≤ 1000) (hq : Txt.partition line " " = (w, (" " : Str), r)) (hx : ∀ h, m_number_of [.str r] h = .ok (.int i) h) (hi : ¬ (1 ≤ i ∧ i ≤ 4)) : Bd1 hp ⟨0, rows, .non⟩ line := by
  obtain ⟨l, e⟩ := tkD_rng (n := hp.length) (line := line) (w := w) (hx (RS hp 0 rows .non)) hi
  exact take_ex hl hq (by rw [if_pos rfl]; exact e)
theorem tk_ends {vs : List Int} (k1 : 1 ≤ k) (S : Sv vs) (up : vs.Pairwise (· < ·)) (hq : ∀ h, m_is_plant [.tup [.tup rows, tD vs]] h = .ok (.bl true) h) : Tk1 hp ⟨k, rows, .non⟩ ("ends " ++ joinTx "," vs) ⟨k, rows, .tup [.tup rows, tD vs]⟩ := by
  obtain ⟨l, e⟩ := tkE_val (hp := hp) (k := k) (rows := rows) (line := "ends " ++ joinTx "," vs) (rset_ok S up) hq
  exact take_nx (by have := endsTx_len S; omega) (part_ends _) (l := l) (by rw [if_neg (kne k1), if_neg ed_ne]; exact e)
theorem bd_ends {vs : List Int} (k1 : 1 ≤ k) (S : Sv vs) (up : vs.Pairwise (· < ·)) (hq : ∀ h, m_is_plant [.tup [.tup rows, tD vs]] h = .ok (.bl false) h) : Bd1 hp ⟨k, rows, .non⟩ ("ends " ++ joinTx "," vs) := by
  obtain ⟨l, e⟩ := tkE_val (hp := hp) (k := k) (rows := rows) (line := "ends " ++ joinTx "," vs) (rset_ok S up) hq
  exact take_ex (by have := endsTx_len S; omega) (part_ends _) (l := l) (by rw [if_neg (kne k1), if_neg ed_ne]; exact e)
theorem bd_set {line w r : Str} (k1 : 1 ≤ k) (hl : line.length ≤ 1000) (hq : Txt.partition line " " = (w, (" " : Str), r)) (hw : w ≠ "state") (hx : ∀ h, m_read_set [.str r] h = .exc bt h) : Bd1 hp ⟨k, rows, .non⟩ line := by
  obtain ⟨l, e⟩ := tkE_set (hp := hp) (k := k) (rows := rows) (line := line) (w := w) (r := r) hx
  exact take_ex hl hq (by rw [if_neg (kne k1), if_neg hw]; exact e)
end
/-! read_plant -/
inductive Steps (hp : HM) : Rd → List Str → Rd → Prop where
  | nil (s : Rd) : Steps hp s [] s
  | cons {s s1 s2 : Rd} {w : Str} {ws : List Str} (h : Tk1 hp s w s1) (t : Steps hp s1 ws s2) : Steps hp s (w :: ws) s2
theorem Steps.app {hp : HM} {s s1 s2 : Rd} {ws vs : List Str} (h : Steps hp s ws s1) (t : Steps hp s1 vs s2) : Steps hp s (ws ++ vs) s2 := by
  induction h with
  | nil => exact t
  | cons h _ ih => exact .cons h (ih t)
def rpB : SM := (sTryX "BadText" (sDrop (eMeth "PlantReader" "take" 2 m_PlantReader_take (eVar 1) (aCons (eVar 4) aNil))) (sRaiseI "BadLine" "line" (eVar 3)))
abbrev rpT : Tg := tgTup 2 (tgsCons (tgName 3) (tgsCons (tgName 4) tgsNil))
theorem take_call {hp : HM} {s : Rd} {loc : Loc} {w : Str} (h1 : loc[1]? = some (some (.ref hp.length))) (h4 : loc[4]? = some (some (.str w))) : eMeth "PlantReader" "take" 2 m_PlantReader_take (eVar 1) (aCons (eVar 4) aNil) loc (RSt hp s) = m_PlantReader_take [.ref hp.length, .str w] (RSt hp s) := by
  have e : ((rdF hp.length s.k s.p).lookup ("take" : Str)).isNone = true := by kernel_rfl
  simp only [eMeth, eVar, h1, O.bind, rd_ins, e, and_self, if_true, aCons_def, h4, aNil, argc, List.length_cons, List.length_nil]
theorem rp_go {hp : HM} {it : Itm} (hi : it.src = none) {s s' : Rd} {ls : List Str} (S : Steps hp s ls s') : ∀ (i : Nat) (r : List D) (x0 x2 : Option D) (l3 l4 : Option D), ∃ l3' l4', forGo it rpT rpB (enumD i (ls.map .str) ++ r) [x0, some (.ref hp.length), x2, l3, l4] (RSt hp s) = forGo it rpT rpB r [x0, some (.ref hp.length), x2, l3', l4'] (RSt hp s') := by
  induction S with
  | nil s => exact fun i r x0 x2 l3 l4 => ⟨l3, l4, rfl⟩
  | @cons s s1 s2 w ws h t ih =>
    intro i r x0 x2 l3 l4
    obtain ⟨l3', l4', e⟩ := ih (i + 1) r x0 x2 (some (.int i)) (some (.str w))
    refine ⟨l3', l4', ?_⟩
    have e1 : rpT (.tup [.int (i : Nat), .str w]) [x0, some (.ref hp.length), x2, l3, l4] = some [x0, some (.ref hp.length), x2, some (.int i), some (.str w)] := rfl
    have e2 : rpB [x0, some (.ref hp.length), x2, some (.int i), some (.str w)] (RSt hp s) = .nx [x0, some (.ref hp.length), x2, some (.int i), some (.str w)] (RSt hp s1) := by
      have h : m_PlantReader_take [.ref hp.length, .str w] (RSt hp s) = .ok .non (RSt hp s1) := h
      have c := take_call (hp := hp) (s := s) (loc := [x0, some (.ref hp.length), x2, some (.int i), some (.str w)]) (w := w) rfl rfl
      rw [h] at c
      simp only [rpB, sTryX, sDrop, c, sE]
    simp only [List.map_cons, enumD, List.cons_append, forGo, chk_none hi, if_true]
    simp only [e1, e2]
    exact e
end Gm

namespace Gm
open PySem hiding Loc
open L2 Ms
theorem init_ok (hp : HM) : m_PlantReader___init__ [.ref hp.length] (hp ++ [.ins "PlantReader" []]) = .ok .non (RS hp 0 [] .non) := by
  refine fk_nx (l := 1) (body := b_PlantReader___init__) (loc := [some (.ref hp.length)]) ?_
  show b_PlantReader___init__ [some (.ref hp.length)] (hp ++ [.ins "PlantReader" []]) = _
  have e1 : sFldS "PlantReader" "_deeds" (eC (.int 0)) (eVar 0) [some (.ref hp.length)] (hp ++ [.ins "PlantReader" []]) = .nx [some (.ref hp.length)] (hp ++ [.ins "PlantReader" [("_deeds", .int 0)]]) := by
    simp [sFldS, eC, eVar, sE, insOf, get_last, set_last, putD]
  have e2 : sFldS "PlantReader" "_rows" (eLstT aNil) (eVar 0) [some (.ref hp.length)] (hp ++ [.ins "PlantReader" [("_deeds", .int 0)]]) = .nx [some (.ref hp.length)] (hp ++ [.ins "PlantReader" [("_deeds", .int 0), ("_rows", .ref (hp.length + 1))], .lst []]) := by
    have p : putD "_rows" (.ref (hp.length + 1)) [(("_deeds" : Str), D.int 0)] = [(("_deeds" : Str), D.int 0), (("_rows" : Str), D.ref (hp.length + 1))] := by kernel_rfl
    simp [sFldS, eLstT, aNil, O.bind, eVar, sE, insOf, rs_0, rs_s0, p, big]
  have e3 : sFldS "PlantReader" "plant" (eC .non) (eVar 0) [some (.ref hp.length)] (hp ++ [.ins "PlantReader" [("_deeds", .int 0), ("_rows", .ref (hp.length + 1))], .lst []]) = .nx [some (.ref hp.length)] (RS hp 0 [] .non) := by
    have p : putD "plant" .non [(("_deeds" : Str), D.int 0), (("_rows" : Str), .ref (hp.length + 1))] = rdF hp.length 0 .non := by kernel_rfl
    simp [sFldS, eC, O.bind, eVar, sE, insOf, rs_0, rs_s0, p]
  simp only [b_PlantReader___init__, sSeq, e1, e2, e3]
def rpS : SM := (sSeq (sAsg (eNew "PlantReader" 1 [] m_PlantReader___init__ aNil) 1)
    (sSeq (sAsg (eM1 gSplit (eVar 0) (eC (.str "\n"))) 2)
    (sSeq (sFor (iEnumM (aCons (eVar 2) aNil)) rpT rpB)
    (sSeq (sIf (mT (eBin gIsN (eFld "PlantReader" "plant" (eVar 1)) (eC .non))) (sRaiseI "BadLine" "line" (eCall gLen (aCons (eVar 2) aNil))) sNext)
    (sRet (eFld "PlantReader" "plant" (eVar 1)))))))
abbrev s0 : Rd := ⟨0, [], .non⟩
section
variable {hp : HM} {t : Str} {ls : List Str}
theorem rp_start (ht : t.length ≤ 1000000) (hs : Txt.split t "\n" = ls) : sSeq (sAsg (eNew "PlantReader" 1 [] m_PlantReader___init__ aNil) 1)
    (sSeq (sAsg (eM1 gSplit (eVar 0) (eC (.str "\n"))) 2) sNext) [some (.str t), none, none, none, none] hp = .nx [some (.str t), some (.ref hp.length), some (.lst (ls.map .str)), none, none] (RSt hp s0) := by
  have e1 : sAsg (eNew "PlantReader" 1 [] m_PlantReader___init__ aNil) 1 [some (.str t), none, none, none, none] hp = .nx [some (.str t), some (.ref hp.length), none, none, none] (RS hp 0 [] .non) := by
    simp only [sAsg, eNew, aNil, O.bind, argc, List.append_nil, List.nil_append, List.length_cons, List.length_nil, if_true, init_ok, sE, List.set_cons_succ, List.set_cons_zero]
  have e2 := split_ok (y := "\n") (f := eVar 0) (loc := [some (.str t), some (.ref hp.length), none, none, none]) (hp := RSt hp s0) (by decide +kernel) ht hs rfl
  have e3 : sAsg (eM1 gSplit (eVar 0) (eC (.str "\n"))) 2 [some (.str t), some (.ref hp.length), none, none, none] (RSt hp s0) = .nx [some (.str t), some (.ref hp.length), some (.lst (ls.map .str)), none, none] (RSt hp s0) := by
    simp only [sAsg, e2, sE, List.set_cons_succ, List.set_cons_zero]
  simp only [sSeq, e1]
  simp only [e3, sNext]
theorem rp_for {hp : HM} {loc : Loc} {h : HM} (h2 : loc[2]? = some (some (.lst (ls.map .str)))) : sFor (iEnumM (aCons (eVar 2) aNil)) rpT rpB loc h = forGo ⟨enumD 0 (ls.map .str), none⟩ rpT rpB (enumD 0 (ls.map .str)) loc h := by
  simp only [sFor, iEnumM, aCons_def, eVar, h2, O.bind, aNil, sE]
theorem lenI {loc : Loc} {h : HM} (h2 : loc[2]? = some (some (.lst (ls.map .str)))) : eCall gLen (aCons (eVar 2) aNil) loc h = .ok (.int ls.length) h := by
  simp only [eCall, aCons_def, eVar, h2, O.bind, aNil, gLen, gOne, seqOf, lstOf, List.length_map]
theorem fld_p1 {loc : Loc} {s : Rd} (h0 : loc[1]? = some (some (.ref hp.length))) : eFld "PlantReader" "plant" (eVar 1) loc (RSt hp s) = .ok s.p (RSt hp s) := by
  have e : (rdF hp.length s.k s.p).lookup ("plant" : Str) = some s.p := by kernel_rfl
  simp only [eFld, eVar, h0, O.bind, rd_ins, e, if_true]
variable (wf : Wf hp)
include wf
theorem rp_plant (ht : t.length ≤ 1000000) (hs : Txt.split t "\n" = ls) {k : Int} {rows : List D} {ds : List D} (S : Steps hp s0 ls ⟨k, rows, .tup ds⟩) (hd : okL hp.length ds = true) : m_read_plant [.str t] hp = .ok (.tup ds) hp := by
  refine fo_rt (l := 5) (body := rpS) (ext := [rdO hp.length k (.tup ds), .lst rows]) wf ?_ (by simp only [frz, okD, hd, if_true])
  show rpS [some (.str t), none, none, none, none] hp = _
  have e0 := rp_start (hp := hp) ht hs
  obtain ⟨l3, l4, e1⟩ := rp_go (it := ⟨enumD 0 (ls.map .str), none⟩) rfl S 0 [] (some (.str t)) (some (.lst (ls.map .str))) none none
  rw [List.append_nil] at e1
  have e2 := fld_p1 (hp := hp) (s := ⟨k, rows, .tup ds⟩) (loc := [some (.str t), some (.ref hp.length), some (.lst (ls.map .str)), l3, l4]) rfl
  simp only [sSeq] at e0
  unfold rpS
  simp only [sSeq]
  cases q : sAsg (eNew "PlantReader" 1 [] m_PlantReader___init__ aNil) 1 [some (.str t), none, none, none, none] hp with
  | nx l h =>
    rw [q] at e0
    simp only at e0 ⊢
    cases q2 : sAsg (eM1 gSplit (eVar 0) (eC (.str "\n"))) 2 l h with
    | nx l' h' =>
      rw [q2] at e0
      simp only [sNext, SO.nx.injEq] at e0
      obtain ⟨rfl, rfl⟩ := e0
      simp only
      rw [rp_for (hp := hp) (ls := ls) rfl, e1]
      simp only [forGo, Itm.chk, if_true]
      simp only [sIf, mT, eBin, e2, O.bind, eC, gIsN, isN, sE, Bool.false_eq_true, if_false, sNext, sRet]
    | _ => rw [q2] at e0; simp at e0
  | _ => rw [q] at e0; simp at e0
theorem rp_none (ht : t.length ≤ 1000000) (hs : Txt.split t "\n" = ls) (hz : ls.length ≤ 1000) {k : Int} {rows : List D} (S : Steps hp s0 ls ⟨k, rows, .non⟩) : m_read_plant [.str t] hp = .exc ⟨"BadLine", some ("line", ls.length)⟩ hp := by
  obtain ⟨l3, l4, e1⟩ := rp_go (it := ⟨enumD 0 (ls.map .str), none⟩) rfl S 0 [] (some (.str t)) (some (.lst (ls.map .str))) none none
  refine fo_exc (l := 5) (body := rpS) (ext := [rdO hp.length k .non, .lst rows]) (loc := [some (.str t), some (.ref hp.length), some (.lst (ls.map .str)), l3, l4]) wf ?_
  show rpS [some (.str t), none, none, none, none] hp = _
  have e0 := rp_start (hp := hp) ht hs
  rw [List.append_nil] at e1
  have e2 := fld_p1 (hp := hp) (s := ⟨k, rows, .non⟩) (loc := [some (.str t), some (.ref hp.length), some (.lst (ls.map .str)), l3, l4]) rfl
  have e3 := lenI (ls := ls) (loc := [some (.str t), some (.ref hp.length), some (.lst (ls.map .str)), l3, l4]) (h := RSt hp ⟨k, rows, .non⟩) rfl
  have z : ((ls.length : Int)).natAbs.log2 < 1000 := by
    have h1 : ((ls.length : Int)).natAbs = ls.length := by simp
    rw [h1]
    by_cases h0 : ls.length = 0
    · rw [h0]; decide
    · exact Nat.lt_trans ((Nat.log2_lt (k := 10) h0).mpr (Nat.lt_of_le_of_lt hz (by decide))) (by decide)
  simp only [sSeq] at e0
  unfold rpS
  simp only [sSeq]
  cases q : sAsg (eNew "PlantReader" 1 [] m_PlantReader___init__ aNil) 1 [some (.str t), none, none, none, none] hp with
  | nx l h =>
    rw [q] at e0
    simp only at e0 ⊢
    cases q2 : sAsg (eM1 gSplit (eVar 0) (eC (.str "\n"))) 2 l h with
    | nx l' h' =>
      rw [q2] at e0
      simp only [sNext, SO.nx.injEq] at e0
      obtain ⟨rfl, rfl⟩ := e0
      simp only
      rw [rp_for (hp := hp) (ls := ls) rfl, e1]
      simp only [forGo, Itm.chk, if_true]
      simp only [sIf, mT, eBin, e2, O.bind, eC, gIsN, isN, sE, if_true, sRaiseI, e3, z]
    | _ => rw [q2] at e0; simp at e0
  | _ => rw [q] at e0; simp at e0
theorem enumD_app : ∀ (xs ys : List D) (i : Nat), enumD i (xs ++ ys) = enumD i xs ++ enumD (i + xs.length) ys
  | [], ys, i => by simp [enumD]
  | x :: xs, ys, i => by
    simp only [List.cons_append, enumD, List.length_cons]
    rw [enumD_app xs ys (i + 1), show i + 1 + xs.length = i + (xs.length + 1) by omega]
theorem rp_bad (ht : t.length ≤ 1000000) {w : Str} {ws : List Str} (hs : Txt.split t "\n" = ls ++ w :: ws) (hz : ls.length ≤ 1000) {s : Rd} (S : Steps hp s0 ls s) (B : Bd1 hp s w) : m_read_plant [.str t] hp = .exc ⟨"BadLine", some ("line", ls.length)⟩ hp := by
  obtain ⟨l3, l4, e1⟩ := rp_go (it := ⟨enumD 0 ((ls ++ w :: ws).map .str), none⟩) rfl S 0 (enumD (0 + (ls.map D.str).length) ((w :: ws).map .str)) (some (.str t)) (some (.lst ((ls ++ w :: ws).map .str))) none none
  rw [← enumD_app wf, ← List.map_append] at e1
  refine fo_exc (l := 5) (body := rpS) (ext := [rdO hp.length s.k s.p, .lst s.rows]) (loc := [some (.str t), some (.ref hp.length), some (.lst ((ls ++ w :: ws).map .str)), some (.int ls.length), some (.str w)]) wf ?_
  show rpS [some (.str t), none, none, none, none] hp = _
  have e0 := rp_start (hp := hp) ht hs
  have z : ((ls.length : Int)).natAbs.log2 < 1000 := by
    have h1 : ((ls.length : Int)).natAbs = ls.length := by simp
    rw [h1]
    by_cases h0 : ls.length = 0
    · rw [h0]; decide
    · exact Nat.lt_trans ((Nat.log2_lt (k := 10) h0).mpr (Nat.lt_of_le_of_lt hz (by decide))) (by decide)
  have c := take_call (hp := hp) (s := s) (loc := [some (.str t), some (.ref hp.length), some (.lst ((ls ++ w :: ws).map .str)), some (.int ls.length), some (.str w)]) (w := w) rfl rfl
  have B2 : m_PlantReader_take [.ref hp.length, .str w] (RSt hp s) = .exc bt (RSt hp s) := B
  rw [B2] at c
  simp only [sSeq] at e0
  unfold rpS
  simp only [sSeq]
  cases q : sAsg (eNew "PlantReader" 1 [] m_PlantReader___init__ aNil) 1 [some (.str t), none, none, none, none] hp with
  | nx l h =>
    rw [q] at e0
    simp only at e0 ⊢
    cases q2 : sAsg (eM1 gSplit (eVar 0) (eC (.str "\n"))) 2 l h with
    | nx l' h' =>
      rw [q2] at e0
      simp only [sNext, SO.nx.injEq] at e0
      obtain ⟨rfl, rfl⟩ := e0
      simp only
      rw [rp_for (hp := hp) (ls := ls ++ w :: ws) rfl, e1]
      have t1 : rpT (.tup [.int (0 + (ls.map D.str).length : Nat), .str w]) [some (.str t), some (.ref hp.length), some (.lst ((ls ++ w :: ws).map .str)), l3, l4] = some [some (.str t), some (.ref hp.length), some (.lst ((ls ++ w :: ws).map .str)), some (.int ls.length), some (.str w)] := by
        rw [Nat.zero_add, List.length_map]; rfl
      have t2 : rpB [some (.str t), some (.ref hp.length), some (.lst ((ls ++ w :: ws).map .str)), some (.int ls.length), some (.str w)] (RSt hp s) = .exc ⟨"BadLine", some ("line", ls.length)⟩ [some (.str t), some (.ref hp.length), some (.lst ((ls ++ w :: ws).map .str)), some (.int ls.length), some (.str w)] (RSt hp s) := by
        simp only [rpB, sTryX, sDrop, c, sE, if_true, sRaiseI, eVar, List.getElem?_cons_succ, List.getElem?_cons_zero, z]
      simp only [List.map_cons (f := D.str) (a := w), enumD, forGo, Itm.chk, if_true, t1, t2]
    | _ => rw [q2] at e0; simp at e0
  | _ => rw [q] at e0; simp at e0
end
/-- a plant's lines are read -/
theorem row_steps {hp : HM} {k n : Nat} {rows : List (List Int)} {es : List Int} (P : Plant k n rows es) (k1 : 1 ≤ k) (k4 : k ≤ 4) (nz : n ≤ 16) (j : Nat) (hj : j ≤ n) : Steps hp s0 (("deeds " ++ tx k) :: (rows.take j).map rowTx) ⟨k, (rows.take j).map tD, .non⟩ := by
  refine .cons (tk_deeds k1 k4) ?_
  induction j with
  | zero => simpa using Steps.nil _
  | succ j ih =>
    have hl := P.len
    have hj2 : j < rows.length := by omega
    rw [List.take_succ_eq_append_getElem hj2, List.map_append, List.map_append]
    refine (ih (by omega)).app (.cons ?_ (.nil _))
    have R := P.rw (by omega) rows[j] (by simp)
    exact tk_state k1 k4 R (fun v hv => by have := (P.row rows[j] (by simp)).2 v hv; omega) (by rw [List.length_map, List.length_take]; omega)
theorem all_steps {hp : HM} {k n : Nat} {rows : List (List Int)} {es : List Int} (P : Plant k n rows es) (k1 : 1 ≤ k) (k4 : k ≤ 4) (n1 : 1 ≤ n) (nz : n ≤ 16) : Steps hp s0 (plTx k rows es) ⟨k, rows.map tD, plD rows es⟩ := by
  have e := row_steps (hp := hp) P k1 k4 nz n (Nat.le_refl _)
  rw [← P.len, List.take_length] at e
  exact e.app (.cons (tk_ends k1 (P.sv (by omega)) P.up (fun h => P.isplant k1 k4 n1 nz h)) (.nil _))
end Gm

namespace G79
open PySem L2 Ms Gm
instance noAmb : Amb := Amb.no
def top (i : Nat) : Stmt := PySem.Challenge.pw_stewardsight_k79_texts_of_plants.main.body.getD i (.Pass ⟨0, 0, 0, 0⟩)
/-- what the top has written -/
structure Txt (P : Program) (K : PySem.W.Frag) (mg : Str → Option Value) : Prop where
  d__law_numbers : ∃ f fd, Dfn K mg "_law_numbers" (top 33) ["cell", "many"] f fd
  d__law_cell : ∃ f fd, Dfn K mg "_law_cell" (top 32) ["script", "k"] f fd
  d__law_pool : ∃ f fd, Dfn K mg "_law_pool" (top 34) ["script"] f fd
  d__law_join : ∃ f fd, Dfn K mg "_law_join" (top 41) ["mark", "words"] f fd
  d__law_set_text : ∃ f fd, Dfn K mg "_law_set_text" (top 42) ["numbers"] f fd
  d__law_sign : ∃ f fd, Dfn K mg "_law_sign" (top 40) ["number"] f fd
  d__law_plant_lines : ∃ f fd, Dfn K mg "_law_plant_lines" (top 44) ["plant"] f fd
  d__law_kind : ∃ f fd, Dfn K mg "_law_kind" (top 37) ["x"] f fd
  d__law_equal : ∃ f fd, Dfn K mg "_law_equal" (top 38) ["x", "due"] f fd
  d__law_draw : ∃ f fd, Dfn K mg "_law_draw" (top 35) ["pool", "many"] f fd
  d_PlantReader___init__ : IDfn K mg "PlantReader" "PlantReader.__init__" (clsSt (top 29) 0) ["self"]
  d_require : ∃ f fd, Dfn K mg "require" (top 23) ["condition"] f fd
  d_number_of : ∃ f fd, Dfn K mg "number_of" (top 14) ["text"] f fd
  d_is_ascending : ∃ f fd, Dfn K mg "is_ascending" (top 11) ["value"] f fd
  d_read_set : ∃ f fd, Dfn K mg "read_set" (top 27) ["text"] f fd
  d_is_integer : ∃ f fd, Dfn K mg "is_integer" (top 7) ["value"] f fd
  d_is_number : ∃ f fd, Dfn K mg "is_number" (top 8) ["value", "low", "high"] f fd
  d_are_integers : ∃ f fd, Dfn K mg "are_integers" (top 12) ["value", "low", "high"] f fd
  d_are_numbers : ∃ f fd, Dfn K mg "are_numbers" (top 13) ["value", "low", "high"] f fd
  d_is_tuple : ∃ f fd, Dfn K mg "is_tuple" (top 9) ["value", "size"] f fd
  d_is_between : ∃ f fd, Dfn K mg "is_between" (top 10) ["value", "low", "high"] f fd
  d_has_states : ∃ f fd, Dfn K mg "has_states" (top 19) ["value", "most"] f fd
  d_is_plant : ∃ f fd, Dfn K mg "is_plant" (top 20) ["value"] f fd
  d_read_sign : ∃ f fd, Dfn K mg "read_sign" (top 25) ["text"] f fd
  d_PlantReader_take : MDfn K mg "PlantReader" "take" "PlantReader.take" (clsSt (top 29) 1) ["self", "line"]
  d_read_plant : ∃ f fd, Dfn K mg "read_plant" (top 30) ["text"] f fd
  d__law_read : ∃ f fd, Dfn K mg "_law_read" (top 45) ["text"] f fd
  d__law_plant : ∃ f fd, Dfn K mg "_law_plant" (top 36) ["pool", "most", "deeds"] f fd
  d__law_wide : ∃ f fd, Dfn K mg "_law_wide" (top 39) ["pool", "n", "deeds"] f fd
  d_write_set : ∃ f fd, Dfn K mg "write_set" (top 26) ["numbers"] f fd
  d_sign_of : ∃ f fd, Dfn K mg "sign_of" (top 24) ["number"] f fd
  d_write_plant : ∃ f fd, Dfn K mg "write_plant" (top 28) ["plant"] f fd
  d_law : ∃ f fd, Dfn K mg "law" (top 46) ["script"] f fd
  b_all : mg "all" = none
  b_bool : mg "bool" = none
  b_enumerate : mg "enumerate" = none
  b_int : mg "int" = none
  b_isinstance : mg "isinstance" = none
  b_len : mg "len" = none
  b_list : mg "list" = none
  b_max : mg "max" = none
  b_min : mg "min" = none
  b_range : mg "range" = none
  b_str : mg "str" = none
  b_tuple : mg "tuple" = none
  c_DASH : ∃ t, mg "DASH" = some (.str "-" t)
  c_DIGITS : ∃ t, mg "DIGITS" = some (.str "0123456789" t)
  c_MOST_DEEDS : ∃ t, mg "MOST_DEEDS" = some (.int (4) t)
  c_MOST_DIGITS : ∃ t, mg "MOST_DIGITS" = some (.int (9) t)
  c_MOST_STATES : ∃ t, mg "MOST_STATES" = some (.int (16) t)
  c_NOWHERE : ∃ t, mg "NOWHERE" = some (.int (-1) t)
  x_BadText : ∃ C, ExcX K mg "BadText" C
  a_BadLine : IniC P K mg "BadLine" "line"
  e_BadText : Clause K mg "BadText"
  h_BadLine_BadLine : CatchC K mg "BadLine" "BadLine"
  k_BadLine : ∃ D, mg "BadLine" = some (.ref D)
  i_BadLine_StewardError : IsEC K mg "BadLine" "StewardError" true
  g_BadLine_line : FldC K mg "BadLine" "line"
  f_PlantReader__deeds : FldX K mg "PlantReader" "_deeds"
  f_PlantReader__rows : FldX K mg "PlantReader" "_rows"
  f_PlantReader_plant : FldX K mg "PlantReader" "plant"
section
variable {P : Program} {w : World} {K : PySem.W.Frag} {mg : Str → Option Value} {base : Heap}
/-! _law_numbers -/
abbrev s__law_numbers : Stmt := (top 33)
abbrev N__law_numbers : List Str := ["cell", "many", "rows", "left", "k", "mixed"]
theorem sc__law_numbers : FnScope N__law_numbers ["cell", "many"] (defScope s__law_numbers) := ⟨rfl, rfl, rfl, by decide +kernel, rfl, by decide +kernel, by decide +kernel⟩
theorem ok__law_numbers (T : Txt P K mg) : Ok true P w K mg base 1 "_law_numbers" s__law_numbers ["cell", "many"] 2 m__law_numbers := ok_fn T.d__law_numbers sc__law_numbers rfl fun f cdv A outer s H E hr => (fun (tk : Tk true (cxOf (CXz true P w) P w K mg base N__law_numbers "_law_numbers" (defScope s__law_numbers) f cdv A outer s H E) (WD E)) => (ss_cons (ss_asg (i := 2) sc__law_numbers.nd (se_lstT sa_nil))
    (ss_cons (ss_asg (i := 3) sc__law_numbers.nd (se_of (pv 0)))
    (ss_cons (ss_for (passes_of rfl) (si_rg1 T.b_range (sa_cons (se_of (pv 1)) sa_nil)) (pg_name (i := 4) sc__law_numbers.nd rfl (Or.inl rfl)) tr_name (ss_one (ss_if (PW.pt (sw_and (st_cmp op_ge og_ge (se_of (pv 0)) (se_bin op_pow og_pow se_int se_int) (nomark _)) (sw_one (st_cmp op_gt og_gt (se_of (pv 3)) se_int (nomark _))))) (ss_cons (ss_expr (se_append (se_of (pv 2)) (se_bin op_mod og_mod (se_callTy (call_int1.or call_int_str) cg_int (by rfl) T.b_int (by decide +kernel) (sa_cons (se_of (pv 3)) sa_nil)) se_int)))
    (ss_one (ss_asg (i := 3) sc__law_numbers.nd (se_bin op_fdiv og_div (se_of (pv 3)) se_int)))) (ss_cons (ss_asg (i := 5) sc__law_numbers.nd (se_bin op_mod og_mod (se_callTy (call_int1.or call_int_str) cg_int (by rfl) T.b_int (by decide +kernel) (sa_cons (se_bin op_addA og_add (se_bin op_mul og_mul (se_of (pv 0)) se_int) (se_bin op_mul og_mul (se_bin op_addA og_add (se_of (pv 4)) se_int) se_int)) sa_nil)) se_int))
    (ss_cons (ss_asg (i := 5) sc__law_numbers.nd (se_bin op_mod og_mod (se_callTy (call_int1.or call_int_str) cg_int (by rfl) T.b_int (by decide +kernel) (sa_cons (se_bin op_addA og_add (se_bin op_addA og_add (se_bin op_mul og_mul (se_of (pv 5)) (se_of (pv 5))) (se_bin op_mul og_mul (se_of (pv 5)) se_int)) (se_bin op_mul og_mul (se_of (pv 4)) se_int)) sa_nil)) se_int))
    (ss_cons (ss_asg (i := 5) sc__law_numbers.nd (se_bin op_mod og_mod (se_callTy (call_int1.or call_int_str) cg_int (by rfl) T.b_int (by decide +kernel) (sa_cons (se_bin op_addA og_add (se_bin op_addA og_add (se_bin op_mul og_mul (se_of (pv 5)) (se_of (pv 5))) (se_of (pv 0))) (se_bin op_mul og_mul se_int (se_of (pv 4)))) sa_nil)) se_int))
    (ss_one (ss_expr (se_append (se_of (pv 2)) (se_bin op_mod og_mod (se_bin op_fdiv og_div (se_of (pv 5)) se_int) se_int))))))))))
    (ss_one (ss_ret (se_of (pv 2)))))))) (Tk.of (takesZ_of rfl rfl rfl rfl) rfl rfl)
/-! _law_cell -/
abbrev s__law_cell : Stmt := (top 32)
abbrev N__law_cell : List Str := ["script", "k"]
theorem sc__law_cell : FnScope N__law_cell ["script", "k"] (defScope s__law_cell) := ⟨rfl, rfl, rfl, by decide +kernel, rfl, by decide +kernel, by decide +kernel⟩
theorem ok__law_cell (T : Txt P K mg) : Ok true P w K mg base 1 "_law_cell" s__law_cell ["script", "k"] 2 m__law_cell := ok_keep T.d__law_cell sc__law_cell rfl fun f cdv A outer s H E hr => (fun (tk : Tk true (cxOf (CXz true P w) P w K mg base N__law_cell "_law_cell" (defScope s__law_cell) f cdv A outer s H E) (WD E)) => (ss_cons (ss_if (st_cmp op_lt og_lt (se_of (pv 1)) (se_callB call_len cg_len (by rfl) T.b_len (by decide +kernel) (sa_cons (se_of (pv 0)) sa_nil)) (nomark _)) (ss_one (ss_ret (se_ix (se_of (pv 0)) (se_of (pv 1))))) ss_nil)
    (ss_one (ss_ret se_int)))) (Tk.of (takesZ_of rfl rfl rfl rfl) rfl rfl)
/-! _law_pool -/
abbrev s__law_pool : Stmt := (top 34)
abbrev N__law_pool : List Str := ["script", "rows", "k"]
theorem sc__law_pool : FnScope N__law_pool ["script"] (defScope s__law_pool) := ⟨rfl, rfl, rfl, by decide +kernel, rfl, by decide +kernel, by decide +kernel⟩
theorem ok__law_pool (T : Txt P K mg) : Ok true P w K mg base 2 "_law_pool" s__law_pool ["script"] 1 m__law_pool := ok_keep T.d__law_pool sc__law_pool rfl fun f cdv A outer s H E hr => (fun (tk : Tk true (cxOf (CXz true P w) P w K mg base N__law_pool "_law_pool" (defScope s__law_pool) f cdv A outer s H E) (WD E)) => (ss_cons (ss_asg (i := 1) sc__law_pool.nd (se_lst sa_nil))
    (ss_cons (ss_for (passes_of rfl) (si_rg1 T.b_range (sa_cons (se_callB (call_min2 rfl) cg_min2 (by rfl) T.b_min (by decide +kernel) (sa_cons se_int (sa_cons (se_callB (call_max2 rfl) cg_max2 (by rfl) T.b_max (by decide +kernel) (sa_cons se_int (sa_cons (se_callB call_len cg_len (by rfl) T.b_len (by decide +kernel) (sa_cons (se_of (pv 0)) sa_nil)) sa_nil))) sa_nil))) sa_nil)) (pg_name (i := 2) sc__law_pool.nd rfl (Or.inl rfl)) tr_name (ss_one (ss_asg (i := 1) sc__law_pool.nd (se_bin op_addA og_add (se_of (pv 1)) (se_own (ok__law_numbers T) hr tk (sa_cons (se_bin op_addA og_add (se_own (ok__law_cell T) hr tk (sa_cons (se_of (pv 0)) (sa_cons (se_of (pv 2)) sa_nil))) (se_bin op_mul og_mul se_int (se_of (pv 2)))) (sa_cons se_int sa_nil)))))))
    (ss_one (ss_ret (se_lst (sa_cons (se_of (pv 1)) (sa_cons (se_lstT (sa_cons se_int sa_nil)) sa_nil)))))))) (Tk.of (takesZ_of rfl rfl rfl rfl) rfl rfl)
/-! _law_join -/
abbrev s__law_join : Stmt := (top 41)
abbrev N__law_join : List Str := ["mark", "words", "text", "k"]
theorem sc__law_join : FnScope N__law_join ["mark", "words"] (defScope s__law_join) := ⟨rfl, rfl, rfl, by decide +kernel, rfl, by decide +kernel, by decide +kernel⟩
theorem ok__law_join (T : Txt P K mg) : Ok true P w K mg base 1 "_law_join" s__law_join ["mark", "words"] 2 m__law_join := ok_keep T.d__law_join sc__law_join rfl fun f cdv A outer s H E hr => (fun (tk : Tk true (cxOf (CXz true P w) P w K mg base N__law_join "_law_join" (defScope s__law_join) f cdv A outer s H E) (WD E)) => (ss_cons (ss_asg (i := 2) sc__law_join.nd se_str)
    (ss_cons (ss_for (passes_of rfl) (si_rg1 T.b_range (sa_cons (se_callB call_len cg_len (by rfl) T.b_len (by decide +kernel) (sa_cons (se_of (pv 1)) sa_nil)) sa_nil)) (pg_name (i := 3) sc__law_join.nd rfl (Or.inl rfl)) tr_name (ss_cons (ss_if (st_cmp op_gt og_gt (se_of (pv 3)) se_int (nomark _)) (ss_one (ss_asg (i := 2) sc__law_join.nd (se_bin op_addA og_add (se_of (pv 2)) (se_of (pv 0))))) ss_nil)
    (ss_one (ss_asg (i := 2) sc__law_join.nd (se_bin op_addA og_add (se_of (pv 2)) (se_ix (se_of (pv 1)) (se_of (pv 3))))))))
    (ss_one (ss_ret (se_of (pv 2))))))) (Tk.of (takesZ_of rfl rfl rfl rfl) rfl rfl)
/-! _law_set_text -/
abbrev s__law_set_text : Stmt := (top 42)
abbrev N__law_set_text : List Str := ["numbers", "number"]
theorem sc__law_set_text : FnScope N__law_set_text ["numbers"] (defScope s__law_set_text) := ⟨rfl, rfl, rfl, by decide +kernel, rfl, by decide +kernel, by decide +kernel⟩
theorem ok__law_set_text (T : Txt P K mg) : Ok true P w K mg base 2 "_law_set_text" s__law_set_text ["numbers"] 1 m__law_set_text := ok_keep T.d__law_set_text sc__law_set_text rfl fun f cdv A outer s H E hr => (fun (tk : Tk true (cxOf (CXz true P w) P w K mg base N__law_set_text "_law_set_text" (defScope s__law_set_text) f cdv A outer s H E) (WD E)) => (ss_cons (ss_if (st_cmp op_eq og_eq (se_callB call_len cg_len (by rfl) T.b_len (by decide +kernel) (sa_cons (se_of (pv 0)) sa_nil)) se_int (nomark _)) (ss_one (ss_ret se_str)) ss_nil)
    (ss_one (ss_ret (se_own (ok__law_join T) hr tk (sa_cons se_str (sa_cons (se_comp (own := [("number", 1)]) sc__law_set_text.nd tk (si_seq (se_of (pv 0))) (blkOk_by (N := N__law_set_text) (sc := defScope s__law_set_text) (by decide +kernel)) (fun _ _ _ _ _ _ => (pg_name (i := 1) sc__law_set_text.nd rfl (Or.inl rfl))) (tw_name (by decide)) (fun _ _ _ _ _ _ _ tk => sts_nil) (fun _ _ _ _ _ _ _ tk => (se_callTy call_str_int cg_str (by rfl) T.b_str (by decide +kernel) (sa_cons (se_of (pv 1)) sa_nil)))) sa_nil))))))) (Tk.of (takesZ_of rfl rfl rfl rfl) rfl rfl)
/-! _law_sign -/
abbrev s__law_sign : Stmt := (top 40)
abbrev N__law_sign : List Str := ["number"]
theorem sc__law_sign : FnScope N__law_sign ["number"] (defScope s__law_sign) := ⟨rfl, rfl, rfl, by decide +kernel, rfl, by decide +kernel, by decide +kernel⟩
theorem ok__law_sign (T : Txt P K mg) : Ok true P w K mg base 1 "_law_sign" s__law_sign ["number"] 1 m__law_sign := ok_keep T.d__law_sign sc__law_sign rfl fun f cdv A outer s H E hr => (fun (tk : Tk true (cxOf (CXz true P w) P w K mg base N__law_sign "_law_sign" (defScope s__law_sign) f cdv A outer s H E) (WD E)) => (ss_cons (ss_if (st_cmp op_lt og_lt (se_of (pv 0)) se_int (nomark _)) (ss_one (ss_ret se_str)) ss_nil)
    (ss_one (ss_ret (se_callTy call_str_int cg_str (by rfl) T.b_str (by decide +kernel) (sa_cons (se_of (pv 0)) sa_nil)))))) (Tk.of (takesZ_of rfl rfl rfl rfl) rfl rfl)
/-! _law_plant_lines -/
abbrev s__law_plant_lines : Stmt := (top 44)
abbrev N__law_plant_lines : List Str := ["plant", "lines", "row", "goal"]
theorem sc__law_plant_lines : FnScope N__law_plant_lines ["plant"] (defScope s__law_plant_lines) := ⟨rfl, rfl, rfl, by decide +kernel, rfl, by decide +kernel, by decide +kernel⟩
theorem ok__law_plant_lines (T : Txt P K mg) : Ok true P w K mg base 3 "_law_plant_lines" s__law_plant_lines ["plant"] 1 m__law_plant_lines := ok_fn T.d__law_plant_lines sc__law_plant_lines rfl fun f cdv A outer s H E hr => (fun (tk : Tk true (cxOf (CXz true P w) P w K mg base N__law_plant_lines "_law_plant_lines" (defScope s__law_plant_lines) f cdv A outer s H E) (WD E)) => (ss_cons (ss_asg (i := 1) sc__law_plant_lines.nd (se_lstT (sa_cons (se_bin op_addA og_add se_str (se_callTy call_str_int cg_str (by rfl) T.b_str (by decide +kernel) (sa_cons (se_callB call_len cg_len (by rfl) T.b_len (by decide +kernel) (sa_cons (se_ix (se_ix (se_of (pv 0)) se_int) se_int) sa_nil)) sa_nil))) sa_nil)))
    (ss_cons (ss_for (passes_of rfl) (si_seq (se_ix (se_of (pv 0)) se_int)) (pg_name (i := 2) sc__law_plant_lines.nd rfl (Or.inl rfl)) tr_name (ss_one (ss_expr (se_append (se_of (pv 1)) (se_bin op_addA og_add se_str (se_own (ok__law_join T) hr tk (sa_cons se_str (sa_cons (se_comp (own := [("goal", 3)]) sc__law_plant_lines.nd tk (si_seq (se_of (pv 2))) (blkOk_by (N := N__law_plant_lines) (sc := defScope s__law_plant_lines) (by decide +kernel)) (fun _ _ _ _ _ _ => (pg_name (i := 3) sc__law_plant_lines.nd rfl (Or.inl rfl))) (tw_name (by decide)) (fun _ _ _ _ _ _ _ tk => sts_nil) (fun _ _ _ _ _ _ _ tk => (se_own (ok__law_sign T) hr tk (sa_cons (se_of (pv 3)) sa_nil)))) sa_nil))))))))
    (ss_one (ss_ret (se_bin op_addA og_add (se_of (pv 1)) (se_lst (sa_cons (se_bin op_addA og_add se_str (se_own (ok__law_set_text T) hr tk (sa_cons (se_ix (se_of (pv 0)) se_int) sa_nil))) sa_nil)))))))) (Tk.of (takesZ_of rfl rfl rfl rfl) rfl rfl)
/-! _law_kind -/
abbrev s__law_kind : Stmt := (top 37)
abbrev N__law_kind : List Str := ["x"]
theorem sc__law_kind : FnScope N__law_kind ["x"] (defScope s__law_kind) := ⟨rfl, rfl, rfl, by decide +kernel, rfl, by decide +kernel, by decide +kernel⟩
theorem ok__law_kind (T : Txt P K mg) : Ok true P w K mg base 1 "_law_kind" s__law_kind ["x"] 1 m__law_kind := ok_keep T.d__law_kind sc__law_kind rfl fun f cdv A outer s H E hr => (fun (tk : Tk true (cxOf (CXz true P w) P w K mg base N__law_kind "_law_kind" (defScope s__law_kind) f cdv A outer s H E) (WD E)) => (ss_cons (ss_if (st_tru (se_isi (t := .bool) T.b_isinstance T.b_bool (by decide +kernel) (se_of (pv 0)))) (ss_one (ss_ret se_int)) ss_nil)
    (ss_cons (ss_if (st_tru (se_isi (t := .int) T.b_isinstance T.b_int (by decide +kernel) (se_of (pv 0)))) (ss_one (ss_ret se_int)) ss_nil)
    (ss_cons (ss_if (st_tru (se_isi (t := .str) T.b_isinstance T.b_str (by decide +kernel) (se_of (pv 0)))) (ss_one (ss_ret se_int)) ss_nil)
    (ss_cons (ss_if (st_tru (se_isi (t := .tuple) T.b_isinstance T.b_tuple (by decide +kernel) (se_of (pv 0)))) (ss_one (ss_ret se_int)) ss_nil)
    (ss_cons (ss_if (st_tru (se_isi (t := .list) T.b_isinstance T.b_list (by decide +kernel) (se_of (pv 0)))) (ss_one (ss_ret se_int)) ss_nil)
    (ss_cons (ss_if (st_cmp op_isN og_isN (se_of (pv 0)) se_non (nomark _)) (ss_one (ss_ret se_int)) ss_nil)
    (ss_one (ss_ret se_int))))))))) (Tk.of (takesZ_of rfl rfl rfl rfl) rfl rfl)
theorem okq__law_kind (T : Txt P K mg) : OkQ P w K mg base 1 "_law_kind" s__law_kind ["x"] 1 mq__law_kind := ok_fnQ T.d__law_kind sc__law_kind rfl fun f cdv A outer s H E => (ss_cons (ss_if (st_tru (se_isi (t := .bool) T.b_isinstance T.b_bool (by decide +kernel) (se_of (pv 0)))) (ss_one (ss_ret se_int)) ss_nil)
    (ss_cons (ss_if (st_tru (se_isi (t := .int) T.b_isinstance T.b_int (by decide +kernel) (se_of (pv 0)))) (ss_one (ss_ret se_int)) ss_nil)
    (ss_cons (ss_if (st_tru (se_isi (t := .str) T.b_isinstance T.b_str (by decide +kernel) (se_of (pv 0)))) (ss_one (ss_ret se_int)) ss_nil)
    (ss_cons (ss_if (st_tru (se_isi (t := .tuple) T.b_isinstance T.b_tuple (by decide +kernel) (se_of (pv 0)))) (ss_one (ss_ret se_int)) ss_nil)
    (ss_cons (ss_if (st_tru (se_isi (t := .list) T.b_isinstance T.b_list (by decide +kernel) (se_of (pv 0)))) (ss_one (ss_ret se_int)) ss_nil)
    (ss_cons (ss_if (st_cmp op_isN og_isN (se_of (pv 0)) se_non (nomark _)) (ss_one (ss_ret se_int)) ss_nil)
    (ss_one (ss_ret se_int))))))))
/-! _law_equal -/
abbrev s__law_equal : Stmt := (top 38)
abbrev N__law_equal : List Str := ["x", "due", "k"]
theorem sc__law_equal : FnScope N__law_equal ["x", "due"] (defScope s__law_equal) := ⟨rfl, rfl, rfl, by decide +kernel, rfl, by decide +kernel, by decide +kernel⟩
theorem okr__law_equal (T : Txt P K mg) : ∀ i : Nat, Ok true P w K mg base (2 + i) "_law_equal" s__law_equal ["x", "due"] 2 (m__law_equal i)
  | 0 => ok_zero T.d__law_equal
  | i + 1 => (fun hrec => ok_keep T.d__law_equal sc__law_equal rfl fun f cdv A outer s H E hr => (fun (tk : Tk true (cxOf (CXz true P w) P w K mg base N__law_equal "_law_equal" (defScope s__law_equal) f cdv A outer s H E) (WD E)) => (ss_cons (ss_if (PW.pt (sw_or (st_cmp op_ne og_ne (se_own (ok__law_kind T) hr tk (sa_cons (se_of (pv 0)) sa_nil) (Nat.le_trans (by decide) (Nat.le_add_right 2 _))) (se_own (ok__law_kind T) hr tk (sa_cons (se_of (pv 1)) sa_nil) (Nat.le_trans (by decide) (Nat.le_add_right 2 _))) (nomark _)) (sw_one (st_cmp op_eq og_eq (se_own (ok__law_kind T) hr tk (sa_cons (se_of (pv 0)) sa_nil) (Nat.le_trans (by decide) (Nat.le_add_right 2 _))) se_int (nomark _))))) (ss_one (ss_ret se_bl)) ss_nil)
    (ss_cons (ss_if (PW.pt (sw_or (st_tru (se_isi (t := .tuple) T.b_isinstance T.b_tuple (by decide +kernel) (se_of (pv 1)))) (sw_one (st_tru (se_isi (t := .list) T.b_isinstance T.b_list (by decide +kernel) (se_of (pv 1))))))) (ss_cons (ss_if (st_cmp op_ne og_ne (se_callB call_len cg_len (by rfl) T.b_len (by decide +kernel) (sa_cons (se_of (pv 0)) sa_nil)) (se_callB call_len cg_len (by rfl) T.b_len (by decide +kernel) (sa_cons (se_of (pv 1)) sa_nil)) (nomark _)) (ss_one (ss_ret se_bl)) ss_nil)
    (ss_cons (ss_for (passes_of rfl) (si_rg1 T.b_range (sa_cons (se_callB call_len cg_len (by rfl) T.b_len (by decide +kernel) (sa_cons (se_of (pv 1)) sa_nil)) sa_nil)) (pg_name (i := 2) sc__law_equal.nd rfl (Or.inl rfl)) tr_name (ss_one (ss_if (st_not (st_tru (se_own hrec hr tk (sa_cons (se_ix (se_of (pv 0)) (se_of (pv 2))) (sa_cons (se_ix (se_of (pv 1)) (se_of (pv 2))) sa_nil)) (Nat.le_refl _)))) (ss_one (ss_ret se_bl)) ss_nil)))
    (ss_one (ss_ret se_bl)))) ss_nil)
    (ss_one (ss_ret (se_cmp op_eq og_eq (se_of (pv 0)) (se_of (pv 1)) (nomark _))))))) (Tk.of (takesZ_of rfl rfl rfl rfl) rfl rfl)) (okr__law_equal T i)
theorem ok__law_equal (T : Txt P K mg) : Ok true P w K mg base 10 "_law_equal" s__law_equal ["x", "due"] 2 (m__law_equal 8) := okr__law_equal T 8
/-! _law_draw -/
abbrev s__law_draw : Stmt := (top 35)
abbrev N__law_draw : List Str := ["pool", "many", "at", "turn"]
theorem sc__law_draw : FnScope N__law_draw ["pool", "many"] (defScope s__law_draw) := ⟨rfl, rfl, rfl, by decide +kernel, rfl, by decide +kernel, by decide +kernel⟩
theorem ok__law_draw (T : Txt P K mg) : Ok true P w K mg base 1 "_law_draw" s__law_draw ["pool", "many"] 2 m__law_draw := ok_keep T.d__law_draw sc__law_draw rfl fun f cdv A outer s H E hr => (fun (tk : Tk true (cxOf (CXz true P w) P w K mg base N__law_draw "_law_draw" (defScope s__law_draw) f cdv A outer s H E) (WD E)) => (ss_cons (ss_asg (i := 2) sc__law_draw.nd (se_ix (se_ix (se_of (pv 0)) se_int) se_int))
    (ss_cons (ss_sub (se_bin op_addA og_add (se_of (pv 2)) se_int) (se_ix (se_of (pv 0)) se_int) se_int)
    (ss_cons (ss_asg (i := 3) sc__law_draw.nd (se_bin op_fdiv og_div (se_of (pv 2)) (se_callB call_len cg_len (by rfl) T.b_len (by decide +kernel) (sa_cons (se_ix (se_of (pv 0)) se_int) sa_nil))))
    (ss_one (ss_ret (se_bin op_mod og_mod (se_callTy (call_int1.or call_int_str) cg_int (by rfl) T.b_int (by decide +kernel) (sa_cons (se_bin op_addA og_add (se_bin op_addA og_add (se_ix (se_ix (se_of (pv 0)) se_int) (se_bin op_mod og_mod (se_of (pv 2)) (se_callB call_len cg_len (by rfl) T.b_len (by decide +kernel) (sa_cons (se_ix (se_of (pv 0)) se_int) sa_nil)))) (se_bin op_mul og_mul (se_of (pv 3)) se_int)) (se_bin op_mul og_mul (se_bin op_mul og_mul (se_of (pv 3)) (se_of (pv 2))) se_int)) sa_nil)) (se_of (pv 1))))))))) (Tk.of (takesZ_of rfl rfl rfl rfl) rfl rfl)
/-! PlantReader___init__ -/
abbrev s_PlantReader___init__ : Stmt := (clsSt (top 29) 0)
abbrev N_PlantReader___init__ : List Str := ["self"]
theorem sc_PlantReader___init__ : FnScope N_PlantReader___init__ ["self"] (defScope s_PlantReader___init__) := ⟨rfl, rfl, rfl, by decide +kernel, rfl, by decide +kernel, by decide +kernel⟩
theorem ok_PlantReader___init__ (T : Txt P K mg) : OkI true P w K mg base 1 "PlantReader" 1 [] m_PlantReader___init__ := ok_initK T.d_PlantReader___init__ sc_PlantReader___init__ rfl fun f cdv A outer s H E hr => (fun (tk : Tk true (cxOf (CXz true P w) P w K mg base N_PlantReader___init__ "PlantReader.__init__" (defScope s_PlantReader___init__) f cdv A outer s H E) (WD E)) => (ss_cons (ss_fld T.f_PlantReader__deeds se_int (se_of (pv 0)))
    (ss_cons (ss_fld T.f_PlantReader__rows (se_lstT sa_nil) (se_of (pv 0)))
    (ss_one (ss_fld T.f_PlantReader_plant se_non (se_of (pv 0))))))) (Tk.of (takesZ_of rfl rfl rfl rfl) rfl rfl)
/-! require -/
abbrev s_require : Stmt := (top 23)
abbrev N_require : List Str := ["condition"]
theorem sc_require : FnScope N_require ["condition"] (defScope s_require) := ⟨rfl, rfl, rfl, by decide +kernel, rfl, by decide +kernel, by decide +kernel⟩
theorem ok_require (T : Txt P K mg) : Ok true P w K mg base 1 "require" s_require ["condition"] 1 m_require := ok_keep T.d_require sc_require rfl fun f cdv A outer s H E hr => (fun (tk : Tk true (cxOf (CXz true P w) P w K mg base N_require "require" (defScope s_require) f cdv A outer s H E) (WD E)) => (ss_one (ss_if (st_not (st_tru (se_of (pv 0)))) (ss_one (ss_raiseE T.x_BadText (takesZ_of (z := true) rfl rfl rfl rfl))) ss_nil))) (Tk.of (takesZ_of rfl rfl rfl rfl) rfl rfl)
/-! number_of -/
abbrev s_number_of : Stmt := (top 14)
abbrev N_number_of : List Str := ["text", "digit"]
theorem sc_number_of : FnScope N_number_of ["text"] (defScope s_number_of) := ⟨rfl, rfl, rfl, by decide +kernel, rfl, by decide +kernel, by decide +kernel⟩
theorem ok_number_of (T : Txt P K mg) : Ok true P w K mg base 1 "number_of" s_number_of ["text"] 1 m_number_of := ok_keep T.d_number_of sc_number_of rfl fun f cdv A outer s H E hr => (fun (tk : Tk true (cxOf (CXz true P w) P w K mg base N_number_of "number_of" (defScope s_number_of) f cdv A outer s H E) (WD E)) => (ss_cons (ss_if (PW.pt (sw_or (st_not (st_chain op_le op_le og_le og_le se_int (se_callB call_len cg_len (by rfl) T.b_len (by decide +kernel) (sa_cons (se_of (pv 0)) sa_nil)) (se_globI T.c_MOST_DIGITS))) (sw_one (PW.pt (sw_and (st_cmp op_eq og_eq (se_ix (se_of (pv 0)) se_int) se_str (nomark _)) (sw_one (st_cmp op_gt og_gt (se_callB call_len cg_len (by rfl) T.b_len (by decide +kernel) (sa_cons (se_of (pv 0)) sa_nil)) se_int (nomark _)))))))) (ss_one (ss_raiseE T.x_BadText (takesZ_of (z := true) rfl rfl rfl rfl))) ss_nil)
    (ss_cons (ss_if (st_not (st_tru (se_callB (cr_all rfl) (cg_bls (f := fun bs => bs.all id)) (by rfl) T.b_all (by decide +kernel) (sa_cons (se_comp (own := [("digit", 1)]) sc_number_of.nd tk (si_str (se_of (pv 0))) (blkOk_by (N := N_number_of) (sc := defScope s_number_of) (by decide +kernel)) (fun _ _ _ _ _ _ => (pg_name (i := 1) sc_number_of.nd rfl (Or.inl rfl))) (tw_name (by decide)) (fun _ _ _ _ _ _ _ tk => sts_nil) (fun _ _ _ _ _ _ _ tk => (se_cmp op_in_sign og_inSign (se_of (pv 1)) (se_globS T.c_DIGITS) rfl))) sa_nil)))) (ss_one (ss_raiseE T.x_BadText (takesZ_of (z := true) rfl rfl rfl rfl))) ss_nil)
    (ss_one (ss_ret (se_callTy (call_int1.or call_int_str) cg_int (by rfl) T.b_int (by decide +kernel) (sa_cons (se_of (pv 0)) sa_nil))))))) (Tk.of (takesZ_of rfl rfl rfl rfl) rfl rfl)
/-! is_ascending -/
abbrev s_is_ascending : Stmt := (top 11)
abbrev N_is_ascending : List Str := ["value", "at"]
theorem sc_is_ascending : FnScope N_is_ascending ["value"] (defScope s_is_ascending) := ⟨rfl, rfl, rfl, by decide +kernel, rfl, by decide +kernel, by decide +kernel⟩
theorem ok_is_ascending (T : Txt P K mg) : Ok true P w K mg base 1 "is_ascending" s_is_ascending ["value"] 1 m_is_ascending := ok_keep T.d_is_ascending sc_is_ascending rfl fun f cdv A outer s H E hr => (fun (tk : Tk true (cxOf (CXz true P w) P w K mg base N_is_ascending "is_ascending" (defScope s_is_ascending) f cdv A outer s H E) (WD E)) => (ss_one (ss_ret (se_callB (cr_all rfl) (cg_bls (f := fun bs => bs.all id)) (by rfl) T.b_all (by decide +kernel) (sa_cons (se_comp (own := [("at", 1)]) sc_is_ascending.nd tk (si_range2 T.b_range (sa_cons se_int (sa_cons (se_callB call_len cg_len (by rfl) T.b_len (by decide +kernel) (sa_cons (se_of (pv 0)) sa_nil)) sa_nil))) (blkOk_by (N := N_is_ascending) (sc := defScope s_is_ascending) (by decide +kernel)) (fun _ _ _ _ _ _ => (pg_name (i := 1) sc_is_ascending.nd rfl (Or.inl rfl))) (tw_name (by decide)) (fun _ _ _ _ _ _ _ tk => sts_nil) (fun _ _ _ _ _ _ _ tk => (se_cmp op_lt og_lt (se_ix (se_of (pv 0)) (se_bin op_sub og_sub (se_of (pv 1)) se_int)) (se_ix (se_of (pv 0)) (se_of (pv 1))) (nomark _)))) sa_nil))))) (Tk.of (takesZ_of rfl rfl rfl rfl) rfl rfl)
/-! read_set -/
abbrev s_read_set : Stmt := (top 27)
abbrev N_read_set : List Str := ["text", "found", "word"]
theorem sc_read_set : FnScope N_read_set ["text"] (defScope s_read_set) := ⟨rfl, rfl, rfl, by decide +kernel, rfl, by decide +kernel, by decide +kernel⟩
theorem ok_read_set (T : Txt P K mg) : Ok true P w K mg base 2 "read_set" s_read_set ["text"] 1 m_read_set := ok_keep T.d_read_set sc_read_set rfl fun f cdv A outer s H E hr => (fun (tk : Tk true (cxOf (CXz true P w) P w K mg base N_read_set "read_set" (defScope s_read_set) f cdv A outer s H E) (WD E)) => (ss_cons (ss_asg (i := 1) sc_read_set.nd (se_if (st_cmp op_eq og_eq (se_of (pv 0)) (se_globS T.c_DASH) (nomark _)) (se_tup sa_nil) (se_callTy call_tuple_of cg_tuple (by rfl) T.b_tuple (by decide +kernel) (sa_cons (se_comp (own := [("word", 2)]) sc_read_set.nd tk (si_seq (se_split (se_of (pv 0)) se_str)) (blkOk_by (N := N_read_set) (sc := defScope s_read_set) (by decide +kernel)) (fun _ _ _ _ _ _ => (pg_name (i := 2) sc_read_set.nd rfl (Or.inl rfl))) (tw_name (by decide)) (fun _ _ _ _ _ _ _ tk => sts_nil) (fun _ _ _ _ _ _ _ tk => (se_own (ok_number_of T) hr tk (sa_cons (se_of (pv 2)) sa_nil)))) sa_nil))))
    (ss_cons (ss_expr (se_own (ok_require T) hr tk (sa_cons (se_own (ok_is_ascending T) hr tk (sa_cons (se_of (pv 1)) sa_nil)) sa_nil)))
    (ss_one (ss_ret (se_of (pv 1))))))) (Tk.of (takesZ_of rfl rfl rfl rfl) rfl rfl)
/-! is_integer -/
abbrev s_is_integer : Stmt := (top 7)
abbrev N_is_integer : List Str := ["value"]
theorem sc_is_integer : FnScope N_is_integer ["value"] (defScope s_is_integer) := ⟨rfl, rfl, rfl, by decide +kernel, rfl, by decide +kernel, by decide +kernel⟩
theorem ok_is_integer (T : Txt P K mg) : Ok true P w K mg base 1 "is_integer" s_is_integer ["value"] 1 m_is_integer := ok_keep T.d_is_integer sc_is_integer rfl fun f cdv A outer s H E hr => (fun (tk : Tk true (cxOf (CXz true P w) P w K mg base N_is_integer "is_integer" (defScope s_is_integer) f cdv A outer s H E) (WD E)) => (ss_one (ss_ret (se_and (se_isi (t := .int) T.b_isinstance T.b_int (by decide +kernel) (se_of (pv 0))) (se_one (se_not (se_isi (t := .bool) T.b_isinstance T.b_bool (by decide +kernel) (se_of (pv 0))))))))) (Tk.of (takesZ_of rfl rfl rfl rfl) rfl rfl)
/-! is_number -/
abbrev s_is_number : Stmt := (top 8)
abbrev N_is_number : List Str := ["value", "low", "high"]
theorem sc_is_number : FnScope N_is_number ["value", "low", "high"] (defScope s_is_number) := ⟨rfl, rfl, rfl, by decide +kernel, rfl, by decide +kernel, by decide +kernel⟩
theorem ok_is_number (T : Txt P K mg) : Ok true P w K mg base 2 "is_number" s_is_number ["value", "low", "high"] 3 m_is_number := ok_keep T.d_is_number sc_is_number rfl fun f cdv A outer s H E hr => (fun (tk : Tk true (cxOf (CXz true P w) P w K mg base N_is_number "is_number" (defScope s_is_number) f cdv A outer s H E) (WD E)) => (ss_one (ss_ret (se_and (se_own (ok_is_integer T) hr tk (sa_cons (se_of (pv 0)) sa_nil)) (se_one (se_chain op_le op_le og_le og_le (se_of (pv 1)) (se_of (pv 0)) (se_of (pv 2)))))))) (Tk.of (takesZ_of rfl rfl rfl rfl) rfl rfl)
/-! are_integers -/
abbrev s_are_integers : Stmt := (top 12)
abbrev N_are_integers : List Str := ["value", "low", "high", "one"]
theorem sc_are_integers : FnScope N_are_integers ["value", "low", "high"] (defScope s_are_integers) := ⟨rfl, rfl, rfl, by decide +kernel, rfl, by decide +kernel, by decide +kernel⟩
theorem ok_are_integers (T : Txt P K mg) : Ok true P w K mg base 3 "are_integers" s_are_integers ["value", "low", "high"] 3 m_are_integers := ok_keep T.d_are_integers sc_are_integers rfl fun f cdv A outer s H E hr => (fun (tk : Tk true (cxOf (CXz true P w) P w K mg base N_are_integers "are_integers" (defScope s_are_integers) f cdv A outer s H E) (WD E)) => (ss_one (ss_ret (se_and (se_isi (t := .tuple) T.b_isinstance T.b_tuple (by decide +kernel) (se_of (pv 0))) (se_one (se_callB (cr_all rfl) (cg_bls (f := fun bs => bs.all id)) (by rfl) T.b_all (by decide +kernel) (sa_cons (se_comp (own := [("one", 3)]) sc_are_integers.nd tk (si_seq (se_of (pv 0))) (blkOk_by (N := N_are_integers) (sc := defScope s_are_integers) (by decide +kernel)) (fun _ _ _ _ _ _ => (pg_name (i := 3) sc_are_integers.nd rfl (Or.inl rfl))) (tw_name (by decide)) (fun _ _ _ _ _ _ _ tk => sts_nil) (fun _ _ _ _ _ _ _ tk => (se_own (ok_is_number T) hr tk (sa_cons (se_of (pv 3)) (sa_cons (se_of (pv 1)) (sa_cons (se_of (pv 2)) sa_nil)))))) sa_nil))))))) (Tk.of (takesZ_of rfl rfl rfl rfl) rfl rfl)
/-! are_numbers -/
abbrev s_are_numbers : Stmt := (top 13)
abbrev N_are_numbers : List Str := ["value", "low", "high"]
theorem sc_are_numbers : FnScope N_are_numbers ["value", "low", "high"] (defScope s_are_numbers) := ⟨rfl, rfl, rfl, by decide +kernel, rfl, by decide +kernel, by decide +kernel⟩
theorem ok_are_numbers (T : Txt P K mg) : Ok true P w K mg base 4 "are_numbers" s_are_numbers ["value", "low", "high"] 3 m_are_numbers := ok_keep T.d_are_numbers sc_are_numbers rfl fun f cdv A outer s H E hr => (fun (tk : Tk true (cxOf (CXz true P w) P w K mg base N_are_numbers "are_numbers" (defScope s_are_numbers) f cdv A outer s H E) (WD E)) => (ss_one (ss_ret (se_and (se_own (ok_are_integers T) hr tk (sa_cons (se_of (pv 0)) (sa_cons (se_of (pv 1)) (sa_cons (se_of (pv 2)) sa_nil)))) (se_one (se_own (ok_is_ascending T) hr tk (sa_cons (se_of (pv 0)) sa_nil))))))) (Tk.of (takesZ_of rfl rfl rfl rfl) rfl rfl)
/-! is_tuple -/
abbrev s_is_tuple : Stmt := (top 9)
abbrev N_is_tuple : List Str := ["value", "size"]
theorem sc_is_tuple : FnScope N_is_tuple ["value", "size"] (defScope s_is_tuple) := ⟨rfl, rfl, rfl, by decide +kernel, rfl, by decide +kernel, by decide +kernel⟩
theorem ok_is_tuple (T : Txt P K mg) : Ok true P w K mg base 1 "is_tuple" s_is_tuple ["value", "size"] 2 m_is_tuple := ok_keep T.d_is_tuple sc_is_tuple rfl fun f cdv A outer s H E hr => (fun (tk : Tk true (cxOf (CXz true P w) P w K mg base N_is_tuple "is_tuple" (defScope s_is_tuple) f cdv A outer s H E) (WD E)) => (ss_one (ss_ret (se_and (se_isi (t := .tuple) T.b_isinstance T.b_tuple (by decide +kernel) (se_of (pv 0))) (se_one (se_cmp op_eq og_eq (se_callB call_len cg_len (by rfl) T.b_len (by decide +kernel) (sa_cons (se_of (pv 0)) sa_nil)) (se_of (pv 1)) (nomark _))))))) (Tk.of (takesZ_of rfl rfl rfl rfl) rfl rfl)
/-! is_between -/
abbrev s_is_between : Stmt := (top 10)
abbrev N_is_between : List Str := ["value", "low", "high"]
theorem sc_is_between : FnScope N_is_between ["value", "low", "high"] (defScope s_is_between) := ⟨rfl, rfl, rfl, by decide +kernel, rfl, by decide +kernel, by decide +kernel⟩
theorem ok_is_between (T : Txt P K mg) : Ok true P w K mg base 1 "is_between" s_is_between ["value", "low", "high"] 3 m_is_between := ok_keep T.d_is_between sc_is_between rfl fun f cdv A outer s H E hr => (fun (tk : Tk true (cxOf (CXz true P w) P w K mg base N_is_between "is_between" (defScope s_is_between) f cdv A outer s H E) (WD E)) => (ss_one (ss_ret (se_and (se_isi (t := .tuple) T.b_isinstance T.b_tuple (by decide +kernel) (se_of (pv 0))) (se_one (se_chain op_le op_le og_le og_le (se_of (pv 1)) (se_callB call_len cg_len (by rfl) T.b_len (by decide +kernel) (sa_cons (se_of (pv 0)) sa_nil)) (se_of (pv 2)))))))) (Tk.of (takesZ_of rfl rfl rfl rfl) rfl rfl)
/-! has_states -/
abbrev s_has_states : Stmt := (top 19)
abbrev N_has_states : List Str := ["value", "most", "deeds", "rows", "ends", "row"]
theorem sc_has_states : FnScope N_has_states ["value", "most"] (defScope s_has_states) := ⟨rfl, rfl, rfl, by decide +kernel, rfl, by decide +kernel, by decide +kernel⟩
theorem ok_has_states (T : Txt P K mg) : Ok true P w K mg base 5 "has_states" s_has_states ["value", "most"] 2 m_has_states := ok_keep T.d_has_states sc_has_states rfl fun f cdv A outer s H E hr => (fun (tk : Tk true (cxOf (CXz true P w) P w K mg base N_has_states "has_states" (defScope s_has_states) f cdv A outer s H E) (WD E)) => (ss_cons (ss_if (PW.pt (sw_or (st_not (st_tru (se_own (ok_is_tuple T) hr tk (sa_cons (se_of (pv 0)) (sa_cons se_int sa_nil))))) (sw_or (st_not (st_tru (se_own (ok_is_between T) hr tk (sa_cons (se_ix (se_of (pv 0)) se_int) (sa_cons se_int (sa_cons (se_of (pv 1)) sa_nil)))))) (sw_one (st_not (st_tru (se_isi (t := .tuple) T.b_isinstance T.b_tuple (by decide +kernel) (se_ix (se_ix (se_of (pv 0)) se_int) se_int)))))))) (ss_one (ss_ret se_bl)) ss_nil)
    (ss_cons (ss_asgT (se_of (pv 0)) (pg_tup rfl (pgs_cons (pg_name (i := 3) sc_has_states.nd rfl (Or.inr rfl)) (pgs_cons (pg_name (i := 4) sc_has_states.nd rfl (Or.inl rfl)) pgs_nil))) (tr_tup (tr_cons tr_name (tr_cons tr_name tr_nil))))
    (ss_cons (ss_asg (i := 2) sc_has_states.nd (se_callB call_len cg_len (by rfl) T.b_len (by decide +kernel) (sa_cons (se_ix (se_of (pv 3)) se_int) sa_nil)))
    (ss_cons (ss_if (PW.pt (sw_or (st_not (st_chain op_le op_le og_le og_le se_int (se_of (pv 2)) (se_globI T.c_MOST_DEEDS))) (sw_one (st_not (st_tru (se_callB (cr_all rfl) (cg_bls (f := fun bs => bs.all id)) (by rfl) T.b_all (by decide +kernel) (sa_cons (se_comp (own := [("row", 5)]) sc_has_states.nd tk (si_seq (se_of (pv 3))) (blkOk_by (N := N_has_states) (sc := defScope s_has_states) (by decide +kernel)) (fun _ _ _ _ _ _ => (pg_name (i := 5) sc_has_states.nd rfl (Or.inl rfl))) (tw_name (by decide)) (fun _ _ _ _ _ _ _ tk => sts_nil) (fun _ _ _ _ _ _ _ tk => (se_own (ok_is_tuple T) hr tk (sa_cons (se_of (pv 5)) (sa_cons (se_of (pv 2)) sa_nil))))) sa_nil))))))) (ss_one (ss_ret se_bl)) ss_nil)
    (ss_one (ss_ret (se_and (se_callB (cr_all rfl) (cg_bls (f := fun bs => bs.all id)) (by rfl) T.b_all (by decide +kernel) (sa_cons (se_comp (own := [("row", 5)]) sc_has_states.nd tk (si_seq (se_of (pv 3))) (blkOk_by (N := N_has_states) (sc := defScope s_has_states) (by decide +kernel)) (fun _ _ _ _ _ _ => (pg_name (i := 5) sc_has_states.nd rfl (Or.inl rfl))) (tw_name (by decide)) (fun _ _ _ _ _ _ _ tk => sts_nil) (fun _ _ _ _ _ _ _ tk => (se_own (ok_are_integers T) hr tk (sa_cons (se_of (pv 5)) (sa_cons (se_globI T.c_NOWHERE) (sa_cons (se_bin op_sub og_sub (se_callB call_len cg_len (by rfl) T.b_len (by decide +kernel) (sa_cons (se_of (pv 3)) sa_nil)) se_int) sa_nil)))))) sa_nil)) (se_one (se_own (ok_are_numbers T) hr tk (sa_cons (se_of (pv 4)) (sa_cons se_int (sa_cons (se_bin op_sub og_sub (se_callB call_len cg_len (by rfl) T.b_len (by decide +kernel) (sa_cons (se_of (pv 3)) sa_nil)) se_int) sa_nil))))))))))))) (Tk.of (takesZ_of rfl rfl rfl rfl) rfl rfl)
/-! is_plant -/
abbrev s_is_plant : Stmt := (top 20)
abbrev N_is_plant : List Str := ["value"]
theorem sc_is_plant : FnScope N_is_plant ["value"] (defScope s_is_plant) := ⟨rfl, rfl, rfl, by decide +kernel, rfl, by decide +kernel, by decide +kernel⟩
theorem ok_is_plant (T : Txt P K mg) : Ok true P w K mg base 6 "is_plant" s_is_plant ["value"] 1 m_is_plant := ok_keep T.d_is_plant sc_is_plant rfl fun f cdv A outer s H E hr => (fun (tk : Tk true (cxOf (CXz true P w) P w K mg base N_is_plant "is_plant" (defScope s_is_plant) f cdv A outer s H E) (WD E)) => (ss_one (ss_ret (se_own (ok_has_states T) hr tk (sa_cons (se_of (pv 0)) (sa_cons (se_globI T.c_MOST_STATES) sa_nil)))))) (Tk.of (takesZ_of rfl rfl rfl rfl) rfl rfl)
/-! read_sign -/
abbrev s_read_sign : Stmt := (top 25)
abbrev N_read_sign : List Str := ["text"]
theorem sc_read_sign : FnScope N_read_sign ["text"] (defScope s_read_sign) := ⟨rfl, rfl, rfl, by decide +kernel, rfl, by decide +kernel, by decide +kernel⟩
theorem ok_read_sign (T : Txt P K mg) : Ok true P w K mg base 2 "read_sign" s_read_sign ["text"] 1 m_read_sign := ok_keep T.d_read_sign sc_read_sign rfl fun f cdv A outer s H E hr => (fun (tk : Tk true (cxOf (CXz true P w) P w K mg base N_read_sign "read_sign" (defScope s_read_sign) f cdv A outer s H E) (WD E)) => (ss_one (ss_ret (se_if (st_cmp op_eq og_eq (se_of (pv 0)) (se_globS T.c_DASH) (nomark _)) (se_globI T.c_NOWHERE) (se_own (ok_number_of T) hr tk (sa_cons (se_of (pv 0)) sa_nil)))))) (Tk.of (takesZ_of rfl rfl rfl rfl) rfl rfl)
/-! PlantReader_take -/
abbrev s_PlantReader_take : Stmt := (clsSt (top 29) 1)
abbrev N_PlantReader_take : List Str := ["self", "line", "word", "blank", "rest", "deeds", "row", "plant", "sign"]
theorem sc_PlantReader_take : FnScope N_PlantReader_take ["self", "line"] (defScope s_PlantReader_take) := ⟨rfl, rfl, rfl, by decide +kernel, rfl, by decide +kernel, by decide +kernel⟩
theorem ok_PlantReader_take (T : Txt P K mg) : OkM true P w K mg base 7 "PlantReader" "take" 2 m_PlantReader_take := ok_methK T.d_PlantReader_take sc_PlantReader_take rfl fun f cdv A outer s H E hr => (fun (tk : Tk true (cxOf (CXz true P w) P w K mg base N_PlantReader_take "PlantReader.take" (defScope s_PlantReader_take) f cdv A outer s H E) (WD E)) => (ss_cons (ss_asgT (se_part (se_of (pv 1)) se_str) (pg_tup rfl (pgs_cons (pg_name (i := 2) sc_PlantReader_take.nd rfl (Or.inl rfl)) (pgs_cons (pg_name (i := 3) sc_PlantReader_take.nd rfl (Or.inl rfl)) (pgs_cons (pg_name (i := 4) sc_PlantReader_take.nd rfl (Or.inl rfl)) pgs_nil)))) (tr_tup (tr_cons tr_name (tr_cons tr_name (tr_cons tr_name tr_nil)))))
    (ss_cons (ss_expr (se_own (ok_require T) hr tk (sa_cons (se_and (se_cmp op_eq og_eq (se_of (pv 3)) se_str (nomark _)) (se_one (se_cmp op_isN og_isN (se_fld T.f_PlantReader_plant (se_of (pv 0))) se_non (nomark _)))) sa_nil)))
    (ss_one (ss_if (st_cmp op_eq og_eq (se_fld T.f_PlantReader__deeds (se_of (pv 0))) se_int (nomark _)) (ss_cons (ss_expr (se_own (ok_require T) hr tk (sa_cons (se_cmp op_eq og_eq (se_of (pv 2)) se_str (nomark _)) sa_nil)))
    (ss_cons (ss_asg (i := 5) sc_PlantReader_take.nd (se_own (ok_number_of T) hr tk (sa_cons (se_of (pv 4)) sa_nil)))
    (ss_cons (ss_expr (se_own (ok_require T) hr tk (sa_cons (se_chain op_le op_le og_le og_le se_int (se_of (pv 5)) (se_globI T.c_MOST_DEEDS)) sa_nil)))
    (ss_one (ss_fld T.f_PlantReader__deeds (se_of (pv 5)) (se_of (pv 0))))))) (ss_one (ss_if (st_cmp op_eq og_eq (se_of (pv 2)) se_str (nomark _)) (ss_cons (ss_asg (i := 6) sc_PlantReader_take.nd (se_callTy call_tuple_of cg_tuple (by rfl) T.b_tuple (by decide +kernel) (sa_cons (se_comp (own := [("sign", 8)]) sc_PlantReader_take.nd tk (si_seq (se_split (se_of (pv 4)) se_str)) (blkOk_by (N := N_PlantReader_take) (sc := defScope s_PlantReader_take) (by decide +kernel)) (fun _ _ _ _ _ _ => (pg_name (i := 8) sc_PlantReader_take.nd rfl (Or.inl rfl))) (tw_name (by decide)) (fun _ _ _ _ _ _ _ tk => sts_nil) (fun _ _ _ _ _ _ _ tk => (se_own (ok_read_sign T) hr tk (sa_cons (se_of (pv 8)) sa_nil)))) sa_nil)))
    (ss_cons (ss_expr (se_own (ok_require T) hr tk (sa_cons (se_and (se_cmp op_eq og_eq (se_callB call_len cg_len (by rfl) T.b_len (by decide +kernel) (sa_cons (se_of (pv 6)) sa_nil)) (se_fld T.f_PlantReader__deeds (se_of (pv 0))) (nomark _)) (se_and (se_cmp op_lt og_lt (se_callB (cr_maxT rfl) cg_maxT (by rfl) T.b_max (by decide +kernel) (sa_cons (se_of (pv 6)) sa_nil)) (se_globI T.c_MOST_STATES) (nomark _)) (se_one (se_cmp op_lt og_lt (se_callB call_len cg_len (by rfl) T.b_len (by decide +kernel) (sa_cons (se_fld T.f_PlantReader__rows (se_of (pv 0))) sa_nil)) (se_globI T.c_MOST_STATES) (nomark _))))) sa_nil)))
    (ss_one (ss_expr (se_append (se_fld T.f_PlantReader__rows (se_of (pv 0))) (se_of (pv 6))))))) (ss_cons (ss_expr (se_own (ok_require T) hr tk (sa_cons (se_cmp op_eq og_eq (se_of (pv 2)) se_str (nomark _)) sa_nil)))
    (ss_cons (ss_asg (i := 7) sc_PlantReader_take.nd (se_tup (sa_cons (se_callTy call_tuple_of cg_tuple (by rfl) T.b_tuple (by decide +kernel) (sa_cons (se_fld T.f_PlantReader__rows (se_of (pv 0))) sa_nil)) (sa_cons (se_own (ok_read_set T) hr tk (sa_cons (se_of (pv 4)) sa_nil)) sa_nil))))
    (ss_cons (ss_expr (se_own (ok_require T) hr tk (sa_cons (se_own (ok_is_plant T) hr tk (sa_cons (se_of (pv 7)) sa_nil)) sa_nil)))
    (ss_one (ss_fld T.f_PlantReader_plant (se_of (pv 7)) (se_of (pv 0)))))))))))))) (Tk.of (takesZ_of rfl rfl rfl rfl) rfl rfl)
/-! read_plant -/
abbrev s_read_plant : Stmt := (top 30)
abbrev N_read_plant : List Str := ["text", "reader", "lines", "number", "line"]
theorem sc_read_plant : FnScope N_read_plant ["text"] (defScope s_read_plant) := ⟨rfl, rfl, rfl, by decide +kernel, rfl, by decide +kernel, by decide +kernel⟩
theorem ok_read_plant (T : Txt P K mg) : Ok false P w K mg base 8 "read_plant" s_read_plant ["text"] 1 m_read_plant := ok_fn T.d_read_plant sc_read_plant rfl fun f cdv A outer s H E hr => (fun (tk : Tk false (cxOf (CXz false P w) P w K mg base N_read_plant "read_plant" (defScope s_read_plant) f cdv A outer s H E) (WD E)) => (ss_cons (ss_asg (i := 1) sc_read_plant.nd (se_new0 (ok_PlantReader___init__ T) hr tk))
    (ss_cons (ss_asg (i := 2) sc_read_plant.nd (se_split (se_of (pv 0)) se_str))
    (ss_cons (ss_for (passes_of rfl) (si_enum T.b_enumerate (sa_cons (se_of (pv 2)) sa_nil)) (pg_tup rfl (pgs_cons (pg_name (i := 3) sc_read_plant.nd rfl (Or.inl rfl)) (pgs_cons (pg_name (i := 4) sc_read_plant.nd rfl (Or.inl rfl)) pgs_nil))) (tr_tup (tr_cons tr_name (tr_cons tr_name tr_nil))) (ss_one (ss_tryX T.e_BadText rfl rfl (takesZ_of (z := false) rfl rfl rfl rfl) (fun hd => L2H.passesAt_of rfl hd) (fun _ _ _ tk0 po => (fun tk => (ss_one (ss_expr (se_meth (ok_PlantReader_take T) hr tk (se_of (pv 1)) (sa_cons (se_of (pv 4)) sa_nil))))) (Tk.of tk0 rfl rfl)) (fun _ _ tkS hot => (ss_one (ss_raiseIF T.a_BadLine tkS hot (L2H.roomH_mark (hr.mono (by decide)) _) (se_of (pv 3))))))))
    (ss_cons (ss_if (st_cmp op_isN og_isN (se_fld T.f_PlantReader_plant (se_of (pv 1))) se_non (nomark _)) (ss_one (ss_raiseI T.a_BadLine (takesZ_of (z := false) rfl rfl rfl rfl) (hr.mono (by decide)) (se_callB call_len cg_len (by rfl) T.b_len (by decide +kernel) (sa_cons (se_of (pv 2)) sa_nil)))) ss_nil)
    (ss_one (ss_ret (se_fld T.f_PlantReader_plant (se_of (pv 1)))))))))) (Tk.of (takesZ_of rfl rfl rfl rfl) rfl rfl)
/-! _law_read -/
abbrev s__law_read : Stmt := (top 45)
abbrev N__law_read : List Str := ["text", "e"]
theorem sc__law_read : FnScope N__law_read ["text"] (defScope s__law_read) := ⟨rfl, rfl, rfl, by decide +kernel, rfl, by decide +kernel, by decide +kernel⟩
def b__law_read : SM :=
  (sSeq (sTryAs ["BadLine"] 1 (sRet (eTup (aCons (eC (.str "plant")) (aCons (eCall (argc 1 m_read_plant) (aCons (eVar 0) aNil)) aNil)))) (fun ex => (sIf (mAnd (mTru (eIsE [("BadLine", true)] ex)) (mT (eBin gEq (eCall (argc 1 mq__law_kind) (aCons (eFldE ["BadLine"] "line" ex) aNil)) (eC (.int 2))))) (sRet (eTup (aCons (eC (.str "bad")) (aCons (eFldE ["BadLine"] "line" ex) aNil)))) sNext)))
    (sRet (eC .non)))
def m__law_read : Fn := fnOf 1 2 b__law_read
theorem ok__law_read (T : Txt P K mg) : Ok false P w K mg base 9 "_law_read" s__law_read ["text"] 1 m__law_read := ok_fn T.d__law_read sc__law_read rfl fun f cdv A outer s H E hr => (fun (tk : Tk false (cxOf (CXz false P w) P w K mg base N__law_read "_law_read" (defScope s__law_read) f cdv A outer s H E) (WD E)) => (ss_cons (ss_tryAs (i := 1) rfl rfl sc__law_read.nd (lst_cons T.h_BadLine_BadLine lst_nil) T.k_BadLine (takesZ_of (z := false) rfl rfl rfl rfl) (fun _ _ _ tk0 po => (fun tk => (ss_one (ss_ret (se_tup (sa_cons se_str (sa_cons (se_own (ok_read_plant T) hr tk (sa_cons (se_of (pv 0)) sa_nil)) sa_nil)))))) (Tk.of tk0 rfl rfl)) (fun xa _ _ xd _ ex q0 => by letI : Amb := ambE noAmb 1 xa xd ex; exact (ss_one (ss_if (PW.pt (sw_and (st_tru (se_isE q0 (tab_cons T.i_BadLine_StewardError tab_nil) T.b_isinstance)) (sw_one (st_cmp op_eq og_eq (se_callQ (okq__law_kind T) hr (sa_cons (se_fldE q0 (lst_cons T.g_BadLine_line lst_nil)) sa_nil)) se_int (nomark _))))) (ss_one (ss_ret (se_tup (sa_cons se_str (sa_cons (se_fldE q0 (lst_cons T.g_BadLine_line lst_nil)) sa_nil))))) ss_nil))))
    (ss_one (ss_ret se_non)))) (Tk.of (takesZ_of rfl rfl rfl rfl) rfl rfl)
/-! _law_plant -/
abbrev s__law_plant : Stmt := (top 36)
abbrev N__law_plant : List Str := ["pool", "most", "deeds", "n", "bare", "rows", "state", "lean", "row", "deed", "goal"]
theorem sc__law_plant : FnScope N__law_plant ["pool", "most", "deeds"] (defScope s__law_plant) := ⟨rfl, rfl, rfl, by decide +kernel, rfl, by decide +kernel, by decide +kernel⟩
theorem ok__law_plant (T : Txt P K mg) : Ok true P w K mg base 2 "_law_plant" s__law_plant ["pool", "most", "deeds"] 3 m__law_plant := ok_keep T.d__law_plant sc__law_plant rfl fun f cdv A outer s H E hr => (fun (tk : Tk true (cxOf (CXz true P w) P w K mg base N__law_plant "_law_plant" (defScope s__law_plant) f cdv A outer s H E) (WD E)) => (ss_cons (ss_asg (i := 3) sc__law_plant.nd (se_bin op_addA og_add se_int (se_own (ok__law_draw T) hr tk (sa_cons (se_of (pv 0)) (sa_cons (se_of (pv 1)) sa_nil)))))
    (ss_cons (ss_if (st_cmp op_eq og_eq (se_own (ok__law_draw T) hr tk (sa_cons (se_of (pv 0)) (sa_cons se_int sa_nil))) se_int (nomark _)) (ss_one (ss_asg (i := 3) sc__law_plant.nd (se_of (pv 1)))) ss_nil)
    (ss_cons (ss_asg (i := 4) sc__law_plant.nd (se_ix (se_lst (sa_cons se_int (sa_cons se_int (sa_cons se_int (sa_cons se_int sa_nil))))) (se_own (ok__law_draw T) hr tk (sa_cons (se_of (pv 0)) (sa_cons se_int sa_nil)))))
    (ss_cons (ss_asg (i := 5) sc__law_plant.nd (se_tup sa_nil))
    (ss_cons (ss_for (passes_of rfl) (si_rg1 T.b_range (sa_cons (se_of (pv 3)) sa_nil)) (pg_name (i := 6) sc__law_plant.nd rfl (Or.inl rfl)) tr_name (ss_cons (ss_asg (i := 8) sc__law_plant.nd (se_tup sa_nil))
    (ss_cons (ss_for (passes_of rfl) (si_rg1 T.b_range (sa_cons (se_of (pv 2)) sa_nil)) (pg_name (i := 9) sc__law_plant.nd rfl (Or.inl rfl)) tr_name (ss_cons (ss_asg (i := 10) sc__law_plant.nd (se_own (ok__law_draw T) hr tk (sa_cons (se_of (pv 0)) (sa_cons (se_of (pv 3)) sa_nil))))
    (ss_cons (ss_if (st_cmp op_eq og_eq (se_own (ok__law_draw T) hr tk (sa_cons (se_of (pv 0)) (sa_cons (se_of (pv 4)) sa_nil))) se_int (nomark _)) (ss_one (ss_asg (i := 10) sc__law_plant.nd (se_neg se_int))) ss_nil)
    (ss_one (ss_asg (i := 8) sc__law_plant.nd (se_bin op_addA og_add (se_of (pv 8)) (se_tup (sa_cons (se_of (pv 10)) sa_nil))))))))
    (ss_one (ss_asg (i := 5) sc__law_plant.nd (se_bin op_addA og_add (se_of (pv 5)) (se_tup (sa_cons (se_of (pv 8)) sa_nil))))))))
    (ss_cons (ss_asg (i := 7) sc__law_plant.nd (se_bin op_addA og_add se_int (se_own (ok__law_draw T) hr tk (sa_cons (se_of (pv 0)) (sa_cons se_int sa_nil)))))
    (ss_one (ss_ret (se_tup (sa_cons (se_of (pv 5)) (sa_cons (se_callTy call_tuple_of cg_tuple (by rfl) T.b_tuple (by decide +kernel) (sa_cons (se_comp (own := [("state", 6)]) sc__law_plant.nd tk (si_rg1 T.b_range (sa_cons (se_of (pv 3)) sa_nil)) (blkOk_by (N := N__law_plant) (sc := defScope s__law_plant) (by decide +kernel)) (fun _ _ _ _ _ _ => (pg_name (i := 6) sc__law_plant.nd rfl (Or.inl rfl))) (tw_name (by decide)) (fun _ _ _ _ _ _ _ tk => (sts_one (st_cmp op_eq og_eq (se_own (ok__law_draw T) hr tk (sa_cons (se_of (pv 0)) (sa_cons (se_of (pv 7)) sa_nil))) se_int (nomark _)))) (fun _ _ _ _ _ _ _ tk => (se_of (pv 6)))) sa_nil)) sa_nil)))))))))))) (Tk.of (takesZ_of rfl rfl rfl rfl) rfl rfl)
/-! _law_wide -/
abbrev s__law_wide : Stmt := (top 39)
abbrev N__law_wide : List Str := ["pool", "n", "deeds", "rows", "state", "row", "deed"]
theorem sc__law_wide : FnScope N__law_wide ["pool", "n", "deeds"] (defScope s__law_wide) := ⟨rfl, rfl, rfl, by decide +kernel, rfl, by decide +kernel, by decide +kernel⟩
theorem ok__law_wide (T : Txt P K mg) : Ok true P w K mg base 2 "_law_wide" s__law_wide ["pool", "n", "deeds"] 3 m__law_wide := ok_keep T.d__law_wide sc__law_wide rfl fun f cdv A outer s H E hr => (fun (tk : Tk true (cxOf (CXz true P w) P w K mg base N__law_wide "_law_wide" (defScope s__law_wide) f cdv A outer s H E) (WD E)) => (ss_cons (ss_asg (i := 3) sc__law_wide.nd (se_tup sa_nil))
    (ss_cons (ss_for (passes_of rfl) (si_rg1 T.b_range (sa_cons (se_of (pv 1)) sa_nil)) (pg_name (i := 4) sc__law_wide.nd rfl (Or.inl rfl)) tr_name (ss_cons (ss_asg (i := 5) sc__law_wide.nd (se_tup sa_nil))
    (ss_cons (ss_for (passes_of rfl) (si_rg1 T.b_range (sa_cons (se_of (pv 2)) sa_nil)) (pg_name (i := 6) sc__law_wide.nd rfl (Or.inl rfl)) tr_name (ss_one (ss_asg (i := 5) sc__law_wide.nd (se_bin op_addA og_add (se_of (pv 5)) (se_tup (sa_cons (se_bin op_sub og_sub (se_own (ok__law_draw T) hr tk (sa_cons (se_of (pv 0)) (sa_cons (se_bin op_addA og_add (se_of (pv 1)) se_int) sa_nil))) se_int) sa_nil))))))
    (ss_one (ss_asg (i := 3) sc__law_wide.nd (se_bin op_addA og_add (se_of (pv 3)) (se_tup (sa_cons (se_of (pv 5)) sa_nil))))))))
    (ss_one (ss_ret (se_tup (sa_cons (se_of (pv 3)) (sa_cons (se_callTy call_tuple_of cg_tuple (by rfl) T.b_tuple (by decide +kernel) (sa_cons (se_comp (own := [("state", 4)]) sc__law_wide.nd tk (si_rg1 T.b_range (sa_cons (se_of (pv 1)) sa_nil)) (blkOk_by (N := N__law_wide) (sc := defScope s__law_wide) (by decide +kernel)) (fun _ _ _ _ _ _ => (pg_name (i := 4) sc__law_wide.nd rfl (Or.inl rfl))) (tw_name (by decide)) (fun _ _ _ _ _ _ _ tk => (sts_one (st_cmp op_eq og_eq (se_own (ok__law_draw T) hr tk (sa_cons (se_of (pv 0)) (sa_cons se_int sa_nil))) se_int (nomark _)))) (fun _ _ _ _ _ _ _ tk => (se_of (pv 4)))) sa_nil)) sa_nil)))))))) (Tk.of (takesZ_of rfl rfl rfl rfl) rfl rfl)
/-! write_set -/
abbrev s_write_set : Stmt := (top 26)
abbrev N_write_set : List Str := ["numbers", "number"]
theorem sc_write_set : FnScope N_write_set ["numbers"] (defScope s_write_set) := ⟨rfl, rfl, rfl, by decide +kernel, rfl, by decide +kernel, by decide +kernel⟩
theorem ok_write_set (T : Txt P K mg) : Ok true P w K mg base 1 "write_set" s_write_set ["numbers"] 1 m_write_set := ok_keep T.d_write_set sc_write_set rfl fun f cdv A outer s H E hr => (fun (tk : Tk true (cxOf (CXz true P w) P w K mg base N_write_set "write_set" (defScope s_write_set) f cdv A outer s H E) (WD E)) => (ss_one (ss_ret (se_if (st_cmp op_gt og_gt (se_callB call_len cg_len (by rfl) T.b_len (by decide +kernel) (sa_cons (se_of (pv 0)) sa_nil)) se_int (nomark _)) (se_join se_str (se_comp (own := [("number", 1)]) sc_write_set.nd tk (si_seq (se_of (pv 0))) (blkOk_by (N := N_write_set) (sc := defScope s_write_set) (by decide +kernel)) (fun _ _ _ _ _ _ => (pg_name (i := 1) sc_write_set.nd rfl (Or.inl rfl))) (tw_name (by decide)) (fun _ _ _ _ _ _ _ tk => sts_nil) (fun _ _ _ _ _ _ _ tk => (se_callTy call_str_int cg_str (by rfl) T.b_str (by decide +kernel) (sa_cons (se_of (pv 1)) sa_nil))))) (se_globS T.c_DASH))))) (Tk.of (takesZ_of rfl rfl rfl rfl) rfl rfl)
/-! sign_of -/
abbrev s_sign_of : Stmt := (top 24)
abbrev N_sign_of : List Str := ["number"]
theorem sc_sign_of : FnScope N_sign_of ["number"] (defScope s_sign_of) := ⟨rfl, rfl, rfl, by decide +kernel, rfl, by decide +kernel, by decide +kernel⟩
theorem ok_sign_of (T : Txt P K mg) : Ok true P w K mg base 1 "sign_of" s_sign_of ["number"] 1 m_sign_of := ok_keep T.d_sign_of sc_sign_of rfl fun f cdv A outer s H E hr => (fun (tk : Tk true (cxOf (CXz true P w) P w K mg base N_sign_of "sign_of" (defScope s_sign_of) f cdv A outer s H E) (WD E)) => (ss_one (ss_ret (se_if (st_cmp op_eq og_eq (se_of (pv 0)) (se_globI T.c_NOWHERE) (nomark _)) (se_globS T.c_DASH) (se_callTy call_str_int cg_str (by rfl) T.b_str (by decide +kernel) (sa_cons (se_of (pv 0)) sa_nil)))))) (Tk.of (takesZ_of rfl rfl rfl rfl) rfl rfl)
/-! write_plant -/
abbrev s_write_plant : Stmt := (top 28)
abbrev N_write_plant : List Str := ["plant", "lines", "row", "goal"]
theorem sc_write_plant : FnScope N_write_plant ["plant"] (defScope s_write_plant) := ⟨rfl, rfl, rfl, by decide +kernel, rfl, by decide +kernel, by decide +kernel⟩
theorem ok_write_plant (T : Txt P K mg) : Ok true P w K mg base 2 "write_plant" s_write_plant ["plant"] 1 m_write_plant := ok_fn T.d_write_plant sc_write_plant rfl fun f cdv A outer s H E hr => (fun (tk : Tk true (cxOf (CXz true P w) P w K mg base N_write_plant "write_plant" (defScope s_write_plant) f cdv A outer s H E) (WD E)) => (ss_cons (ss_asg (i := 1) sc_write_plant.nd (se_lstT (sa_cons (se_bin op_addA og_add se_str (se_callTy call_str_int cg_str (by rfl) T.b_str (by decide +kernel) (sa_cons (se_callB call_len cg_len (by rfl) T.b_len (by decide +kernel) (sa_cons (se_ix (se_ix (se_of (pv 0)) se_int) se_int) sa_nil)) sa_nil))) sa_nil)))
    (ss_cons (ss_expr (se_extend (se_of (pv 1)) (se_comp (own := [("row", 2)]) sc_write_plant.nd tk (si_seq (se_ix (se_of (pv 0)) se_int)) (blkOk_by (N := N_write_plant) (sc := defScope s_write_plant) (by decide +kernel)) (fun _ _ _ _ _ _ => (pg_name (i := 2) sc_write_plant.nd rfl (Or.inl rfl))) (tw_name (by decide)) (fun _ _ _ _ _ _ _ tk => sts_nil) (fun _ _ _ _ _ _ _ tk => (se_bin op_addA og_add se_str (se_join se_str (se_comp (own := [("goal", 3)]) sc_write_plant.nd tk (si_seq (se_of (pv 2))) (blkOk_by (by kernel_rfl)) (fun _ _ _ _ _ _ => (pg_name (i := 3) sc_write_plant.nd rfl (Or.inl rfl))) (tw_name (by decide)) (fun _ _ _ _ _ _ _ tk => sts_nil) (fun _ _ _ _ _ _ _ tk => (se_own (ok_sign_of T) hr tk (sa_cons (se_of (pv 3)) sa_nil))))))))))
    (ss_one (ss_ret (se_join se_str (se_bin op_addA og_add (se_of (pv 1)) (se_lst (sa_cons (se_bin op_addA og_add se_str (se_own (ok_write_set T) hr tk (sa_cons (se_ix (se_of (pv 0)) se_int) sa_nil))) sa_nil))))))))) (Tk.of (takesZ_of rfl rfl rfl rfl) rfl rfl)
/-! law -/
abbrev s_law : Stmt := (top 46)
abbrev N_law : List Str := ["script", "pool", "deeds", "plant", "lines", "text", "n", "k", "at", "cells", "wrong", "line"]
theorem sc_law : FnScope N_law ["script"] (defScope s_law) := ⟨rfl, rfl, rfl, by decide +kernel, rfl, by decide +kernel, by decide +kernel⟩
def b_law_0 : SM :=
  (sAsg (eCall (argc 1 m__law_pool) (aCons (eVar 0) aNil)) 1)
set_option maxHeartbeats 0 in
theorem st_law_0 {f : Addr} {cdv : Value} {A : Around} {outer : List Env} {s : Shared} {H : Hp} {E : XK} (T : Txt P K mg) (hr : Room 10 (A.deeper (PyProof.Rows.envOfC "law" (defScope s_law) s.heap.objs.size f cdv))) (tk : Tk false (cxOf (CXz false P w) P w K mg base N_law "law" (defScope s_law) f cdv A outer s H E) (WD E)) : SS (cxOf (CXz false P w) P w K mg base N_law "law" (defScope s_law) f cdv A outer s H E) (WD E) ((defBody s_law).getD 0 (.Pass ⟨0, 0, 0, 0⟩)) b_law_0 :=
  (ss_asg (i := 1) sc_law.nd (se_own (ok__law_pool T) hr tk (sa_cons (se_of (pv 0)) sa_nil)))
theorem st_law_1 {f : Addr} {cdv : Value} {A : Around} {outer : List Env} {s : Shared} {H : Hp} {E : XK} {rest : List Stmt} {gg : SM} (T : Txt P K mg) (hr : Room 10 (A.deeper (PyProof.Rows.envOfC "law" (defScope s_law) s.heap.objs.size f cdv))) (tk : Tk false (cxOf (CXz false P w) P w K mg base N_law "law" (defScope s_law) f cdv A outer s H E) (WD E)) (h2 : SSsT (cxOf (CXz false P w) P w K mg base N_law "law" (defScope s_law) f cdv A outer s H E) (WD E) rest gg) : SSs (cxOf (CXz false P w) P w K mg base N_law "law" (defScope s_law) f cdv A outer s H E) (WD E) ((defBody s_law).getD 1 (.Pass ⟨0, 0, 0, 0⟩) :: rest) (sSeq (sAsg (eBin gAdd (eC (.int 1)) (eCall (argc 2 m__law_draw) (aCons (eVar 1) (aCons (eC (.int 4)) aNil)))) 2) gg) :=
  ss_consK (i := 2) sc_law.nd op_addA og_add (se_own (ok__law_draw T) hr tk (sa_cons (se_of (pv 1)) (sa_cons se_int sa_nil))) h2
def b_law_2 : SM :=
  (sAsg (eBin gIx (eLst (aCons (eCall (argc 3 m__law_plant) (aCons (eVar 1) (aCons (eC (.int 4)) (aCons (eVar 2) aNil)))) (aCons (eCall (argc 3 m__law_wide) (aCons (eVar 1) (aCons (eBin gAdd (eC (.int 1)) (eCall (argc 2 m__law_draw) (aCons (eVar 1) (aCons (eC (.int 16)) aNil)))) (aCons (eVar 2) aNil)))) aNil))) (eCall (argc 2 m__law_draw) (aCons (eVar 1) (aCons (eC (.int 2)) aNil)))) 3)
set_option maxHeartbeats 0 in
theorem st_law_2 {f : Addr} {cdv : Value} {A : Around} {outer : List Env} {s : Shared} {H : Hp} {E : XK} (T : Txt P K mg) (hr : Room 10 (A.deeper (PyProof.Rows.envOfC "law" (defScope s_law) s.heap.objs.size f cdv))) (tk : Tk false (cxOf (CXz false P w) P w K mg base N_law "law" (defScope s_law) f cdv A outer s H E) (WD E)) : SS (cxOf (CXz false P w) P w K mg base N_law "law" (defScope s_law) f cdv A outer s H E) (WD E) ((defBody s_law).getD 2 (.Pass ⟨0, 0, 0, 0⟩)) b_law_2 :=
  (ss_asg (i := 3) sc_law.nd (se_ix (se_lst (sa_cons (se_own (ok__law_plant T) hr tk (sa_cons (se_of (pv 1)) (sa_cons se_int (sa_cons (se_of (pv 2)) sa_nil)))) (sa_cons (se_own (ok__law_wide T) hr tk (sa_cons (se_of (pv 1)) (sa_cons (se_bin op_addA og_add se_int (se_own (ok__law_draw T) hr tk (sa_cons (se_of (pv 1)) (sa_cons se_int sa_nil)))) (sa_cons (se_of (pv 2)) sa_nil)))) sa_nil))) (se_own (ok__law_draw T) hr tk (sa_cons (se_of (pv 1)) (sa_cons se_int sa_nil)))))
def b_law_3 : SM :=
  (sAsg (eCall (argc 1 m__law_plant_lines) (aCons (eVar 3) aNil)) 4)
set_option maxHeartbeats 0 in
theorem st_law_3 {f : Addr} {cdv : Value} {A : Around} {outer : List Env} {s : Shared} {H : Hp} {E : XK} (T : Txt P K mg) (hr : Room 10 (A.deeper (PyProof.Rows.envOfC "law" (defScope s_law) s.heap.objs.size f cdv))) (tk : Tk false (cxOf (CXz false P w) P w K mg base N_law "law" (defScope s_law) f cdv A outer s H E) (WD E)) : SS (cxOf (CXz false P w) P w K mg base N_law "law" (defScope s_law) f cdv A outer s H E) (WD E) ((defBody s_law).getD 3 (.Pass ⟨0, 0, 0, 0⟩)) b_law_3 :=
  (ss_asg (i := 4) sc_law.nd (se_own (ok__law_plant_lines T) hr tk (sa_cons (se_of (pv 3)) sa_nil)))
def b_law_4 : SM :=
  (sAsg (eCall (argc 2 m__law_join) (aCons (eC (.str "\n")) (aCons (eVar 4) aNil))) 5)
set_option maxHeartbeats 0 in
theorem st_law_4 {f : Addr} {cdv : Value} {A : Around} {outer : List Env} {s : Shared} {H : Hp} {E : XK} (T : Txt P K mg) (hr : Room 10 (A.deeper (PyProof.Rows.envOfC "law" (defScope s_law) s.heap.objs.size f cdv))) (tk : Tk false (cxOf (CXz false P w) P w K mg base N_law "law" (defScope s_law) f cdv A outer s H E) (WD E)) : SS (cxOf (CXz false P w) P w K mg base N_law "law" (defScope s_law) f cdv A outer s H E) (WD E) ((defBody s_law).getD 4 (.Pass ⟨0, 0, 0, 0⟩)) b_law_4 :=
  (ss_asg (i := 5) sc_law.nd (se_own (ok__law_join T) hr tk (sa_cons se_str (sa_cons (se_of (pv 4)) sa_nil))))
def b_law_5 : SM :=
  (sIf (mOr (mNot (mTru (eCall (argc 2 (m__law_equal 8)) (aCons (eCall (argc 1 m_write_plant) (aCons (eVar 3) aNil)) (aCons (eVar 5) aNil))))) (mNot (mTru (eCall (argc 2 (m__law_equal 8)) (aCons (eCall (argc 1 m__law_read) (aCons (eVar 5) aNil)) (aCons (eTup (aCons (eC (.str "plant")) (aCons (eVar 3) aNil))) aNil)))))) (sRet (eC (.bl false))) sNext)
set_option maxHeartbeats 0 in
theorem st_law_5 {f : Addr} {cdv : Value} {A : Around} {outer : List Env} {s : Shared} {H : Hp} {E : XK} (T : Txt P K mg) (hr : Room 10 (A.deeper (PyProof.Rows.envOfC "law" (defScope s_law) s.heap.objs.size f cdv))) (tk : Tk false (cxOf (CXz false P w) P w K mg base N_law "law" (defScope s_law) f cdv A outer s H E) (WD E)) : SS (cxOf (CXz false P w) P w K mg base N_law "law" (defScope s_law) f cdv A outer s H E) (WD E) ((defBody s_law).getD 5 (.Pass ⟨0, 0, 0, 0⟩)) b_law_5 :=
  (ss_if (PW.pt (sw_or (st_not (st_tru (se_own (ok__law_equal T) hr tk (sa_cons (se_own (ok_write_plant T) hr tk (sa_cons (se_of (pv 3)) sa_nil)) (sa_cons (se_of (pv 5)) sa_nil))))) (sw_one (st_not (st_tru (se_own (ok__law_equal T) hr tk (sa_cons (se_own (ok__law_read T) hr tk (sa_cons (se_of (pv 5)) sa_nil)) (sa_cons (se_tup (sa_cons se_str (sa_cons (se_of (pv 3)) sa_nil))) sa_nil)))))))) (ss_one (ss_ret se_bl)) ss_nil)
def b_law_6 : SM :=
  (sAsg (eCall gLen (aCons (eBin gIx (eVar 3) (eC (.int 0))) aNil)) 6)
set_option maxHeartbeats 0 in
theorem st_law_6 {f : Addr} {cdv : Value} {A : Around} {outer : List Env} {s : Shared} {H : Hp} {E : XK} (T : Txt P K mg) (hr : Room 10 (A.deeper (PyProof.Rows.envOfC "law" (defScope s_law) s.heap.objs.size f cdv))) (tk : Tk false (cxOf (CXz false P w) P w K mg base N_law "law" (defScope s_law) f cdv A outer s H E) (WD E)) : SS (cxOf (CXz false P w) P w K mg base N_law "law" (defScope s_law) f cdv A outer s H E) (WD E) ((defBody s_law).getD 6 (.Pass ⟨0, 0, 0, 0⟩)) b_law_6 :=
  (ss_asg (i := 6) sc_law.nd (se_callB call_len cg_len (by rfl) T.b_len (by decide +kernel) (sa_cons (se_ix (se_of (pv 3)) se_int) sa_nil)))
def b_law_7 : SM :=
  (sFor (iRg1 (aCons (eBin gSub (eCall gLen (aCons (eVar 4) aNil)) (eC (.int 1))) aNil)) (tgName 7) (sIf (mNot (mTru (eCall (argc 2 (m__law_equal 8)) (aCons (eCall (argc 1 m__law_read) (aCons (eCall (argc 2 m__law_join) (aCons (eC (.str "\n")) (aCons (eCut (eVar 4) pNone (pSome (eBin gAdd (eVar 7) (eC (.int 1))))) aNil))) aNil)) (aCons (eTup (aCons (eC (.str "bad")) (aCons (eBin gAdd (eVar 7) (eC (.int 1))) aNil))) aNil))))) (sRet (eC (.bl false))) sNext))
set_option maxHeartbeats 0 in
theorem st_law_7 {f : Addr} {cdv : Value} {A : Around} {outer : List Env} {s : Shared} {H : Hp} {E : XK} (T : Txt P K mg) (hr : Room 10 (A.deeper (PyProof.Rows.envOfC "law" (defScope s_law) s.heap.objs.size f cdv))) (tk : Tk false (cxOf (CXz false P w) P w K mg base N_law "law" (defScope s_law) f cdv A outer s H E) (WD E)) : SS (cxOf (CXz false P w) P w K mg base N_law "law" (defScope s_law) f cdv A outer s H E) (WD E) ((defBody s_law).getD 7 (.Pass ⟨0, 0, 0, 0⟩)) b_law_7 :=
  (ss_for (passes_of rfl) (si_rg1 T.b_range (sa_cons (se_bin op_sub og_sub (se_callB call_len cg_len (by rfl) T.b_len (by decide +kernel) (sa_cons (se_of (pv 4)) sa_nil)) se_int) sa_nil)) (pg_name (i := 7) sc_law.nd rfl (Or.inl rfl)) tr_name (ss_one (ss_if (st_not (st_tru (se_own (ok__law_equal T) hr tk (sa_cons (se_own (ok__law_read T) hr tk (sa_cons (se_own (ok__law_join T) hr tk (sa_cons se_str (sa_cons (se_cut (se_of (pv 4)) sp_none (sp_some (se_bin op_addA og_add (se_of (pv 7)) se_int))) sa_nil))) sa_nil)) (sa_cons (se_tup (sa_cons se_str (sa_cons (se_bin op_addA og_add (se_of (pv 7)) se_int) sa_nil))) sa_nil))))) (ss_one (ss_ret se_bl)) ss_nil)))
def b_law_8 : SM :=
  (sAsg (eBin gAdd (eC (.int 1)) (eCall (argc 2 m__law_draw) (aCons (eVar 1) (aCons (eVar 6) aNil)))) 8)
set_option maxHeartbeats 0 in
theorem st_law_8 {f : Addr} {cdv : Value} {A : Around} {outer : List Env} {s : Shared} {H : Hp} {E : XK} (T : Txt P K mg) (hr : Room 10 (A.deeper (PyProof.Rows.envOfC "law" (defScope s_law) s.heap.objs.size f cdv))) (tk : Tk false (cxOf (CXz false P w) P w K mg base N_law "law" (defScope s_law) f cdv A outer s H E) (WD E)) : SS (cxOf (CXz false P w) P w K mg base N_law "law" (defScope s_law) f cdv A outer s H E) (WD E) ((defBody s_law).getD 8 (.Pass ⟨0, 0, 0, 0⟩)) b_law_8 :=
  (ss_asg (i := 8) sc_law.nd (se_bin op_addA og_add se_int (se_own (ok__law_draw T) hr tk (sa_cons (se_of (pv 1)) (sa_cons (se_of (pv 6)) sa_nil)))))
def b_law_9 : SM :=
  (sAsg (eM1 gSplit (eBin gIx (eVar 4) (eVar 8)) (eC (.str " "))) 9)
set_option maxHeartbeats 0 in
theorem st_law_9 {f : Addr} {cdv : Value} {A : Around} {outer : List Env} {s : Shared} {H : Hp} {E : XK} (T : Txt P K mg) (hr : Room 10 (A.deeper (PyProof.Rows.envOfC "law" (defScope s_law) s.heap.objs.size f cdv))) (tk : Tk false (cxOf (CXz false P w) P w K mg base N_law "law" (defScope s_law) f cdv A outer s H E) (WD E)) : SS (cxOf (CXz false P w) P w K mg base N_law "law" (defScope s_law) f cdv A outer s H E) (WD E) ((defBody s_law).getD 9 (.Pass ⟨0, 0, 0, 0⟩)) b_law_9 :=
  (ss_asg (i := 9) sc_law.nd (se_split (se_ix (se_of (pv 4)) (se_of (pv 8))) se_str))
def b_law_10 : SM :=
  (sAsg (eLst (aCons (eBin gAdd (eBin gIx (eVar 4) (eVar 8)) (eC (.str " 0"))) (aCons (eBin gAdd (eBin gIx (eVar 4) (eVar 8)) (eC (.str " "))) (aCons (eC (.str "state")) (aCons (eC (.str "state ")) (aCons (eBin gAdd (eC (.str " ")) (eBin gIx (eVar 4) (eVar 8))) (aCons (eRepl (eBin gIx (eVar 4) (eVar 8)) "state" "states") (aCons (eCall (argc 2 m__law_join) (aCons (eC (.str " ")) (aCons (eCut (eVar 9) pNone (pSome (eNeg (eC (.int 1))))) aNil))) (aCons (eBin gAdd (eC (.str "state ")) (eCall (argc 2 m__law_join) (aCons (eC (.str " ")) (aCons (eBin gRepL (eLst (aCons (eC (.str "16")) aNil)) (eVar 2)) aNil)))) (aCons (eBin gAdd (eC (.str "state ")) (eCall (argc 2 m__law_join) (aCons (eC (.str " ")) (aCons (eBin gRepL (eLst (aCons (eC (.str "00")) aNil)) (eVar 2)) aNil)))) (aCons (eBin gAdd (eC (.str "state ")) (eCall (argc 2 m__law_join) (aCons (eC (.str " ")) (aCons (eBin gRepL (eLst (aCons (eC (.str "-1")) aNil)) (eVar 2)) aNil)))) (aCons (eBin gAdd (eC (.str "State ")) (eCall (argc 2 m__law_join) (aCons (eC (.str " ")) (aCons (eCut (eVar 9) (pSome (eC (.int 1))) pNone) aNil)))) (aCons (eBin gAdd (eC (.str "deeds ")) (eCall gStrI (aCons (eVar 2) aNil))) aNil))))))))))))) 10)
set_option maxHeartbeats 0 in
theorem st_law_10 {f : Addr} {cdv : Value} {A : Around} {outer : List Env} {s : Shared} {H : Hp} {E : XK} (T : Txt P K mg) (hr : Room 10 (A.deeper (PyProof.Rows.envOfC "law" (defScope s_law) s.heap.objs.size f cdv))) (tk : Tk false (cxOf (CXz false P w) P w K mg base N_law "law" (defScope s_law) f cdv A outer s H E) (WD E)) : SST (cxOf (CXz false P w) P w K mg base N_law "law" (defScope s_law) f cdv A outer s H E) (WD E) ((defBody s_law).getD 10 (.Pass ⟨0, 0, 0, 0⟩)) b_law_10 :=
  (sst_asg (i := 10) sc_law.nd (set_lst (sat_cons (set_of (se_bin op_addA og_add (se_ix (se_of (pv 4)) (se_of (pv 8))) se_str)) (sat_cons (set_of (se_bin op_addA og_add (se_ix (se_of (pv 4)) (se_of (pv 8))) se_str)) (sat_cons (set_of se_str) (sat_cons (set_of se_str) (sat_cons (set_of (se_bin op_addA og_add se_str (se_ix (se_of (pv 4)) (se_of (pv 8))))) (sat_cons (set_repl (se_ix (se_of (pv 4)) (se_of (pv 8)))) (sat_cons (set_of (se_own (ok__law_join T) hr tk (sa_cons se_str (sa_cons (se_cut (se_of (pv 9)) sp_none (sp_some (se_neg se_int))) sa_nil)))) (sat_cons (set_of (se_bin op_addA og_add se_str (se_own (ok__law_join T) hr tk (sa_cons se_str (sa_cons (se_bin op_repA og_repA (se_lst (sa_cons se_str sa_nil)) (se_of (pv 2))) sa_nil))))) (sat_cons (set_of (se_bin op_addA og_add se_str (se_own (ok__law_join T) hr tk (sa_cons se_str (sa_cons (se_bin op_repA og_repA (se_lst (sa_cons se_str sa_nil)) (se_of (pv 2))) sa_nil))))) (sat_cons (set_of (se_bin op_addA og_add se_str (se_own (ok__law_join T) hr tk (sa_cons se_str (sa_cons (se_bin op_repA og_repA (se_lst (sa_cons se_str sa_nil)) (se_of (pv 2))) sa_nil))))) (sat_cons (set_of (se_bin op_addA og_add se_str (se_own (ok__law_join T) hr tk (sa_cons se_str (sa_cons (se_cut (se_of (pv 9)) (sp_some se_int) sp_none) sa_nil))))) (sat_cons (set_of (se_bin op_addA og_add se_str (se_callTy call_str_int cg_str (by rfl) T.b_str (by decide +kernel) (sa_cons (se_of (pv 2)) sa_nil)))) sat_nil))))))))))))))
def b_law_11 : SM :=
  (sFor (iSeq (eVar 10)) (tgName 11) (sIf (mNot (mTru (eCall (argc 2 (m__law_equal 8)) (aCons (eCall (argc 1 m__law_read) (aCons (eCall (argc 2 m__law_join) (aCons (eC (.str "\n")) (aCons (eBin gAdd (eBin gAdd (eCut (eVar 4) pNone (pSome (eVar 8))) (eLst (aCons (eVar 11) aNil))) (eCut (eVar 4) (pSome (eBin gAdd (eVar 8) (eC (.int 1)))) pNone)) aNil))) aNil)) (aCons (eTup (aCons (eC (.str "bad")) (aCons (eVar 8) aNil))) aNil))))) (sRet (eC (.bl false))) sNext))
set_option maxHeartbeats 0 in
theorem st_law_11 {f : Addr} {cdv : Value} {A : Around} {outer : List Env} {s : Shared} {H : Hp} {E : XK} (T : Txt P K mg) (hr : Room 10 (A.deeper (PyProof.Rows.envOfC "law" (defScope s_law) s.heap.objs.size f cdv))) (tk : Tk false (cxOf (CXz false P w) P w K mg base N_law "law" (defScope s_law) f cdv A outer s H E) (WD E)) : SS (cxOf (CXz false P w) P w K mg base N_law "law" (defScope s_law) f cdv A outer s H E) (WD E) ((defBody s_law).getD 11 (.Pass ⟨0, 0, 0, 0⟩)) b_law_11 :=
  (ss_for (passes_of rfl) (si_seq (se_of (pv 10))) (pg_name (i := 11) sc_law.nd rfl (Or.inl rfl)) tr_name (ss_one (ss_if (st_not (st_tru (se_own (ok__law_equal T) hr tk (sa_cons (se_own (ok__law_read T) hr tk (sa_cons (se_own (ok__law_join T) hr tk (sa_cons se_str (sa_cons (se_bin op_addA og_add (se_bin op_addA og_add (se_cut (se_of (pv 4)) sp_none (sp_some (se_of (pv 8)))) (se_lst (sa_cons (se_of (pv 11)) sa_nil))) (se_cut (se_of (pv 4)) (sp_some (se_bin op_addA og_add (se_of (pv 8)) se_int)) sp_none)) sa_nil))) sa_nil)) (sa_cons (se_tup (sa_cons se_str (sa_cons (se_of (pv 8)) sa_nil))) sa_nil))))) (ss_one (ss_ret se_bl)) ss_nil)))
def b_law_12 : SM :=
  (sFor (iSeq (eLst (aCons (eC (.str "deeds 0")) (aCons (eC (.str "deeds 5")) (aCons (eC (.str "deeds")) (aCons (eC (.str "deeds  2")) (aCons (eC (.str "")) (aCons (eC (.str "deeds 02")) (aCons (eC (.str "state 0")) (aCons (eC (.str "deeds -")) (aCons (eC (.str "deeds x")) aNil))))))))))) (tgName 11) (sIf (mNot (mTru (eCall (argc 2 (m__law_equal 8)) (aCons (eCall (argc 1 m__law_read) (aCons (eCall (argc 2 m__law_join) (aCons (eC (.str "\n")) (aCons (eBin gAdd (eLst (aCons (eVar 11) aNil)) (eCut (eVar 4) (pSome (eC (.int 1))) pNone)) aNil))) aNil)) (aCons (eTup (aCons (eC (.str "bad")) (aCons (eC (.int 0)) aNil))) aNil))))) (sRet (eC (.bl false))) sNext))
set_option maxHeartbeats 0 in
theorem st_law_12 {f : Addr} {cdv : Value} {A : Around} {outer : List Env} {s : Shared} {H : Hp} {E : XK} (T : Txt P K mg) (hr : Room 10 (A.deeper (PyProof.Rows.envOfC "law" (defScope s_law) s.heap.objs.size f cdv))) (tk : Tk false (cxOf (CXz false P w) P w K mg base N_law "law" (defScope s_law) f cdv A outer s H E) (WD E)) : SS (cxOf (CXz false P w) P w K mg base N_law "law" (defScope s_law) f cdv A outer s H E) (WD E) ((defBody s_law).getD 12 (.Pass ⟨0, 0, 0, 0⟩)) b_law_12 :=
  (ss_for (passes_of rfl) (si_seq (se_lst (sa_cons se_str (sa_cons se_str (sa_cons se_str (sa_cons se_str (sa_cons se_str (sa_cons se_str (sa_cons se_str (sa_cons se_str (sa_cons se_str sa_nil))))))))))) (pg_name (i := 11) sc_law.nd rfl (Or.inl rfl)) tr_name (ss_one (ss_if (st_not (st_tru (se_own (ok__law_equal T) hr tk (sa_cons (se_own (ok__law_read T) hr tk (sa_cons (se_own (ok__law_join T) hr tk (sa_cons se_str (sa_cons (se_bin op_addA og_add (se_lst (sa_cons (se_of (pv 11)) sa_nil)) (se_cut (se_of (pv 4)) (sp_some se_int) sp_none)) sa_nil))) sa_nil)) (sa_cons (se_tup (sa_cons se_str (sa_cons se_int sa_nil))) sa_nil))))) (ss_one (ss_ret se_bl)) ss_nil)))
def b_law_13 : SM :=
  (sFor (iSeq (eLst (aCons (eC (.str "ends")) (aCons (eC (.str "ends ")) (aCons (eC (.str "ends 0,0")) (aCons (eBin gAdd (eC (.str "ends ")) (eCall gStrI (aCons (eVar 6) aNil))) (aCons (eC (.str "ends 1,0")) (aCons (eC (.str "end -")) (aCons (eC (.str "ends --")) (aCons (eC (.str "ends -1")) (aCons (eC (.str "ends 0 1")) (aCons (eC (.str "ends 0,")) aNil)))))))))))) (tgName 11) (sIf (mNot (mTru (eCall (argc 2 (m__law_equal 8)) (aCons (eCall (argc 1 m__law_read) (aCons (eCall (argc 2 m__law_join) (aCons (eC (.str "\n")) (aCons (eBin gAdd (eCut (eVar 4) pNone (pSome (eNeg (eC (.int 1))))) (eLst (aCons (eVar 11) aNil))) aNil))) aNil)) (aCons (eTup (aCons (eC (.str "bad")) (aCons (eBin gSub (eCall gLen (aCons (eVar 4) aNil)) (eC (.int 1))) aNil))) aNil))))) (sRet (eC (.bl false))) sNext))
set_option maxHeartbeats 0 in
theorem st_law_13 {f : Addr} {cdv : Value} {A : Around} {outer : List Env} {s : Shared} {H : Hp} {E : XK} (T : Txt P K mg) (hr : Room 10 (A.deeper (PyProof.Rows.envOfC "law" (defScope s_law) s.heap.objs.size f cdv))) (tk : Tk false (cxOf (CXz false P w) P w K mg base N_law "law" (defScope s_law) f cdv A outer s H E) (WD E)) : SS (cxOf (CXz false P w) P w K mg base N_law "law" (defScope s_law) f cdv A outer s H E) (WD E) ((defBody s_law).getD 13 (.Pass ⟨0, 0, 0, 0⟩)) b_law_13 :=
  (ss_for (passes_of rfl) (si_seq (se_lst (sa_cons se_str (sa_cons se_str (sa_cons se_str (sa_cons (se_bin op_addA og_add se_str (se_callTy call_str_int cg_str (by rfl) T.b_str (by decide +kernel) (sa_cons (se_of (pv 6)) sa_nil))) (sa_cons se_str (sa_cons se_str (sa_cons se_str (sa_cons se_str (sa_cons se_str (sa_cons se_str sa_nil)))))))))))) (pg_name (i := 11) sc_law.nd rfl (Or.inl rfl)) tr_name (ss_one (ss_if (st_not (st_tru (se_own (ok__law_equal T) hr tk (sa_cons (se_own (ok__law_read T) hr tk (sa_cons (se_own (ok__law_join T) hr tk (sa_cons se_str (sa_cons (se_bin op_addA og_add (se_cut (se_of (pv 4)) sp_none (sp_some (se_neg se_int))) (se_lst (sa_cons (se_of (pv 11)) sa_nil))) sa_nil))) sa_nil)) (sa_cons (se_tup (sa_cons se_str (sa_cons (se_bin op_sub og_sub (se_callB call_len cg_len (by rfl) T.b_len (by decide +kernel) (sa_cons (se_of (pv 4)) sa_nil)) se_int) sa_nil))) sa_nil))))) (ss_one (ss_ret se_bl)) ss_nil)))
def b_law_14 : SM :=
  (sIf (mOr (mNot (mTru (eCall (argc 2 (m__law_equal 8)) (aCons (eCall (argc 1 m__law_read) (aCons (eBin gAdd (eVar 5) (eC (.str "\n"))) aNil)) (aCons (eTup (aCons (eC (.str "bad")) (aCons (eCall gLen (aCons (eVar 4) aNil)) aNil))) aNil))))) (mNot (mTru (eCall (argc 2 (m__law_equal 8)) (aCons (eCall (argc 1 m__law_read) (aCons (eBin gAdd (eVar 5) (eC (.str "\nends -"))) aNil)) (aCons (eTup (aCons (eC (.str "bad")) (aCons (eCall gLen (aCons (eVar 4) aNil)) aNil))) aNil)))))) (sRet (eC (.bl false))) sNext)
set_option maxHeartbeats 0 in
theorem st_law_14 {f : Addr} {cdv : Value} {A : Around} {outer : List Env} {s : Shared} {H : Hp} {E : XK} (T : Txt P K mg) (hr : Room 10 (A.deeper (PyProof.Rows.envOfC "law" (defScope s_law) s.heap.objs.size f cdv))) (tk : Tk false (cxOf (CXz false P w) P w K mg base N_law "law" (defScope s_law) f cdv A outer s H E) (WD E)) : SS (cxOf (CXz false P w) P w K mg base N_law "law" (defScope s_law) f cdv A outer s H E) (WD E) ((defBody s_law).getD 14 (.Pass ⟨0, 0, 0, 0⟩)) b_law_14 :=
  (ss_if (PW.pt (sw_or (st_not (st_tru (se_own (ok__law_equal T) hr tk (sa_cons (se_own (ok__law_read T) hr tk (sa_cons (se_bin op_addA og_add (se_of (pv 5)) se_str) sa_nil)) (sa_cons (se_tup (sa_cons se_str (sa_cons (se_callB call_len cg_len (by rfl) T.b_len (by decide +kernel) (sa_cons (se_of (pv 4)) sa_nil)) sa_nil))) sa_nil))))) (sw_one (st_not (st_tru (se_own (ok__law_equal T) hr tk (sa_cons (se_own (ok__law_read T) hr tk (sa_cons (se_bin op_addA og_add (se_of (pv 5)) se_str) sa_nil)) (sa_cons (se_tup (sa_cons se_str (sa_cons (se_callB call_len cg_len (by rfl) T.b_len (by decide +kernel) (sa_cons (se_of (pv 4)) sa_nil)) sa_nil))) sa_nil)))))))) (ss_one (ss_ret se_bl)) ss_nil)
def b_law_15 : SM :=
  (sIf (mOr (mNot (mTru (eCall (argc 2 (m__law_equal 8)) (aCons (eCall (argc 1 m__law_read) (aCons (eC (.str "deeds 1\nends -")) aNil)) (aCons (eTup (aCons (eC (.str "bad")) (aCons (eC (.int 1)) aNil))) aNil))))) (mNot (mTru (eCall (argc 2 (m__law_equal 8)) (aCons (eCall (argc 1 m__law_read) (aCons (eC (.str "deeds 1\nstate 1\nends -")) aNil)) (aCons (eTup (aCons (eC (.str "bad")) (aCons (eC (.int 2)) aNil))) aNil)))))) (sRet (eC (.bl false))) sNext)
set_option maxHeartbeats 0 in
theorem st_law_15 {f : Addr} {cdv : Value} {A : Around} {outer : List Env} {s : Shared} {H : Hp} {E : XK} (T : Txt P K mg) (hr : Room 10 (A.deeper (PyProof.Rows.envOfC "law" (defScope s_law) s.heap.objs.size f cdv))) (tk : Tk false (cxOf (CXz false P w) P w K mg base N_law "law" (defScope s_law) f cdv A outer s H E) (WD E)) : SS (cxOf (CXz false P w) P w K mg base N_law "law" (defScope s_law) f cdv A outer s H E) (WD E) ((defBody s_law).getD 15 (.Pass ⟨0, 0, 0, 0⟩)) b_law_15 :=
  (ss_if (PW.pt (sw_or (st_not (st_tru (se_own (ok__law_equal T) hr tk (sa_cons (se_own (ok__law_read T) hr tk (sa_cons se_str sa_nil)) (sa_cons (se_tup (sa_cons se_str (sa_cons se_int sa_nil))) sa_nil))))) (sw_one (st_not (st_tru (se_own (ok__law_equal T) hr tk (sa_cons (se_own (ok__law_read T) hr tk (sa_cons se_str sa_nil)) (sa_cons (se_tup (sa_cons se_str (sa_cons se_int sa_nil))) sa_nil)))))))) (ss_one (ss_ret se_bl)) ss_nil)
def b_law_16 : SM :=
  (sRet (eCall (argc 2 (m__law_equal 8)) (aCons (eCall (argc 1 m__law_read) (aCons (eBin gAdd (eBin gAdd (eC (.str "deeds 1")) (eBin gRepS (eC (.str "\nstate 0")) (eC (.int 17)))) (eC (.str "\nends -"))) aNil)) (aCons (eTup (aCons (eC (.str "bad")) (aCons (eC (.int 17)) aNil))) aNil))))
set_option maxHeartbeats 0 in
theorem st_law_16 {f : Addr} {cdv : Value} {A : Around} {outer : List Env} {s : Shared} {H : Hp} {E : XK} (T : Txt P K mg) (hr : Room 10 (A.deeper (PyProof.Rows.envOfC "law" (defScope s_law) s.heap.objs.size f cdv))) (tk : Tk false (cxOf (CXz false P w) P w K mg base N_law "law" (defScope s_law) f cdv A outer s H E) (WD E)) : SS (cxOf (CXz false P w) P w K mg base N_law "law" (defScope s_law) f cdv A outer s H E) (WD E) ((defBody s_law).getD 16 (.Pass ⟨0, 0, 0, 0⟩)) b_law_16 :=
  (ss_ret (se_own (ok__law_equal T) hr tk (sa_cons (se_own (ok__law_read T) hr tk (sa_cons (se_bin op_addA og_add (se_bin op_addA og_add se_str (se_bin op_repS og_repS se_str se_int)) se_str) sa_nil)) (sa_cons (se_tup (sa_cons se_str (sa_cons se_int sa_nil))) sa_nil))))
def q_law_16 : SM := b_law_16
theorem sq_law_16 {f : Addr} {cdv : Value} {A : Around} {outer : List Env} {s : Shared} {H : Hp} {E : XK} (T : Txt P K mg) (hr : Room 10 (A.deeper (PyProof.Rows.envOfC "law" (defScope s_law) s.heap.objs.size f cdv))) (tk : Tk false (cxOf (CXz false P w) P w K mg base N_law "law" (defScope s_law) f cdv A outer s H E) (WD E)) : SSsT (cxOf (CXz false P w) P w K mg base N_law "law" (defScope s_law) f cdv A outer s H E) (WD E) [(defBody s_law).getD 16 (.Pass ⟨0, 0, 0, 0⟩)] q_law_16 := (ssst_of (ss_one (st_law_16 T hr tk)))
def q_law_15 : SM := sSeq b_law_15 q_law_16
theorem sq_law_15 {f : Addr} {cdv : Value} {A : Around} {outer : List Env} {s : Shared} {H : Hp} {E : XK} (T : Txt P K mg) (hr : Room 10 (A.deeper (PyProof.Rows.envOfC "law" (defScope s_law) s.heap.objs.size f cdv))) (tk : Tk false (cxOf (CXz false P w) P w K mg base N_law "law" (defScope s_law) f cdv A outer s H E) (WD E)) : SSsT (cxOf (CXz false P w) P w K mg base N_law "law" (defScope s_law) f cdv A outer s H E) (WD E) [(defBody s_law).getD 15 (.Pass ⟨0, 0, 0, 0⟩), (defBody s_law).getD 16 (.Pass ⟨0, 0, 0, 0⟩)] q_law_15 := (ssst_cons (sst_of (st_law_15 T hr tk)) (sq_law_16 T hr tk))
def q_law_14 : SM := sSeq b_law_14 q_law_15
theorem sq_law_14 {f : Addr} {cdv : Value} {A : Around} {outer : List Env} {s : Shared} {H : Hp} {E : XK} (T : Txt P K mg) (hr : Room 10 (A.deeper (PyProof.Rows.envOfC "law" (defScope s_law) s.heap.objs.size f cdv))) (tk : Tk false (cxOf (CXz false P w) P w K mg base N_law "law" (defScope s_law) f cdv A outer s H E) (WD E)) : SSsT (cxOf (CXz false P w) P w K mg base N_law "law" (defScope s_law) f cdv A outer s H E) (WD E) [(defBody s_law).getD 14 (.Pass ⟨0, 0, 0, 0⟩), (defBody s_law).getD 15 (.Pass ⟨0, 0, 0, 0⟩), (defBody s_law).getD 16 (.Pass ⟨0, 0, 0, 0⟩)] q_law_14 := (ssst_cons (sst_of (st_law_14 T hr tk)) (sq_law_15 T hr tk))
def q_law_13 : SM := sSeq b_law_13 q_law_14
theorem sq_law_13 {f : Addr} {cdv : Value} {A : Around} {outer : List Env} {s : Shared} {H : Hp} {E : XK} (T : Txt P K mg) (hr : Room 10 (A.deeper (PyProof.Rows.envOfC "law" (defScope s_law) s.heap.objs.size f cdv))) (tk : Tk false (cxOf (CXz false P w) P w K mg base N_law "law" (defScope s_law) f cdv A outer s H E) (WD E)) : SSsT (cxOf (CXz false P w) P w K mg base N_law "law" (defScope s_law) f cdv A outer s H E) (WD E) [(defBody s_law).getD 13 (.Pass ⟨0, 0, 0, 0⟩), (defBody s_law).getD 14 (.Pass ⟨0, 0, 0, 0⟩), (defBody s_law).getD 15 (.Pass ⟨0, 0, 0, 0⟩), (defBody s_law).getD 16 (.Pass ⟨0, 0, 0, 0⟩)] q_law_13 := (ssst_cons (sst_of (st_law_13 T hr tk)) (sq_law_14 T hr tk))
def q_law_12 : SM := sSeq b_law_12 q_law_13
theorem sq_law_12 {f : Addr} {cdv : Value} {A : Around} {outer : List Env} {s : Shared} {H : Hp} {E : XK} (T : Txt P K mg) (hr : Room 10 (A.deeper (PyProof.Rows.envOfC "law" (defScope s_law) s.heap.objs.size f cdv))) (tk : Tk false (cxOf (CXz false P w) P w K mg base N_law "law" (defScope s_law) f cdv A outer s H E) (WD E)) : SSsT (cxOf (CXz false P w) P w K mg base N_law "law" (defScope s_law) f cdv A outer s H E) (WD E) [(defBody s_law).getD 12 (.Pass ⟨0, 0, 0, 0⟩), (defBody s_law).getD 13 (.Pass ⟨0, 0, 0, 0⟩), (defBody s_law).getD 14 (.Pass ⟨0, 0, 0, 0⟩), (defBody s_law).getD 15 (.Pass ⟨0, 0, 0, 0⟩), (defBody s_law).getD 16 (.Pass ⟨0, 0, 0, 0⟩)] q_law_12 := (ssst_cons (sst_of (st_law_12 T hr tk)) (sq_law_13 T hr tk))
def q_law_11 : SM := sSeq b_law_11 q_law_12
theorem sq_law_11 {f : Addr} {cdv : Value} {A : Around} {outer : List Env} {s : Shared} {H : Hp} {E : XK} (T : Txt P K mg) (hr : Room 10 (A.deeper (PyProof.Rows.envOfC "law" (defScope s_law) s.heap.objs.size f cdv))) (tk : Tk false (cxOf (CXz false P w) P w K mg base N_law "law" (defScope s_law) f cdv A outer s H E) (WD E)) : SSsT (cxOf (CXz false P w) P w K mg base N_law "law" (defScope s_law) f cdv A outer s H E) (WD E) [(defBody s_law).getD 11 (.Pass ⟨0, 0, 0, 0⟩), (defBody s_law).getD 12 (.Pass ⟨0, 0, 0, 0⟩), (defBody s_law).getD 13 (.Pass ⟨0, 0, 0, 0⟩), (defBody s_law).getD 14 (.Pass ⟨0, 0, 0, 0⟩), (defBody s_law).getD 15 (.Pass ⟨0, 0, 0, 0⟩), (defBody s_law).getD 16 (.Pass ⟨0, 0, 0, 0⟩)] q_law_11 := (ssst_cons (sst_of (st_law_11 T hr tk)) (sq_law_12 T hr tk))
def q_law_10 : SM := sSeq b_law_10 q_law_11
theorem sq_law_10 {f : Addr} {cdv : Value} {A : Around} {outer : List Env} {s : Shared} {H : Hp} {E : XK} (T : Txt P K mg) (hr : Room 10 (A.deeper (PyProof.Rows.envOfC "law" (defScope s_law) s.heap.objs.size f cdv))) (tk : Tk false (cxOf (CXz false P w) P w K mg base N_law "law" (defScope s_law) f cdv A outer s H E) (WD E)) : SSsT (cxOf (CXz false P w) P w K mg base N_law "law" (defScope s_law) f cdv A outer s H E) (WD E) [(defBody s_law).getD 10 (.Pass ⟨0, 0, 0, 0⟩), (defBody s_law).getD 11 (.Pass ⟨0, 0, 0, 0⟩), (defBody s_law).getD 12 (.Pass ⟨0, 0, 0, 0⟩), (defBody s_law).getD 13 (.Pass ⟨0, 0, 0, 0⟩), (defBody s_law).getD 14 (.Pass ⟨0, 0, 0, 0⟩), (defBody s_law).getD 15 (.Pass ⟨0, 0, 0, 0⟩), (defBody s_law).getD 16 (.Pass ⟨0, 0, 0, 0⟩)] q_law_10 := (ssst_cons (st_law_10 T hr tk) (sq_law_11 T hr tk))
def q_law_9 : SM := sSeq b_law_9 q_law_10
theorem sq_law_9 {f : Addr} {cdv : Value} {A : Around} {outer : List Env} {s : Shared} {H : Hp} {E : XK} (T : Txt P K mg) (hr : Room 10 (A.deeper (PyProof.Rows.envOfC "law" (defScope s_law) s.heap.objs.size f cdv))) (tk : Tk false (cxOf (CXz false P w) P w K mg base N_law "law" (defScope s_law) f cdv A outer s H E) (WD E)) : SSsT (cxOf (CXz false P w) P w K mg base N_law "law" (defScope s_law) f cdv A outer s H E) (WD E) [(defBody s_law).getD 9 (.Pass ⟨0, 0, 0, 0⟩), (defBody s_law).getD 10 (.Pass ⟨0, 0, 0, 0⟩), (defBody s_law).getD 11 (.Pass ⟨0, 0, 0, 0⟩), (defBody s_law).getD 12 (.Pass ⟨0, 0, 0, 0⟩), (defBody s_law).getD 13 (.Pass ⟨0, 0, 0, 0⟩), (defBody s_law).getD 14 (.Pass ⟨0, 0, 0, 0⟩), (defBody s_law).getD 15 (.Pass ⟨0, 0, 0, 0⟩), (defBody s_law).getD 16 (.Pass ⟨0, 0, 0, 0⟩)] q_law_9 := (ssst_cons (sst_of (st_law_9 T hr tk)) (sq_law_10 T hr tk))
def q_law_8 : SM := sSeq b_law_8 q_law_9
theorem sq_law_8 {f : Addr} {cdv : Value} {A : Around} {outer : List Env} {s : Shared} {H : Hp} {E : XK} (T : Txt P K mg) (hr : Room 10 (A.deeper (PyProof.Rows.envOfC "law" (defScope s_law) s.heap.objs.size f cdv))) (tk : Tk false (cxOf (CXz false P w) P w K mg base N_law "law" (defScope s_law) f cdv A outer s H E) (WD E)) : SSsT (cxOf (CXz false P w) P w K mg base N_law "law" (defScope s_law) f cdv A outer s H E) (WD E) [(defBody s_law).getD 8 (.Pass ⟨0, 0, 0, 0⟩), (defBody s_law).getD 9 (.Pass ⟨0, 0, 0, 0⟩), (defBody s_law).getD 10 (.Pass ⟨0, 0, 0, 0⟩), (defBody s_law).getD 11 (.Pass ⟨0, 0, 0, 0⟩), (defBody s_law).getD 12 (.Pass ⟨0, 0, 0, 0⟩), (defBody s_law).getD 13 (.Pass ⟨0, 0, 0, 0⟩), (defBody s_law).getD 14 (.Pass ⟨0, 0, 0, 0⟩), (defBody s_law).getD 15 (.Pass ⟨0, 0, 0, 0⟩), (defBody s_law).getD 16 (.Pass ⟨0, 0, 0, 0⟩)] q_law_8 := (ssst_cons (sst_of (st_law_8 T hr tk)) (sq_law_9 T hr tk))
def q_law_7 : SM := sSeq b_law_7 q_law_8
theorem sq_law_7 {f : Addr} {cdv : Value} {A : Around} {outer : List Env} {s : Shared} {H : Hp} {E : XK} (T : Txt P K mg) (hr : Room 10 (A.deeper (PyProof.Rows.envOfC "law" (defScope s_law) s.heap.objs.size f cdv))) (tk : Tk false (cxOf (CXz false P w) P w K mg base N_law "law" (defScope s_law) f cdv A outer s H E) (WD E)) : SSsT (cxOf (CXz false P w) P w K mg base N_law "law" (defScope s_law) f cdv A outer s H E) (WD E) [(defBody s_law).getD 7 (.Pass ⟨0, 0, 0, 0⟩), (defBody s_law).getD 8 (.Pass ⟨0, 0, 0, 0⟩), (defBody s_law).getD 9 (.Pass ⟨0, 0, 0, 0⟩), (defBody s_law).getD 10 (.Pass ⟨0, 0, 0, 0⟩), (defBody s_law).getD 11 (.Pass ⟨0, 0, 0, 0⟩), (defBody s_law).getD 12 (.Pass ⟨0, 0, 0, 0⟩), (defBody s_law).getD 13 (.Pass ⟨0, 0, 0, 0⟩), (defBody s_law).getD 14 (.Pass ⟨0, 0, 0, 0⟩), (defBody s_law).getD 15 (.Pass ⟨0, 0, 0, 0⟩), (defBody s_law).getD 16 (.Pass ⟨0, 0, 0, 0⟩)] q_law_7 := (ssst_cons (sst_of (st_law_7 T hr tk)) (sq_law_8 T hr tk))
def q_law_6 : SM := sSeq b_law_6 q_law_7
theorem sq_law_6 {f : Addr} {cdv : Value} {A : Around} {outer : List Env} {s : Shared} {H : Hp} {E : XK} (T : Txt P K mg) (hr : Room 10 (A.deeper (PyProof.Rows.envOfC "law" (defScope s_law) s.heap.objs.size f cdv))) (tk : Tk false (cxOf (CXz false P w) P w K mg base N_law "law" (defScope s_law) f cdv A outer s H E) (WD E)) : SSsT (cxOf (CXz false P w) P w K mg base N_law "law" (defScope s_law) f cdv A outer s H E) (WD E) [(defBody s_law).getD 6 (.Pass ⟨0, 0, 0, 0⟩), (defBody s_law).getD 7 (.Pass ⟨0, 0, 0, 0⟩), (defBody s_law).getD 8 (.Pass ⟨0, 0, 0, 0⟩), (defBody s_law).getD 9 (.Pass ⟨0, 0, 0, 0⟩), (defBody s_law).getD 10 (.Pass ⟨0, 0, 0, 0⟩), (defBody s_law).getD 11 (.Pass ⟨0, 0, 0, 0⟩), (defBody s_law).getD 12 (.Pass ⟨0, 0, 0, 0⟩), (defBody s_law).getD 13 (.Pass ⟨0, 0, 0, 0⟩), (defBody s_law).getD 14 (.Pass ⟨0, 0, 0, 0⟩), (defBody s_law).getD 15 (.Pass ⟨0, 0, 0, 0⟩), (defBody s_law).getD 16 (.Pass ⟨0, 0, 0, 0⟩)] q_law_6 := (ssst_cons (sst_of (st_law_6 T hr tk)) (sq_law_7 T hr tk))
def q_law_5 : SM := sSeq b_law_5 q_law_6
theorem sq_law_5 {f : Addr} {cdv : Value} {A : Around} {outer : List Env} {s : Shared} {H : Hp} {E : XK} (T : Txt P K mg) (hr : Room 10 (A.deeper (PyProof.Rows.envOfC "law" (defScope s_law) s.heap.objs.size f cdv))) (tk : Tk false (cxOf (CXz false P w) P w K mg base N_law "law" (defScope s_law) f cdv A outer s H E) (WD E)) : SSsT (cxOf (CXz false P w) P w K mg base N_law "law" (defScope s_law) f cdv A outer s H E) (WD E) [(defBody s_law).getD 5 (.Pass ⟨0, 0, 0, 0⟩), (defBody s_law).getD 6 (.Pass ⟨0, 0, 0, 0⟩), (defBody s_law).getD 7 (.Pass ⟨0, 0, 0, 0⟩), (defBody s_law).getD 8 (.Pass ⟨0, 0, 0, 0⟩), (defBody s_law).getD 9 (.Pass ⟨0, 0, 0, 0⟩), (defBody s_law).getD 10 (.Pass ⟨0, 0, 0, 0⟩), (defBody s_law).getD 11 (.Pass ⟨0, 0, 0, 0⟩), (defBody s_law).getD 12 (.Pass ⟨0, 0, 0, 0⟩), (defBody s_law).getD 13 (.Pass ⟨0, 0, 0, 0⟩), (defBody s_law).getD 14 (.Pass ⟨0, 0, 0, 0⟩), (defBody s_law).getD 15 (.Pass ⟨0, 0, 0, 0⟩), (defBody s_law).getD 16 (.Pass ⟨0, 0, 0, 0⟩)] q_law_5 := (ssst_cons (sst_of (st_law_5 T hr tk)) (sq_law_6 T hr tk))
def q_law_4 : SM := sSeq b_law_4 q_law_5
theorem sq_law_4 {f : Addr} {cdv : Value} {A : Around} {outer : List Env} {s : Shared} {H : Hp} {E : XK} (T : Txt P K mg) (hr : Room 10 (A.deeper (PyProof.Rows.envOfC "law" (defScope s_law) s.heap.objs.size f cdv))) (tk : Tk false (cxOf (CXz false P w) P w K mg base N_law "law" (defScope s_law) f cdv A outer s H E) (WD E)) : SSsT (cxOf (CXz false P w) P w K mg base N_law "law" (defScope s_law) f cdv A outer s H E) (WD E) [(defBody s_law).getD 4 (.Pass ⟨0, 0, 0, 0⟩), (defBody s_law).getD 5 (.Pass ⟨0, 0, 0, 0⟩), (defBody s_law).getD 6 (.Pass ⟨0, 0, 0, 0⟩), (defBody s_law).getD 7 (.Pass ⟨0, 0, 0, 0⟩), (defBody s_law).getD 8 (.Pass ⟨0, 0, 0, 0⟩), (defBody s_law).getD 9 (.Pass ⟨0, 0, 0, 0⟩), (defBody s_law).getD 10 (.Pass ⟨0, 0, 0, 0⟩), (defBody s_law).getD 11 (.Pass ⟨0, 0, 0, 0⟩), (defBody s_law).getD 12 (.Pass ⟨0, 0, 0, 0⟩), (defBody s_law).getD 13 (.Pass ⟨0, 0, 0, 0⟩), (defBody s_law).getD 14 (.Pass ⟨0, 0, 0, 0⟩), (defBody s_law).getD 15 (.Pass ⟨0, 0, 0, 0⟩), (defBody s_law).getD 16 (.Pass ⟨0, 0, 0, 0⟩)] q_law_4 := (ssst_cons (sst_of (st_law_4 T hr tk)) (sq_law_5 T hr tk))
def q_law_3 : SM := sSeq b_law_3 q_law_4
theorem sq_law_3 {f : Addr} {cdv : Value} {A : Around} {outer : List Env} {s : Shared} {H : Hp} {E : XK} (T : Txt P K mg) (hr : Room 10 (A.deeper (PyProof.Rows.envOfC "law" (defScope s_law) s.heap.objs.size f cdv))) (tk : Tk false (cxOf (CXz false P w) P w K mg base N_law "law" (defScope s_law) f cdv A outer s H E) (WD E)) : SSsT (cxOf (CXz false P w) P w K mg base N_law "law" (defScope s_law) f cdv A outer s H E) (WD E) [(defBody s_law).getD 3 (.Pass ⟨0, 0, 0, 0⟩), (defBody s_law).getD 4 (.Pass ⟨0, 0, 0, 0⟩), (defBody s_law).getD 5 (.Pass ⟨0, 0, 0, 0⟩), (defBody s_law).getD 6 (.Pass ⟨0, 0, 0, 0⟩), (defBody s_law).getD 7 (.Pass ⟨0, 0, 0, 0⟩), (defBody s_law).getD 8 (.Pass ⟨0, 0, 0, 0⟩), (defBody s_law).getD 9 (.Pass ⟨0, 0, 0, 0⟩), (defBody s_law).getD 10 (.Pass ⟨0, 0, 0, 0⟩), (defBody s_law).getD 11 (.Pass ⟨0, 0, 0, 0⟩), (defBody s_law).getD 12 (.Pass ⟨0, 0, 0, 0⟩), (defBody s_law).getD 13 (.Pass ⟨0, 0, 0, 0⟩), (defBody s_law).getD 14 (.Pass ⟨0, 0, 0, 0⟩), (defBody s_law).getD 15 (.Pass ⟨0, 0, 0, 0⟩), (defBody s_law).getD 16 (.Pass ⟨0, 0, 0, 0⟩)] q_law_3 := (ssst_cons (sst_of (st_law_3 T hr tk)) (sq_law_4 T hr tk))
def q_law_2 : SM := sSeq b_law_2 q_law_3
theorem sq_law_2 {f : Addr} {cdv : Value} {A : Around} {outer : List Env} {s : Shared} {H : Hp} {E : XK} (T : Txt P K mg) (hr : Room 10 (A.deeper (PyProof.Rows.envOfC "law" (defScope s_law) s.heap.objs.size f cdv))) (tk : Tk false (cxOf (CXz false P w) P w K mg base N_law "law" (defScope s_law) f cdv A outer s H E) (WD E)) : SSsT (cxOf (CXz false P w) P w K mg base N_law "law" (defScope s_law) f cdv A outer s H E) (WD E) [(defBody s_law).getD 2 (.Pass ⟨0, 0, 0, 0⟩), (defBody s_law).getD 3 (.Pass ⟨0, 0, 0, 0⟩), (defBody s_law).getD 4 (.Pass ⟨0, 0, 0, 0⟩), (defBody s_law).getD 5 (.Pass ⟨0, 0, 0, 0⟩), (defBody s_law).getD 6 (.Pass ⟨0, 0, 0, 0⟩), (defBody s_law).getD 7 (.Pass ⟨0, 0, 0, 0⟩), (defBody s_law).getD 8 (.Pass ⟨0, 0, 0, 0⟩), (defBody s_law).getD 9 (.Pass ⟨0, 0, 0, 0⟩), (defBody s_law).getD 10 (.Pass ⟨0, 0, 0, 0⟩), (defBody s_law).getD 11 (.Pass ⟨0, 0, 0, 0⟩), (defBody s_law).getD 12 (.Pass ⟨0, 0, 0, 0⟩), (defBody s_law).getD 13 (.Pass ⟨0, 0, 0, 0⟩), (defBody s_law).getD 14 (.Pass ⟨0, 0, 0, 0⟩), (defBody s_law).getD 15 (.Pass ⟨0, 0, 0, 0⟩), (defBody s_law).getD 16 (.Pass ⟨0, 0, 0, 0⟩)] q_law_2 := (ssst_cons (sst_of (st_law_2 T hr tk)) (sq_law_3 T hr tk))
def q_law_1 : SM := sSeq (sAsg (eBin gAdd (eC (.int 1)) (eCall (argc 2 m__law_draw) (aCons (eVar 1) (aCons (eC (.int 4)) aNil)))) 2) q_law_2
theorem sq_law_1 {f : Addr} {cdv : Value} {A : Around} {outer : List Env} {s : Shared} {H : Hp} {E : XK} (T : Txt P K mg) (hr : Room 10 (A.deeper (PyProof.Rows.envOfC "law" (defScope s_law) s.heap.objs.size f cdv))) (tk : Tk false (cxOf (CXz false P w) P w K mg base N_law "law" (defScope s_law) f cdv A outer s H E) (WD E)) : SSs (cxOf (CXz false P w) P w K mg base N_law "law" (defScope s_law) f cdv A outer s H E) (WD E) [(defBody s_law).getD 1 (.Pass ⟨0, 0, 0, 0⟩), (defBody s_law).getD 2 (.Pass ⟨0, 0, 0, 0⟩), (defBody s_law).getD 3 (.Pass ⟨0, 0, 0, 0⟩), (defBody s_law).getD 4 (.Pass ⟨0, 0, 0, 0⟩), (defBody s_law).getD 5 (.Pass ⟨0, 0, 0, 0⟩), (defBody s_law).getD 6 (.Pass ⟨0, 0, 0, 0⟩), (defBody s_law).getD 7 (.Pass ⟨0, 0, 0, 0⟩), (defBody s_law).getD 8 (.Pass ⟨0, 0, 0, 0⟩), (defBody s_law).getD 9 (.Pass ⟨0, 0, 0, 0⟩), (defBody s_law).getD 10 (.Pass ⟨0, 0, 0, 0⟩), (defBody s_law).getD 11 (.Pass ⟨0, 0, 0, 0⟩), (defBody s_law).getD 12 (.Pass ⟨0, 0, 0, 0⟩), (defBody s_law).getD 13 (.Pass ⟨0, 0, 0, 0⟩), (defBody s_law).getD 14 (.Pass ⟨0, 0, 0, 0⟩), (defBody s_law).getD 15 (.Pass ⟨0, 0, 0, 0⟩), (defBody s_law).getD 16 (.Pass ⟨0, 0, 0, 0⟩)] q_law_1 := (st_law_1 T hr tk (sq_law_2 T hr tk))
def q_law_0 : SM := sSeq b_law_0 q_law_1
theorem sq_law_0 {f : Addr} {cdv : Value} {A : Around} {outer : List Env} {s : Shared} {H : Hp} {E : XK} (T : Txt P K mg) (hr : Room 10 (A.deeper (PyProof.Rows.envOfC "law" (defScope s_law) s.heap.objs.size f cdv))) (tk : Tk false (cxOf (CXz false P w) P w K mg base N_law "law" (defScope s_law) f cdv A outer s H E) (WD E)) : SSs (cxOf (CXz false P w) P w K mg base N_law "law" (defScope s_law) f cdv A outer s H E) (WD E) [(defBody s_law).getD 0 (.Pass ⟨0, 0, 0, 0⟩), (defBody s_law).getD 1 (.Pass ⟨0, 0, 0, 0⟩), (defBody s_law).getD 2 (.Pass ⟨0, 0, 0, 0⟩), (defBody s_law).getD 3 (.Pass ⟨0, 0, 0, 0⟩), (defBody s_law).getD 4 (.Pass ⟨0, 0, 0, 0⟩), (defBody s_law).getD 5 (.Pass ⟨0, 0, 0, 0⟩), (defBody s_law).getD 6 (.Pass ⟨0, 0, 0, 0⟩), (defBody s_law).getD 7 (.Pass ⟨0, 0, 0, 0⟩), (defBody s_law).getD 8 (.Pass ⟨0, 0, 0, 0⟩), (defBody s_law).getD 9 (.Pass ⟨0, 0, 0, 0⟩), (defBody s_law).getD 10 (.Pass ⟨0, 0, 0, 0⟩), (defBody s_law).getD 11 (.Pass ⟨0, 0, 0, 0⟩), (defBody s_law).getD 12 (.Pass ⟨0, 0, 0, 0⟩), (defBody s_law).getD 13 (.Pass ⟨0, 0, 0, 0⟩), (defBody s_law).getD 14 (.Pass ⟨0, 0, 0, 0⟩), (defBody s_law).getD 15 (.Pass ⟨0, 0, 0, 0⟩), (defBody s_law).getD 16 (.Pass ⟨0, 0, 0, 0⟩)] q_law_0 := (ss_cons (st_law_0 T hr tk) (sq_law_1 T hr tk))
theorem body_law : defBody s_law = [(defBody s_law).getD 0 (.Pass ⟨0, 0, 0, 0⟩), (defBody s_law).getD 1 (.Pass ⟨0, 0, 0, 0⟩), (defBody s_law).getD 2 (.Pass ⟨0, 0, 0, 0⟩), (defBody s_law).getD 3 (.Pass ⟨0, 0, 0, 0⟩), (defBody s_law).getD 4 (.Pass ⟨0, 0, 0, 0⟩), (defBody s_law).getD 5 (.Pass ⟨0, 0, 0, 0⟩), (defBody s_law).getD 6 (.Pass ⟨0, 0, 0, 0⟩), (defBody s_law).getD 7 (.Pass ⟨0, 0, 0, 0⟩), (defBody s_law).getD 8 (.Pass ⟨0, 0, 0, 0⟩), (defBody s_law).getD 9 (.Pass ⟨0, 0, 0, 0⟩), (defBody s_law).getD 10 (.Pass ⟨0, 0, 0, 0⟩), (defBody s_law).getD 11 (.Pass ⟨0, 0, 0, 0⟩), (defBody s_law).getD 12 (.Pass ⟨0, 0, 0, 0⟩), (defBody s_law).getD 13 (.Pass ⟨0, 0, 0, 0⟩), (defBody s_law).getD 14 (.Pass ⟨0, 0, 0, 0⟩), (defBody s_law).getD 15 (.Pass ⟨0, 0, 0, 0⟩), (defBody s_law).getD 16 (.Pass ⟨0, 0, 0, 0⟩)] := by kernel_rfl
def b_law : SM :=
  q_law_0
def m_law : Fn := fnOf 1 12 b_law
theorem ok_law (T : Txt P K mg) : Ok false P w K mg base 11 "law" s_law ["script"] 1 m_law := ok_fn T.d_law sc_law rfl fun f cdv A outer s H E hr => (fun (tk : Tk false (cxOf (CXz false P w) P w K mg base N_law "law" (defScope s_law) f cdv A outer s H E) (WD E)) => (body_cast body_law (sq_law_0 T hr tk))) (Tk.of (takesZ_of rfl rfl rfl rfl) rfl rfl)
end
end G79

namespace G79
open PySem hiding Loc
open L2 Ms Gm
/-! _law_read -/
section
variable {hp : HM} (wf : Wf hp) {t : Str}
include wf
theorem read_plant {ds : List D} (h : m_read_plant [.str t] hp = .ok (.tup ds) hp) (hd : okL hp.length ds = true) : m__law_read [.str t] hp = .ok (.tup [.str "plant", .tup ds]) hp := by
  refine fo_rt (l := 2) (body := b__law_read) (ext := []) wf ?_ ?_
  · show b__law_read [some (.str t), none] hp = _
    have e := call1 (m := m_read_plant) (f := eVar 0) (loc := [some (.str t), none]) rfl h
    simp only [b__law_read, sSeq, sTryAs, sRet, eTup, aCons_def, e, aNil, eC, O.bind, List.length_cons, List.length_nil, big, sE, List.append_nil]
    simp
  · simp [frz, okD, okL, hd]
theorem read_bad {i : Int} (h : m_read_plant [.str t] hp = .exc ⟨"BadLine", some ("line", i)⟩ hp) : m__law_read [.str t] hp = .ok (.tup [.str "bad", .int i]) hp := by
  refine fo_rt (l := 2) (body := b__law_read) (ext := []) wf ?_ ?_
  · show b__law_read [some (.str t), none] hp = _
    have e := call1 (m := m_read_plant) (f := eVar 0) (loc := [some (.str t), none]) rfl h
    have hk : mq__law_kind [.int i] hp = .ok (.int 2) hp := by kernel_rfl
    have e2 : eFldE ["BadLine"] "line" ⟨"BadLine", some ("line", i)⟩ [some (.str t), none] hp = .ok (.int i) hp := by
      simp [eFldE]
    have e4 : eIsE [("BadLine", true)] ⟨"BadLine", some ("line", i)⟩ [some (.str t), none] hp = .ok (.bl true) hp := by
      simp [eIsE]
    have hc : (["BadLine"] : List Str).contains ("BadLine" : Str) = true := by decide +kernel
    simp only [b__law_read, sSeq, sTryAs, sRet, eTup, aCons_def, e, aNil, eC, O.bind, sE, hc, List.length_cons, List.length_nil, true_and, Nat.zero_lt_succ, Nat.lt_add_one, if_true, List.set_cons_succ, List.set_cons_zero, sIf, mAnd, mTru, e4, truD, mT, eBin]
    have e5 : eCall (argc 1 mq__law_kind) (aCons (eFldE ["BadLine"] "line" ⟨"BadLine", some ("line", i)⟩) aNil) [some (.str t), none] hp = .ok (.int 2) hp := call1 e2 hk
    simp [e5, e2, gEq, eqS, big]
  · simp [frz, okD, okL]
end
theorem wfP (a : Int) : Wf (HP a) := rfl
/-- a text with one bad line -/
theorem bad_at {a : Int} {pre post : List Str} {w : Str} (L : Lns (pre ++ w :: post)) {s : Rd} (S : Steps (HP a) s0 pre s) (B : Bd1 (HP a) s w) : m__law_read [.str (Txt.join "\n" (pre ++ w :: post))] (HP a) = .ok (.tup [.str "bad", .int pre.length]) (HP a) :=
  read_bad (wfP a) (rp_bad (wfP a) (by have := L.len; omega) L.split (by have := L.few; simp at this; omega) S B)
theorem none_at {a : Int} {ls : List Str} (L : Lns ls) {k : Int} {rows : List D} (S : Steps (HP a) s0 ls ⟨k, rows, .non⟩) : m__law_read [.str (Txt.join "\n" ls)] (HP a) = .ok (.tup [.str "bad", .int ls.length]) (HP a) :=
  read_bad (wfP a) (rp_none (wfP a) (by have := L.len; omega) L.split (by have := L.few; omega) S)
theorem okL_rows (n : Nat) : ∀ rows : List (List Int), okL n (rows.map tD) = true
  | [] => rfl
  | r :: rows => by simp [okL, okD, ok_ints, okL_rows n rows]
theorem okL_pl (n : Nat) (rows : List (List Int)) (es : List Int) : okL n [rwsD rows, tD es] = true := by simp [okL, okD, okL_rows, ok_ints]
theorem whole_at {a : Int} {k n : Nat} {rows : List (List Int)} {es : List Int} (P : Plant k n rows es) (k1 : 1 ≤ k) (k4 : k ≤ 4) (n1 : 1 ≤ n) (nz : n ≤ 16) : m__law_read [.str (Txt.join "\n" (plTx k rows es))] (HP a) = .ok (.tup [.str "plant", plD rows es]) (HP a) :=
  read_plant (wfP a) (rp_plant (wfP a) (by have := (P.lns k4 nz).len; omega) (P.lns k4 nz).split (all_steps P k1 k4 n1 nz) (okL_pl _ _ _)) (okL_pl _ _ _)
/-! cuts -/
theorem cut_take (ds : List D) (j : Nat) (hp : HM) : gCut (.lst ds) none (some (j : Int)) hp = .ok (.lst (ds.take j)) hp := by
  have e : cutD ds none (some (j : Int)) = ds.take j := by
    unfold cutD
    rw [HT.sIx_nat, HT.sIx_none, List.drop_zero, Nat.sub_zero]
    by_cases h : j ≤ ds.length
    · rw [Nat.min_eq_left h]
    · rw [Nat.min_eq_right (by omega), List.take_length, List.take_of_length_le (by omega)]
  simp only [gCut, lstOf, e]
theorem cut_drop (ds : List D) (j : Nat) (hp : HM) : gCut (.lst ds) (some (j : Int)) none hp = .ok (.lst (ds.drop j)) hp := by
  have e : cutD ds (some (j : Int)) none = ds.drop j := by
    unfold cutD
    rw [HT.sIx_nat, HT.sIx_none]
    by_cases h : j ≤ ds.length
    · rw [Nat.min_eq_left h, List.take_of_length_le (by rw [List.length_drop]; omega)]
    · rw [Nat.min_eq_right (by omega), Nat.sub_self, List.take_zero, List.drop_eq_nil_of_le (by omega)]
  simp only [gCut, lstOf, e]
theorem cut_init (ds : List D) (hp : HM) : gCut (.lst ds) none (some (-1)) hp = .ok (.lst (ds.take (ds.length - 1))) hp := by
  have e : cutD ds none (some (-1)) = ds.take (ds.length - 1) := by
    unfold cutD
    have e1 : HT.sIx ds.length ds.length (some (-1)) = ds.length - 1 := by
      unfold HT.sIx
      simp only
      rw [if_pos (by decide)]
      omega
    rw [e1, HT.sIx_none, List.drop_zero, Nat.sub_zero]
  simp only [gCut, lstOf, e]
/-! the law's statements -/
/-- equal(read(X), ("bad", N)) -/
def eqE (X N : EM) : TM := mNot (mTru (eCall (argc 2 (m__law_equal 8)) (aCons (eCall (argc 1 m__law_read) (aCons X aNil)) (aCons (eTup (aCons (eC (.str "bad")) (aCons N aNil))) aNil))))
theorem eqE_ok {X N : EM} {loc : Loc} {a : Int} {t : Str} {i : Int} (x : X loc (HP a) = .ok (.str t) (HP a)) (r : m__law_read [.str t] (HP a) = .ok (.tup [.str "bad", .int i]) (HP a)) (v : N loc (HP a) = .ok (.int i) (HP a)) : eqE X N loc (HP a) = .ok false (HP a) := by
  have e1 := call1 x r
  have e2 : eTup (aCons (eC (.str "bad")) (aCons N aNil)) loc (HP a) = .ok (.tup [.str "bad", .int i]) (HP a) := by simp [eTup, aCons, aNil, eC, v, O.bind, big]
  have e3 := call2 e1 e2 (eq8 (hp := HP a) (d := .tup [.str "bad", .int i]) (.tup (k := 6) (by simp) (by
    intro d hd
    simp only [List.mem_cons, List.not_mem_nil, or_false] at hd
    rcases hd with rfl | rfl
    · exact .str _ _
    · exact .int _ _)))
  simp only [eqE, mNot, mTru, e3, O.bind, truD, Bool.not_true]
theorem var_ok {i : Nat} {loc : Loc} {d : D} (h : loc[i]? = some (some d)) (hp : HM) : eVar i loc hp = .ok d hp := by simp only [eVar, h]
theorem asg_ok {f : EM} {i : Nat} {loc : Loc} {hp hp' : HM} {d : D} (h : f loc hp = .ok d hp') : sAsg f i loc hp = .nx (loc.set i (some d)) hp' := by simp only [sAsg, h, sE]
theorem seq_nx {f g : SM} {loc l : Loc} {hp h : HM} {r : SO} (e : f loc hp = .nx l h) (e2 : g l h = r) : sSeq f g loc hp = r := by simp only [sSeq, e, e2]
theorem loop_ok {i : IM} {v : Nat} {body : SM} {loc : Loc} {hp : HM} {ds : List D} (hi : i loc hp = .ok ⟨ds, none⟩ hp) (hv : v < loc.length) (hb : ∀ d ∈ ds, body (loc.set v (some d)) hp = .nx (loc.set v (some d)) hp) : ∃ x, sFor i (tgName v) body loc hp = .nx (loc.set v x) hp := by
  obtain ⟨l, h, e, x, q1, q2⟩ := forI (it := ⟨ds, none⟩) (g := tgName v) (body := body) rfl ds (fun _ l h => ∃ x, l = loc.set v x ∧ h = hp) (by
    rintro j d hd l h ⟨x, rfl, rfl⟩
    refine ⟨_, rfl, _, _, ?_, some d, rfl, rfl⟩
    rw [List.set_set]
    exact hb d (List.mem_of_getElem? hd)) ds [] loc hp rfl ⟨loc[v], by rw [List.set_getElem_self], rfl⟩
  subst q1 q2
  exact ⟨x, by simp only [sFor, hi, sE, e]⟩
theorem chk_ok {X N : EM} {loc : Loc} {a : Int} {t : Str} {i : Int} (x : X loc (HP a) = .ok (.str t) (HP a)) (r : m__law_read [.str t] (HP a) = .ok (.tup [.str "bad", .int i]) (HP a)) (v : N loc (HP a) = .ok (.int i) (HP a)) : sIf (eqE X N) (sRet (eC (.bl false))) sNext loc (HP a) = .nx loc (HP a) := by
  simp only [sIf, eqE_ok x r v, sE, Bool.false_eq_true, if_false, sNext]
abbrev lnD (ls : List Str) : D := .lst (ls.map .str)
theorem join_call {X : EM} {loc : Loc} {hp : HM} {ls : List Str} (L : Lns ls) (x : X loc hp = .ok (lnD ls) hp) : eCall (argc 2 m__law_join) (aCons (eC (.str "\n")) (aCons X aNil)) loc hp = .ok (.str (Txt.join "\n" ls)) hp :=
  call2 rfl x (ljoin_ok (by decide +kernel) L.f hp)
theorem Lns.take {ls : List Str} (L : Lns ls) {j : Nat} (hj : 1 ≤ j) : Lns (ls.take j) := ⟨by
  have := L.ne
  cases ls with
  | nil => exact absurd rfl this
  | cons x xs => cases j with
    | zero => omega
    | succ j => simp, by rw [List.length_take]; have := L.few; omega, fun w hw => L.sh w (List.mem_of_mem_take hw), fun w hw => L.fr w (List.mem_of_mem_take hw)⟩
end G79

namespace G79
open PySem hiding Loc
open L2 Ms Gm PySem.StrLaws
/-! replace -/
theorem rp_free {s : Nat} {S z r : List Nat} : ∀ {p : List Nat}, s ∉ p → replL (s :: S) z (p ++ r) = p ++ replL (s :: S) z r
  | [], _ => rfl
  | c :: p, h => by
    simp only [List.mem_cons, not_or] at h
    rw [List.cons_append, replL_miss (by
      intro e
      rw [List.length_cons, List.take_succ_cons] at e
      injection e with e1 _
      exact h.1 e1.symm), rp_free h.2]; rfl
theorem rp_hit {s : Nat} {S z r : List Nat} : replL (s :: S) z (s :: S ++ r) = z ++ replL (s :: S) z r := by
  rw [List.cons_append, replL_hit (by simp) (by simp)]
  simp
theorem repl_row {k : Nat} {row : List Int} (R : Row k row) : Txt.replace (rowTx row) "state" "states" = "states" ++ " " ++ Txt.join " " (row.map sg) := by
  refine TL.ext_tl ?_
  have e : TL.tl (Txt.replace (rowTx row) "state" "states") = replL (TL.tl "state") (TL.tl "states") (TL.tl (rowTx row)) := replace_list (by decide +kernel)
  have e1 : TL.tl (rowTx row) = TL.tl "state" ++ (TL.tl (" " : Str) ++ TL.tl (Txt.join " " (row.map sg))) := by
    rw [rowTx, sp_state, TL.tl_append, TL.tl_append, List.append_assoc]
  have e2 : TL.tl ("state" : Str) = 115 :: [116, 97, 116, 101] := by decide +kernel
  have fr : (115 : Nat) ∉ TL.tl (" " : Str) ++ TL.tl (Txt.join " " (row.map sg)) := by
    rw [List.mem_append, not_or]
    refine ⟨by decide +kernel, join_free (by decide +kernel) fun w hw => ?_⟩
    obtain ⟨v, hv, rfl⟩ := List.mem_map.mp hw
    exact sg_free (R.sg v hv) (by omega)
  have e3 := rp_free (S := [116, 97, 116, 101]) (z := TL.tl ("states" : Str)) (r := []) fr
  rw [List.append_nil] at e3
  have e4 : replL (115 :: [116, 97, 116, 101]) (TL.tl ("states" : Str)) [] = [] := replL_nil
  rw [e, e1, e2, rp_hit, e3, e4, List.append_nil, TL.tl_append, TL.tl_append, List.append_assoc]
/-! wrong lines -/
structure Wrong (a : Int) (s : Rd) (w : Str) : Prop where
  sh : w.length ≤ 1000
  fr : 10 ∉ TL.tl w
  bd : Bd1 (HP a) s w
theorem Wrong.mk' {a : Int} {s : Rd} {w : Str} (c : decide (w.length ≤ 1000) = true ∧ decide (10 ∉ TL.tl w) = true) (bd : Bd1 (HP a) s w) : Wrong a s w := ⟨of_decide_eq_true c.1, of_decide_eq_true c.2, bd⟩
theorem ne_tl {x y : Str} (h : TL.tl x ≠ TL.tl y) : x ≠ y := fun e => h (congrArg TL.tl e)
section
variable {a : Int} {k : Nat} {rows : List D} {row : List Int}
theorem w_word {w r : Str} (k1 : 1 ≤ k) (hl : (w ++ " " ++ r).length ≤ 1000) (hw : 32 ∉ TL.tl w) (h1 : w ≠ "state") (h2 : w ≠ "ends") (fr : 10 ∉ TL.tl (w ++ " " ++ r)) : Wrong a ⟨k, rows, .non⟩ (w ++ " " ++ r) :=
  ⟨hl, fr, bd_word k1 hl hw h1 h2⟩
theorem sgj_free (R : Row k row) : 10 ∉ TL.tl (Txt.join " " (row.map sg)) := by
  refine join_free (by decide +kernel) fun w hw => ?_
  obtain ⟨v, hv, rfl⟩ := List.mem_map.mp hw
  exact sg_free (R.sg v hv) (by omega)
theorem w_no {w : Str} {s : Rd} (c : decide (w.length ≤ 1000) = true ∧ decide (10 ∉ TL.tl w) = true) (hb : (Txt.partition w " ").2.1 ≠ " ") : Wrong a s w := .mk' c (bd_no (of_decide_eq_true c.1) hb)
theorem w_row {m : Nat} (R : Row m row) (k1 : 1 ≤ k) (m1 : 1 ≤ m) (m4 : m ≤ 40) (hz : rows.length ≤ 16) (hq : m ≠ k ∨ (∃ v ∈ row, 16 ≤ v) ∨ 16 ≤ rows.length) : Wrong a ⟨k, rows, .non⟩ (rowTx row) :=
  ⟨by have := rowTx_len R m4; omega, rowTx_free R, bd_state R m1 m4 k1 hz hq⟩
theorem w_sign {r : Str} (k1 : 1 ≤ k) (hs : ∀ v ∈ row, Sg v) (hz : row.length ≤ 40) {x : Str} {xs : List Str} (hr : r.length ≤ 900) (fr : 10 ∉ TL.tl r) (hsp : Txt.split r " " = row.map sg ++ x :: xs) (hx : ∀ h, m_read_sign [.str x] h = .exc bt h) : Wrong a ⟨k, rows, .non⟩ ("state " ++ r) :=
  ⟨by have h2 : ("state " : Str).length = 6 := by decide +kernel
      rw [len_app]; omega, by rw [TL.tl_append, List.mem_append, not_or]; exact ⟨by decide +kernel, fr⟩, bd_sign k1 hs hz hr hsp hx⟩
def wrongs (k : Nat) (row : List Int) : List Str := [rowTx row ++ " 0", rowTx row ++ " ", "state", "state ", " " ++ rowTx row, Txt.replace (rowTx row) "state" "states", Txt.join " " ((("state" : Str) :: row.map sg).take k),
  "state " ++ Txt.join " " (List.replicate k "16"), "state " ++ Txt.join " " (List.replicate k "00"), "state " ++ Txt.join " " (List.replicate k "-1"), "State " ++ Txt.join " " (row.map sg), "deeds " ++ tx k]
theorem same_sign {x : Str} (hx : x.length = 2) (h32 : 32 ∉ TL.tl x) (h10 : 10 ∉ TL.tl x) (k1 : 1 ≤ k) (k4 : k ≤ 4) (hr : ∀ h, m_read_sign [.str x] h = .exc bt h) : Wrong a ⟨k, rows, .non⟩ ("state " ++ Txt.join " " (List.replicate k x)) := by
  have e : List.replicate k x = x :: List.replicate (k - 1) x := by
    obtain ⟨j, rfl⟩ : ∃ j, k = j + 1 := ⟨k - 1, by omega⟩
    simp [List.replicate_succ]
  have hm : ∀ p ∈ List.replicate k x, p = x := fun p hp => (List.mem_replicate.mp hp).2
  have hl := join_len (y := " ") (ws := List.replicate k x) (L := 2) (fun p hp => by rw [hm p hp]; omega)
  have h3 : (" " : Str).length = 1 := by decide +kernel
  rw [h3, List.length_replicate] at hl
  refine w_sign (row := []) k1 (by simp) (by simp) (x := x) (xs := List.replicate (k - 1) x) (by omega) (join_free (by decide +kernel) fun w hw => by rw [hm w hw]; exact h10) ?_ hr
  rw [TL.split_join (s := 32) (S := []) rfl (by decide +kernel) (by rw [e]; simp) (fun p hp => by rw [hm p hp]; exact h32), e]; rfl
theorem wrongs_ok (k1 : 1 ≤ k) (k4 : k ≤ 4) (hz : rows.length ≤ 16) (R : Row k row) : ∀ w ∈ wrongs k row, Wrong a ⟨k, rows, .non⟩ w := by
  have l1 : (" " : Str).length = 1 := by decide +kernel
  have hj := sgj_len R (by omega)
  have hr := rowTx_len R (by omega)
  have fj := sgj_free R
  have fr := rowTx_free R
  have ne : row.map sg ≠ [] := fun e => by have := congrArg List.length e; simp [R.len] at this; omega
  have f10 : (10 : Nat) ∉ TL.tl (" " : Str) := by decide +kernel
  intro w hw
  simp only [wrongs, List.mem_cons, List.not_mem_nil, or_false] at hw
  rcases hw with rfl | rfl | rfl | rfl | rfl | rfl | rfl | rfl | rfl | rfl | rfl | rfl
  · have e : rowTx row ++ " 0" = rowTx (row ++ [0]) := by
      have e0 : sg 0 = "0" := by kernel_rfl
      have e1 : TL.tl (" 0" : Str) = TL.tl (" " : Str) ++ TL.tl ("0" : Str) := by decide +kernel
      rw [rowTx, rowTx, List.map_append, List.map_cons, List.map_nil, join_snoc _ _ ne, e0]
      exact TL.ext_tl (by simp only [TL.tl_append, e1, List.append_assoc])
    rw [e]
    refine w_row (m := k + 1) ⟨by simp [R.len], fun v hv => ?_⟩ k1 (by omega) (by omega) hz (.inl (by omega))
    rw [List.mem_append] at hv
    rcases hv with hv | hv
    · exact R.sg v hv
    · simp at hv; subst hv; exact .inr (.inl (by omega))
  · have e : rowTx row ++ " " = "state " ++ (Txt.join " " (row.map sg) ++ " ") := TL.ext_tl (by simp only [rowTx, TL.tl_append, List.append_assoc])
    rw [e]
    refine w_sign (row := row) (x := "") (xs := []) k1 R.sg (by have := R.len; omega) (by rw [len_app]; omega) (by rw [TL.tl_append, List.mem_append, not_or]; exact ⟨fj, f10⟩) ?_ (fun h => by kernel_rfl)
    have e2 : Txt.join " " (row.map sg) ++ " " = Txt.join " " (row.map sg ++ [("" : Str)]) := by
      rw [join_snoc _ _ ne]
      exact TL.ext_tl (by rw [TL.tl_append _ ("" : Str)]; exact (List.append_nil _).symm)
    rw [e2]
    refine TL.split_join (s := 32) (S := []) rfl (by decide +kernel) (by simp) fun p hp => ?_
    rw [List.mem_append] at hp
    rcases hp with hp | hp
    · obtain ⟨v, hv, rfl⟩ := List.mem_map.mp hp
      exact sg_free (R.sg v hv) (by omega)
    · simp at hp; subst hp; decide +kernel
  · exact w_no (by decide +kernel) (ne_tl (by decide +kernel))
  · have e : ("state " : Str) = "state " ++ "" := TL.ext_tl (by decide +kernel)
    rw [e]
    exact w_sign (row := []) (x := "") (xs := []) k1 (by simp) (by simp) (by decide +kernel) (by decide +kernel) (by kernel_rfl) (fun h => by kernel_rfl)
  · have e : " " ++ rowTx row = "" ++ " " ++ rowTx row := TL.ext_tl (by simp only [TL.tl_append]; rfl)
    have l0 : ("" : Str).length = 0 := by decide +kernel
    rw [e]
    exact w_word k1 (by rw [len_app, len_app]; omega) (by decide +kernel) (ne_tl (by decide +kernel)) (ne_tl (by decide +kernel)) (by
      simp only [TL.tl_append, List.mem_append, not_or]; exact ⟨⟨by decide +kernel, f10⟩, fr⟩)
  · rw [repl_row R]
    have l0 : ("states" : Str).length = 6 := by decide +kernel
    exact w_word k1 (by rw [len_app, len_app]; omega) (by decide +kernel) (ne_tl (by decide +kernel)) (ne_tl (by decide +kernel)) (by
      simp only [TL.tl_append, List.mem_append, not_or]; exact ⟨⟨by decide +kernel, f10⟩, fj⟩)
  · by_cases h1 : k = 1
    · subst h1
      have e : Txt.join " " ((("state" : Str) :: row.map sg).take 1) = "state" := by rw [List.take_succ_cons, List.take_zero, join_one]
      rw [e]
      exact w_no (by decide +kernel) (ne_tl (by decide +kernel))
    · obtain ⟨j, rfl⟩ : ∃ j, k = j + 1 := ⟨k - 1, by omega⟩
      have e : Txt.join " " ((("state" : Str) :: row.map sg).take (j + 1)) = rowTx (row.take j) := by
        rw [List.take_succ_cons, ← List.map_take, rowTx, sp_state]
        have ne2 : (row.take j).map sg ≠ [] := fun e => by have := congrArg List.length e; simp [R.len] at this; omega
        refine TL.ext_tl ?_
        rw [tl_j, List.map_cons, TL.tl_append, TL.tl_append, tl_j]
        cases hq : ((row.take j).map sg).map TL.tl with
        | nil => exact absurd (List.map_eq_nil_iff.mp hq) ne2
        | cons p q => simp only [TL.joinL, List.append_assoc]
      rw [e]
      exact w_row (m := j) ⟨by rw [List.length_take, R.len]; omega, fun v hv => R.sg v (List.mem_of_mem_take hv)⟩ k1 (by omega) (by omega) hz (.inl (by omega))
  · have e : "state " ++ Txt.join " " (List.replicate k "16") = rowTx (List.replicate k 16) := by
      have e0 : sg 16 = "16" := by kernel_rfl
      rw [rowTx, List.map_replicate, e0]
    rw [e]
    exact w_row (m := k) ⟨by simp, fun v hv => by rw [(List.mem_replicate.mp hv).2]; exact .inr (.inl (by omega))⟩ k1 k1 (by omega) hz (.inr (.inl ⟨16, List.mem_replicate.mpr ⟨by omega, rfl⟩, by omega⟩))
  · exact same_sign (by decide +kernel) (by decide +kernel) (by decide +kernel) k1 k4 (fun h => by kernel_rfl)
  · exact same_sign (by decide +kernel) (by decide +kernel) (by decide +kernel) k1 k4 (fun h => by kernel_rfl)
  · have e : ("State " : Str) = "State" ++ " " := TL.ext_tl (by decide +kernel)
    have l0 : ("State" : Str).length = 5 := by decide +kernel
    rw [e]
    exact w_word k1 (by rw [len_app, len_app]; omega) (by decide +kernel) (ne_tl (by decide +kernel)) (ne_tl (by decide +kernel)) (by
      simp only [TL.tl_append, List.mem_append, not_or]; exact ⟨⟨by decide +kernel, f10⟩, fj⟩)
  · have l0 : ("deeds" : Str).length = 5 := by decide +kernel
    have l2 := tx_len (i := (k : Int)) (.inl (by omega))
    rw [sp_deeds]
    exact w_word k1 (by rw [len_app, len_app]; omega) (by decide +kernel) (ne_tl (by decide +kernel)) (ne_tl (by decide +kernel)) (by
      simp only [TL.tl_append, List.mem_append, not_or]; exact ⟨⟨by decide +kernel, f10⟩, tx_free (.inl (by omega)) (by omega)⟩)
/-! wrong first and last lines -/
def firsts : List Str := ["deeds 0", "deeds 5", "deeds", "deeds  2", "", "deeds 02", "state 0", "deeds -", "deeds x"]
theorem firsts_ok : ∀ w ∈ firsts, Wrong a s0 w := by
  intro w hw
  simp only [firsts, List.mem_cons, List.not_mem_nil, or_false] at hw
  rcases hw with rfl | rfl | rfl | rfl | rfl | rfl | rfl | rfl | rfl
  · exact .mk' (by decide +kernel) (bd_f2 (w := "deeds") (r := "0") (i := 0) (by decide +kernel) (by kernel_rfl) (fun h => by kernel_rfl) (by decide))
  · exact .mk' (by decide +kernel) (bd_f2 (w := "deeds") (r := "5") (i := 5) (by decide +kernel) (by kernel_rfl) (fun h => by kernel_rfl) (by decide))
  · exact w_no (by decide +kernel) (ne_tl (by decide +kernel))
  · exact .mk' (by decide +kernel) (bd_f1 (w := "deeds") (r := " 2") (by decide +kernel) (by kernel_rfl) (fun h => by kernel_rfl))
  · exact w_no (by decide +kernel) (ne_tl (by decide +kernel))
  · exact .mk' (by decide +kernel) (bd_f1 (w := "deeds") (r := "02") (by decide +kernel) (by kernel_rfl) (fun h => by kernel_rfl))
  · exact .mk' (by decide +kernel) (bd_f0 (w := "state") (r := "0") (by decide +kernel) (by kernel_rfl) sd_ne)
  · exact .mk' (by decide +kernel) (bd_f1 (w := "deeds") (r := "-") (by decide +kernel) (by kernel_rfl) (fun h => by kernel_rfl))
  · exact .mk' (by decide +kernel) (bd_f1 (w := "deeds") (r := "x") (by decide +kernel) (by kernel_rfl) (fun h => by kernel_rfl))
def lasts (n : Nat) : List Str := ["ends", "ends ", "ends 0,0", "ends " ++ tx n, "ends 1,0", "end -", "ends --", "ends -1", "ends 0 1", "ends 0,"]
theorem w_set {line w r : Str} (k1 : 1 ≤ k) (c : decide (line.length ≤ 1000) = true ∧ decide (10 ∉ TL.tl line) = true) (hq : Txt.partition line " " = (w, (" " : Str), r)) (hw : w ≠ "state") (hx : ∀ h, m_read_set [.str r] h = .exc bt h) : Wrong a ⟨k, rows, .non⟩ line :=
  .mk' c (bd_set k1 (of_decide_eq_true c.1) hq hw hx)
theorem lasts_ok {n : Nat} {rws : List (List Int)} {es : List Int} (P : Plant k n rws es) (k1 : 1 ≤ k) (k4 : k ≤ 4) (n1 : 1 ≤ n) (nz : n ≤ 16) : ∀ w ∈ lasts n, Wrong a ⟨k, rws.map tD, .non⟩ w := by
  intro w hw
  simp only [lasts, List.mem_cons, List.not_mem_nil, or_false] at hw
  rcases hw with rfl | rfl | rfl | rfl | rfl | rfl | rfl | rfl | rfl | rfl
  · exact w_no (by decide +kernel) (ne_tl (by decide +kernel))
  · exact w_set (w := "ends") (r := "") k1 (by decide +kernel) (by kernel_rfl) ed_ne (fun h => by kernel_rfl)
  · exact w_set (w := "ends") (r := "0,0") k1 (by decide +kernel) (by kernel_rfl) ed_ne (fun h => by kernel_rfl)
  · have S : Sv [(n : Int)] := ⟨by simp, by intro v hv; simp at hv; subst hv; exact .inl (by omega)⟩
    have e : "ends " ++ tx n = "ends " ++ joinTx "," [(n : Int)] := by
      rw [joinTx, if_neg (by simp), List.map_cons, List.map_nil, join_one]
    rw [e]
    refine ⟨by have := endsTx_len S; omega, endsTx_free S, bd_ends k1 S (by simp) fun h => ?_⟩
    have q := isplant_ok (es := [(n : Int)]) k1 k4 n1 nz P.len P.row (by simp) (by simp) h
    rw [show ([(n : Int)] : List Int).all (inr 0 ((n : Int) - 1)) = false by simp [inr]; omega] at q
    exact q
  · exact w_set (w := "ends") (r := "1,0") k1 (by decide +kernel) (by kernel_rfl) ed_ne (fun h => by kernel_rfl)
  · exact .mk' (by decide +kernel) (bd_word (w := "end") (r := "-") k1 (by decide +kernel) (by decide +kernel) (ne_tl (by decide +kernel)) (ne_tl (by decide +kernel)))
  · exact w_set (w := "ends") (r := "--") k1 (by decide +kernel) (by kernel_rfl) ed_ne (fun h => by kernel_rfl)
  · exact w_set (w := "ends") (r := "-1") k1 (by decide +kernel) (by kernel_rfl) ed_ne (fun h => by kernel_rfl)
  · exact w_set (w := "ends") (r := "0 1") k1 (by decide +kernel) (by kernel_rfl) ed_ne (fun h => by kernel_rfl)
  · exact w_set (w := "ends") (r := "0,") k1 (by decide +kernel) (by kernel_rfl) ed_ne (fun h => by kernel_rfl)
end
end G79

namespace G79
open PySem hiding Loc
open L2 Ms Gm
theorem call3m {m f g k loc} {hp hp1 hp2 hp3 : HM} {r d d2 d3} (h : f loc hp = .ok d hp1) (h2 : g loc hp1 = .ok d2 hp2) (h3 : k loc hp2 = .ok d3 hp3) (hm : m [d, d2, d3] hp3 = r) : eCall (argc 3 m) (aCons f (aCons g (aCons k aNil))) loc hp = r := by
  simp only [eCall, argc, aCons, aNil, h, h2, h3, O.bind, List.length_cons, List.length_nil, if_true, hm]
theorem lst_val {fs : AM} {loc : Loc} {hp hp' : HM} {ds : List D} (h : fs loc hp = .ok ds hp') (hz : ds.length ≤ 1000000) : eLst fs loc hp = .ok (.lst ds) hp' := by
  simp only [eLst, h, O.bind, big, hz, if_true]
section
variable {loc : Loc} (hl : loc.length = 12)
include hl
theorem gset {i j : Nat} {x : Option D} (h : i ≠ j) : (loc.set i x)[j]? = loc[j]? := List.getElem?_set_ne h
theorem gsame {i : Nat} {x : Option D} (h : i < 12) : (loc.set i x)[i]? = some x := by rw [List.getElem?_set_self (by omega)]
section
variable {rs : List Int} (hr : 0 < rs.length) (hr2 : rs.length ≤ 144) (h1 : loc[1]? = some (some (pl rs))) {a : Int} (a0 : 0 ≤ a)
include hr hr2 h1 a0
theorem s1_ok (a1 : a < 10) : ∃ (k : Nat) (b : Int), 1 ≤ k ∧ k ≤ 4 ∧ Up 1 a b ∧ (sAsg (eBin gAdd (eC (.int 1)) (eCall (argc 2 m__law_draw) (aCons (eVar 1) (aCons (eC (.int 4)) aNil)))) 2) loc (HP a) = .nx (loc.set 2 (some (.int k))) (HP b) := by
  obtain ⟨v, v0, v1, ev⟩ := draw_ok hr hr2 a0 (by omega) (many := 4) (by omega)
  obtain ⟨k, hk⟩ : ∃ k : Nat, 1 + v = (k : Int) := Int.eq_ofNat_of_zero_le (by omega)
  refine ⟨k, a + 1, by omega, by omega, ⟨by omega, by omega⟩, ?_⟩
  have e := call2 (m := m__law_draw) (var_ok h1 (HP a)) (g := eC (.int 4)) rfl ev
  refine asg_ok ?_
  simp only [eBin, eC, O.bind, e, gAdd, hk]
theorem s2_ok {k : Nat} (k4 : k ≤ 4) (h2 : loc[2]? = some (some (.int k))) (a1 : a < 100) : ∃ (n : Nat) (rows : List (List Int)) (es : List Int) (b : Int), 1 ≤ n ∧ n ≤ 16 ∧ Plant k n rows es ∧ Up 500 a b ∧ b_law_2 loc (HP a) = .nx (loc.set 3 (some (plD rows es))) (HP b) := by
  obtain ⟨n, rows, es, b, n1, n2, u, P, e⟩ := plant_ok hr hr2 (r := []) a0 (by omega) k4 (m := 4) (by omega) (by omega)
  obtain ⟨v, v0, v1, ev⟩ := draw_ok hr hr2 (a := b) (by omega) (by omega) (many := 16) (by omega)
  obtain ⟨m, hm⟩ : ∃ m : Nat, 1 + v = (m : Int) := Int.eq_ofNat_of_zero_le (by omega)
  obtain ⟨rows2, es2, b2, u2, P2, e2⟩ := wide_ok hr hr2 (r := []) (a := b + 1) (by omega) (by omega) k4 (n := m) (by omega)
  obtain ⟨w, w0, w1, ew⟩ := draw_ok hr hr2 (a := b2) (by omega) (by omega) (many := 2) (by omega)
  have c1 := call3 (m := m__law_plant) (var_ok h1 (HP a)) (g := eC (.int 4)) rfl (var_ok h2 (HP a)) e
  have c2 := call2 (m := m__law_draw) (var_ok h1 (HP b)) (g := eC (.int 16)) rfl ev
  have c3 : eBin gAdd (eC (.int 1)) (eCall (argc 2 m__law_draw) (aCons (eVar 1) (aCons (eC (.int 16)) aNil))) loc (HP b) = .ok (.int m) (HP (b + 1)) := by simp only [eBin, eC, O.bind, c2, gAdd, hm]
  have c4 : eCall (argc 3 m__law_wide) (aCons (eVar 1) (aCons (eBin gAdd (eC (.int 1)) (eCall (argc 2 m__law_draw) (aCons (eVar 1) (aCons (eC (.int 16)) aNil)))) (aCons (eVar 2) aNil))) loc (HP b) = .ok (plD rows2 es2) (HP b2) := by
    exact call3m (var_ok h1 (HP b)) c3 (var_ok h2 (HP (b + 1))) e2
  have c5 := call2 (m := m__law_draw) (var_ok h1 (HP b2)) (g := eC (.int 2)) rfl ew
  have c6 : eLst (aCons (eCall (argc 3 m__law_plant) (aCons (eVar 1) (aCons (eC (.int 4)) (aCons (eVar 2) aNil)))) (aCons (eCall (argc 3 m__law_wide) (aCons (eVar 1) (aCons (eBin gAdd (eC (.int 1)) (eCall (argc 2 m__law_draw) (aCons (eVar 1) (aCons (eC (.int 16)) aNil)))) (aCons (eVar 2) aNil)))) aNil)) loc (HP a) = .ok (.lst [plD rows es, plD rows2 es2]) (HP b2) := by
    simp only [eLst, aCons_def (eCall (argc 3 m__law_plant) _), aCons_def (eCall (argc 3 m__law_wide) _), c1, c4, O.bind, aNil, List.length_cons, List.length_nil, big]
    simp
  have hw : w = 0 ∨ w = 1 := by omega
  rcases hw with rfl | rfl
  · refine ⟨n, rows, es, b2 + 1, n1, by omega, P, ⟨by omega, by omega⟩, asg_ok ?_⟩
    simp only [eBin, c6, c5, O.bind]
    rfl
  · refine ⟨m, rows2, es2, b2 + 1, by omega, by omega, P2, ⟨by omega, by omega⟩, asg_ok ?_⟩
    simp only [eBin, c6, c5, O.bind]
    rfl
theorem s8_ok {n : Nat} (n1 : 1 ≤ n) (nz : n ≤ 16) (h6 : loc[6]? = some (some (.int n))) (a1 : a < 10000) : ∃ (u : Nat) (b : Int), u < n ∧ Up 1 a b ∧ b_law_8 loc (HP a) = .nx (loc.set 8 (some (.int ((u + 1 : Nat) : Int)))) (HP b) := by
  obtain ⟨v, v0, v1, ev⟩ := draw_ok hr hr2 a0 (by omega) (many := n) (by omega)
  obtain ⟨u, hu⟩ := Int.eq_ofNat_of_zero_le v0
  refine ⟨u, a + 1, by omega, ⟨by omega, by omega⟩, ?_⟩
  have e := call2 (m := m__law_draw) (var_ok h1 (HP a)) (var_ok h6 (HP a)) ev
  refine asg_ok ?_
  simp only [eBin, eC, O.bind, e, gAdd, hu, Int.add_comm]
  rfl
end
variable {a : Int} {k n : Nat} {rows : List (List Int)} {es : List Int} (P : Plant k n rows es) (k1 : 1 ≤ k) (k4 : k ≤ 4) (n1 : 1 ≤ n) (nz : n ≤ 16)
include P k1 k4 n1 nz
theorem s3_ok (h3 : loc[3]? = some (some (plD rows es))) : b_law_3 loc (HP a) = .nx (loc.set 4 (some (lnD (plTx k rows es)))) (HP a) :=
  asg_ok (call1 (var_ok h3 (HP a)) (lines_ok P (by omega) n1 nz (wfP a)))
theorem s4_ok (h4 : loc[4]? = some (some (lnD (plTx k rows es)))) : b_law_4 loc (HP a) = .nx (loc.set 5 (some (.str (Txt.join "\n" (plTx k rows es))))) (HP a) :=
  asg_ok (join_call (P.lns k4 nz) (var_ok h4 (HP a)))
theorem Plr : Pl 5 (plD rows es) := .tup (by simp) (by
  intro d hd
  have := P.len
  have := P.el
  simp only [List.mem_cons, List.not_mem_nil, or_false] at hd
  rcases hd with rfl | rfl
  · refine .tup (by simp; omega) fun d hd => ?_
    obtain ⟨r, hr, rfl⟩ := List.mem_map.mp hd
    exact .ints _ (by have := (P.row r hr).1; omega)
  · exact (Pl.ints 3 (by omega)))
theorem s5_ok (h3 : loc[3]? = some (some (plD rows es))) (h5 : loc[5]? = some (some (.str (Txt.join "\n" (plTx k rows es))))) : b_law_5 loc (HP a) = .nx loc (HP a) := by
  have e1 := call2 (call1 (var_ok h3 (HP a)) (wplant_ok P k4 n1 nz (wfP a))) (var_ok h5 (HP a)) (eqS8 _ (HP a))
  have e2 := call1 (var_ok h5 (HP a)) (whole_at (a := a) P k1 k4 n1 nz)
  have e3 : eTup (aCons (eC (.str "plant")) (aCons (eVar 3) aNil)) loc (HP a) = .ok (.tup [.str "plant", plD rows es]) (HP a) := by simp [eTup, aCons, aNil, eC, var_ok h3, O.bind, big]
  have e4 := call2 e2 e3 (eq8 (hp := HP a) (d := .tup [.str "plant", plD rows es]) (.tup (k := 6) (by simp) (by
    intro d hd
    simp only [List.mem_cons, List.not_mem_nil, or_false] at hd
    rcases hd with rfl | rfl
    · exact .str _ _
    · exact (Plr hl P k1 k4 n1 nz).up)))
  simp only [b_law_5, sIf, mOr, mNot, mTru, e1, e4, O.bind, truD, Bool.not_true, Bool.false_eq_true, if_false, sE, sNext]
theorem s6_ok (h3 : loc[3]? = some (some (plD rows es))) : b_law_6 loc (HP a) = .nx (loc.set 6 (some (.int n))) (HP a) := by
  have i0 : ∀ h, gIx (plD rows es) (.int 0) h = .ok (rwsD rows) h := fun _ => rfl
  refine asg_ok ?_
  simp only [eCall, aCons_def, eBin, var_ok h3, eC, O.bind, i0, aNil, gLen, gOne, seqOf, List.length_map, P.len]
theorem L_len : (plTx k rows es).length = n + 2 := by simp [plTx, P.len]
theorem L_take {j : Nat} (hj : j ≤ n) : (plTx k rows es).take (j + 1) = ("deeds " ++ tx k) :: (rows.take j).map rowTx := by
  rw [plTx, List.take_succ_cons, List.take_append_of_le_length (by rw [List.length_map, P.len]; omega), List.map_take]
theorem s7_ok (h4 : loc[4]? = some (some (lnD (plTx k rows es)))) : ∃ x, b_law_7 loc (HP a) = .nx (loc.set 7 x) (HP a) := by
  have ll := L_len hl P k1 k4 n1 nz
  refine loop_ok (ds := rngD 0 (n + 1)) (rg_val (n := n + 1) (by omega) ?_) (by omega) ?_
  · simp only [eBin, eCall, aCons_def, var_ok h4, eC, O.bind, aNil, gLen, gOne, seqOf, lstOf, List.length_map, ll, Ms.gSub, gI0]
    congr 2
    omega
  · intro d hd
    obtain ⟨j, hj⟩ := List.mem_iff_getElem?.mp hd
    obtain ⟨rfl, hj⟩ := rng_at hj
    have v7 := var_ok (gsame hl (i := 7) (x := some (.int j)) (by omega)) (HP a)
    have v4 : eVar 4 (loc.set 7 (some (.int j))) (HP a) = .ok (lnD (plTx k rows es)) (HP a) := var_ok (by rw [gset hl (by omega)]; exact h4) (HP a)
    have ej : eBin gAdd (eVar 7) (eC (.int 1)) (loc.set 7 (some (.int j))) (HP a) = .ok (.int ((j + 1 : Nat) : Int)) (HP a) := by simp only [eBin, v7, eC, O.bind, gAdd]; rfl
    have ec : eCut (eVar 4) pNone (pSome (eBin gAdd (eVar 7) (eC (.int 1)))) (loc.set 7 (some (.int j))) (HP a) = .ok (lnD ((plTx k rows es).take (j + 1))) (HP a) := by
      simp only [eCut, v4, pNone, pSome, ej, O.bind, cut_take, lnD, List.map_take]
    have Lt := Lns.take (P.lns k4 nz) (j := j + 1) (by omega)
    have St : Steps (HP a) s0 ((plTx k rows es).take (j + 1)) ⟨k, (rows.take j).map tD, .non⟩ := by
      rw [L_take hl P k1 k4 n1 nz (by omega)]
      exact row_steps P k1 k4 nz j (by omega)
    have r := none_at Lt St
    rw [List.length_take, ll, Nat.min_eq_left (by omega)] at r
    exact chk_ok (join_call Lt ec) r ej
section
variable {u : Nat} (hu : u < n)
include hu
theorem row_at {h4 : loc[4]? = some (some (lnD (plTx k rows es)))} (h8 : loc[8]? = some (some (.int ((u + 1 : Nat) : Int)))) (hp : HM) : eBin gIx (eVar 4) (eVar 8) loc hp = .ok (.str (rowTx (rows[u]'(by rw [P.len]; exact hu)))) hp := by
  have e : atI ((plTx k rows es).map D.str) ((u + 1 : Nat) : Int) = some (.str (rowTx (rows[u]'(by rw [P.len]; exact hu)))) := atI_nat (by
    have hl2 : u < rows.length := by rw [P.len]; exact hu
    rw [plTx, List.map_cons, List.getElem?_cons_succ, List.map_append, List.getElem?_append_left (by simpa using hl2)]
    simp [hl2])
  simp only [eBin, var_ok h4, var_ok h8, O.bind, gIx, seqOf, lstOf, e]
theorem s9_ok (h4 : loc[4]? = some (some (lnD (plTx k rows es)))) (h8 : loc[8]? = some (some (.int ((u + 1 : Nat) : Int)))) : b_law_9 loc (HP a) = .nx (loc.set 9 (some (lnD (("state" : Str) :: (rows[u]'(by rw [P.len]; exact hu)).map sg)))) (HP a) := by
  have R := P.rw (by omega) (rows[u]'(by rw [P.len]; exact hu)) (by simp)
  have ne : (rows[u]'(by rw [P.len]; exact hu)).map sg ≠ [] := fun e => by have := congrArg List.length e; simp [R.len] at this; omega
  refine asg_ok (split_ok (by decide +kernel) (by have := rowTx_len R (by omega); omega) ?_ (row_at hl P k1 k4 n1 nz hu (h4 := h4) h8 (HP a)))
  have e : rowTx (rows[u]'(by rw [P.len]; exact hu)) = Txt.join " " (("state" : Str) :: (rows[u]'(by rw [P.len]; exact hu)).map sg) := by
    refine TL.ext_tl ?_
    rw [rowTx, sp_state, tl_j, List.map_cons, TL.tl_append, TL.tl_append, tl_j]
    cases hq : ((rows[u]'(by rw [P.len]; exact hu)).map sg).map TL.tl with
    | nil => exact absurd (List.map_eq_nil_iff.mp hq) ne
    | cons p q => simp only [TL.joinL, List.append_assoc]
  rw [e]
  refine TL.split_join (s := 32) (S := []) rfl (by decide +kernel) (by simp) fun p hp => ?_
  rw [List.mem_cons] at hp
  rcases hp with rfl | hp
  · decide +kernel
  · obtain ⟨v, hv, rfl⟩ := List.mem_map.mp hp
    exact sg_free (R.sg v hv) (by omega)
theorem s10_ok (h2 : loc[2]? = some (some (.int k))) (h4 : loc[4]? = some (some (lnD (plTx k rows es)))) (h8 : loc[8]? = some (some (.int ((u + 1 : Nat) : Int)))) (h9 : loc[9]? = some (some (lnD (("state" : Str) :: (rows[u]'(by rw [P.len]; exact hu)).map sg)))) :
    b_law_10 loc (HP a) = .nx (loc.set 10 (some (lnD (wrongs k (rows[u]'(by rw [P.len]; exact hu)))))) (HP a) := by
  have e0 := row_at hl P k1 k4 n1 nz hu (h4 := h4) h8 (HP a)
  have R := P.rw (by omega) (rows[u]'(by rw [P.len]; exact hu)) (by simp)
  obtain ⟨row, hrow⟩ : ∃ row, row = rows[u]'(by rw [P.len]; exact hu) := ⟨_, rfl⟩
  rw [← hrow] at e0 R h9 ⊢
  have z0 := rowTx_len R (by omega)
  have zl : ∀ x : Str, x.length ≤ 20 → (rowTx row).length + x.length ≤ 1000000 := fun x hx => by omega
  have e1 : eBin gAdd (eBin gIx (eVar 4) (eVar 8)) (eC (.str " 0")) loc (HP a) = .ok (.str (rowTx row ++ " 0")) (HP a) := by
    have := zl " 0" (by decide +kernel)
    rw [eBin]; simp only [e0, O.bind, eC, gAdd, big, this, if_true]
  have e2 : eBin gAdd (eBin gIx (eVar 4) (eVar 8)) (eC (.str " ")) loc (HP a) = .ok (.str (rowTx row ++ " ")) (HP a) := by
    have := zl " " (by decide +kernel)
    rw [eBin]; simp only [e0, O.bind, eC, gAdd, big, this, if_true]
  have e5 : eBin gAdd (eC (.str " ")) (eBin gIx (eVar 4) (eVar 8)) loc (HP a) = .ok (.str (" " ++ rowTx row)) (HP a) := by
    have := zl " " (by decide +kernel)
    rw [Nat.add_comm] at this
    rw [eBin]; simp only [e0, O.bind, eC, gAdd, big, this, if_true]
  have e6 : eRepl (eBin gIx (eVar 4) (eVar 8)) "state" "states" loc (HP a) = .ok (.str (Txt.replace (rowTx row) "state" "states")) (HP a) := by
    have h6 : ("states" : Str).length = 6 := by decide +kernel
    have : (rowTx row).length + ((rowTx row).length + 1) * ("states" : Str).length ≤ 1000000 := by rw [h6]; omega
    simp only [eRepl, e0, O.bind, big, this, if_true]
  have F7 : Few ((("state" : Str) :: row.map sg).take k) := Few.take ⟨by simp [R.len]; omega, fun w hw => by
    rw [List.mem_cons] at hw
    rcases hw with rfl | hw
    · decide +kernel
    · exact (R.few (by omega)).sh w hw⟩ k
  have c7 : eCut (eVar 9) pNone (pSome (eNeg (eC (.int 1)))) loc (HP a) = .ok (lnD ((("state" : Str) :: row.map sg).take k)) (HP a) := by
    have := cut_init ((("state" : Str) :: row.map sg).map D.str) (HP a)
    rw [List.length_map, List.length_cons, List.length_map, R.len, Nat.add_sub_cancel] at this
    simp only [eCut, var_ok h9, pNone, pSome, eNeg, eC, O.bind, lnD, List.map_take]
    exact this
  have e7 := call2 (m := m__law_join) (f := eC (.str " ")) (loc := loc) (hp := HP a) rfl c7 (ljoin_ok (by decide +kernel) F7 (HP a))
  have fl : ∀ x : Str, (List.replicate ((k : Int)).toNat [D.str x]).flatten = (List.replicate k x).map D.str := fun x => by
    rw [List.map_replicate, Int.toNat_natCast, List.flatten_replicate_singleton]
  have sm : ∀ x : Str, x.length ≤ 10 → eBin gAdd (eC (.str "state ")) (eCall (argc 2 m__law_join) (aCons (eC (.str " ")) (aCons (eBin gRepL (eLst (aCons (eC (.str x)) aNil)) (eVar 2)) aNil))) loc (HP a) = .ok (.str ("state " ++ Txt.join " " (List.replicate k x))) (HP a) := fun x hx => by
    have hk : (0 : Int) ≤ k ∧ (k : Int) ≤ 1000 := by omega
    have F : Few (List.replicate k x) := ⟨by simp; omega, fun w hw => by rw [(List.mem_replicate.mp hw).2]; omega⟩
    have r : eBin gRepL (eLst (aCons (eC (.str x)) aNil)) (eVar 2) loc (HP a) = .ok (.lst ((List.replicate k x).map .str)) (HP a) := by
      simp only [eBin, eLst, aCons_def, aNil, eC, O.bind, var_ok h2, List.length_cons, List.length_nil, big]
      simp only [Nat.zero_add, Nat.reduceLeDiff, if_true, gRepL, hk, List.length_cons, List.length_nil, and_self, fl]
    have j := call2 (m := m__law_join) (f := eC (.str " ")) (loc := loc) (hp := HP a) rfl r (ljoin_ok (by decide +kernel) F (HP a))
    have h6 : ("state " : Str).length = 6 := by decide +kernel
    have zz : ("state " : Str).length + (Txt.join " " (List.replicate k x)).length ≤ 1000000 := by
      have := F.len (y := " ") (by decide +kernel); omega
    rw [eBin]; simp only [j, eC, O.bind, gAdd, big, zz, if_true]
  have c11 : eCut (eVar 9) (pSome (eC (.int 1))) pNone loc (HP a) = .ok (.lst ((row.map sg).map .str)) (HP a) := by
    have := cut_drop ((("state" : Str) :: row.map sg).map D.str) 1 (HP a)
    simp only [eCut, var_ok h9, pNone, pSome, eC, O.bind]
    exact this
  have j11 := call2 (m := m__law_join) (f := eC (.str " ")) (loc := loc) (hp := HP a) rfl c11 (ljoin_ok (by decide +kernel) (R.few (by omega)) (HP a))
  have e11 : eBin gAdd (eC (.str "State ")) (eCall (argc 2 m__law_join) (aCons (eC (.str " ")) (aCons (eCut (eVar 9) (pSome (eC (.int 1))) pNone) aNil))) loc (HP a) = .ok (.str ("State " ++ Txt.join " " (row.map sg))) (HP a) := by
    have h6 : ("State " : Str).length = 6 := by decide +kernel
    have zz : ("State " : Str).length + (Txt.join " " (row.map sg)).length ≤ 1000000 := by
      have := sgj_len R (by omega); omega
    rw [eBin]; simp only [j11, eC, O.bind, gAdd, big, zz, if_true]
  have e12 : eBin gAdd (eC (.str "deeds ")) (eCall gStrI (aCons (eVar 2) aNil)) loc (HP a) = .ok (.str ("deeds " ++ tx k)) (HP a) := by
    have st := str_ok (i := (k : Int)) (.inl (by omega)) (HP a)
    have zz : ("deeds " : Str).length + (tx k).length ≤ 1000000 := by
      have h1 := tx_len (i := (k : Int)) (.inl (by omega))
      have h2 : ("deeds " : Str).length = 6 := by decide +kernel
      omega
    simp only [eBin, eC, eCall, aCons_def, aNil, var_ok h2, O.bind, st, gAdd, big, zz, if_true]
  have ec : ∀ x : Str, eC (.str x) loc (HP a) = .ok (.str x) (HP a) := fun _ => rfl
  have cons : ∀ {f : EM} {fs : AM} {d : D} {ds : List D}, f loc (HP a) = .ok d (HP a) → fs loc (HP a) = .ok ds (HP a) → aCons f fs loc (HP a) = .ok (d :: ds) (HP a) := fun h1 h2 => by simp only [aCons_def, h1, h2, O.bind]
  have all := cons e1 (cons e2 (cons (ec "state") (cons (ec "state ") (cons e5 (cons e6 (cons e7 (cons (sm "16" (by decide +kernel)) (cons (sm "00" (by decide +kernel)) (cons (sm "-1" (by decide +kernel)) (cons e11 (cons e12 (show aNil loc (HP a) = .ok [] (HP a) from rfl))))))))))))
  refine asg_ok ?_
  exact lst_val all (by simp [wrongs, lasts])
theorem s11_ok (h4 : loc[4]? = some (some (lnD (plTx k rows es)))) (h8 : loc[8]? = some (some (.int ((u + 1 : Nat) : Int)))) (h10 : loc[10]? = some (some (lnD (wrongs k (rows[u]'(by rw [P.len]; exact hu)))))) : ∃ x, b_law_11 loc (HP a) = .nx (loc.set 11 x) (HP a) := by
  have ll := L_len hl P k1 k4 n1 nz
  have LL := P.lns k4 nz
  have R := P.rw (by omega) (rows[u]'(by rw [P.len]; exact hu)) (by simp)
  refine loop_ok (ds := (wrongs k (rows[u]'(by rw [P.len]; exact hu))).map .str) (by simp only [iSeq, var_ok h10, O.bind]) (by omega) ?_
  intro d hd
  obtain ⟨w, hw, rfl⟩ := List.mem_map.mp hd
  have W := wrongs_ok (a := a) (rows := (rows.take u).map tD) k1 k4 (by rw [List.length_map, List.length_take]; omega) R w hw
  have v11 := var_ok (gsame hl (i := 11) (x := some (.str w)) (by omega)) (HP a)
  have v4 : eVar 4 (loc.set 11 (some (.str w))) (HP a) = .ok (lnD (plTx k rows es)) (HP a) := var_ok (by rw [gset hl (by omega)]; exact h4) (HP a)
  have v8 : eVar 8 (loc.set 11 (some (.str w))) (HP a) = .ok (.int ((u + 1 : Nat) : Int)) (HP a) := var_ok (by rw [gset hl (by omega)]; exact h8) (HP a)
  have L : Lns ((plTx k rows es).take (u + 1) ++ w :: (plTx k rows es).drop (u + 2)) := ⟨by simp, by simp [ll]; omega, fun x hx => by
    rw [List.mem_append, List.mem_cons] at hx
    rcases hx with hx | rfl | hx
    · exact LL.sh x (List.mem_of_mem_take hx)
    · exact W.sh
    · exact LL.sh x (List.mem_of_mem_drop hx), fun x hx => by
    rw [List.mem_append, List.mem_cons] at hx
    rcases hx with hx | rfl | hx
    · exact LL.fr x (List.mem_of_mem_take hx)
    · exact W.fr
    · exact LL.fr x (List.mem_of_mem_drop hx)⟩
  have St : Steps (HP a) s0 ((plTx k rows es).take (u + 1)) ⟨k, (rows.take u).map tD, .non⟩ := by
    rw [L_take hl P k1 k4 n1 nz (by omega)]
    exact row_steps P k1 k4 nz u (by omega)
  have r := bad_at L St W.bd
  rw [List.length_take, ll, Nat.min_eq_left (by omega)] at r
  have ex : eBin gAdd (eBin gAdd (eCut (eVar 4) pNone (pSome (eVar 8))) (eLst (aCons (eVar 11) aNil))) (eCut (eVar 4) (pSome (eBin gAdd (eVar 8) (eC (.int 1)))) pNone) (loc.set 11 (some (.str w))) (HP a) = .ok (lnD ((plTx k rows es).take (u + 1) ++ w :: (plTx k rows es).drop (u + 2))) (HP a) := by
    have z1 : (((plTx k rows es).map D.str).take (u + 1)).length + [D.str w].length ≤ 1000000 := by simp [ll]; omega
    have z2 : (((plTx k rows es).map D.str).take (u + 1) ++ [D.str w]).length + (((plTx k rows es).map D.str).drop (u + 2)).length ≤ 1000000 := by simp [ll]; omega
    have el : eLst (aCons (eVar 11) aNil) (loc.set 11 (some (.str w))) (HP a) = .ok (.lst [.str w]) (HP a) := lst_val (by simp only [aCons_def, v11, aNil, O.bind]) (by simp)
    have c1 : eCut (eVar 4) pNone (pSome (eVar 8)) (loc.set 11 (some (.str w))) (HP a) = .ok (.lst (((plTx k rows es).map D.str).take (u + 1))) (HP a) := by
      simp only [eCut, v4, v8, pNone, pSome, O.bind, cut_take]
    have c2 : eCut (eVar 4) (pSome (eBin gAdd (eVar 8) (eC (.int 1)))) pNone (loc.set 11 (some (.str w))) (HP a) = .ok (.lst (((plTx k rows es).map D.str).drop (u + 2))) (HP a) := by
      have := cut_drop ((plTx k rows es).map D.str) (u + 2) (HP a)
      simp only [eCut, v4, pNone, pSome, eBin, v8, eC, O.bind, gAdd]
      exact this
    have c3 : eBin gAdd (eCut (eVar 4) pNone (pSome (eVar 8))) (eLst (aCons (eVar 11) aNil)) (loc.set 11 (some (.str w))) (HP a) = .ok (.lst (((plTx k rows es).map D.str).take (u + 1) ++ [D.str w])) (HP a) := by
      rw [eBin]
      simp only [c1, el, O.bind, gAdd, seqOf, lstOf, big, z1, if_true]
    rw [eBin]
    simp only [c3, c2, O.bind, gAdd, seqOf, lstOf, big, z2, if_true, lnD, List.map_append, List.map_take, List.map_drop, List.map_cons, List.append_assoc, List.singleton_append]
  exact chk_ok (join_call L ex) r v8
end
theorem s12_ok (h4 : loc[4]? = some (some (lnD (plTx k rows es)))) : ∃ x, b_law_12 loc (HP a) = .nx (loc.set 11 x) (HP a) := by
  have ll := L_len hl P k1 k4 n1 nz
  have LL := P.lns k4 nz
  refine loop_ok (ds := firsts.map .str) (by rfl) (by omega) ?_
  intro d hd
  obtain ⟨w, hw, rfl⟩ := List.mem_map.mp hd
  have W := firsts_ok (a := a) w hw
  have v11 := var_ok (gsame hl (i := 11) (x := some (.str w)) (by omega)) (HP a)
  have v4 : eVar 4 (loc.set 11 (some (.str w))) (HP a) = .ok (lnD (plTx k rows es)) (HP a) := var_ok (by rw [gset hl (by omega)]; exact h4) (HP a)
  have L : Lns ([] ++ w :: (plTx k rows es).drop 1) := ⟨by simp, by simp [ll]; omega, fun x hx => by
    rw [List.nil_append, List.mem_cons] at hx
    rcases hx with rfl | hx
    · exact W.sh
    · exact LL.sh x (List.mem_of_mem_drop hx), fun x hx => by
    rw [List.nil_append, List.mem_cons] at hx
    rcases hx with rfl | hx
    · exact W.fr
    · exact LL.fr x (List.mem_of_mem_drop hx)⟩
  have r := bad_at L (.nil s0) W.bd
  have cd : eCut (eVar 4) (pSome (eC (.int 1))) pNone (loc.set 11 (some (.str w))) (HP a) = .ok (.lst (((plTx k rows es).map .str).drop 1)) (HP a) := by
    have := cut_drop ((plTx k rows es).map D.str) 1 (HP a)
    simp only [eCut, v4, pNone, pSome, eC, O.bind]
    exact this
  have ex : eBin gAdd (eLst (aCons (eVar 11) aNil)) (eCut (eVar 4) (pSome (eC (.int 1))) pNone) (loc.set 11 (some (.str w))) (HP a) = .ok (lnD ([] ++ w :: (plTx k rows es).drop 1)) (HP a) := by
    have z1 : [D.str w].length + (((plTx k rows es).map D.str).drop 1).length ≤ 1000000 := by simp [ll]; omega
    have el : eLst (aCons (eVar 11) aNil) (loc.set 11 (some (.str w))) (HP a) = .ok (.lst [.str w]) (HP a) := by
      simp only [eLst, aCons_def, v11, aNil, O.bind, List.length_cons, List.length_nil, big]; rfl
    rw [eBin]
    simp only [el, cd, O.bind, gAdd, seqOf, lstOf, big, z1, if_true, lnD, List.nil_append, List.map_cons, List.map_drop, List.cons_append]
  exact chk_ok (join_call L ex) r rfl
theorem s13_ok (h4 : loc[4]? = some (some (lnD (plTx k rows es)))) (h6 : loc[6]? = some (some (.int n))) : ∃ x, b_law_13 loc (HP a) = .nx (loc.set 11 x) (HP a) := by
  have ll := L_len hl P k1 k4 n1 nz
  have LL := P.lns k4 nz
  have en : eBin gAdd (eC (.str "ends ")) (eCall gStrI (aCons (eVar 6) aNil)) loc (HP a) = .ok (.str ("ends " ++ tx n)) (HP a) := by
    have st := str_ok (i := (n : Int)) (.inl (by omega)) (HP a)
    have zz : ("ends " : Str).length + (tx n).length ≤ 1000000 := by
      have h1 := tx_len (i := (n : Int)) (.inl (by omega))
      have h2 : ("ends " : Str).length = 5 := by decide +kernel
      omega
    simp only [eBin, eC, eCall, aCons_def, aNil, var_ok h6, O.bind, st, gAdd, big, zz, if_true]
  have ec : ∀ x : Str, eC (.str x) loc (HP a) = .ok (.str x) (HP a) := fun _ => rfl
  have cons : ∀ {f : EM} {fs : AM} {d : D} {ds : List D}, f loc (HP a) = .ok d (HP a) → fs loc (HP a) = .ok ds (HP a) → aCons f fs loc (HP a) = .ok (d :: ds) (HP a) := fun h1 h2 => by simp only [aCons_def, h1, h2, O.bind]
  have all := cons (ec "ends") (cons (ec "ends ") (cons (ec "ends 0,0") (cons en (cons (ec "ends 1,0") (cons (ec "end -") (cons (ec "ends --") (cons (ec "ends -1") (cons (ec "ends 0 1") (cons (ec "ends 0,") (show aNil loc (HP a) = .ok [] (HP a) from rfl))))))))))
  have sq : ∀ {f : EM} {ds : List D}, f loc (HP a) = .ok (.lst ds) (HP a) → iSeq f loc (HP a) = .ok ⟨ds, none⟩ (HP a) := fun h => by simp only [iSeq, h, O.bind]
  refine loop_ok (ds := (lasts n).map .str) (sq (lst_val all (by simp [wrongs, lasts]))) (by omega) ?_
  intro d hd
  obtain ⟨w, hw, rfl⟩ := List.mem_map.mp hd
  have W := lasts_ok (a := a) P k1 k4 n1 nz w hw
  have v11 := var_ok (gsame hl (i := 11) (x := some (.str w)) (by omega)) (HP a)
  have v4 : eVar 4 (loc.set 11 (some (.str w))) (HP a) = .ok (lnD (plTx k rows es)) (HP a) := var_ok (by rw [gset hl (by omega)]; exact h4) (HP a)
  have L : Lns ((plTx k rows es).take (n + 1) ++ w :: []) := ⟨by simp, by simp [ll]; omega, fun x hx => by
    rw [List.mem_append, List.mem_singleton] at hx
    rcases hx with hx | rfl
    · exact LL.sh x (List.mem_of_mem_take hx)
    · exact W.sh, fun x hx => by
    rw [List.mem_append, List.mem_singleton] at hx
    rcases hx with hx | rfl
    · exact LL.fr x (List.mem_of_mem_take hx)
    · exact W.fr⟩
  have St : Steps (HP a) s0 ((plTx k rows es).take (n + 1)) ⟨k, rows.map tD, .non⟩ := by
    have e := row_steps (hp := HP a) P k1 k4 nz n (Nat.le_refl _)
    rw [← L_take hl P k1 k4 n1 nz (Nat.le_refl _)] at e
    rw [show rows.take n = rows by rw [← P.len, List.take_length]] at e
    exact e
  have r := bad_at L St W.bd
  rw [List.length_take, ll, Nat.min_eq_left (by omega)] at r
  have cd : eCut (eVar 4) pNone (pSome (eNeg (eC (.int 1)))) (loc.set 11 (some (.str w))) (HP a) = .ok (.lst (((plTx k rows es).map .str).take (n + 1))) (HP a) := by
    have := cut_init ((plTx k rows es).map D.str) (HP a)
    rw [List.length_map, ll] at this
    simp only [eCut, v4, pNone, pSome, eNeg, eC, O.bind]
    exact this
  have ex : eBin gAdd (eCut (eVar 4) pNone (pSome (eNeg (eC (.int 1))))) (eLst (aCons (eVar 11) aNil)) (loc.set 11 (some (.str w))) (HP a) = .ok (lnD ((plTx k rows es).take (n + 1) ++ w :: [])) (HP a) := by
    have z1 : (((plTx k rows es).map D.str).take (n + 1)).length + [D.str w].length ≤ 1000000 := by simp [ll]; omega
    have el : eLst (aCons (eVar 11) aNil) (loc.set 11 (some (.str w))) (HP a) = .ok (.lst [.str w]) (HP a) := by
      simp only [eLst, aCons_def, v11, aNil, O.bind, List.length_cons, List.length_nil, big]; rfl
    rw [eBin]
    simp only [el, cd, O.bind, gAdd, seqOf, lstOf, big, z1, if_true, lnD, List.map_append, List.map_take, List.map_cons, List.map_nil]
  refine chk_ok (join_call L ex) r ?_
  simp only [eBin, eCall, aCons_def, v4, eC, O.bind, aNil, gLen, gOne, seqOf, lstOf, List.length_map, ll, Ms.gSub, gI0]
  congr 2
  omega
theorem s14_ok (h4 : loc[4]? = some (some (lnD (plTx k rows es)))) (h5 : loc[5]? = some (some (.str (Txt.join "\n" (plTx k rows es))))) : b_law_14 loc (HP a) = .nx loc (HP a) := by
  have ll := L_len hl P k1 k4 n1 nz
  have LL := P.lns k4 nz
  have lz := LL.len
  have key : ∀ (x w : Str), x = "\n" ++ w → w.length ≤ 900 → 10 ∉ TL.tl w → eqE (eBin gAdd (eVar 5) (eC (.str x))) (eCall gLen (aCons (eVar 4) aNil)) loc (HP a) = .ok false (HP a) := by
    rintro x w rfl hw fr
    have L : Lns (plTx k rows es ++ w :: []) := ⟨by simp, by simp [ll]; omega, fun y hy => by
      rw [List.mem_append, List.mem_singleton] at hy
      rcases hy with hy | rfl
      · exact LL.sh y hy
      · omega, fun y hy => by
      rw [List.mem_append, List.mem_singleton] at hy
      rcases hy with hy | rfl
      · exact LL.fr y hy
      · exact fr⟩
    have r := bad_at (a := a) L (all_steps P k1 k4 n1 nz) (bd_done (by omega))
    refine eqE_ok (t := Txt.join "\n" (plTx k rows es ++ w :: [])) (i := (plTx k rows es).length) ?_ r ?_
    · have l1 : ("\n" : Str).length = 1 := by decide +kernel
      have z : (Txt.join "\n" (plTx k rows es)).length + ("\n" ++ w : Str).length ≤ 1000000 := by rw [len_app]; omega
      rw [join_snoc _ _ LL.ne]
      simp only [eBin, var_ok h5, eC, O.bind, gAdd, big, z, if_true]
      rw [show Txt.join "\n" (plTx k rows es) ++ ("\n" ++ w) = Txt.join "\n" (plTx k rows es) ++ "\n" ++ w from TL.ext_tl (by simp only [TL.tl_append, List.append_assoc])]
    · simp only [eCall, aCons_def, var_ok h4, O.bind, aNil, gLen, gOne, seqOf, lstOf, List.length_map]
  have e1 := key "\n" "" (TL.ext_tl (by decide +kernel)) (by decide +kernel) (by decide +kernel)
  have e2 := key "\nends -" "ends -" (TL.ext_tl (by decide +kernel)) (by decide +kernel) (by decide +kernel)
  show sIf (mOr (eqE (eBin gAdd (eVar 5) (eC (.str "\n"))) (eCall gLen (aCons (eVar 4) aNil))) (eqE (eBin gAdd (eVar 5) (eC (.str "\nends -"))) (eCall gLen (aCons (eVar 4) aNil)))) (sRet (eC (.bl false))) sNext loc (HP a) = _
  simp only [sIf, mOr, e1, e2, O.bind, sE, Bool.false_eq_true, if_false, sNext]
end
theorem s15_ok (loc : Loc) (a : Int) : b_law_15 loc (HP a) = .nx loc (HP a) := by
  have r1 : m__law_read [.str "deeds 1\nends -"] (HP a) = .ok (.tup [.str "bad", .int 1]) (HP a) := by kernel_rfl
  have r2 : m__law_read [.str "deeds 1\nstate 1\nends -"] (HP a) = .ok (.tup [.str "bad", .int 2]) (HP a) := by kernel_rfl
  have e1 := eqE_ok (X := eC (.str "deeds 1\nends -")) (N := eC (.int 1)) (loc := loc) rfl r1 rfl
  have e2 := eqE_ok (X := eC (.str "deeds 1\nstate 1\nends -")) (N := eC (.int 2)) (loc := loc) rfl r2 rfl
  show sIf (mOr (eqE (eC (.str "deeds 1\nends -")) (eC (.int 1))) (eqE (eC (.str "deeds 1\nstate 1\nends -")) (eC (.int 2)))) (sRet (eC (.bl false))) sNext loc (HP a) = _
  simp only [sIf, mOr, e1, e2, O.bind, sE, Bool.false_eq_true, if_false, sNext]
theorem s16_ok (loc : Loc) (a : Int) : b_law_16 loc (HP a) = .rt (.bl true) (HP a) := by
  have r1 : m__law_read [.str ("deeds 1" ++ repS "\nstate 0" 17 ++ "\nends -")] (HP a) = .ok (.tup [.str "bad", .int 17]) (HP a) := by kernel_rfl
  have x : eBin gAdd (eBin gAdd (eC (.str "deeds 1")) (eBin gRepS (eC (.str "\nstate 0")) (eC (.int 17)))) (eC (.str "\nends -")) loc (HP a) = .ok (.str ("deeds 1" ++ repS "\nstate 0" 17 ++ "\nends -")) (HP a) := by kernel_rfl
  have e1 := call1 x r1
  have e2 : eTup (aCons (eC (.str "bad")) (aCons (eC (.int 17)) aNil)) loc (HP a) = .ok (.tup [.str "bad", .int 17]) (HP a) := rfl
  have e3 := call2 e1 e2 (eq8 (hp := HP a) (d := .tup [.str "bad", .int 17]) (.tup (k := 6) (by simp) (by
    intro d hd
    simp only [List.mem_cons, List.not_mem_nil, or_false] at hd
    rcases hd with rfl | rfl
    · exact .str _ _
    · exact .int _ _)))
  simp only [b_law_16, sRet, e3, sE]
end G79

namespace G79
open PySem hiding Loc
open L2 Ms Gm
theorem law_true : ∀ ns : List Int, ns.length ≤ 63 → ∃ hp, m_law [.scr ns] [] = .ok (.bl true) hp := by
  intro ns hn
  obtain ⟨rs, hr, hr2, e0'⟩ := pool_ok ns hn
  obtain ⟨l0, hl0⟩ : ∃ l : Loc, l = [some (.scr ns), none, none, none, none, none, none, none, none, none, none, none] := ⟨_, rfl⟩
  have e0 : b_law_0 l0 [] = .nx (l0.set 1 (some (pl rs))) (HP 0) := by
    rw [hl0]
    exact asg_ok (call1 rfl e0')
  obtain ⟨l1, h1⟩ : ∃ l, l = l0.set 1 (some (pl rs)) := ⟨_, rfl⟩
  rw [← h1] at e0
  have n1 : l1.length = 12 := by rw [h1, List.length_set, hl0]; rfl
  have p1 : l1[1]? = some (some (pl rs)) := by rw [h1, hl0]; rfl
  obtain ⟨k, a1, k1, k4, u1, e1⟩ := s1_ok n1 hr hr2 p1 (a := 0) (by omega) (by omega)
  obtain ⟨l2, h2⟩ : ∃ l, l = l1.set 2 (some (.int k)) := ⟨_, rfl⟩
  rw [← h2] at e1
  have n2 : l2.length = 12 := by rw [h2, List.length_set, n1]
  have p2 : l2[1]? = some (some (pl rs)) := by rw [h2, gset n1 (by omega)]; exact p1
  have k2 : l2[2]? = some (some (.int k)) := by rw [h2]; exact gsame n1 (by omega)
  obtain ⟨n, rows, es, a2, nn1, nz, P, u2, e2⟩ := s2_ok n2 hr hr2 p2 (a := a1) (by omega) k4 k2 (by omega)
  obtain ⟨l3, h3⟩ : ∃ l, l = l2.set 3 (some (plD rows es)) := ⟨_, rfl⟩
  rw [← h3] at e2
  have n3 : l3.length = 12 := by rw [h3, List.length_set, n2]
  have p3 : l3[1]? = some (some (pl rs)) := by rw [h3, gset n2 (by omega)]; exact p2
  have k3 : l3[2]? = some (some (.int k)) := by rw [h3, gset n2 (by omega)]; exact k2
  have q3 : l3[3]? = some (some (plD rows es)) := by rw [h3]; exact gsame n2 (by omega)
  have e3 := s3_ok n3 (a := a2) P k1 k4 nn1 nz q3
  obtain ⟨l4, h4⟩ : ∃ l, l = l3.set 4 (some (lnD (plTx k rows es))) := ⟨_, rfl⟩
  rw [← h4] at e3
  have n4 : l4.length = 12 := by rw [h4, List.length_set, n3]
  have p4 : l4[1]? = some (some (pl rs)) := by rw [h4, gset n3 (by omega)]; exact p3
  have k4' : l4[2]? = some (some (.int k)) := by rw [h4, gset n3 (by omega)]; exact k3
  have q4 : l4[3]? = some (some (plD rows es)) := by rw [h4, gset n3 (by omega)]; exact q3
  have L4 : l4[4]? = some (some (lnD (plTx k rows es))) := by rw [h4]; exact gsame n3 (by omega)
  have e4 := s4_ok n4 (a := a2) P k1 k4 nn1 nz L4
  obtain ⟨l5, h5⟩ : ∃ l, l = l4.set 5 (some (.str (Txt.join "\n" (plTx k rows es)))) := ⟨_, rfl⟩
  rw [← h5] at e4
  have n5 : l5.length = 12 := by rw [h5, List.length_set, n4]
  have p5 : l5[1]? = some (some (pl rs)) := by rw [h5, gset n4 (by omega)]; exact p4
  have k5 : l5[2]? = some (some (.int k)) := by rw [h5, gset n4 (by omega)]; exact k4'
  have q5 : l5[3]? = some (some (plD rows es)) := by rw [h5, gset n4 (by omega)]; exact q4
  have L5 : l5[4]? = some (some (lnD (plTx k rows es))) := by rw [h5, gset n4 (by omega)]; exact L4
  have T5 : l5[5]? = some (some (.str (Txt.join "\n" (plTx k rows es)))) := by rw [h5]; exact gsame n4 (by omega)
  have e5 := s5_ok n5 (a := a2) P k1 k4 nn1 nz q5 T5
  have e6 := s6_ok n5 (a := a2) P k1 k4 nn1 nz q5
  obtain ⟨l6, h6⟩ : ∃ l, l = l5.set 6 (some (.int n)) := ⟨_, rfl⟩
  rw [← h6] at e6
  have n6 : l6.length = 12 := by rw [h6, List.length_set, n5]
  have L6 : l6[4]? = some (some (lnD (plTx k rows es))) := by rw [h6, gset n5 (by omega)]; exact L5
  obtain ⟨x7, e7⟩ := s7_ok n6 (a := a2) P k1 k4 nn1 nz L6
  obtain ⟨l7, h7⟩ : ∃ l, l = l6.set 7 x7 := ⟨_, rfl⟩
  rw [← h7] at e7
  have n7 : l7.length = 12 := by rw [h7, List.length_set, n6]
  have p7 : l7[1]? = some (some (pl rs)) := by rw [h7, gset n6 (by omega), h6, gset n5 (by omega)]; exact p5
  have k7 : l7[2]? = some (some (.int k)) := by rw [h7, gset n6 (by omega), h6, gset n5 (by omega)]; exact k5
  have L7 : l7[4]? = some (some (lnD (plTx k rows es))) := by rw [h7, gset n6 (by omega)]; exact L6
  have T7 : l7[5]? = some (some (.str (Txt.join "\n" (plTx k rows es)))) := by rw [h7, gset n6 (by omega), h6, gset n5 (by omega)]; exact T5
  have N7 : l7[6]? = some (some (.int n)) := by rw [h7, gset n6 (by omega), h6]; exact gsame n5 (by omega)
  obtain ⟨u, a8, hu, u8, e8⟩ := s8_ok n7 hr hr2 p7 (a := a2) (by omega) nn1 nz N7 (by omega)
  obtain ⟨l8, h8⟩ : ∃ l, l = l7.set 8 (some (.int ((u + 1 : Nat) : Int))) := ⟨_, rfl⟩
  rw [← h8] at e8
  have n8 : l8.length = 12 := by rw [h8, List.length_set, n7]
  have k8 : l8[2]? = some (some (.int k)) := by rw [h8, gset n7 (by omega)]; exact k7
  have L8 : l8[4]? = some (some (lnD (plTx k rows es))) := by rw [h8, gset n7 (by omega)]; exact L7
  have T8 : l8[5]? = some (some (.str (Txt.join "\n" (plTx k rows es)))) := by rw [h8, gset n7 (by omega)]; exact T7
  have N8 : l8[6]? = some (some (.int n)) := by rw [h8, gset n7 (by omega)]; exact N7
  have U8 : l8[8]? = some (some (.int ((u + 1 : Nat) : Int))) := by rw [h8]; exact gsame n7 (by omega)
  have e9 := s9_ok n8 (a := a8) P k1 k4 nn1 nz hu L8 U8
  obtain ⟨l9, h9⟩ : ∃ l, l = l8.set 9 (some (lnD (("state" : Str) :: (rows[u]'(by rw [P.len]; exact hu)).map sg))) := ⟨_, rfl⟩
  rw [← h9] at e9
  have n9 : l9.length = 12 := by rw [h9, List.length_set, n8]
  have k9 : l9[2]? = some (some (.int k)) := by rw [h9, gset n8 (by omega)]; exact k8
  have L9 : l9[4]? = some (some (lnD (plTx k rows es))) := by rw [h9, gset n8 (by omega)]; exact L8
  have T9 : l9[5]? = some (some (.str (Txt.join "\n" (plTx k rows es)))) := by rw [h9, gset n8 (by omega)]; exact T8
  have N9 : l9[6]? = some (some (.int n)) := by rw [h9, gset n8 (by omega)]; exact N8
  have U9 : l9[8]? = some (some (.int ((u + 1 : Nat) : Int))) := by rw [h9, gset n8 (by omega)]; exact U8
  have C9 : l9[9]? = some (some (lnD (("state" : Str) :: (rows[u]'(by rw [P.len]; exact hu)).map sg))) := by rw [h9]; exact gsame n8 (by omega)
  have e10 := s10_ok n9 (a := a8) P k1 k4 nn1 nz hu k9 L9 U9 C9
  obtain ⟨l10, h10⟩ : ∃ l, l = l9.set 10 (some (lnD (wrongs k (rows[u]'(by rw [P.len]; exact hu))))) := ⟨_, rfl⟩
  rw [← h10] at e10
  have n10 : l10.length = 12 := by rw [h10, List.length_set, n9]
  have L10 : l10[4]? = some (some (lnD (plTx k rows es))) := by rw [h10, gset n9 (by omega)]; exact L9
  have T10 : l10[5]? = some (some (.str (Txt.join "\n" (plTx k rows es)))) := by rw [h10, gset n9 (by omega)]; exact T9
  have N10 : l10[6]? = some (some (.int n)) := by rw [h10, gset n9 (by omega)]; exact N9
  have U10 : l10[8]? = some (some (.int ((u + 1 : Nat) : Int))) := by rw [h10, gset n9 (by omega)]; exact U9
  have W10 : l10[10]? = some (some (lnD (wrongs k (rows[u]'(by rw [P.len]; exact hu))))) := by rw [h10]; exact gsame n9 (by omega)
  obtain ⟨x11, e11⟩ := s11_ok n10 (a := a8) P k1 k4 nn1 nz hu L10 U10 W10
  obtain ⟨l11, h11⟩ : ∃ l, l = l10.set 11 x11 := ⟨_, rfl⟩
  rw [← h11] at e11
  have n11 : l11.length = 12 := by rw [h11, List.length_set, n10]
  have L11 : l11[4]? = some (some (lnD (plTx k rows es))) := by rw [h11, gset n10 (by omega)]; exact L10
  have T11 : l11[5]? = some (some (.str (Txt.join "\n" (plTx k rows es)))) := by rw [h11, gset n10 (by omega)]; exact T10
  have N11 : l11[6]? = some (some (.int n)) := by rw [h11, gset n10 (by omega)]; exact N10
  obtain ⟨x12, e12⟩ := s12_ok n11 (a := a8) P k1 k4 nn1 nz L11
  obtain ⟨l12, h12⟩ : ∃ l, l = l11.set 11 x12 := ⟨_, rfl⟩
  rw [← h12] at e12
  have n12 : l12.length = 12 := by rw [h12, List.length_set, n11]
  have L12 : l12[4]? = some (some (lnD (plTx k rows es))) := by rw [h12, gset n11 (by omega)]; exact L11
  have T12 : l12[5]? = some (some (.str (Txt.join "\n" (plTx k rows es)))) := by rw [h12, gset n11 (by omega)]; exact T11
  have N12 : l12[6]? = some (some (.int n)) := by rw [h12, gset n11 (by omega)]; exact N11
  obtain ⟨x13, e13⟩ := s13_ok n12 (a := a8) P k1 k4 nn1 nz L12 N12
  obtain ⟨l13, h13⟩ : ∃ l, l = l12.set 11 x13 := ⟨_, rfl⟩
  rw [← h13] at e13
  have n13 : l13.length = 12 := by rw [h13, List.length_set, n12]
  have L13 : l13[4]? = some (some (lnD (plTx k rows es))) := by rw [h13, gset n12 (by omega)]; exact L12
  have T13 : l13[5]? = some (some (.str (Txt.join "\n" (plTx k rows es)))) := by rw [h13, gset n12 (by omega)]; exact T12
  have e14 := s14_ok n13 (a := a8) P k1 k4 nn1 nz L13 T13
  have key : b_law l0 [] = .rt (.bl true) (HP a8) :=
    seq_nx e0 (seq_nx e1 (seq_nx e2 (seq_nx e3 (seq_nx e4 (seq_nx e5 (seq_nx e6 (seq_nx e7 (seq_nx e8 (seq_nx e9 (seq_nx e10 (seq_nx e11 (seq_nx e12 (seq_nx e13 (seq_nx e14 (seq_nx (s15_ok l13 a8) (s16_ok l13 a8))))))))))))))))
  rw [hl0] at key
  refine ⟨[], ?_⟩
  have hs : ([D.scr ns].map some ++ List.replicate (12 - 1) (none : Option D)) = [some (.scr ns), none, none, none, none, none, none, none, none, none, none, none] := rfl
  simp only [m_law, fnOf, hs, key]
  simp [frz, okD]
end G79

open PySem PySem.W PyProof.Rows in
set_option maxRecDepth 100000 in
set_option maxHeartbeats 0 in
theorem PySem.Challenge.cw_stewardsight_k79_texts_of_plants_holds : PySem.Challenge.rw_stewardsight_k79_texts_of_plants.Holds := by
  w_on; o_law; k_head; (case hw => w_witness2)
  k_fill
  refine Ms.walk_law (z := false) (l := PySem.Challenge.rw_stewardsight_k79_texts_of_plants) (m := G79.m_law) (st := G79.s_law) (j := 11) rfl rfl ⟨rfl, by decide, by decide⟩ (fun _ _ _ _ _ _ _ => rfl) (fun w h Y => PySem.W.kIn_of Y) ?F G79.law_true
  case F =>
    intro w mg h KX G
    intro base
    refine' G79.ok_law ⟨?d__law_numbers, ?d__law_cell, ?d__law_pool, ?d__law_join, ?d__law_set_text, ?d__law_sign, ?d__law_plant_lines, ?d__law_kind, ?d__law_equal, ?d__law_draw, ?d_PlantReader___init__, ?d_require, ?d_number_of, ?d_is_ascending, ?d_read_set, ?d_is_integer, ?d_is_number, ?d_are_integers, ?d_are_numbers, ?d_is_tuple, ?d_is_between, ?d_has_states, ?d_is_plant, ?d_read_sign, ?d_PlantReader_take, ?d_read_plant, ?d__law_read, ?d__law_plant, ?d__law_wide, ?d_write_set, ?d_sign_of, ?d_write_plant, ?d_law, ?b_all, ?b_bool, ?b_enumerate, ?b_int, ?b_isinstance, ?b_len, ?b_list, ?b_max, ?b_min, ?b_range, ?b_str, ?b_tuple, ?c_DASH, ?c_DIGITS, ?c_MOST_DEEDS, ?c_MOST_DIGITS, ?c_MOST_STATES, ?c_NOWHERE, ?x_BadText, ?a_BadLine, ?e_BadText, ?h_BadLine_BadLine, ?k_BadLine, ?i_BadLine_StewardError, ?g_BadLine_line, ?f_PlantReader__deeds, ?f_PlantReader__rows, ?f_PlantReader_plant⟩
    (case d__law_numbers => (refine' Ms.dfn_mk KX G ?a ?l ?c ?k (fun _ _ _ _ _ _ us hl => match us, hl with | [_, _], _ => rfl); (case a => k_is); (case l => k_is); (case c => k_is); (case k => k_is)))
    (case d__law_cell => (refine' Ms.dfn_mk KX G ?a ?l ?c ?k (fun _ _ _ _ _ _ us hl => match us, hl with | [_, _], _ => rfl); (case a => k_is); (case l => k_is); (case c => k_is); (case k => k_is)))
    (case d__law_pool => (refine' Ms.dfn_mk KX G ?a ?l ?c ?k (fun _ _ _ _ _ _ us hl => match us, hl with | [_], _ => rfl); (case a => k_is); (case l => k_is); (case c => k_is); (case k => k_is)))
    (case d__law_join => (refine' Ms.dfn_mk KX G ?a ?l ?c ?k (fun _ _ _ _ _ _ us hl => match us, hl with | [_, _], _ => rfl); (case a => k_is); (case l => k_is); (case c => k_is); (case k => k_is)))
    (case d__law_set_text => (refine' Ms.dfn_mk KX G ?a ?l ?c ?k (fun _ _ _ _ _ _ us hl => match us, hl with | [_], _ => rfl); (case a => k_is); (case l => k_is); (case c => k_is); (case k => k_is)))
    (case d__law_sign => (refine' Ms.dfn_mk KX G ?a ?l ?c ?k (fun _ _ _ _ _ _ us hl => match us, hl with | [_], _ => rfl); (case a => k_is); (case l => k_is); (case c => k_is); (case k => k_is)))
    (case d__law_plant_lines => (refine' Ms.dfn_mk KX G ?a ?l ?c ?k (fun _ _ _ _ _ _ us hl => match us, hl with | [_], _ => rfl); (case a => k_is); (case l => k_is); (case c => k_is); (case k => k_is)))
    (case d__law_kind => (refine' Ms.dfn_mk KX G ?a ?l ?c ?k (fun _ _ _ _ _ _ us hl => match us, hl with | [_], _ => rfl); (case a => k_is); (case l => k_is); (case c => k_is); (case k => k_is)))
    (case d__law_equal => (refine' Ms.dfn_mk KX G ?a ?l ?c ?k (fun _ _ _ _ _ _ us hl => match us, hl with | [_, _], _ => rfl); (case a => k_is); (case l => k_is); (case c => k_is); (case k => k_is)))
    (case d__law_draw => (refine' Ms.dfn_mk KX G ?a ?l ?c ?k (fun _ _ _ _ _ _ us hl => match us, hl with | [_, _], _ => rfl); (case a => k_is); (case l => k_is); (case c => k_is); (case k => k_is)))
    (case d_PlantReader___init__ => (refine' Ms.idfn_mk KX G ?a ?mk ?kc ?at_ ?fn ?l ?c ?k (fun _ _ _ _ _ _ us hl => match us, hl with | [_], _ => rfl); (case a => k_is); (case mk => k_is); (case kc => k_is); (case at_ => k_is); (case fn => k_is); (case l => k_is); (case c => k_is); (case k => k_is)))
    (case d_require => (refine' Ms.dfn_mk KX G ?a ?l ?c ?k (fun _ _ _ _ _ _ us hl => match us, hl with | [_], _ => rfl); (case a => k_is); (case l => k_is); (case c => k_is); (case k => k_is)))
    (case d_number_of => (refine' Ms.dfn_mk KX G ?a ?l ?c ?k (fun _ _ _ _ _ _ us hl => match us, hl with | [_], _ => rfl); (case a => k_is); (case l => k_is); (case c => k_is); (case k => k_is)))
    (case d_is_ascending => (refine' Ms.dfn_mk KX G ?a ?l ?c ?k (fun _ _ _ _ _ _ us hl => match us, hl with | [_], _ => rfl); (case a => k_is); (case l => k_is); (case c => k_is); (case k => k_is)))
    (case d_read_set => (refine' Ms.dfn_mk KX G ?a ?l ?c ?k (fun _ _ _ _ _ _ us hl => match us, hl with | [_], _ => rfl); (case a => k_is); (case l => k_is); (case c => k_is); (case k => k_is)))
    (case d_is_integer => (refine' Ms.dfn_mk KX G ?a ?l ?c ?k (fun _ _ _ _ _ _ us hl => match us, hl with | [_], _ => rfl); (case a => k_is); (case l => k_is); (case c => k_is); (case k => k_is)))
    (case d_is_number => (refine' Ms.dfn_mk KX G ?a ?l ?c ?k (fun _ _ _ _ _ _ us hl => match us, hl with | [_, _, _], _ => rfl); (case a => k_is); (case l => k_is); (case c => k_is); (case k => k_is)))
    (case d_are_integers => (refine' Ms.dfn_mk KX G ?a ?l ?c ?k (fun _ _ _ _ _ _ us hl => match us, hl with | [_, _, _], _ => rfl); (case a => k_is); (case l => k_is); (case c => k_is); (case k => k_is)))
    (case d_are_numbers => (refine' Ms.dfn_mk KX G ?a ?l ?c ?k (fun _ _ _ _ _ _ us hl => match us, hl with | [_, _, _], _ => rfl); (case a => k_is); (case l => k_is); (case c => k_is); (case k => k_is)))
    (case d_is_tuple => (refine' Ms.dfn_mk KX G ?a ?l ?c ?k (fun _ _ _ _ _ _ us hl => match us, hl with | [_, _], _ => rfl); (case a => k_is); (case l => k_is); (case c => k_is); (case k => k_is)))
    (case d_is_between => (refine' Ms.dfn_mk KX G ?a ?l ?c ?k (fun _ _ _ _ _ _ us hl => match us, hl with | [_, _, _], _ => rfl); (case a => k_is); (case l => k_is); (case c => k_is); (case k => k_is)))
    (case d_has_states => (refine' Ms.dfn_mk KX G ?a ?l ?c ?k (fun _ _ _ _ _ _ us hl => match us, hl with | [_, _], _ => rfl); (case a => k_is); (case l => k_is); (case c => k_is); (case k => k_is)))
    (case d_is_plant => (refine' Ms.dfn_mk KX G ?a ?l ?c ?k (fun _ _ _ _ _ _ us hl => match us, hl with | [_], _ => rfl); (case a => k_is); (case l => k_is); (case c => k_is); (case k => k_is)))
    (case d_read_sign => (refine' Ms.dfn_mk KX G ?a ?l ?c ?k (fun _ _ _ _ _ _ us hl => match us, hl with | [_], _ => rfl); (case a => k_is); (case l => k_is); (case c => k_is); (case k => k_is)))
    (case d_PlantReader_take => (refine' Ms.mdfn_mk KX G ?a ?pg ?hd ?po ?sa ?at_ ?fn ?l ?c ?k (fun _ _ _ _ _ _ us hl => match us, hl with | [_, _], _ => rfl); (case a => k_is); (case pg => k_is); (case hd => k_is); (case po => k_is); (case sa => k_is); (case at_ => k_is); (case fn => k_is); (case l => k_is); (case c => k_is); (case k => k_is)))
    (case d_read_plant => (refine' Ms.dfn_mk KX G ?a ?l ?c ?k (fun _ _ _ _ _ _ us hl => match us, hl with | [_], _ => rfl); (case a => k_is); (case l => k_is); (case c => k_is); (case k => k_is)))
    (case d__law_read => (refine' Ms.dfn_mk KX G ?a ?l ?c ?k (fun _ _ _ _ _ _ us hl => match us, hl with | [_], _ => rfl); (case a => k_is); (case l => k_is); (case c => k_is); (case k => k_is)))
    (case d__law_plant => (refine' Ms.dfn_mk KX G ?a ?l ?c ?k (fun _ _ _ _ _ _ us hl => match us, hl with | [_, _, _], _ => rfl); (case a => k_is); (case l => k_is); (case c => k_is); (case k => k_is)))
    (case d__law_wide => (refine' Ms.dfn_mk KX G ?a ?l ?c ?k (fun _ _ _ _ _ _ us hl => match us, hl with | [_, _, _], _ => rfl); (case a => k_is); (case l => k_is); (case c => k_is); (case k => k_is)))
    (case d_write_set => (refine' Ms.dfn_mk KX G ?a ?l ?c ?k (fun _ _ _ _ _ _ us hl => match us, hl with | [_], _ => rfl); (case a => k_is); (case l => k_is); (case c => k_is); (case k => k_is)))
    (case d_sign_of => (refine' Ms.dfn_mk KX G ?a ?l ?c ?k (fun _ _ _ _ _ _ us hl => match us, hl with | [_], _ => rfl); (case a => k_is); (case l => k_is); (case c => k_is); (case k => k_is)))
    (case d_write_plant => (refine' Ms.dfn_mk KX G ?a ?l ?c ?k (fun _ _ _ _ _ _ us hl => match us, hl with | [_], _ => rfl); (case a => k_is); (case l => k_is); (case c => k_is); (case k => k_is)))
    (case d_law => (refine' Ms.dfn_mk KX G ?a ?l ?c ?k (fun _ _ _ _ _ _ us hl => match us, hl with | [_], _ => rfl); (case a => k_is); (case l => k_is); (case c => k_is); (case k => k_is)))
    (case b_all => (refine' PySem.W.mg_none_of KX G ?a; (case a => k_is)))
    (case b_bool => (refine' PySem.W.mg_none_of KX G ?a; (case a => k_is)))
    (case b_enumerate => (refine' PySem.W.mg_none_of KX G ?a; (case a => k_is)))
    (case b_int => (refine' PySem.W.mg_none_of KX G ?a; (case a => k_is)))
    (case b_isinstance => (refine' PySem.W.mg_none_of KX G ?a; (case a => k_is)))
    (case b_len => (refine' PySem.W.mg_none_of KX G ?a; (case a => k_is)))
    (case b_list => (refine' PySem.W.mg_none_of KX G ?a; (case a => k_is)))
    (case b_max => (refine' PySem.W.mg_none_of KX G ?a; (case a => k_is)))
    (case b_min => (refine' PySem.W.mg_none_of KX G ?a; (case a => k_is)))
    (case b_range => (refine' PySem.W.mg_none_of KX G ?a; (case a => k_is)))
    (case b_str => (refine' PySem.W.mg_none_of KX G ?a; (case a => k_is)))
    (case b_tuple => (refine' PySem.W.mg_none_of KX G ?a; (case a => k_is)))
    (case c_DASH => (refine' Ms.str_mk KX G ?a ?r; (case a => k_is); (case r => exact ⟨_, rfl⟩)))
    (case c_DIGITS => (refine' Ms.str_mk KX G ?a ?r; (case a => k_is); (case r => exact ⟨_, rfl⟩)))
    (case c_MOST_DEEDS => (refine' Ms.int_mk KX G ?a ?r; (case a => k_is); (case r => exact ⟨_, rfl⟩)))
    (case c_MOST_DIGITS => (refine' Ms.int_mk KX G ?a ?r; (case a => k_is); (case r => exact ⟨_, rfl⟩)))
    (case c_MOST_STATES => (refine' Ms.int_mk KX G ?a ?r; (case a => k_is); (case r => exact ⟨_, rfl⟩)))
    (case c_NOWHERE => (refine' Ms.int_mk KX G ?a ?r; (case a => k_is); (case r => exact ⟨_, rfl⟩)))
    (case x_BadText => (refine' Ms.exc_mk KX G ?a ?e ?k ?b ?t; (case a => k_is); (case e => k_exc); (case k => k_is); (case b => k_is); (case t => k_is)))
    (case a_BadLine => (refine' Ms.inic_mk (st := Ms.clsSt (G79.top 2) 0) (y := "line") (qn := "BadLine.__init__") KX G ?a ?xL ?rv ?sa ?eC ?tC ?kC ?at_ ?tI ?l ?ce ?co ?v2 ?vf ?cI ?tp ?gs ?ss ?sc ?op ?su ?sv ?mr ?nf ?B ?S ?har ?hb ?hyd ?hyc; (case a => k_is); (case xL => k_is); (case rv => decide +kernel); (case sa => k_is); (case eC => k_is); (case tC => k_is); (case kC => k_is); (case at_ => k_is); (case tI => k_is); (case l => k_is); (case ce => k_is); (case co => k_is); (case v2 => rfl); (case vf => decide +kernel); (case cI => k_is); (case tp => decide +kernel); (case gs => k_is); (case ss => decide +kernel); (case sc => decide +kernel); (case op => k_is); (case su => ks_is); (case sv => k_is); (case mr => k_is); (case nf => k_is); (case B => exact fun cl c => ⟨_, _, _, _, _, _, _, _, _, _, _, _, _, _, _, _, _, _, by decide +kernel, by decide +kernel, rfl, fun fa L => ⟨rfl, rfl, rfl, rfl⟩⟩); (case S => exact NdefX.nscope_by (by decide +kernel)); (case har => exact ⟨_, _, rfl, rfl⟩); (case hb => (intro F doc pm ctv us e hl; subst e; exact match us, hl with | [_, _], _ => rfl)); (case hyd => decide); (case hyc => decide)))
    (case e_BadText => (refine' Ms.clause_mk KX G ?a ?x; (case a => k_is); (case x => first | rfl | k_is)))
    (case h_BadLine_BadLine => (refine' Ms.catch_mk KX G ?a ?b ?x; (case a => k_is); (case b => k_is); (case x => first | rfl | k_is)))
    (case k_BadLine => (refine' Ms.glcls_mk KX G ?a; (case a => k_is)))
    (case i_BadLine_StewardError => (refine' Ms.isec_mk KX G ?a ?b ?g1 ?g2 ?g3 ?g4 ?g5 ?g6 ?g7 ?g8 ?k; (case a => k_is); (case b => k_is); (case g1 => k_is); (case g2 => k_is); (case g3 => k_is); (case g4 => k_is); (case g5 => k_is); (case g6 => k_is); (case g7 => k_is); (case g8 => k_is); (case k => first | rfl | k_is)))
    (case g_BadLine_line => (refine' Ms.fldc_mk KX G ?a ?g1 ?g2 ?g3 ?g4 ?n; (case a => k_is); (case g1 => k_is); (case g2 => k_is); (case g3 => k_is); (case g4 => k_is); (case n => k_is)))
    (case f_PlantReader__deeds => (refine' Ms.fldx_mk KX G ?a ?pg ?hd ?po ?sa ?n; (case a => k_is); (case pg => k_is); (case hd => k_is); (case po => k_is); (case sa => k_is); (case n => k_is)))
    (case f_PlantReader__rows => (refine' Ms.fldx_mk KX G ?a ?pg ?hd ?po ?sa ?n; (case a => k_is); (case pg => k_is); (case hd => k_is); (case po => k_is); (case sa => k_is); (case n => k_is)))
    (case f_PlantReader_plant => (refine' Ms.fldx_mk KX G ?a ?pg ?hd ?po ?sa ?n; (case a => k_is); (case pg => k_is); (case hd => k_is); (case po => k_is); (case sa => k_is); (case n => k_is)))
#print axioms PySem.Challenge.cw_stewardsight_k79_texts_of_plants_holds
