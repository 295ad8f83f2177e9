import PyProof.Rows.All
import Wide.All
import OpenK.AllK
import Wide.FinOn
import HandS.ForMost
import HandS.ForExc
import HandS.TupAny
import HandS.IsInst
import HandS.CallSlots
import HandS.Zip
import HandS.Text
import KE.GoesRaise
import HandS.FStr
import HandS.ExcIs
import HandS.ReplaceLit
import PySem.Challenge.RW_stewardsight_k80_texts_of_eyes_and_rows
import HandS.ReplaceList
set_option Elab.async false
set_option linter.all false
set_option maxRecDepth 100000
set_option maxHeartbeats 4000000
set_option autoImplicit false
/-! Ms: a mirror of Python code over plain data, simulated by the hand layer. -/
namespace Ms
open PySem L2

/-- plain data; ref n is the n-th changing object -/
inductive D where
  | non | bl (b : Bool) | int (i : Int) | str (x : Str) | tup (ds : List D) | lst (ds : List D) | scr (ns : List Int) | ref (n : Nat)

/-- a changing object -/
inductive MO where
  | lst (ds : List D)
  | ins (c : Str) (fs : List (Str × D))

abbrev HM := List MO
abbrev Loc := List (Option D)
/-- a raised exception: its class, the one field it may have -/
structure Exn where
  cls : Str
  fld : Option (Str × Int)

inductive O (α : Type) where
  | ok (a : α) (hp : HM)
  | exc (e : Exn) (hp : HM)
  | bad

def O.bind {α β : Type} (o : O α) (k : α → HM → O β) : O β := match o with
  | .ok a hp => k a hp
  | .exc e hp => .exc e hp
  | .bad => .bad

/-! ### what stands for what -/
inductive TupAt (K : PySem.W.Frag) (A : List Addr) (H : Hp) (a : Addr) (vs : List V) : Prop where
  | own (h : a ∉ A) (r : Rd H a (.tup vs))
  | wr (h : ∀ H', SqT K H' a vs)
inductive LstAt (A : List Addr) (H : Hp) (a : Addr) (vs : List V) : Prop where
  | own (h : a ∉ A) (r : H a = some (.lst vs))
/-- the script: read only -/
inductive ScrAt (K : PySem.W.Frag) (A : List Addr) (H : Hp) (a : Addr) (vs : List V) : Prop where
  | own (h : a ∉ A) (r : Rd H a (.lst vs))
  | wr (h : ∀ H', SqL K H' a vs)

mutual
inductive Rp (K : PySem.W.Frag) (A : List Addr) (H : Hp) : V → D → Prop where
  | non : Rp K A H .non .non
  | bl (b : Bool) : Rp K A H (.bl b) (.bl b)
  | int (i : Int) : Rp K A H (.int i) (.int i)
  | str (x : Str) : Rp K A H (.str x) (.str x)
  | tup {a : Addr} {vs : List V} {ds : List D} (h : TupAt K A H a vs) (r : RpL K A H vs ds) : Rp K A H (.ref a) (.tup ds)
  | lst {a : Addr} {vs : List V} {ds : List D} (h : LstAt A H a vs) (r : RpL K A H vs ds) : Rp K A H (.ref a) (.lst ds)
  | scr {a : Addr} {ns : List Int} (h : ScrAt K A H a (ns.map V.int)) : Rp K A H (.ref a) (.scr ns)
  | ref {a : Addr} {n : Nat} (h : A[n]? = some a) : Rp K A H (.ref a) (.ref n)
inductive RpL (K : PySem.W.Frag) (A : List Addr) (H : Hp) : List V → List D → Prop where
  | nil : RpL K A H [] []
  | cons {v : V} {vs : List V} {d : D} {ds : List D} (r : Rp K A H v d) (rs : RpL K A H vs ds) : RpL K A H (v :: vs) (d :: ds)
end

/-- time has gone on -/
structure Ext (A : List Addr) (H : Hp) (A' : List Addr) (H' : Hp) : Prop where
  pre : ∃ m, A' = A ++ m
  keep : ∀ a o, H a = some o → a ∉ A → H' a = some o ∧ a ∉ A'
theorem Ext.refl (A : List Addr) (H : Hp) : Ext A H A H := ⟨⟨[], by simp⟩, fun _ _ h n => ⟨h, n⟩⟩
theorem Ext.trans {A A1 A2 : List Addr} {H H1 H2 : Hp} (a : Ext A H A1 H1) (b : Ext A1 H1 A2 H2) : Ext A H A2 H2 := by
  refine ⟨?_, fun x o h n => ?_⟩
  · obtain ⟨m, e⟩ := a.pre
    obtain ⟨m', e'⟩ := b.pre
    exact ⟨m ++ m', by rw [e', e, List.append_assoc]⟩
  · obtain ⟨h1, n1⟩ := a.keep x o h n
    exact b.keep x o h1 n1
section
variable {K : PySem.W.Frag} {A A' : List Addr} {H H' : Hp}
theorem Ext.rd (e : Ext A H A' H') {a : Addr} {u : HO} (n : a ∉ A) (r : Rd H a u) : a ∉ A' ∧ Rd H' a u := by
  rcases r with r | ⟨o, r⟩
  · obtain ⟨h1, n1⟩ := e.keep a _ r n
    exact ⟨n1, .inl h1⟩
  · obtain ⟨h1, n1⟩ := e.keep a _ r n
    exact ⟨n1, .inr ⟨o, h1⟩⟩
theorem TupAt.ext (e : Ext A H A' H') {a : Addr} {vs : List V} (t : TupAt K A H a vs) : TupAt K A' H' a vs := by
  cases t with
  | own h r => exact .own (e.rd h r).1 (e.rd h r).2
  | wr h => exact .wr h
theorem LstAt.ext (e : Ext A H A' H') {a : Addr} {vs : List V} (t : LstAt A H a vs) : LstAt A' H' a vs := by
  cases t with
  | own h r => exact .own (e.keep a _ r h).2 (e.keep a _ r h).1
theorem ScrAt.ext (e : Ext A H A' H') {a : Addr} {vs : List V} (t : ScrAt K A H a vs) : ScrAt K A' H' a vs := by
  cases t with
  | own h r => exact .own (e.rd h r).1 (e.rd h r).2
  | wr h => exact .wr h
theorem Ext.at (e : Ext A H A' H') {n : Nat} {a : Addr} (h : A[n]? = some a) : A'[n]? = some a := by
  obtain ⟨m, q⟩ := e.pre
  rw [q, List.getElem?_append_left (List.getElem?_eq_some_iff.mp h).1, h]
mutual
theorem Rp.ext (e : Ext A H A' H') : ∀ {v : V} {d : D}, Rp K A H v d → Rp K A' H' v d
  | _, _, .non => .non
  | _, _, .bl b => .bl b
  | _, _, .int i => .int i
  | _, _, .str x => .str x
  | _, _, .tup h r => .tup (h.ext e) (RpL.ext e r)
  | _, _, .lst h r => .lst (h.ext e) (RpL.ext e r)
  | _, _, .scr h => .scr (h.ext e)
  | _, _, .ref h => .ref (e.at h)
theorem RpL.ext (e : Ext A H A' H') : ∀ {vs : List V} {ds : List D}, RpL K A H vs ds → RpL K A' H' vs ds
  | _, _, .nil => .nil
  | _, _, .cons r rs => .cons (Rp.ext e r) (RpL.ext e rs)
end
theorem RpL.length : ∀ {vs : List V} {ds : List D}, RpL K A H vs ds → vs.length = ds.length
  | _, _, .nil => rfl
  | _, _, .cons _ rs => by simp [RpL.length rs]
theorem RpL.get : ∀ {vs : List V} {ds : List D} {i : Nat} {d : D}, RpL K A H vs ds → ds[i]? = some d → ∃ v, vs[i]? = some v ∧ Rp K A H v d
  | _, _, _, _, .nil, h => by simp at h
  | _, _, 0, _, .cons r _, h => by simp at h; subst h; exact ⟨_, rfl, r⟩
  | _, _, i + 1, _, .cons _ rs, h => by simpa using RpL.get (i := i) rs (by simpa using h)
theorem RpL.getV : ∀ {vs : List V} {ds : List D} {i : Nat} {v : V}, RpL K A H vs ds → vs[i]? = some v → ∃ d, ds[i]? = some d ∧ Rp K A H v d
  | _, _, _, _, .nil, h => by simp at h
  | _, _, 0, _, .cons r _, h => by simp at h; subst h; exact ⟨_, rfl, r⟩
  | _, _, i + 1, _, .cons _ rs, h => by simpa using RpL.getV (i := i) rs (by simpa using h)
theorem RpL.append : ∀ {vs : List V} {ds : List D} {vs' : List V} {ds' : List D}, RpL K A H vs ds → RpL K A H vs' ds' → RpL K A H (vs ++ vs') (ds ++ ds')
  | _, _, _, _, .nil, h => h
  | _, _, _, _, .cons r rs, h => .cons r (RpL.append rs h)
theorem RpL.set {v : V} {d : D} (r : Rp K A H v d) : ∀ {vs : List V} {ds : List D} (i : Nat), RpL K A H vs ds → RpL K A H (vs.set i v) (ds.set i d)
  | _, _, _, .nil => .nil
  | _, _, 0, .cons _ t => .cons r t
  | _, _, i + 1, .cons q t => .cons q (RpL.set r i t)
theorem RpL.take : ∀ {vs : List V} {ds : List D} (n : Nat), RpL K A H vs ds → RpL K A H (vs.take n) (ds.take n)
  | _, _, 0, _ => by simpa using RpL.nil
  | _, _, _ + 1, .nil => by simpa using RpL.nil
  | _, _, n + 1, .cons r t => by simpa using RpL.cons r (RpL.take n t)
theorem RpL.drop : ∀ {vs : List V} {ds : List D} (n : Nat), RpL K A H vs ds → RpL K A H (vs.drop n) (ds.drop n)
  | _, _, 0, h => by simpa using h
  | _, _, _ + 1, .nil => by simpa using RpL.nil
  | _, _, n + 1, .cons _ t => by simpa using RpL.drop n t
end

def FldR (K : PySem.W.Frag) (A : List Addr) (H : Hp) : List (Str × V) → List (Str × D) → Prop := Paired fun p q => p.1 = q.1 ∧ Rp K A H p.2 q.2
theorem FldR.ext {K : PySem.W.Frag} {A A' : List Addr} {H H' : Hp} (e : Ext A H A' H') : ∀ {xs : List (Str × V)} {ys : List (Str × D)}, FldR K A H xs ys → FldR K A' H' xs ys
  | _, _, .nil => .nil
  | _, _, .cons r t => .cons ⟨r.1, r.2.ext e⟩ (FldR.ext e t)

/-- a changing object as it stands -/
def ObR (K : PySem.W.Frag) (mg : Str → Option Value) (A : List Addr) (H : Hp) (a : Addr) : MO → Prop
  | .lst ds => ∃ vs, H a = some (.lst vs) ∧ RpL K A H vs ds
  | .ins c fs => ∃ C dx vfs, mg c = some (.ref C) ∧ H a = some (.ins C dx vfs) ∧ H dx = some (.own a) ∧ dx ∉ A ∧ FldR K A H vfs fs
structure HRel (K : PySem.W.Frag) (mg : Str → Option Value) (A : List Addr) (H : Hp) (hp : HM) : Prop where
  len : A.length = hp.length
  nd : A.Nodup
  ob : ∀ (n : Nat) (mo : MO) (a : Addr), hp[n]? = some mo → A[n]? = some a → ObR K mg A H a mo
def LocR (K : PySem.W.Frag) (A : List Addr) (H : Hp) (σ : L2.St) (loc : Loc) : Prop :=
  σ.length = loc.length ∧ ∀ (i : Nat) d, loc[i]? = some (some d) → ∃ v, σ[i]? = some (some v) ∧ Rp K A H v d
theorem LocR.ext {K : PySem.W.Frag} {A A' : List Addr} {H H' : Hp} {σ : L2.St} {loc : Loc} (l : LocR K A H σ loc) (e : Ext A H A' H') : LocR K A' H' σ loc :=
  ⟨l.1, fun i d h => let ⟨v, h1, h2⟩ := l.2 i d h; ⟨v, h1, h2.ext e⟩⟩
theorem LocR.set {K : PySem.W.Frag} {A : List Addr} {H : Hp} {σ : L2.St} {loc : Loc} {v : V} {d : D} (l : LocR K A H σ loc) (i : Nat) (r : Rp K A H v d) : LocR K A H (σ.set i (some v)) (loc.set i (some d)) := by
  refine ⟨by simp [l.1], fun j e h => ?_⟩
  by_cases hj : i = j
  · subst hj
    by_cases hi : i < loc.length
    · rw [List.getElem?_set_self hi] at h
      cases h
      exact ⟨v, by rw [List.getElem?_set_self (by rw [l.1]; exact hi)], r⟩
    · rw [List.getElem?_eq_none (by simpa using hi)] at h
      cases h
  · rw [List.getElem?_set_ne hj] at h
    rw [List.getElem?_set_ne hj]
    exact l.2 j e h
def ExR (mg : Str → Option Value) (H : Hp) (c : Value) (od : Option Addr) (e : Exn) : Prop :=
  mg e.cls = some c ∧ match e.fld with
    | none => od = none
    | some (f, i) => ∃ d, od = some d ∧ H d = some (.xd [(f, .int i)])

/-- o is good for Q: whatever stands for it does -/
def Good {α β : Type} (K : PySem.W.Frag) (mg : Str → Option Value) (W : WX) (σ : L2.St) (R : List Addr → Hp → β → α → Prop) (A : List Addr) (H : Hp) (o : O α) (Q : β → Hp → Prop) : Prop :=
  match o with
  | .ok d hp' => ∀ A' H' v, Ext A H A' H' → HRel K mg A' H' hp' → R A' H' v d → Q v H'
  | .exc e hp' => ∀ A' H' c od, Ext A H A' H' → HRel K mg A' H' hp' → ExR mg H' c od e → W c od σ H'
  | .bad => False
section
variable {K : PySem.W.Frag} {mg : Str → Option Value} {W : WX} {σ : L2.St} {α β γ δ : Type} {R : List Addr → Hp → β → α → Prop} {R' : List Addr → Hp → δ → γ → Prop} {A A' : List Addr} {H H' : Hp}
theorem Good.ext {o : O α} {Q : β → Hp → Prop} (g : Good K mg W σ R A H o Q) (e : Ext A H A' H') : Good K mg W σ R A' H' o Q := by
  cases o with
  | ok d hp' => exact fun A2 H2 v e2 => g A2 H2 v (e.trans e2)
  | exc x hp' => exact fun A2 H2 c od e2 => g A2 H2 c od (e.trans e2)
  | bad => exact g
theorem Good.mono {o : O α} {Q Q' : β → Hp → Prop} (g : Good K mg W σ R A H o Q) (h : ∀ v H', Q v H' → Q' v H') : Good K mg W σ R A H o Q' := by
  cases o with
  | ok d hp' => exact fun A2 H2 v e r q => h _ _ (g A2 H2 v e r q)
  | exc x hp' => exact g
  | bad => exact g
theorem Good.bind {o : O α} {k : α → HM → O γ} {Q : δ → Hp → Prop} (g : Good K mg W σ R' A H (o.bind k) Q) :
    Good K mg W σ R A H o fun b H1 => ∃ A1 hp1 a, Ext A H A1 H1 ∧ HRel K mg A1 H1 hp1 ∧ R A1 H1 b a ∧ Good K mg W σ R' A1 H1 (k a hp1) Q := by
  cases o with
  | ok a hp1 => exact fun A1 H1 b e r q => ⟨A1, hp1, a, e, r, q, Good.ext g e⟩
  | exc x hp' => exact g
  | bad => exact g
end

/-- the reading of a mirror -/
def tG {α β : Type} (K : PySem.W.Frag) (mg : Str → Option Value) (W : WX) (R : List Addr → Hp → β → α → Prop) (f : Loc → HM → O α) : L2.St → Hp → (β → Hp → Prop) → Prop := fun σ H Q =>
  ∃ A loc hp, HRel K mg A H hp ∧ LocR K A H σ loc ∧ Good K mg W σ R A H (f loc hp) Q
abbrev RB : List Addr → Hp → Bool → Bool → Prop := fun _ _ a b => a = b
abbrev EM := Loc → HM → O D
abbrev TM := Loc → HM → O Bool
abbrev AM := Loc → HM → O (List D)

theorem _root_.L2.PE.weak {X : Cx} {e : PySem.Expr} {t t' : TE} (h : PE X e t) (w : ∀ σ H Q, t' σ H Q → t σ H Q) : PE X e t' := ⟨fun pins s σ H Q I q => h.run pins s σ H Q I (w σ H Q q)⟩
theorem _root_.L2.PT.weak {X : Cx} {e : PySem.Expr} {t t' : TT} (h : PT X e t) (w : ∀ σ H Q, t' σ H Q → t σ H Q) : PT X e t' := ⟨fun pins s σ H Q I q => h.run pins s σ H Q I (w σ H Q q)⟩
theorem _root_.L2.PW.weak {X : Cx} {e : PySem.Expr} {t t' : TT} (h : PW X e t) (w : ∀ σ H Q, t' σ H Q → t σ H Q) : PW X e t' := ⟨fun wh pins s σ H Q I q => h.run wh pins s σ H Q I (w σ H Q q)⟩
theorem _root_.L2.PA.weak {X : Cx} {e : List PySem.Expr} {t t' : TA} (h : PA X e t) (w : ∀ σ H Q, t' σ H Q → t σ H Q) : PA X e t' := ⟨fun pos pins s σ H Q I q => h.run pos pins s σ H Q I (w σ H Q q)⟩
theorem _root_.L2.PS.weak {X : Cx} {e : Stmt} {t t' : TS} (h : PS X e t) (w : ∀ D σ H, t' D σ H → t D σ H) : PS X e t' := ⟨fun pins s σ H D I q => h.run pins s σ H D I (w D σ H q)⟩
theorem _root_.L2.PSs.weak {X : Cx} {e : List Stmt} {t t' : TS} (h : PSs X e t) (w : ∀ D σ H, t' D σ H → t D σ H) : PSs X e t' := ⟨fun pins s σ H D I q => h.run pins s σ H D I (w D σ H q)⟩

/-- an expression, a test, arguments are simulated by a mirror -/
abbrev SE (X : Cx) (W : WX) (e : PySem.Expr) (f : EM) : Prop := PE X e (tG X.K X.mg W (Rp X.K) f)
abbrev STt (X : Cx) (W : WX) (e : PySem.Expr) (f : TM) : Prop := PT X e (tG X.K X.mg W RB f)
abbrev SWt (X : Cx) (W : WX) (e : PySem.Expr) (f : TM) : Prop := PW X e (tG X.K X.mg W RB f)
abbrev SA (X : Cx) (W : WX) (es : List PySem.Expr) (f : AM) : Prop := PA X es (tG X.K X.mg W (RpL X.K) f)

/-! ### names, constants -/
def eVar (i : Nat) : EM := fun loc hp => match loc[i]? with
  | some (some d) => .ok d hp
  | _ => .bad
def eC (d : D) : EM := fun _ hp => .ok d hp
section
variable {X : Cx} {W : WX}
theorem se_of {e : PySem.Expr} {i : Nat} (h : PE X e (tVar i)) : SE X W e (eVar i) := h.weak fun σ H Q ⟨A, loc, hp, hr, hl, g⟩ => by
  unfold eVar at g
  cases h1 : loc[i]? with
  | none => rw [h1] at g; exact g.elim
  | some o =>
    cases o with
    | none => rw [h1] at g; exact g.elim
    | some d =>
      rw [h1] at g
      obtain ⟨v, e1, r⟩ := hl.2 i d h1
      exact ⟨v, e1, g A H v (.refl A H) hr r⟩
theorem se_c {e : PySem.Expr} {v : V} {d : D} (h : PE X e (tC v)) (r : ∀ A H, Rp X.K A H v d) : SE X W e (eC d) := h.weak fun σ H Q ⟨A, loc, hp, hr, hl, g⟩ => g A H v (.refl A H) hr (r A H)
theorem se_int {i j pos} : SE X W (.Constant (.int i) j pos) (eC (.int i)) := se_c pe_int fun _ _ => .int i
theorem se_bl {b j pos} : SE X W (.Constant (.bool b) j pos) (eC (.bl b)) := se_c pe_bl fun _ _ => .bl b
theorem se_non {j pos} : SE X W (.Constant .none j pos) (eC .non) := se_c pe_non fun _ _ => .non
theorem se_str {x j pos} : SE X W (.Constant (.str x) j pos) (eC (.str x)) := se_c pe_str fun _ _ => .str x

/-! ### two operands -/
def eBin (g : D → D → HM → O D) (fa fb : EM) : EM := fun loc hp => (fa loc hp).bind fun x hp1 => (fb loc hp1).bind fun y hp2 => g x y hp2
/-- an operator's rule serves a mirror -/
def OpG (K : PySem.W.Frag) (mg : Str → Option Value) (r : R2) (g : D → D → HM → O D) : Prop :=
  ∀ (W : WX) (σ : L2.St) (A : List Addr) (H : Hp) (hp : HM) (v1 v2 : V) (d1 d2 : D) (Q : VK), HRel K mg A H hp → Rp K A H v1 d1 → Rp K A H v2 d2 → Good K mg W σ (Rp K) A H (g d1 d2 hp) Q → r v1 v2 H Q
theorem bin_w {K : PySem.W.Frag} {mg : Str → Option Value} {r : R2} {g : D → D → HM → O D} {fa fb : EM} (hg : OpG K mg r g) : ∀ σ H Q, tG K mg W (Rp K) (eBin g fa fb) σ H Q → tOp r (tG K mg W (Rp K) fa) (tG K mg W (Rp K) fb) σ H Q := by
  rintro σ H Q ⟨A, loc, hp, hr, hl, hq⟩
  refine ⟨A, loc, hp, hr, hl, (Good.bind (R := Rp K) hq).mono ?_⟩
  rintro v1 H1 ⟨A1, hp1, d1, e1, r1, q1, g1⟩
  refine ⟨A1, loc, hp1, r1, hl.ext e1, (Good.bind (R := Rp K) g1).mono ?_⟩
  rintro v2 H2 ⟨A2, hp2, d2, e2, r2, q2, g2⟩
  exact hg W σ A2 H2 hp2 v1 v2 d1 d2 Q r2 (q1.ext e2) q2 g2
theorem se_bin {a b : PySem.Expr} {fa fb : EM} {op : Operator} {pos : Pos} {r : R2} {g : D → D → HM → O D} (ho : OpR X (binaryOp op) r) (hg : OpG X.K X.mg r g) (ha : SE X W a fa) (hb : SE X W b fb) : SE X W (.BinOp a op b pos) (eBin g fa fb) :=
  (pe_op ho ha hb).weak (bin_w hg)
theorem se_cmp {a b : PySem.Expr} {fa fb : EM} {op : CmpOp} {pos : Pos} {r : R2} {g : D → D → HM → O D} (ho : OpR X (compareOp op) r) (hg : OpG X.K X.mg r g) (ha : SE X W a fa) (hb : SE X W b fb) (hm : behindInMarks op b = false) :
    SE X W (.Compare a [op] [b] pos) (eBin g fa fb) := (pe_cmpR ho ha hb hm).weak (bin_w hg)
end
end Ms

namespace Ms
open PySem L2
section
variable {K : PySem.W.Frag} {mg : Str → Option Value} {A A' : List Addr} {H H' : Hp} {hp : HM} {W : WX} {σ : L2.St}

/-! ### what stands for data of a known form -/
theorem Rp.non_inv {v : V} (r : Rp K A H v .non) : v = .non := by cases r; rfl
theorem Rp.bl_inv {v : V} {b : Bool} (r : Rp K A H v (.bl b)) : v = .bl b := by cases r; rfl
theorem Rp.int_inv {v : V} {i : Int} (r : Rp K A H v (.int i)) : v = .int i := by cases r; rfl
theorem Rp.str_inv {v : V} {x : Str} (r : Rp K A H v (.str x)) : v = .str x := by cases r; rfl
theorem Rp.tup_inv {v : V} {ds : List D} (r : Rp K A H v (.tup ds)) : ∃ a vs, v = .ref a ∧ TupAt K A H a vs ∧ RpL K A H vs ds := by cases r with | tup h r => exact ⟨_, _, rfl, h, r⟩
theorem Rp.lst_inv {v : V} {ds : List D} (r : Rp K A H v (.lst ds)) : ∃ a vs, v = .ref a ∧ a ∉ A ∧ H a = some (.lst vs) ∧ RpL K A H vs ds := by cases r with | lst h r => cases h with | own h1 h2 => exact ⟨_, _, rfl, h1, h2, r⟩
theorem Rp.ref_inv {v : V} {n : Nat} (r : Rp K A H v (.ref n)) : ∃ a, v = .ref a ∧ A[n]? = some a := by cases r with | ref h => exact ⟨_, rfl, h⟩
theorem TupAt.sq {a : Addr} {vs : List V} (t : TupAt K A H a vs) : SqT K H a vs := by
  cases t with
  | own _ r => exact .inl r
  | wr h => exact h H
theorem ScrAt.sq {a : Addr} {vs : List V} (t : ScrAt K A H a vs) : SqL K H a vs := by
  cases t with
  | own _ r => exact .inl r
  | wr h => exact h H
theorem TupAt.new {p : Addr} {vs : List V} (h : p ∉ A) : TupAt K A (upd H p (.tup vs)) p vs := .own h (.inl upd_same)

/-! ### the heap goes on -/
theorem HRel.mem (r : HRel K mg A H hp) {a : Addr} (h : a ∈ A) : ∃ o, H a = some o := by
  obtain ⟨n, hn⟩ := List.mem_iff_getElem?.mp h
  have hl : n < hp.length := by rw [← r.len]; exact (List.getElem?_eq_some_iff.mp hn).1
  have := r.ob n hp[n] a (List.getElem?_eq_getElem hl) hn
  cases q : hp[n] with
  | lst ds =>
    rw [q] at this
    obtain ⟨vs, h1, _⟩ := this
    exact ⟨_, h1⟩
  | ins c fs =>
    rw [q] at this
    obtain ⟨C, dx, vfs, _, h1, _⟩ := this
    exact ⟨_, h1⟩
theorem HRel.fresh (r : HRel K mg A H hp) {p : Addr} (h : H p = none) : p ∉ A := fun q => by
  obtain ⟨o, e⟩ := r.mem q
  rw [h] at e; cases e
theorem Ext.new {p : Addr} {o : HO} (h : H p = none) (n : p ∉ A) : Ext A H A (upd H p o) := ⟨⟨[], by simp⟩, fun a u e n => ⟨by rw [upd_ne (ne_of_none e h)]; exact e, n⟩⟩
theorem ObR.ext (e : Ext A H A' H') {a : Addr} (k : H' a = H a) : ∀ {mo : MO}, ObR K mg A H a mo → ObR K mg A' H' a mo
  | .lst ds, ⟨vs, h1, h2⟩ => ⟨vs, by rw [k]; exact h1, h2.ext e⟩
  | .ins c fs, ⟨C, dx, vfs, h0, h1, h2, h3, h4⟩ => ⟨C, dx, vfs, h0, by rw [k]; exact h1, (e.keep dx _ h2 h3).1, (e.keep dx _ h2 h3).2, h4.ext e⟩
theorem HRel.same (r : HRel K mg A H hp) (e : Ext A H A H') (k : ∀ a ∈ A, H' a = H a) : HRel K mg A H' hp :=
  ⟨r.len, r.nd, fun n mo a h1 h2 => (r.ob n mo a h1 h2).ext e (k a (List.mem_of_getElem? h2))⟩
/-- a thing is made -/
theorem HRel.new (r : HRel K mg A H hp) {p : Addr} {o : HO} (h : H p = none) : Ext A H A (upd H p o) ∧ HRel K mg A (upd H p o) hp := by
  have e : Ext A H A (upd H p o) := Ext.new h (r.fresh h)
  exact ⟨e, r.same e fun a m => upd_ne fun q => r.fresh h (q ▸ m)⟩
/-- a changing object is made -/
theorem HRel.track (r : HRel K mg A H hp) {p : Addr} {o : HO} {mo : MO} (h : H p = none) (ob : ObR K mg (A ++ [p]) (upd H p o) p mo) : Ext A H (A ++ [p]) (upd H p o) ∧ HRel K mg (A ++ [p]) (upd H p o) (hp ++ [mo]) := by
  have np := r.fresh h
  have e : Ext A H (A ++ [p]) (upd H p o) := ⟨⟨[p], rfl⟩, fun a u q n => ⟨by rw [upd_ne (ne_of_none q h)]; exact q, by
    simp only [List.mem_append, List.mem_singleton, not_or]
    exact ⟨n, ne_of_none q h⟩⟩⟩
  refine ⟨e, by simp [r.len], ?_, fun n m a h1 h2 => ?_⟩
  · rw [List.nodup_append]
    refine ⟨r.nd, by simp, fun a ha b hb => ?_⟩
    simp only [List.mem_singleton] at hb
    subst hb
    exact fun q => np (q ▸ ha)
  · by_cases hn : n < A.length
    · rw [List.getElem?_append_left hn] at h2
      rw [List.getElem?_append_left (by rw [← r.len]; exact hn)] at h1
      exact (r.ob n m a h1 h2).ext e (upd_ne fun q => np (q ▸ List.mem_of_getElem? h2))
    · have hl : n < (hp ++ [mo]).length := (List.getElem?_eq_some_iff.mp h1).1
      have : n = A.length := by simp [← r.len] at hl; omega
      subst this
      simp at h2
      rw [r.len] at h1
      simp at h1
      subst h1 h2
      exact ob
/-- a changing object changes -/
theorem HRel.write (r : HRel K mg A H hp) {n : Nat} {p : Addr} {o : HO} {mo : MO} (h : A[n]? = some p) (ob : Ext A H A (upd H p o) → ObR K mg A (upd H p o) p mo) : Ext A H A (upd H p o) ∧ HRel K mg A (upd H p o) (hp.set n mo) := by
  have e : Ext A H A (upd H p o) := ⟨⟨[], by simp⟩, fun a u q m => ⟨by rw [upd_ne (fun z : a = p => m (by rw [z]; exact List.mem_of_getElem? h))]; exact q, m⟩⟩
  refine ⟨e, by simp [r.len], r.nd, fun j m a h1 h2 => ?_⟩
  by_cases hj : n = j
  · subst hj
    rw [h] at h2; cases h2
    have hl : n < hp.length := by rw [← r.len]; exact (List.getElem?_eq_some_iff.mp h).1
    rw [List.getElem?_set_self hl] at h1
    cases h1
    exact ob e
  · rw [List.getElem?_set_ne hj] at h1
    refine (r.ob j m a h1 h2).ext e (upd_ne fun q => hj ?_)
    subst q
    have l1 := (List.getElem?_eq_some_iff.mp h).1
    obtain ⟨l2, q2⟩ := List.getElem?_eq_some_iff.mp h2
    obtain ⟨_, q1⟩ := List.getElem?_eq_some_iff.mp h
    exact (List.getElem_inj r.nd).mp (q1.trans q2.symm)

/-- a list as it stands now -/
def lstOf (hp : HM) : D → Option (List D)
  | .lst ds => some ds
  | .ref n => match hp[n]? with
    | some (.lst ds) => some ds
    | _ => none
  | _ => none
theorem lstOf_rp (r : HRel K mg A H hp) {v : V} {d : D} {ds : List D} (q : Rp K A H v d) (h : lstOf hp d = some ds) : ∃ p vs, v = .ref p ∧ H p = some (.lst vs) ∧ RpL K A H vs ds := by
  cases q with
  | lst h1 h2 =>
    cases h1 with
    | own _ h3 =>
      simp only [lstOf, Option.some.injEq] at h
      subst h
      exact ⟨_, _, rfl, h3, h2⟩
  | @ref a n h1 =>
    simp only [lstOf] at h
    have hl : n < hp.length := by rw [← r.len]; exact (List.getElem?_eq_some_iff.mp h1).1
    rw [List.getElem?_eq_getElem hl] at h
    cases q : hp[n] with
    | lst ds' =>
      rw [q] at h
      simp only [Option.some.injEq] at h
      subst h
      obtain ⟨vs, h2, h3⟩ := r.ob n _ a (by rw [List.getElem?_eq_getElem hl, q]) h1
      exact ⟨a, vs, rfl, h2, h3⟩
    | ins c fs => rw [q] at h; cases h
  | non => cases h
  | bl _ => cases h
  | int _ => cases h
  | str _ => cases h
  | tup _ _ => cases h
  | scr _ => cases h
/-- a list or a tuple as it stands now -/
def seqOf (hp : HM) : D → Option (List D)
  | .tup ds => some ds
  | .scr ns => some (ns.map .int)
  | d => lstOf hp d
theorem rpl_ints {ns : List Int} : ∀ {vs : List V}, RpL K A H vs (ns.map D.int) → vs = ns.map V.int := by
  induction ns with
  | nil => intro vs h; cases h; rfl
  | cons n ns ih =>
    intro vs h
    cases h with
    | cons r rs => rw [r.int_inv, ih rs]; rfl
theorem ints_rpl {ns : List Int} : RpL K A H (ns.map V.int) (ns.map D.int) := by
  induction ns with
  | nil => exact .nil
  | cons n ns ih => exact .cons (.int n) ih
theorem seqOf_rp (r : HRel K mg A H hp) {v : V} {d : D} {ds : List D} (q : Rp K A H v d) (h : seqOf hp d = some ds) : ∃ p vs, v = .ref p ∧ (SqL K H p vs ∨ SqT K H p vs) ∧ RpL K A H vs ds := by
  have low : lstOf hp d = some ds → ∃ p vs, v = .ref p ∧ (SqL K H p vs ∨ SqT K H p vs) ∧ RpL K A H vs ds := fun h => by
    obtain ⟨p, vs, e, h1, h2⟩ := lstOf_rp r q h
    exact ⟨p, vs, e, .inl (SqL.of h1), h2⟩
  cases d with
  | tup ds' =>
    simp only [seqOf, Option.some.injEq] at h
    subst h
    obtain ⟨a, vs, e, h1, h2⟩ := q.tup_inv
    exact ⟨a, vs, e, .inr h1.sq, h2⟩
  | scr ns =>
    simp only [seqOf, Option.some.injEq] at h
    subst h
    cases q with
    | scr h1 => exact ⟨_, _, rfl, .inl h1.sq, ints_rpl⟩
  | lst _ => exact low h
  | ref _ => exact low h
  | non => exact low h
  | bl _ => exact low h
  | int _ => exact low h
  | str _ => exact low h

abbrev big : Nat := 1000000
theorem big_line {n : Nat} (h : n ≤ big) : n ≤ sizeLine := Nat.le_trans h (by decide)

/-! ### operators -/
def gInt2 (f : Int → Int → O D) : D → D → HM → O D := fun x y _ => match x, y with
  | .int i, .int j => f i j
  | _, _ => .bad
def gAdd : D → D → HM → O D := fun x y hp => match x, y with
  | .int i, .int j => .ok (.int (i + j)) hp
  | .str a, .str b => if a.length + b.length ≤ big then .ok (.str (a ++ b)) hp else .bad
  | .tup xs, .tup ys => if xs.length + ys.length ≤ big then .ok (.tup (xs ++ ys)) hp else .bad
  | x, y => match lstOf hp x, lstOf hp y with
    | some xs, some ys => if xs.length + ys.length ≤ big then .ok (.lst (xs ++ ys)) hp else .bad
    | _, _ => .bad
def rAddA (K : PySem.W.Frag) : R2 := fun x y H Q => (∃ i j, x = .int i ∧ y = .int j ∧ Q (.int (i + j)) H) ∨ ((∃ i j, x = .str i ∧ y = .str j ∧ i.length + j.length ≤ sizeLine ∧ Q (.str (i ++ j)) H) ∨ (rCatA K x y H Q ∨ rCat x y H Q))
theorem op_addA {X : Cx} : OpR X (binaryOp .Add) (rAddA X.K) := op_add.or (op_add_str.or (op_catA.or op_cat))
theorem new_lst {Q : VK} {xs : List V} {ds : List D} (r : HRel K mg A H hp) (q : RpL K A H xs ds) (g : Good K mg W σ (Rp K) A H (.ok (.lst ds) hp) Q) : ∀ p, H p = none → Q (.ref p) (upd H p (.lst xs)) := fun p hp' => by
  obtain ⟨e, r'⟩ := r.new (o := .lst xs) hp'
  exact g A _ _ e r' (.lst (.own (r.fresh hp') upd_same) (q.ext e))
theorem new_tup {Q : VK} {xs : List V} {ds : List D} (r : HRel K mg A H hp) (q : RpL K A H xs ds) (g : Good K mg W σ (Rp K) A H (.ok (.tup ds) hp) Q) : ∀ p, H p = none → Q (.ref p) (upd H p (.tup xs)) := fun p hp' => by
  obtain ⟨e, r'⟩ := r.new (o := .tup xs) hp'
  exact g A _ _ e r' (.tup (.new (r.fresh hp')) (q.ext e))
theorem Good.here {d : D} {v : V} {Q : VK} (g : Good K mg W σ (Rp K) A H (.ok d hp) Q) (r : HRel K mg A H hp) (q : Rp K A H v d) : Q v H := g A H v (.refl A H) r q
theorem og_add : OpG K mg (rAddA K) gAdd := fun W σ A H hp v1 v2 d1 d2 Q r q1 q2 g => by
  have low : (match lstOf hp d1, lstOf hp d2 with
      | some xs, some ys => if xs.length + ys.length ≤ big then O.ok (D.lst (xs ++ ys)) hp else .bad
      | _, _ => .bad) = gAdd d1 d2 hp → rAddA K v1 v2 H Q := fun e => by
    rw [← e] at g
    cases h1 : lstOf hp d1 with
    | none => rw [h1] at g; exact g.elim
    | some xs =>
      cases h2 : lstOf hp d2 with
      | none => rw [h1, h2] at g; exact g.elim
      | some ys =>
        rw [h1, h2] at g
        simp only at g
        by_cases hz : xs.length + ys.length ≤ big
        · rw [if_pos hz] at g
          obtain ⟨p, vs, rfl, a1, a2⟩ := lstOf_rp r q1 h1
          obtain ⟨p', vs', rfl, b1, b2⟩ := lstOf_rp r q2 h2
          exact .inr (.inr (.inr ⟨p, p', vs, vs', rfl, rfl, a1, b1, by rw [a2.length, b2.length]; exact big_line hz, new_lst r (a2.append b2) g⟩))
        · rw [if_neg hz] at g; exact g.elim
  cases d1 with
  | int i =>
    cases d2 with
    | int j => exact .inl ⟨i, j, q1.int_inv, q2.int_inv, g.here r (.int _)⟩
    | _ => exact low rfl
  | str a =>
    cases d2 with
    | str b =>
      simp only [gAdd] at g
      by_cases hz : a.length + b.length ≤ big
      · rw [if_pos hz] at g
        exact .inr (.inl ⟨a, b, q1.str_inv, q2.str_inv, big_line hz, g.here r (.str _)⟩)
      · rw [if_neg hz] at g; exact g.elim
    | _ => exact low rfl
  | tup xs =>
    cases d2 with
    | tup ys =>
      simp only [gAdd] at g
      by_cases hz : xs.length + ys.length ≤ big
      · rw [if_pos hz] at g
        have q1' := q1
        have q2' := q2
        obtain ⟨a, vs, rfl, t1, r1⟩ := q1.tup_inv
        obtain ⟨b, vs', rfl, t2, r2⟩ := q2.tup_inv
        refine .inr (.inr (.inl ⟨a, b, vs, vs', rfl, rfl, t1.sq, t2.sq, by rw [r1.length, r2.length]; exact big_line hz, fun e => ?_, fun _ e => ?_, fun _ _ => new_tup r (r1.append r2) g⟩))
        · subst e; cases r1; exact g.here r q2'
        · subst e; cases r2; rw [List.append_nil] at g; exact g.here r q1'
      · rw [if_neg hz] at g; exact g.elim
    | _ => exact low rfl
  | _ => exact low rfl

/-- operators of two ints, under a condition -/
theorem og_I {C : Int → Int → Prop} [∀ i j, Decidable (C i j)] {f : Int → Int → V} {fd : Int → Int → D} (hf : ∀ i j A H, Rp K A H (f i j) (fd i j)) : OpG K mg (rI C f) (fun x y hp => match x, y with
    | .int i, .int j => if C i j then .ok (fd i j) hp else .bad
    | _, _ => .bad) := fun W σ A H hp v1 v2 d1 d2 Q r q1 q2 g => by
  cases d1 with
  | int i =>
    cases d2 with
    | int j =>
      simp only at g
      by_cases hc : C i j
      · rw [if_pos hc] at g
        exact ⟨i, j, q1.int_inv, q2.int_inv, hc, g.here r (hf i j A H)⟩
      · rw [if_neg hc] at g; exact g.elim
    | _ => exact g.elim
  | _ => exact g.elim
theorem og_I0 {f : Int → Int → V} {fd : Int → Int → D} (hf : ∀ i j A H, Rp K A H (f i j) (fd i j)) : OpG K mg (rI0 f) (fun x y hp => match x, y with
    | .int i, .int j => .ok (fd i j) hp
    | _, _ => .bad) := fun W σ A H hp v1 v2 d1 d2 Q r q1 q2 g => by
  cases d1 with
  | int i =>
    cases d2 with
    | int j => exact ⟨i, j, q1.int_inv, q2.int_inv, g.here r (hf i j A H)⟩
    | _ => exact g.elim
  | _ => exact g.elim
def gI0 (fd : Int → Int → D) : D → D → HM → O D := fun x y hp => match x, y with
  | .int i, .int j => .ok (fd i j) hp
  | _, _ => .bad
def gI (C : Int → Int → Prop) [∀ i j, Decidable (C i j)] (fd : Int → Int → D) : D → D → HM → O D := fun x y hp => match x, y with
  | .int i, .int j => if C i j then .ok (fd i j) hp else .bad
  | _, _ => .bad
def gSub := gI0 fun i j => .int (i - j)
def gLt := gI0 fun i j => .bl (decide (i < j))
def gLe := gI0 fun i j => .bl (decide (i ≤ j))
def gGt := gI0 fun i j => .bl (decide (j < i))
def gGe := gI0 fun i j => .bl (decide (j ≤ i))
instance (i j : Int) : Decidable (CMul i j) := inferInstanceAs (Decidable (_ ∨ _))
instance (i j : Int) : Decidable (CDiv i j) := inferInstanceAs (Decidable (_ ∧ _))
instance (i j : Int) : Decidable (CPow i j) := inferInstanceAs (Decidable (_ ∧ _))
def gMul := gI CMul fun i j => .int (i * j)
def gDiv := gI CDiv fun i j => .int (i / j)
def gMod := gI (fun _ j => 0 < j) fun i j => .int (i % j)
def gPow := gI CPow fun i j => .int (i ^ j.toNat)
theorem og_sub : OpG K mg (rI0 fun i j => .int (i - j)) gSub := og_I0 fun _ _ _ _ => .int _
theorem og_lt : OpG K mg (rI0 fun i j => .bl (decide (i < j))) gLt := og_I0 fun _ _ _ _ => .bl _
theorem og_le : OpG K mg (rI0 fun i j => .bl (decide (i ≤ j))) gLe := og_I0 fun _ _ _ _ => .bl _
theorem og_gt : OpG K mg (rI0 fun i j => .bl (decide (j < i))) gGt := og_I0 fun _ _ _ _ => .bl _
theorem og_ge : OpG K mg (rI0 fun i j => .bl (decide (j ≤ i))) gGe := og_I0 fun _ _ _ _ => .bl _
theorem og_mul : OpG K mg (rI CMul fun i j => .int (i * j)) gMul := og_I fun _ _ _ _ => .int _
theorem og_div : OpG K mg (rI CDiv fun i j => .int (i / j)) gDiv := og_I fun _ _ _ _ => .int _
theorem og_mod : OpG K mg (rI (fun _ j => 0 < j) fun i j => .int (i % j)) gMod := og_I fun _ _ _ _ => .int _
theorem og_pow : OpG K mg (rI CPow fun i j => .int (i ^ j.toNat)) gPow := og_I fun _ _ _ _ => .int _

/-- == of scalars -/
def eqS : D → D → Option Bool
  | .non, .non => some true
  | .int i, .int j => some (decide (i = j))
  | .bl i, .bl j => some (decide (i = j))
  | .str i, .str j => some (decide (i = j))
  | .non, .int _ => some false | .int _, .non => some false | .non, .bl _ => some false | .bl _, .non => some false
  | .non, .str _ => some false | .str _, .non => some false
  | .int _, .str _ => some false | .str _, .int _ => some false | .bl _, .str _ => some false | .str _, .bl _ => some false
  | _, _ => none
def gEq : D → D → HM → O D := fun x y hp => match eqS x y with
  | some b => .ok (.bl b) hp
  | none => .bad
def gNe : D → D → HM → O D := fun x y hp => match eqS x y with
  | some b => .ok (.bl (!b)) hp
  | none => .bad
theorem eqS_rp {v1 v2 : V} {d1 d2 : D} {b : Bool} (q1 : Rp K A H v1 d1) (q2 : Rp K A H v2 d2) (h : eqS d1 d2 = some b) : scal v1 v2 = true ∧ decide (v1 = v2) = b := by
  cases q1 <;> cases q2 <;> simp only [eqS, Option.some.injEq, reduceCtorEq] at h <;> subst h <;> exact ⟨rfl, by simp⟩
theorem og_eq : OpG K mg rEq gEq := fun W σ A H hp v1 v2 d1 d2 Q r q1 q2 g => by
  unfold gEq at g
  cases h : eqS d1 d2 with
  | none => rw [h] at g; exact g.elim
  | some b =>
    rw [h] at g
    obtain ⟨h1, h2⟩ := eqS_rp q1 q2 h
    exact ⟨h1, by rw [h2]; exact g.here r (.bl b)⟩
theorem og_ne : OpG K mg rNe gNe := fun W σ A H hp v1 v2 d1 d2 Q r q1 q2 g => by
  unfold gNe at g
  cases h : eqS d1 d2 with
  | none => rw [h] at g; exact g.elim
  | some b =>
    rw [h] at g
    obtain ⟨h1, h2⟩ := eqS_rp q1 q2 h
    exact ⟨h1, by rw [h2]; exact g.here r (.bl _)⟩
/-- is None, is not None -/
def isN : D → Bool
  | .non => true
  | _ => false
def gIsN : D → D → HM → O D := fun x y hp => match y with
  | .non => .ok (.bl (isN x)) hp
  | _ => .bad
def gNotN : D → D → HM → O D := fun x y hp => match y with
  | .non => .ok (.bl (!isN x)) hp
  | _ => .bad
theorem isN_rp {v : V} {d : D} (q : Rp K A H v d) : decide (v = .non) = isN d := by
  cases q <;> simp [isN]
theorem og_isN : OpG K mg (fun x y H Q => y = .non ∧ Q (.bl (decide (x = .non))) H) gIsN := fun W σ A H hp v1 v2 d1 d2 Q r q1 q2 g => by
  cases d2 with
  | non => exact ⟨q2.non_inv, by rw [isN_rp q1]; exact g.here r (.bl _)⟩
  | _ => exact g.elim
theorem og_notN : OpG K mg (fun x y H Q => y = .non ∧ Q (.bl (!decide (x = .non))) H) gNotN := fun W σ A H hp v1 v2 d1 d2 Q r q1 q2 g => by
  cases d2 with
  | non => exact ⟨q2.non_inv, by rw [isN_rp q1]; exact g.here r (.bl _)⟩
  | _ => exact g.elim
/-- a sign in a text -/
def gInSign : D → D → HM → O D := fun x y hp => match x, y with
  | .str ⟨⟨[c]⟩⟩, .str z => .ok (.bl (decide (c ∈ z.cps.toList))) hp
  | _, _ => .bad
theorem og_inSign : OpG K mg (fun x y H Q => ∃ (c : Nat) (z : Str), x = .str ⟨#[c]⟩ ∧ y = .str z ∧ Q (.bl (decide (c ∈ z.cps.toList))) H) gInSign := fun W σ A H hp v1 v2 d1 d2 Q r q1 q2 g => by
  unfold gInSign at g
  split at g
  · exact ⟨_, _, q1.str_inv, q2.str_inv, g.here r (.bl _)⟩
  · exact g.elim

/-! ### items -/
def atD {α : Type} (xs : List α) (i : Int) : Option α := atI xs i
def gIx : D → D → HM → O D := fun x y hp => match x, y with
  | .str z, .int i => if z.length ≤ big then (match atI z.cps.toList i with
    | some c => .ok (.str ⟨#[c]⟩) hp
    | none => .bad) else .bad
  | x, .int i => match seqOf hp x with
    | some ds => (match atI ds i with
      | some d => .ok d hp
      | none => .bad)
    | none => .bad
  | _, _ => .bad
theorem atI_rp {vs : List V} {ds : List D} {i : Int} {d : D} (r : RpL K A H vs ds) (h : atI ds i = some d) : ∃ v, atI vs i = some v ∧ Rp K A H v d := by
  unfold atI at h ⊢
  rw [r.length]
  cases q : ixN ds.length i with
  | none => rw [q] at h; cases h
  | some j =>
    rw [q] at h
    exact r.get h
theorem og_ix : OpG K mg (rIx K) gIx := fun W σ A H hp v1 v2 d1 d2 Q r q1 q2 g => by
  have low : ∀ i, d2 = .int i → (∀ z, d1 ≠ .str z) → rIx K v1 v2 H Q := fun i e ns => by
    subst e
    have g' : Good K mg W σ (Rp K) A H (match seqOf hp d1 with
      | some ds => (match atI ds i with
        | some d => .ok d hp
        | none => .bad)
      | none => .bad) Q := by
      cases d1 with
      | str z => exact absurd rfl (ns z)
      | _ => exact g
    cases h1 : seqOf hp d1 with
    | none => rw [h1] at g'; exact g'.elim
    | some ds =>
      rw [h1] at g'
      simp only at g'
      cases h2 : atI ds i with
      | none => rw [h2] at g'; exact g'.elim
      | some d =>
        rw [h2] at g'
        obtain ⟨p, vs, rfl, s, rl⟩ := seqOf_rp r q1 h1
        obtain ⟨v, e1, e2⟩ := atI_rp rl h2
        rcases s with s | s
        · exact .inl ⟨p, vs, i, v, rfl, q2.int_inv, s, e1, g'.here r e2⟩
        · exact .inr (.inl ⟨p, vs, i, v, rfl, q2.int_inv, s, e1, g'.here r e2⟩)
  cases d2 with
  | int i =>
    cases d1 with
    | str z =>
      simp only [gIx] at g
      by_cases hz : z.length ≤ big
      · rw [if_pos hz] at g
        cases h : atI z.cps.toList i with
        | none => rw [h] at g; exact g.elim
        | some c =>
          rw [h] at g
          exact .inr (.inr ⟨z, i, c, q1.str_inv, q2.int_inv, big_line hz, h, g.here r (.str _)⟩)
      · rw [if_neg hz] at g; exact g.elim
    | _ => exact low i rfl (by intro z q; cases q)
  | _ => cases d1 <;> exact g.elim
end
end Ms

namespace Ms
open PySem L2
section
variable {X : Cx} {W : WX} {σ : L2.St} {A A' : List Addr} {H H' : Hp} {hp : HM}

/-! ### tests -/
def mT (f : EM) : TM := fun loc hp => (f loc hp).bind fun d hp1 => match d with
  | .bl b => .ok b hp1
  | _ => .bad
theorem test_w {K : PySem.W.Frag} {mg : Str → Option Value} {f : EM} {t : TE} (h : ∀ σ H Q, tG K mg W (Rp K) f σ H Q → t σ H Q) : ∀ σ H Q, tG K mg W RB (mT f) σ H Q → tTest t σ H Q := by
  rintro σ H Q ⟨A, loc, hp, hr, hl, hq⟩
  refine h σ H _ ⟨A, loc, hp, hr, hl, (Good.bind (R := Rp K) hq).mono ?_⟩
  rintro v1 H1 ⟨A1, hp1, d1, e1, r1, q1, g1⟩
  cases d1 with
  | bl b => exact ⟨b, q1.bl_inv, g1 A1 H1 b (.refl _ _) r1 rfl⟩
  | _ => exact g1.elim
variable {a b c e : PySem.Expr} {es rest : List PySem.Expr} {pos : Pos} {fa fb fc : EM} {ta tb : TM}
theorem st_cmp {op : CmpOp} {r : R2} {g : D → D → HM → O D} (ho : OpR X (compareOp op) r) (hg : OpG X.K X.mg r g) (ha : SE X W a fa) (hb : SE X W b fb) (hm : behindInMarks op b = false) : STt X W (.Compare a [op] [b] pos) (mT (eBin g fa fb)) :=
  (pt_cmpR ho ha hb hm).weak (test_w (bin_w hg))
/-- a < b < c -/
def eChain (g g' : D → D → HM → O D) (fa fb fc : EM) : EM := fun loc hp => (fa loc hp).bind fun x hp1 => (fb loc hp1).bind fun y hp2 => (g x y hp2).bind fun z hp3 => match z with
  | .bl true => (fc loc hp3).bind fun u hp4 => g' y u hp4
  | .bl false => .ok (.bl false) hp3
  | _ => .bad
theorem chain_w {K : PySem.W.Frag} {mg : Str → Option Value} {r r' : R2} {g g' : D → D → HM → O D} (hg : OpG K mg r g) (hg' : OpG K mg r' g') : ∀ σ H Q, tG K mg W (Rp K) (eChain g g' fa fb fc) σ H Q →
    tChain r r' (tG K mg W (Rp K) fa) (tG K mg W (Rp K) fb) (tG K mg W (Rp K) fc) σ H Q := by
  rintro σ H Q ⟨A, loc, hp, hr, hl, hq⟩
  refine ⟨A, loc, hp, hr, hl, (Good.bind (R := Rp K) hq).mono ?_⟩
  rintro v1 H1 ⟨A1, hp1, d1, e1, r1, q1, g1⟩
  refine ⟨A1, loc, hp1, r1, hl.ext e1, (Good.bind (R := Rp K) g1).mono ?_⟩
  rintro v2 H2 ⟨A2, hp2, d2, e2, r2, q2, g2⟩
  refine hg W σ A2 H2 hp2 v1 v2 d1 d2 _ r2 (q1.ext e2) q2 ((Good.bind (R := Rp K) g2).mono ?_)
  rintro v3 H3 ⟨A3, hp3, d3, e3, r3, q3, g3⟩
  cases d3 with
  | bl k =>
    refine ⟨k, q3.bl_inv, ?_⟩
    cases k with
    | true =>
      rw [if_pos rfl]
      refine ⟨A3, loc, hp3, r3, ((hl.ext e1).ext e2).ext e3, (Good.bind (R := Rp K) g3).mono ?_⟩
      rintro v4 H4 ⟨A4, hp4, d4, e4, r4, q4, g4⟩
      exact hg' W σ A4 H4 hp4 v2 v4 d2 d4 Q r4 ((q2.ext e3).ext e4) q4 g4
    | false =>
      rw [if_neg (by decide)]
      exact g3 A3 H3 _ (.refl _ _) r3 (.bl false)
  | _ => exact g3.elim
theorem se_chain {op op' : CmpOp} {r r' : R2} {g g' : D → D → HM → O D} (ho : OpR X (compareOp op) r) (ho' : OpR X (compareOp op') r') (hg : OpG X.K X.mg r g) (hg' : OpG X.K X.mg r' g') (ha : SE X W a fa) (hb : SE X W b fb) (hc : SE X W c fc)
    (hm : lastMarks [op, op'] [b, c] = false := by with_unfolding_all rfl) : SE X W (.Compare a [op, op'] [b, c] pos) (eChain g g' fa fb fc) := (pe_chain ho ho' ha hb hc hm).weak (chain_w hg hg')
theorem st_chain {op op' : CmpOp} {r r' : R2} {g g' : D → D → HM → O D} (ho : OpR X (compareOp op) r) (ho' : OpR X (compareOp op') r') (hg : OpG X.K X.mg r g) (hg' : OpG X.K X.mg r' g') (ha : SE X W a fa) (hb : SE X W b fb) (hc : SE X W c fc)
    (hm : lastMarks [op, op'] [b, c] = false := by with_unfolding_all rfl) : STt X W (.Compare a [op, op'] [b, c] pos) (mT (eChain g g' fa fb fc)) := (pt_chain ho ho' ha hb hc hm).weak (test_w (chain_w hg hg'))
/-- an expression by its truth -/
def truD (hp : HM) : D → Option Bool
  | .non => some false
  | .bl b => some b
  | .int i => some (i != 0)
  | .str y => if y.length ≤ big then some ((y.length : Int) != 0) else none
  | d => (seqOf hp d).map fun ds => !ds.isEmpty
def mTru (f : EM) : TM := fun loc hp => (f loc hp).bind fun d hp1 => match truD hp1 d with
  | some b => .ok b hp1
  | none => .bad
theorem truD_rp {K : PySem.W.Frag} {mg : Str → Option Value} (r : HRel K mg A H hp) {v : V} {d : D} {k : Bool} (q : Rp K A H v d) (h : truD hp d = some k) : TruV K v H k := by
  have low : (seqOf hp d).map (fun ds => !ds.isEmpty) = some k → TruV K v H k := fun h => by
    cases h1 : seqOf hp d with
    | none => rw [h1] at h; cases h
    | some ds =>
      rw [h1] at h
      simp only [Option.map_some, Option.some.injEq] at h
      obtain ⟨p, vs, rfl, s, rl⟩ := seqOf_rp r q h1
      have e : k = !vs.isEmpty := by
        rw [← h]
        have := rl.length
        cases vs <;> cases ds <;> simp_all
      rcases s with s | s
      · exact .inl ⟨vs, s, e⟩
      · exact .inr (.inl ⟨vs, s, e⟩)
  cases d with
  | non => rw [q.non_inv]; simp only [truD, Option.some.injEq] at h; exact h.symm
  | bl b => rw [q.bl_inv]; simp only [truD, Option.some.injEq] at h; exact h.symm
  | int i => rw [q.int_inv]; simp only [truD, Option.some.injEq] at h; exact h.symm
  | str y =>
    rw [q.str_inv]
    simp only [truD] at h
    by_cases hz : y.length ≤ big
    · rw [if_pos hz] at h
      simp only [Option.some.injEq] at h
      exact ⟨big_line hz, h.symm⟩
    · rw [if_neg hz] at h; cases h
  | tup _ => exact low h
  | lst _ => exact low h
  | scr _ => exact low h
  | ref _ => exact low h
theorem st_tru (ha : SE X W a fa) (he : ∀ whole, isTrue a X.env whole = (do let v ← whole; standAt a.pos; holding [v] (truthy v)) := by intro _; rfl) : STt X W a (mTru fa) := (pt_truth ha he).weak fun σ H Q ⟨A, loc, hp, hr, hl, hq⟩ => by
  refine ⟨A, loc, hp, hr, hl, (Good.bind (R := Rp X.K) hq).mono ?_⟩
  rintro v1 H1 ⟨A1, hp1, d1, e1, r1, q1, g1⟩
  cases h : truD hp1 d1 with
  | none => rw [h] at g1; exact g1.elim
  | some k =>
    rw [h] at g1
    exact ⟨k, truD_rp r1 q1 h, g1 A1 H1 k (.refl _ _) r1 rfl⟩
def mAnd (f g : TM) : TM := fun loc hp => (f loc hp).bind fun b hp1 => if b = true then g loc hp1 else .ok false hp1
def mOr (f g : TM) : TM := fun loc hp => (f loc hp).bind fun b hp1 => if b = true then .ok true hp1 else g loc hp1
def mNot (f : TM) : TM := fun loc hp => (f loc hp).bind fun b hp1 => .ok (!b) hp1
theorem sw_one {op : BoolOp} (h : STt X W a ta) (ho : op = .And ∨ op = .Or := by first | exact .inl rfl | exact .inr rfl) : SWt X W (.BoolOp op [a] pos) ta := by
  rcases ho with rfl | rfl
  · exact pw_and1 h
  · exact pw_or1 h
theorem sw_and (ha : STt X W a ta) (hb : SWt X W (.BoolOp .And (b :: rest) pos) tb) : SWt X W (.BoolOp .And (a :: b :: rest) pos) (mAnd ta tb) := (pw_and ha hb).weak fun σ H Q ⟨A, loc, hp, hr, hl, hq⟩ => by
  refine ⟨A, loc, hp, hr, hl, (Good.bind (R := RB) hq).mono ?_⟩
  rintro v1 H1 ⟨A1, hp1, d1, e1, r1, q1, g1⟩
  cases q1
  cases v1 with
  | true => exact iteT ⟨A1, loc, hp1, r1, hl.ext e1, g1⟩
  | false => exact iteF (g1 A1 H1 false (.refl _ _) r1 rfl)
theorem sw_or (ha : STt X W a ta) (hb : SWt X W (.BoolOp .Or (b :: rest) pos) tb) : SWt X W (.BoolOp .Or (a :: b :: rest) pos) (mOr ta tb) := (pw_or ha hb).weak fun σ H Q ⟨A, loc, hp, hr, hl, hq⟩ => by
  refine ⟨A, loc, hp, hr, hl, (Good.bind (R := RB) hq).mono ?_⟩
  rintro v1 H1 ⟨A1, hp1, d1, e1, r1, q1, g1⟩
  cases q1
  cases v1 with
  | true => exact iteT (g1 A1 H1 true (.refl _ _) r1 rfl)
  | false => exact iteF ⟨A1, loc, hp1, r1, hl.ext e1, g1⟩
theorem st_not (ha : STt X W a ta) : STt X W (.UnaryOp .Not a pos) (mNot ta) := (pt_not ha).weak fun σ H Q ⟨A, loc, hp, hr, hl, hq⟩ => by
  refine ⟨A, loc, hp, hr, hl, (Good.bind (R := RB) hq).mono ?_⟩
  rintro v1 H1 ⟨A1, hp1, d1, e1, r1, q1, g1⟩
  cases q1
  exact g1 A1 H1 _ (.refl _ _) r1 rfl

/-! ### and, or, not, if as values -/
def eAnd (f g : EM) : EM := fun loc hp => (f loc hp).bind fun d hp1 => match d with
  | .bl true => g loc hp1
  | .bl false => .ok (.bl false) hp1
  | _ => .bad
def eOr (f g : EM) : EM := fun loc hp => (f loc hp).bind fun d hp1 => match d with
  | .bl false => g loc hp1
  | .bl true => .ok (.bl true) hp1
  | _ => .bad
def eNot (f : EM) : EM := fun loc hp => (f loc hp).bind fun d hp1 => match d with
  | .bl b => .ok (.bl (!b)) hp1
  | _ => .bad
theorem se_one {op : BoolOp} (h : SE X W a fa) : SE X W (.BoolOp op [a] pos) fa := pe_one h
theorem se_and (ha : SE X W a fa) (hb : SE X W (.BoolOp .And (b :: rest) pos) fb) : SE X W (.BoolOp .And (a :: b :: rest) pos) (eAnd fa fb) := (pe_and ha hb).weak fun σ H Q ⟨A, loc, hp, hr, hl, hq⟩ => by
  refine ⟨A, loc, hp, hr, hl, (Good.bind (R := Rp X.K) hq).mono ?_⟩
  rintro v1 H1 ⟨A1, hp1, d1, e1, r1, q1, g1⟩
  cases d1 with
  | bl k =>
    refine ⟨k, q1.bl_inv, ?_⟩
    cases k with
    | true => exact iteT ⟨A1, loc, hp1, r1, hl.ext e1, g1⟩
    | false => exact iteF (g1 A1 H1 _ (.refl _ _) r1 (.bl false))
  | _ => exact g1.elim
theorem se_or (ha : SE X W a fa) (hb : SE X W (.BoolOp .Or (b :: rest) pos) fb) : SE X W (.BoolOp .Or (a :: b :: rest) pos) (eOr fa fb) := (pe_or ha hb).weak fun σ H Q ⟨A, loc, hp, hr, hl, hq⟩ => by
  refine ⟨A, loc, hp, hr, hl, (Good.bind (R := Rp X.K) hq).mono ?_⟩
  rintro v1 H1 ⟨A1, hp1, d1, e1, r1, q1, g1⟩
  cases d1 with
  | bl k =>
    refine ⟨k, q1.bl_inv, ?_⟩
    cases k with
    | true => exact iteT (g1 A1 H1 _ (.refl _ _) r1 (.bl true))
    | false => exact iteF ⟨A1, loc, hp1, r1, hl.ext e1, g1⟩
  | _ => exact g1.elim
theorem se_not (ha : SE X W a fa) : SE X W (.UnaryOp .Not a pos) (eNot fa) := (pe_not ha).weak fun σ H Q ⟨A, loc, hp, hr, hl, hq⟩ => by
  refine ⟨A, loc, hp, hr, hl, (Good.bind (R := Rp X.K) hq).mono ?_⟩
  rintro v1 H1 ⟨A1, hp1, d1, e1, r1, q1, g1⟩
  cases d1 with
  | bl k => exact ⟨k, q1.bl_inv, g1 A1 H1 _ (.refl _ _) r1 (.bl _)⟩
  | _ => exact g1.elim
def eIf (t : TM) (f g : EM) : EM := fun loc hp => (t loc hp).bind fun b hp1 => if b = true then f loc hp1 else g loc hp1
theorem se_if (hc : STt X W c ta) (ha : SE X W a fa) (hb : SE X W b fb) : SE X W (.IfExp c a b pos) (eIf ta fa fb) := (pe_ifExp hc ha hb).weak fun σ H Q ⟨A, loc, hp, hr, hl, hq⟩ => by
  refine ⟨A, loc, hp, hr, hl, (Good.bind (R := RB) hq).mono ?_⟩
  rintro v1 H1 ⟨A1, hp1, d1, e1, r1, q1, g1⟩
  cases q1
  cases v1 with
  | true => exact iteT ⟨A1, loc, hp1, r1, hl.ext e1, g1⟩
  | false => exact iteF ⟨A1, loc, hp1, r1, hl.ext e1, g1⟩
def eNeg (f : EM) : EM := fun loc hp => (f loc hp).bind fun d hp1 => match d with
  | .int i => .ok (.int (-i)) hp1
  | _ => .bad
theorem se_neg (ha : SE X W a fa) : SE X W (.UnaryOp .USub a pos) (eNeg fa) := (pe_un un_neg ha).weak fun σ H Q ⟨A, loc, hp, hr, hl, hq⟩ => by
  refine ⟨A, loc, hp, hr, hl, (Good.bind (R := Rp X.K) hq).mono ?_⟩
  rintro v1 H1 ⟨A1, hp1, d1, e1, r1, q1, g1⟩
  cases d1 with
  | int i => exact ⟨i, q1.int_inv, g1 A1 H1 _ (.refl _ _) r1 (.int _)⟩
  | _ => exact g1.elim
theorem se_ix (ha : SE X W a fa) (hb : SE X W b fb) (hs : PlainIx b := by exact fun _ _ => rfl) : SE X W (.Subscript a b pos) (eBin gIx fa fb) := (pe_ix ix_seq ha hb hs).weak (bin_w og_ix)

/-! ### arguments, displays -/
def aNil : AM := fun _ hp => .ok [] hp
def aCons (f : EM) (g : AM) : AM := fun loc hp => (f loc hp).bind fun d hp1 => (g loc hp1).bind fun ds hp2 => .ok (d :: ds) hp2
theorem sa_nil : SA X W [] aNil := pa_nil.weak fun σ H Q ⟨A, loc, hp, hr, hl, g⟩ => g A H [] (.refl A H) hr .nil
theorem sa_cons {fs : AM} (ha : SE X W e fa) (hr : SA X W es fs) (hs : starEach (e :: es) X.env = (false, eval e X.env) :: starEach es X.env := by rfl) : SA X W (e :: es) (aCons fa fs) := (pa_cons ha hr hs).weak fun σ H Q ⟨A, loc, hp, hr, hl, hq⟩ => by
  refine ⟨A, loc, hp, hr, hl, (Good.bind (R := Rp X.K) hq).mono ?_⟩
  rintro v1 H1 ⟨A1, hp1, d1, e1, r1, q1, g1⟩
  refine ⟨A1, loc, hp1, r1, hl.ext e1, (Good.bind (R := RpL X.K) g1).mono ?_⟩
  rintro vs H2 ⟨A2, hp2, ds, e2, r2, q2, g2⟩
  exact g2 A2 H2 _ (.refl _ _) r2 (.cons (q1.ext e2) q2)
def eTup (fs : AM) : EM := fun loc hp => (fs loc hp).bind fun ds hp1 => if ds.length ≤ big then .ok (.tup ds) hp1 else .bad
/-- a list that never changes -/
def eLst (fs : AM) : EM := fun loc hp => (fs loc hp).bind fun ds hp1 => if ds.length ≤ big then .ok (.lst ds) hp1 else .bad
/-- a list that changes -/
def eLstT (fs : AM) : EM := fun loc hp => (fs loc hp).bind fun ds hp1 => if ds.length ≤ big then .ok (.ref hp1.length) (hp1 ++ [.lst ds]) else .bad
theorem se_tup {fs : AM} {x1 : Nat} (h : SA X W es fs) : SE X W (.Tuple es x1 pos) (eTup fs) := (pe_tup h).weak fun σ H Q ⟨A, loc, hp, hr, hl, hq⟩ => by
  refine ⟨A, loc, hp, hr, hl, (Good.bind (R := RpL X.K) hq).mono ?_⟩
  rintro vs H1 ⟨A1, hp1, ds, e1, r1, q1, g1⟩
  by_cases hz : ds.length ≤ big
  · rw [if_pos hz] at g1
    exact ⟨by rw [q1.length]; exact big_line hz, new_tup r1 q1 g1⟩
  · rw [if_neg hz] at g1; exact g1.elim
theorem se_lst {fs : AM} (h : SA X W es fs) : SE X W (.List es pos) (eLst fs) := (pe_lst h).weak fun σ H Q ⟨A, loc, hp, hr, hl, hq⟩ => by
  refine ⟨A, loc, hp, hr, hl, (Good.bind (R := RpL X.K) hq).mono ?_⟩
  rintro vs H1 ⟨A1, hp1, ds, e1, r1, q1, g1⟩
  by_cases hz : ds.length ≤ big
  · rw [if_pos hz] at g1
    exact ⟨by rw [q1.length]; exact big_line hz, new_lst r1 q1 g1⟩
  · rw [if_neg hz] at g1; exact g1.elim
theorem new_ref {K : PySem.W.Frag} {mg : Str → Option Value} {Q : VK} {xs : List V} {ds : List D} (r : HRel K mg A H hp) (q : RpL K A H xs ds) (g : Good K mg W σ (Rp K) A H (.ok (.ref hp.length) (hp ++ [.lst ds])) Q) : ∀ p, H p = none → Q (.ref p) (upd H p (.lst xs)) := fun p hn => by
  have np := r.fresh hn
  have e0 : Ext A H (A ++ [p]) (upd H p (.lst xs)) := ⟨⟨[p], rfl⟩, fun a u q n => ⟨by rw [upd_ne (ne_of_none q hn)]; exact q, by
    simp only [List.mem_append, List.mem_singleton, not_or]
    exact ⟨n, ne_of_none q hn⟩⟩⟩
  obtain ⟨e, r'⟩ := r.track (o := .lst xs) (mo := .lst ds) hn ⟨xs, upd_same, q.ext e0⟩
  exact g _ _ _ e r' (.ref (by rw [← r.len]; simp))
theorem se_lstT {fs : AM} (h : SA X W es fs) : SE X W (.List es pos) (eLstT fs) := (pe_lst h).weak fun σ H Q ⟨A, loc, hp, hr, hl, hq⟩ => by
  refine ⟨A, loc, hp, hr, hl, (Good.bind (R := RpL X.K) hq).mono ?_⟩
  rintro vs H1 ⟨A1, hp1, ds, e1, r1, q1, g1⟩
  by_cases hz : ds.length ≤ big
  · rw [if_pos hz] at g1
    exact ⟨by rw [q1.length]; exact big_line hz, new_ref r1 q1 g1⟩
  · rw [if_neg hz] at g1; exact g1.elim

/-! ### built-in calls -/
abbrev Fn := List D → HM → O D
def CallG (K : PySem.W.Frag) (mg : Str → Option Value) (r : List V → Hp → VK → Prop) (g : Fn) : Prop :=
  ∀ (W : WX) (σ : L2.St) (A : List Addr) (H : Hp) (hp : HM) (vs : List V) (ds : List D) (Q : VK), HRel K mg A H hp → RpL K A H vs ds → Good K mg W σ (Rp K) A H (g ds hp) Q → r vs H Q
def eCall (g : Fn) (fs : AM) : EM := fun loc hp => (fs loc hp).bind g
theorem call_w {K : PySem.W.Frag} {mg : Str → Option Value} {r : List V → Hp → VK → Prop} {g : Fn} {fs : AM} (hg : CallG K mg r g) : ∀ σ H Q, tG K mg W (Rp K) (eCall g fs) σ H Q → tCB r (tG K mg W (RpL K) fs) σ H Q := by
  rintro σ H Q ⟨A, loc, hp, hr, hl, hq⟩
  refine ⟨A, loc, hp, hr, hl, (Good.bind (R := RpL K) hq).mono ?_⟩
  rintro vs H1 ⟨A1, hp1, ds, e1, r1, q1, g1⟩
  exact hg W σ A1 H1 hp1 vs ds Q r1 q1 g1
theorem se_callB {fs : AM} {x : Str} {id : String} {p : Pos} {r : List V → Hp → VK → Prop} {g : Fn} (hc : CallR X (.builtin id) r) (hcg : CallG X.K X.mg r g) (hg : Gl X x) (hm : X.mg x = none) (hv : bootBuiltins x = some (.builtin id)) (ha : SA X W (e :: es) fs)
    (hn : x ≠ "__name__" := by decide) (hdb : (x == ("__debug__" : Str)) = false := by decide) (he : starEach (e :: es) X.env = (false, eval e X.env) :: starEach es X.env := by rfl) (hpl : (backTo pos (starEach es X.env)).any (·.1) = false := by rfl) :
    SE X W (.Call (.Name x p) (e :: es) [] pos) (eCall g fs) := (pe_callB hc hg hm hv ha hn hdb he hpl).weak (call_w hcg)
theorem se_callTy {fs : AM} {x : Str} {T : String} {p : Pos} {r : List V → Hp → VK → Prop} {g : Fn} (hc : CallR X (.type T) r) (hcg : CallG X.K X.mg r g) (hg : Gl X x) (hm : X.mg x = none) (hv : bootBuiltins x = some (.type T)) (ha : SA X W (e :: es) fs)
    (hn : x ≠ "__name__" := by decide) (hdb : (x == ("__debug__" : Str)) = false := by decide) (he : starEach (e :: es) X.env = (false, eval e X.env) :: starEach es X.env := by rfl) (hpl : (backTo pos (starEach es X.env)).any (·.1) = false := by rfl) :
    SE X W (.Call (.Name x p) (e :: es) [] pos) (eCall g fs) := (pe_callTy hc hg hm hv ha hn hdb he hpl).weak (call_w hcg)

/-! ### own defs -/
def spOf (K : PySem.W.Frag) (mg : Str → Option Value) (n : Nat) (m : Fn) : Sp := fun vs H Q E => vs.length = n ∧ ∃ A hp ds, HRel K mg A H hp ∧ RpL K A H vs ds ∧ Good K mg (fun c od _ H' => E c od H') [] (Rp K) A H (m ds hp) Q
theorem Good.retag {α β : Type} {K : PySem.W.Frag} {mg : Str → Option Value} {W W' : WX} {σ σ' : L2.St} {R : List Addr → Hp → β → α → Prop} {o : O α} {Q : β → Hp → Prop} (g : Good K mg W σ R A H o Q) (h : ∀ c od H', W c od σ H' → W' c od σ' H') : Good K mg W' σ' R A H o Q := by
  cases o with
  | ok d hp' => exact g
  | exc x hp' => exact fun A2 H2 c od e r q => h _ _ _ (g A2 H2 c od e r q)
  | bad => exact g
/-- a def of the text -/
structure Dfn (K : PySem.W.Frag) (mg : Str → Option Value) (x : Str) (st : Stmt) (ps : List Str) (f : Addr) (fd : FuncData) : Prop where
  m : mg x = some (.ref f)
  F : Fun K x x st f fd
  b : Binds K fd ps []
def argc (n : Nat) (m : Fn) : Fn := fun ds hp => if ds.length = n then m ds hp else .bad
theorem se_call {fs : AM} {x : Str} {st : Stmt} {ps : List Str} {p : Pos} {f : Addr} {fd : FuncData} {k n : Nat} {m : Fn} (d : Dfn X.K X.mg x st ps f fd) (F : FnOk X.prog X.w X.K X.mg X.base (L2.CX X.prog X.w) k f fd ps (spOf X.K X.mg n m)) (hr : Room k X.A) (tk : Takes X W) (hg : Gl X x) (ha : SA X W (e :: es) fs)
    (hn : n = (e :: es).length := by rfl) (hdb : (x == ("__debug__" : Str)) = false := by decide) (he : starEach (e :: es) X.env = (false, eval e X.env) :: starEach es X.env := by rfl) (hpl : (backTo pos (starEach es X.env)).any (·.1) = false := by rfl) :
    SE X W (.Call (.Name x p) (e :: es) [] pos) (eCall (argc n m) fs) := (pe_callS F hr hg d.m d.F.kp d.b (fun σ => passAt tk σ) ha hdb he hpl).weak fun σ H Q ⟨A, loc, hp, hr, hl, hq⟩ => by
  refine ⟨A, loc, hp, hr, hl, (Good.bind (R := RpL X.K) hq).mono ?_⟩
  rintro vs H1 ⟨A1, hp1, ds, e1, r1, q1, g1⟩
  unfold argc at g1
  by_cases hz : ds.length = n
  · rw [if_pos hz] at g1
    exact ⟨by rw [q1.length]; exact hz, A1, hp1, ds, r1, q1, g1.retag fun _ _ _ h => h⟩
  · rw [if_neg hz] at g1; exact g1.elim
end
end Ms

namespace Ms
open PySem L2

inductive SO where
  | nx (loc : Loc) (hp : HM)
  | rt (d : D) (hp : HM)
  | bk (loc : Loc) (hp : HM)
  | ct (loc : Loc) (hp : HM)
  | exc (e : Exn) (loc : Loc) (hp : HM)
  | bad
abbrev SM := Loc → HM → SO
def sE {α : Type} (o : O α) (loc : Loc) (k : α → HM → SO) : SO := match o with
  | .ok a hp => k a hp
  | .exc e hp => .exc e loc hp
  | .bad => .bad

section
variable {K : PySem.W.Frag} {mg : Str → Option Value} {W : WX} {σ : L2.St} {A A' : List Addr} {H H' : Hp} {hp : HM} {loc : Loc}
def GoodS (K : PySem.W.Frag) (mg : Str → Option Value) (W : WX) (A : List Addr) (H : Hp) (o : SO) (T : Ends) : Prop := match o with
  | .nx loc' hp' => ∀ A' H' σ', Ext A H A' H' → HRel K mg A' H' hp' → LocR K A' H' σ' loc' → T.nx σ' H'
  | .rt d hp' => ∀ A' H' v, Ext A H A' H' → HRel K mg A' H' hp' → Rp K A' H' v d → T.rt v H'
  | .bk loc' hp' => ∀ A' H' σ', Ext A H A' H' → HRel K mg A' H' hp' → LocR K A' H' σ' loc' → T.bk σ' H'
  | .ct loc' hp' => ∀ A' H' σ', Ext A H A' H' → HRel K mg A' H' hp' → LocR K A' H' σ' loc' → T.ct σ' H'
  | .exc e loc' hp' => ∀ A' H' σ' c od, Ext A H A' H' → HRel K mg A' H' hp' → LocR K A' H' σ' loc' → ExR mg H' c od e → W c od σ' H'
  | .bad => False
theorem GoodS.ext {o : SO} {T : Ends} (g : GoodS K mg W A H o T) (e : Ext A H A' H') : GoodS K mg W A' H' o T := by
  cases o with
  | nx l h => exact fun A2 H2 s2 e2 => g A2 H2 s2 (e.trans e2)
  | rt l h => exact fun A2 H2 s2 e2 => g A2 H2 s2 (e.trans e2)
  | bk l h => exact fun A2 H2 s2 e2 => g A2 H2 s2 (e.trans e2)
  | ct l h => exact fun A2 H2 s2 e2 => g A2 H2 s2 (e.trans e2)
  | exc x l h => exact fun A2 H2 s2 c od e2 => g A2 H2 s2 c od (e.trans e2)
  | bad => exact g
theorem GoodS.bind {α β : Type} {R : List Addr → Hp → β → α → Prop} {o : O α} {k : α → HM → SO} {T : Ends} (l : LocR K A H σ loc) (g : GoodS K mg W A H (sE o loc k) T) :
    Good K mg W σ R A H o fun b H1 => ∃ A1 hp1 a, Ext A H A1 H1 ∧ HRel K mg A1 H1 hp1 ∧ R A1 H1 b a ∧ LocR K A1 H1 σ loc ∧ GoodS K mg W A1 H1 (k a hp1) T := by
  cases o with
  | ok a hp1 => exact fun A1 H1 b e r q => ⟨A1, hp1, a, e, r, q, l.ext e, GoodS.ext g e⟩
  | exc x hp' => exact fun A2 H2 c od e r q => g A2 H2 σ c od e r (l.ext e) q
  | bad => exact g
def tS (K : PySem.W.Frag) (mg : Str → Option Value) (W : WX) (f : SM) : TS := fun T σ H => ∃ A loc hp, HRel K mg A H hp ∧ LocR K A H σ loc ∧ GoodS K mg W A H (f loc hp) T
end
abbrev SS (X : Cx) (W : WX) (st : Stmt) (f : SM) : Prop := PS X st (tS X.K X.mg W f)
abbrev SSs (X : Cx) (W : WX) (st : List Stmt) (f : SM) : Prop := PSs X st (tS X.K X.mg W f)

section
variable {X : Cx} {W : WX} {st : Stmt} {rest : List Stmt} {pos : Pos} {f g : SM} {e : PySem.Expr} {fe : EM}
def sNext : SM := fun loc hp => .nx loc hp
def sSeq (f g : SM) : SM := fun loc hp => match f loc hp with
  | .nx l h => g l h
  | o => o
theorem ss_nil : SSs X W [] sNext := pss_nil.weak fun T σ H ⟨A, loc, hp, hr, hl, q⟩ => q A H σ (.refl A H) hr hl
theorem ss_one (h : SS X W st f) : SSs X W [st] f := pss_one h
theorem ss_cons (h1 : SS X W st f) (h2 : SSs X W rest g) : SSs X W (st :: rest) (sSeq f g) := (pss_cons h1 h2).weak fun T σ H ⟨A, loc, hp, hr, hl, q⟩ => by
  refine ⟨A, loc, hp, hr, hl, ?_⟩
  unfold sSeq at q
  cases o : f loc hp with
  | nx l h => rw [o] at q; exact fun A1 H1 σ1 e1 r1 l1 => ⟨A1, l, h, r1, l1, q.ext e1⟩
  | rt d h => rw [o] at q; exact q
  | bk l h => rw [o] at q; exact q
  | ct l h => rw [o] at q; exact q
  | exc x l h => rw [o] at q; exact q
  | bad => rw [o] at q; exact q
def sBreak : SM := fun loc hp => .bk loc hp
def sCont : SM := fun loc hp => .ct loc hp
theorem ss_pass : SS X W (.Pass pos) sNext := ps_pass.weak fun T σ H ⟨A, loc, hp, hr, hl, q⟩ => q A H σ (.refl A H) hr hl
theorem ss_break : SS X W (.Break pos) sBreak := ps_break.weak fun T σ H ⟨A, loc, hp, hr, hl, q⟩ => q A H σ (.refl A H) hr hl
theorem ss_cont : SS X W (.Continue pos) sCont := ps_continue.weak fun T σ H ⟨A, loc, hp, hr, hl, q⟩ => q A H σ (.refl A H) hr hl
def sDrop (f : EM) : SM := fun loc hp => sE (f loc hp) loc fun _ hp1 => .nx loc hp1
theorem ss_expr (he : SE X W e fe) (hs : swapsWith e none pos.line X.env = pure false := by rfl) : SS X W (.Expr e pos) (sDrop fe) := (ps_expr he hs).weak fun T σ H ⟨A, loc, hp, hr, hl, q⟩ => by
  refine ⟨A, loc, hp, hr, hl, (GoodS.bind (R := Rp X.K) hl q).mono ?_⟩
  rintro v H1 ⟨A1, hp1, d1, e1, r1, q1, l1, g1⟩
  exact g1 A1 H1 σ (.refl _ _) r1 l1
def sRet (f : EM) : SM := fun loc hp => sE (f loc hp) loc fun d hp1 => .rt d hp1
theorem ss_ret (he : SE X W e fe) : SS X W (.Return (some e) pos) (sRet fe) := (ps_ret he).weak fun T σ H ⟨A, loc, hp, hr, hl, q⟩ => by
  refine ⟨A, loc, hp, hr, hl, (GoodS.bind (R := Rp X.K) hl q).mono ?_⟩
  rintro v H1 ⟨A1, hp1, d1, e1, r1, q1, l1, g1⟩
  exact g1 A1 H1 v (.refl _ _) r1 q1
def sRetN : SM := fun _ hp => .rt .non hp
theorem ss_retN : SS X W (.Return none pos) sRetN := ps_retN.weak fun T σ H ⟨A, loc, hp, hr, hl, q⟩ => q A H _ (.refl A H) hr .non
def sIf (t : TM) (f g : SM) : SM := fun loc hp => sE (t loc hp) loc fun b hp1 => if b = true then f loc hp1 else g loc hp1
theorem ss_if {c : PySem.Expr} {a b : List Stmt} {t : TM} (hc : STt X W c t) (ha : SSs X W a f) (hb : SSs X W b g) : SS X W (.If c a b pos) (sIf t f g) := (ps_if hc ha hb).weak fun T σ H ⟨A, loc, hp, hr, hl, q⟩ => by
  refine ⟨A, loc, hp, hr, hl, (GoodS.bind (R := RB) hl q).mono ?_⟩
  rintro v H1 ⟨A1, hp1, d1, e1, r1, q1, l1, g1⟩
  cases q1
  cases v with
  | true => exact iteT ⟨A1, loc, hp1, r1, l1, g1⟩
  | false => exact iteF ⟨A1, loc, hp1, r1, l1, g1⟩
def sAsg (f : EM) (i : Nat) : SM := fun loc hp => sE (f loc hp) loc fun d hp1 => .nx (loc.set i (some d)) hp1
theorem ss_asg {i : Nat} {x : Str} {pos' : Pos} (hN : X.N.Nodup) (he : SE X W e fe) (hi : X.N[i]? = some x := by rfl) (hx : L2.Loc X.env.scope x := by first | exact Or.inl rfl | exact Or.inr rfl) (hs : swapsWith e (some (.Name x pos')) pos.line X.env = pure false := by rfl)
    (hf : X.fn x = true ∨ X.env.scope.names.lookup x = some .local := by first | exact .inl rfl | exact .inr rfl | assumption) : SS X W (.Assign [.Name x pos'] e pos) (sAsg fe i) := (ps_set hN hi hx he hs hf).weak fun T σ H ⟨A, loc, hp, hr, hl, q⟩ => by
  refine ⟨A, loc, hp, hr, hl, (GoodS.bind (R := Rp X.K) hl q).mono ?_⟩
  rintro v H1 ⟨A1, hp1, d1, e1, r1, q1, l1, g1⟩
  exact g1 A1 H1 _ (.refl _ _) r1 (l1.set i q1)

/-! ### targets -/
abbrev Tg := D → Loc → Option Loc
def TgR (K : PySem.W.Frag) (mg : Str → Option Value) (t : TG) (g : Tg) : Prop :=
  ∀ (A : List Addr) (H : Hp) (hp : HM) (v : V) (d : D) (σ : L2.St) (loc loc' : Loc) (Q : L2.St → Hp → Prop), HRel K mg A H hp → Rp K A H v d → LocR K A H σ loc → g d loc = some loc' → (∀ σ', LocR K A H σ' loc' → Q σ' H) → t v σ H Q
def TgsR (K : PySem.W.Frag) (mg : Str → Option Value) (t : TGs) (g : List D → Loc → Option Loc) : Prop :=
  ∀ (A : List Addr) (H : Hp) (hp : HM) (vs : List V) (ds : List D) (σ : L2.St) (loc loc' : Loc) (Q : L2.St → Hp → Prop), HRel K mg A H hp → RpL K A H vs ds → LocR K A H σ loc → g ds loc = some loc' → (∀ σ', LocR K A H σ' loc' → Q σ' H) → t vs σ H Q
def tgName (i : Nat) : Tg := fun d loc => some (loc.set i (some d))
def tgsNil : List D → Loc → Option Loc := fun ds loc => match ds with
  | [] => some loc
  | _ => none
def tgsCons (g : Tg) (gs : List D → Loc → Option Loc) : List D → Loc → Option Loc := fun ds loc => match ds with
  | d :: r => (g d loc).bind fun l => gs r l
  | [] => none
def tgTup (n : Nat) (gs : List D → Loc → Option Loc) : Tg := fun d loc => match d with
  | .tup ds => if ds.length = n then gs ds loc else none
  | _ => none
section
variable {K : PySem.W.Frag} {mg : Str → Option Value}
theorem tr_name {i : Nat} : TgR K mg (gName i) (tgName i) := fun A H hp v d σ loc loc' Q r q l h k => by
  simp only [tgName, Option.some.injEq] at h
  subst h
  exact k _ (l.set i q)
theorem tr_nil : TgsR K mg gNil tgsNil := fun A H hp vs ds σ loc loc' Q r q l h k => by
  cases ds with
  | nil =>
    cases q
    simp only [tgsNil, Option.some.injEq] at h
    subst h
    exact ⟨rfl, k _ l⟩
  | cons _ _ => cases h
theorem tr_cons {t : TG} {u : TGs} {g : Tg} {gs : List D → Loc → Option Loc} (h1 : TgR K mg t g) (h2 : TgsR K mg u gs) : TgsR K mg (gCons t u) (tgsCons g gs) := fun A H hp vs ds σ loc loc' Q r q l h k => by
  cases ds with
  | nil => cases h
  | cons d ds =>
    cases q with
    | cons q qs =>
      simp only [tgsCons] at h
      cases hg : g d loc with
      | none => rw [hg] at h; cases h
      | some l1 =>
        rw [hg] at h
        exact ⟨_, _, rfl, h1 A H hp _ d σ loc l1 _ r q l hg fun σ1 l1' => h2 A H hp _ ds σ1 l1 loc' Q r qs l1' h k⟩
theorem tr_tup {n : Nat} {u : TGs} {gs : List D → Loc → Option Loc} (h2 : TgsR K mg u gs) : TgR K mg (gTup K n u) (tgTup n gs) := fun A H hp v d σ loc loc' Q r q l h k => by
  cases d with
  | tup ds =>
    obtain ⟨a, vs, rfl, t, rl⟩ := q.tup_inv
    simp only [tgTup] at h
    by_cases hz : ds.length = n
    · rw [if_pos hz] at h
      exact ⟨a, vs, rfl, t.sq, by rw [rl.length]; exact hz, h2 A H hp vs ds σ loc loc' Q r rl l h k⟩
    · rw [if_neg hz] at h; cases h
  | _ => cases h
end
def sAsgT (f : EM) (g : Tg) : SM := fun loc hp => sE (f loc hp) loc fun d hp1 => match g d loc with
  | some l => .nx l hp1
  | none => .bad
theorem ss_asgT {tg : PySem.Expr} {t : TG} {gt : Tg} (he : SE X W e fe) (hg : PG X tg t) (hr : TgR X.K X.mg t gt) (hs : swapsWithSole [tg] e pos.line X.env = pure false := by rfl) (hw : swappedStores [tg] e X.env = pure none := by rfl)
    (h1 : (assignEach [tg] X.env).map (·.2) = [assign tg X.env] := by rfl) : SS X W (.Assign [tg] e pos) (sAsgT fe gt) := (ps_asg he hg hs hw h1).weak fun T σ H ⟨A, loc, hp, r, hl, q⟩ => by
  refine ⟨A, loc, hp, r, hl, (GoodS.bind (R := Rp X.K) hl q).mono ?_⟩
  rintro v H1 ⟨A1, hp1, d1, e1, r1, q1, l1, g1⟩
  cases hg : gt d1 loc with
  | none => rw [hg] at g1; exact g1.elim
  | some l2 =>
    rw [hg] at g1
    exact hr A1 H1 hp1 v d1 σ loc l2 _ r1 q1 l1 hg fun σ2 l3 => g1 A1 H1 σ2 (.refl _ _) r1 l3

/-- o[i] = e of a changing list -/
def setD (hp : HM) (o i v : D) : Option HM := match o, i with
  | .ref n, .int k => match hp[n]? with
    | some (.lst ds) => match ixN ds.length k with
      | some j => some (hp.set n (.lst (ds.set j v)))
      | none => none
    | _ => none
  | _, _ => none
def sSub (f fo fi : EM) : SM := fun loc hp => sE (f loc hp) loc fun d hp1 => sE (fo loc hp1) loc fun o hp2 => sE (fi loc hp2) loc fun i hp3 => match setD hp3 o i d with
  | some hp4 => .nx loc hp4
  | none => .bad
theorem ss_sub {o i : PySem.Expr} {fo fi : EM} {pos' : Pos} (he : SE X W e fe) (ho : SE X W o fo) (hi : SE X W i fi) (hs : swapsWithSole [.Subscript o i pos'] e pos.line X.env = pure false := by rfl) (hw : swappedStores [.Subscript o i pos'] e X.env = pure none := by rfl)
    (h1 : (assignEach [.Subscript o i pos'] X.env).map (·.2) = [assign (.Subscript o i pos') X.env] := by rfl)
    (ha : ∀ v, assign (.Subscript o i pos') X.env v = (do
      let ov ← holding [v] (eval o X.env)
      let iv ← holding [v, ov] (eval i X.env)
      standAt pos'
      holding [v, ov, iv] (setItem ov iv v)
      release [v, ov, iv] []) := by intro _; rfl) : SS X W (.Assign [.Subscript o i pos'] e pos) (sSub fe fo fi) := (ps_asg he (pg_sub ho hi set_list ha) hs hw h1).weak fun T σ H ⟨A, loc, hp, r, hl, q⟩ => by
  refine ⟨A, loc, hp, r, hl, (GoodS.bind (R := Rp X.K) hl q).mono ?_⟩
  rintro v H1 ⟨A1, hp1, d1, e1, r1, q1, l1, g1⟩
  refine ⟨A1, loc, hp1, r1, l1, (GoodS.bind (R := Rp X.K) l1 g1).mono ?_⟩
  rintro ov H2 ⟨A2, hp2, d2, e2, r2, q2, l2, g2⟩
  refine ⟨A2, loc, hp2, r2, l2, (GoodS.bind (R := Rp X.K) l2 g2).mono ?_⟩
  rintro iv H3 ⟨A3, hp3, d3, e3, r3, q3, l3, g3⟩
  cases hq : setD hp3 d2 d3 d1 with
  | none => rw [hq] at g3; exact g3.elim
  | some hp4 =>
    rw [hq] at g3
    cases d2 with
    | ref n =>
      cases d3 with
      | int k =>
        obtain ⟨a, rfl, ha⟩ := (q2.ext e3).ref_inv
        simp only [setD] at hq
        have hl3 : n < hp3.length := by rw [← r3.len]; exact (List.getElem?_eq_some_iff.mp ha).1
        rw [List.getElem?_eq_getElem hl3] at hq
        cases hm : hp3[n] with
        | lst ds =>
          rw [hm] at hq
          simp only at hq
          cases hj : ixN ds.length k with
          | none => rw [hj] at hq; cases hq
          | some j =>
            rw [hj] at hq
            simp only [Option.some.injEq] at hq
            obtain ⟨vs, hv, rl⟩ := r3.ob n _ a (by rw [List.getElem?_eq_getElem hl3, hm]) ha
            refine ⟨a, vs, k, j, rfl, q3.int_inv, hv, by rw [rl.length]; exact hj, ?_⟩
            obtain ⟨e4, r4⟩ := r3.write (o := .lst (vs.set j v)) (mo := .lst (ds.set j d1)) ha fun e4 => ⟨_, upd_same, RpL.set (((q1.ext e2).ext e3).ext e4) j (rl.ext e4)⟩
            rw [hq] at r4
            exact g3 A3 _ σ e4 r4 (l3.ext e4)
        | ins c fs => rw [hm] at hq; cases hq
      | _ => cases hq
    | _ => cases hq

/-! ### raise of an own class without __init__ -/
/-- an exception's class -/
structure ExcX (K : PySem.W.Frag) (mg : Str → Option Value) (x : Str) (C : Addr) : Prop where
  g : mg x = some (.ref C)
  x : PySem.W.excIn K C [.type "ValueError", .type "Exception", .type "BaseException", .type "object"] "ValueError.__new__" = true
  k : PySem.W.keepIn K (.ref C) = true
  b : PySem.W.subIn K (.ref C) (.type "BaseException") = some true
  t : PySem.W.typeIn K (.ref C) = some (.type "type")
def sRaise (x : Str) : SM := fun loc hp => .exc ⟨x, none⟩ loc hp
theorem ss_raise {x m : Str} {C : Addr} {j : Nat} {p p2 cpos : Pos} (T : ExcX X.K X.mg x C) (tk : Takes X W) (hc : X.calm = true := by rfl) (hg : Gl X x := by rfl) (hdb : (x == ("__debug__" : Str)) = false := by decide) :
    SS X W (.Raise (some (.Call (.Name x p) [.Constant (.str m) j p2] [] cpos)) none pos) (sRaise x) := (ps_raise hc tk (pmk_own PySem.F.excBase_ValueError T.x T.g T.k (raises_own T.b T.t) hg hdb)).weak fun T' σ H ⟨A, loc, hp, r, hl, q⟩ => by
  exact q A H σ _ none (.refl A H) r hl ⟨T.g, rfl⟩

/-! ### loops -/
/-! == of data as a computed test -/
mutual
def beqD : D → D → Bool
  | .non, .non => true
  | .bl a, .bl b => a == b
  | .int a, .int b => a == b
  | .str a, .str b => a == b
  | .tup a, .tup b => beqL a b
  | .lst a, .lst b => beqL a b
  | .ref a, .ref b => a == b
  | .scr a, .scr b => a == b
  | _, _ => false
def beqL : List D → List D → Bool
  | [], [] => true
  | a :: r, b :: s => beqD a b && beqL r s
  | _, _ => false
end
mutual
theorem beqD_eq : ∀ {a b : D}, beqD a b = true → a = b
  | .non, b, h => by cases b <;> simp_all [beqD]
  | .bl x, b, h => by cases b <;> simp_all [beqD]
  | .int x, b, h => by cases b <;> simp_all [beqD]
  | .str x, b, h => by cases b <;> simp_all [beqD]
  | .tup x, b, h => by
    cases b with
    | tup y => rw [beqL_eq (a := x) (b := y) (by simpa [beqD] using h)]
    | _ => simp [beqD] at h
  | .lst x, b, h => by
    cases b with
    | lst y => rw [beqL_eq (a := x) (b := y) (by simpa [beqD] using h)]
    | _ => simp [beqD] at h
  | .ref x, b, h => by cases b <;> simp_all [beqD]
  | .scr x, b, h => by cases b <;> simp_all [beqD]
theorem beqL_eq : ∀ {a b : List D}, beqL a b = true → a = b
  | [], b, h => by cases b <;> simp_all [beqL]
  | x :: r, b, h => by
    cases b with
    | nil => simp [beqL] at h
    | cons y s =>
      simp only [beqL, Bool.and_eq_true] at h
      rw [beqD_eq h.1, beqL_eq h.2]
end
mutual
theorem beqD_refl : ∀ a : D, beqD a a = true
  | .non => rfl
  | .bl _ => by simp [beqD]
  | .int _ => by simp [beqD]
  | .str _ => by simp [beqD]
  | .tup x => by simp [beqD, beqL_refl x]
  | .lst x => by simp [beqD, beqL_refl x]
  | .ref _ => by simp [beqD]
  | .scr _ => by simp [beqD]
theorem beqL_refl : ∀ a : List D, beqL a a = true
  | [] => rfl
  | x :: r => by simp [beqL, beqD_refl x, beqL_refl r]
end

/-- what is walked: its items; where it may change, the list that they stand in -/
structure Itm where
  ds : List D
  src : Option Nat
def Itm.chk (it : Itm) (hp : HM) : Bool := match it.src with
  | none => true
  | some n => match hp[n]? with
    | some (.lst ds) => beqL ds it.ds
    | _ => false
abbrev IM := Loc → HM → O Itm
def Yields (K : PySem.W.Frag) (mg : Str → Option Value) (A0 : List Addr) (H0 : Hp) (J : It) (it : Itm) : Prop :=
  ∀ (A : List Addr) (H : Hp) (hp : HM), Ext A0 H0 A H → HRel K mg A H hp → it.chk hp = true →
    (∀ i, i < it.ds.length → J.go i H) ∧ (∀ i d x H', it.ds[i]? = some d → J.yld i H x H' → Ext A H A H' ∧ HRel K mg A H' hp ∧ Rp K A H' x d) ∧ (∀ i, it.ds.length ≤ i → J.stop i H)
def tI (K : PySem.W.Frag) (mg : Str → Option Value) (W : WX) (f : IM) : TI := fun σ H R => ∃ A loc hp, HRel K mg A H hp ∧ LocR K A H σ loc ∧ Good K mg W σ (fun A' H' (J : It) it => Yields K mg A' H' J it) A H (f loc hp) R
abbrev SI (X : Cx) (W : WX) (tg iter : PySem.Expr) (f : IM) : Prop := PI X tg iter (tI X.K X.mg W f)
theorem _root_.L2.PI.weak {tg iter : PySem.Expr} {t t' : TI} (h : PI X tg iter t) (w : ∀ σ H R, t' σ H R → t σ H R) : PI X tg iter t' := ⟨fun pins s σ H R I q => h.run pins s σ H R I (w σ H R q)⟩
theorem pi_or {tg iter : PySem.Expr} {t u : TI} (h : PI X tg iter t) (h' : PI X tg iter u) : PI X tg iter (fun σ H R => t σ H R ∨ u σ H R) :=
  ⟨fun pins s σ H R I q => q.elim (fun z => h.run pins s σ H R I z) fun z => h'.run pins s σ H R I z⟩

def iSeq (f : EM) : IM := fun loc hp => (f loc hp).bind fun d hp1 => match d with
  | .tup ds => .ok ⟨ds, none⟩ hp1
  | .lst ds => .ok ⟨ds, none⟩ hp1
  | .ref n => match hp1[n]? with
    | some (.lst ds) => .ok ⟨ds, some n⟩ hp1
    | _ => .bad
  | _ => .bad
theorem yields_lst {K : PySem.W.Frag} {mg : Str → Option Value} {A : List Addr} {H : Hp} {a : Addr} {vs : List V} {ds : List D} (n : a ∉ A) (h : H a = some (.lst vs)) (r : RpL K A H vs ds) : Yields K mg A H (Itl K a) ⟨ds, none⟩ := by
  intro A1 H1 hp1 e r1 _
  have h1 := (e.keep a _ h n).1
  refine ⟨fun i hi => ?_, fun i d x H' hd hy => ?_, fun i hi => ⟨vs, SqL.of h1, by rw [r.length]; exact hi⟩⟩
  · exact ⟨vs, vs[i]'(by rw [r.length]; exact hi), SqL.of h1, by simp⟩
  · obtain ⟨rfl, hx⟩ := hy
    obtain ⟨v, hv, q⟩ := (r.ext e).get hd
    have := hx vs (SqL.of h1)
    rw [hv] at this
    cases this
    exact ⟨.refl _ _, r1, q⟩
theorem yields_tup {K : PySem.W.Frag} {mg : Str → Option Value} {A : List Addr} {H : Hp} {a : Addr} {vs : List V} {ds : List D} (h : TupAt K A H a vs) (r : RpL K A H vs ds) : Yields K mg A H (Itt K a) ⟨ds, none⟩ := by
  intro A1 H1 hp1 e r1 _
  have h1 := (h.ext e).sq
  refine ⟨fun i hi => ?_, fun i d x H' hd hy => ?_, fun i hi => ⟨vs, h1, by rw [r.length]; exact hi⟩⟩
  · exact ⟨vs, vs[i]'(by rw [r.length]; exact hi), h1, by simp⟩
  · obtain ⟨rfl, hx⟩ := hy
    obtain ⟨v, hv, q⟩ := (r.ext e).get hd
    have := hx vs h1
    rw [hv] at this
    cases this
    exact ⟨.refl _ _, r1, q⟩
theorem yields_ref {K : PySem.W.Frag} {mg : Str → Option Value} {A : List Addr} {H : Hp} {a : Addr} {n : Nat} {ds : List D} (h : A[n]? = some a) : Yields K mg A H (Itl K a) ⟨ds, some n⟩ := by
  intro A1 H1 hp1 e r1 hc
  have ha := e.at h
  have hl : n < hp1.length := by rw [← r1.len]; exact (List.getElem?_eq_some_iff.mp ha).1
  simp only [Itm.chk] at hc
  rw [List.getElem?_eq_getElem hl] at hc
  cases hm : hp1[n] with
  | lst ds' =>
    rw [hm] at hc
    have := beqL_eq hc
    subst this
    obtain ⟨vs, h1, r⟩ := r1.ob n _ a (by rw [List.getElem?_eq_getElem hl, hm]) ha
    refine ⟨fun i hi => ?_, fun i d x H' hd hy => ?_, fun i hi => ⟨vs, SqL.of h1, by rw [r.length]; exact hi⟩⟩
    · exact ⟨vs, vs[i]'(by rw [r.length]; exact hi), SqL.of h1, by simp⟩
    · obtain ⟨rfl, hx⟩ := hy
      obtain ⟨v, hv, q⟩ := r.get hd
      have := hx vs (SqL.of h1)
      rw [hv] at this
      cases this
      exact ⟨.refl _ _, r1, q⟩
  | ins c fs => rw [hm] at hc; cases hc
theorem si_seq {tg : PySem.Expr} (he : SE X W e fe) : SI X W tg e (iSeq fe) := (pi_or (pi_list he) (pi_tup he)).weak fun σ H R ⟨A, loc, hp, r, hl, q⟩ => by
  unfold iSeq at q
  cases o : fe loc hp with
  | bad => rw [o] at q; exact q.elim
  | exc x h => rw [o] at q; exact .inl ⟨A, loc, hp, r, hl, by rw [o]; exact q⟩
  | ok d hp1 =>
    have q0 := q
    rw [o] at q
    simp only [O.bind] at q
    cases d with
    | tup ds =>
      refine .inr ⟨A, loc, hp, r, hl, ?_⟩
      rw [o]
      intro A1 H1 v e1 r1 q1
      obtain ⟨a, vs, rfl, t, rl⟩ := q1.tup_inv
      exact ⟨a, rfl, ⟨vs, t.sq⟩, q A1 H1 _ e1 r1 (yields_tup t rl)⟩
    | lst ds =>
      refine .inl ⟨A, loc, hp, r, hl, ?_⟩
      rw [o]
      intro A1 H1 v e1 r1 q1
      obtain ⟨a, vs, rfl, na, t, rl⟩ := q1.lst_inv
      exact ⟨a, rfl, ⟨vs, SqL.of t⟩, q A1 H1 _ e1 r1 (yields_lst na t rl)⟩
    | ref n =>
      refine .inl ⟨A, loc, hp, r, hl, ?_⟩
      rw [o]
      intro A1 H1 v e1 r1 q1
      simp only at q
      obtain ⟨a, rfl, ha⟩ := q1.ref_inv
      have hl1 : n < hp1.length := by rw [← r1.len]; exact (List.getElem?_eq_some_iff.mp ha).1
      rw [List.getElem?_eq_getElem hl1] at q
      cases hm : hp1[n] with
      | lst ds =>
        rw [hm] at q
        obtain ⟨vs, h1, rl⟩ := r1.ob n _ a (by rw [List.getElem?_eq_getElem hl1, hm]) ha
        exact ⟨a, rfl, ⟨vs, SqL.of h1⟩, q A1 H1 _ e1 r1 (yields_ref ha)⟩
      | ins c fs => rw [hm] at q; exact q.elim
    | _ => exact q.elim
end
end Ms

namespace Ms
open PySem L2
section
variable {X : Cx} {W : WX} {pos : Pos} {e : PySem.Expr} {es : List PySem.Expr} {fe : EM}

/-! ### what is walked -/
def rngD (lo : Int) (n : Nat) : List D := (List.range n).map fun (k : Nat) => D.int (lo + (k : Int))
theorem yields_rng {K : PySem.W.Frag} {mg : Str → Option Value} {A : List Addr} {H : Hp} {lo : Int} {n : Nat} : Yields K mg A H (Itr lo n) ⟨rngD lo n, none⟩ := by
  intro A1 H1 hp1 e r1 _
  refine ⟨fun i hi => show i < n by simpa [rngD] using hi, fun i d x H' hd hy => ?_, fun i hi => show n ≤ i by simpa [rngD] using hi⟩
  obtain ⟨rfl, rfl⟩ := hy
  obtain ⟨hi, q⟩ := List.getElem?_eq_some_iff.mp hd
  simp [rngD] at q
  subst q
  exact ⟨.refl _ _, r1, .int _⟩
abbrev lim : Int := 1000000
def iRange1 (fs : AM) : IM := fun loc hp => (fs loc hp).bind fun ds hp1 => match ds with
  | [.int j] => if j ≤ lim then .ok ⟨rngD 0 j.toNat, none⟩ hp1 else .bad
  | _ => .bad
def iRange2 (fs : AM) : IM := fun loc hp => (fs loc hp).bind fun ds hp1 => match ds with
  | [.int i, .int j] => if -lim ≤ i ∧ i ≤ lim ∧ -lim ≤ j ∧ j ≤ lim then .ok ⟨rngD i (j - i).toNat, none⟩ hp1 else .bad
  | _ => .bad
theorem si_range1 {tg a : PySem.Expr} {p : Pos} {fs : AM} (hm : X.mg "range" = none) (ha : SA X W [a] fs) (hg : Gl X "range" := by rfl) (hs : starEach [a] X.env = [(false, eval a X.env)] := by rfl) (low : True := trivial) :
    SI X W tg (.Call (.Name "range" p) [a] [] pos) (fun loc hp => (fs loc hp).bind fun ds hp1 => match ds with
      | [.int j] => if -lim ≤ j ∧ j ≤ lim then .ok ⟨rngD 0 j.toNat, none⟩ hp1 else .bad
      | _ => .bad) := (pi_range1 hg hm ha hs).weak fun σ H R ⟨A, loc, hp, r, hl, q⟩ => by
  refine ⟨A, loc, hp, r, hl, (Good.bind (R := RpL X.K) q).mono ?_⟩
  rintro vs H1 ⟨A1, hp1, ds, e1, r1, q1, g1⟩
  split at g1
  · rename_i j
    by_cases hz : -lim ≤ j ∧ j ≤ lim
    · rw [if_pos hz] at g1
      have := rpl_ints (ns := [j]) q1
      refine ⟨j, this, by have := hz.1; simp only [lim] at this; omega, by have := hz.2; simp only [lim] at this; omega, g1 A1 H1 _ (.refl _ _) r1 yields_rng⟩
    · rw [if_neg hz] at g1; exact g1.elim
  · exact g1.elim
theorem si_range2 {tg a b : PySem.Expr} {p : Pos} {fs : AM} (hm : X.mg "range" = none) (ha : SA X W [a, b] fs) (hg : Gl X "range" := by rfl) (hs : starEach [a, b] X.env = [(false, eval a X.env), (false, eval b X.env)] := by rfl) (hs2 : starEach [b] X.env = [(false, eval b X.env)] := by rfl) :
    SI X W tg (.Call (.Name "range" p) [a, b] [] pos) (iRange2 fs) := (pi_range2 hg hm ha hs hs2).weak fun σ H R ⟨A, loc, hp, r, hl, q⟩ => by
  refine ⟨A, loc, hp, r, hl, (Good.bind (R := RpL X.K) q).mono ?_⟩
  rintro vs H1 ⟨A1, hp1, ds, e1, r1, q1, g1⟩
  split at g1
  · rename_i i j
    by_cases hz : -lim ≤ i ∧ i ≤ lim ∧ -lim ≤ j ∧ j ≤ lim
    · rw [if_pos hz] at g1
      have := rpl_ints (ns := [i, j]) q1
      refine ⟨i, j, this, ?_, g1 A1 H1 _ (.refl _ _) r1 yields_rng⟩
      simp only [lim] at hz
      omega
    · rw [if_neg hz] at g1; exact g1.elim
  · exact g1.elim
/-- the signs of a text -/
def iStrM (f : EM) : IM := fun loc hp => (f loc hp).bind fun d hp1 => match d with
  | .str x => .ok ⟨x.cps.toList.map fun c => .str ⟨#[c]⟩, none⟩ hp1
  | _ => .bad
theorem si_str {tg : PySem.Expr} (he : SE X W e fe) : SI X W tg e (iStrM fe) := (pi_str he).weak fun σ H R ⟨A, loc, hp, r, hl, q⟩ => by
  refine ⟨A, loc, hp, r, hl, (Good.bind (R := Rp X.K) q).mono ?_⟩
  rintro v H1 ⟨A1, hp1, d, e1, r1, q1, g1⟩
  cases d with
  | str x =>
    refine ⟨x, q1.str_inv, g1 A1 H1 _ (.refl _ _) r1 ?_⟩
    intro A2 H2 hp2 e2 r2 _
    refine ⟨fun i hi => show i < x.cps.size by simpa using hi, fun i d y H' hd hy => ?_, fun i hi => show x.cps.size ≤ i by simpa using hi⟩
    obtain ⟨rfl, c, hc, rfl⟩ := hy
    have : d = .str ⟨#[c]⟩ := by
      rw [List.getElem?_map] at hd
      have e3 : x.cps.toList[i]? = some c := by simpa using hc
      rw [e3] at hd
      simpa using hd.symm
    subst this
    exact ⟨.refl _ _, r2, .str _⟩
  | _ => exact g1.elim
/-- zip of two tuples -/
def zipD : List D → List D → List D
  | x :: xs, y :: ys => .tup [x, y] :: zipD xs ys
  | _, _ => []
theorem zipD_get : ∀ {xs ys : List D} {i : Nat} {d : D}, (zipD xs ys)[i]? = some d → ∃ x y, xs[i]? = some x ∧ ys[i]? = some y ∧ d = .tup [x, y]
  | [], _, _, _, h => by simp [zipD] at h
  | _ :: _, [], _, _, h => by simp [zipD] at h
  | x :: xs, y :: ys, 0, d, h => by simp [zipD] at h; exact ⟨x, y, rfl, rfl, h.symm⟩
  | x :: xs, y :: ys, i + 1, d, h => by simpa using zipD_get (xs := xs) (ys := ys) (i := i) (by simpa [zipD] using h)
theorem zipD_len : ∀ {xs ys : List D}, (zipD xs ys).length = min xs.length ys.length
  | [], _ => by simp [zipD]
  | _ :: _, [] => by simp [zipD]
  | x :: xs, y :: ys => by simp only [zipD, List.length_cons, zipD_len (xs := xs) (ys := ys)]; omega
def iZipM (fs : AM) : IM := fun loc hp => (fs loc hp).bind fun ds hp1 => match ds with
  | [.tup xs, .tup ys] => .ok ⟨zipD xs ys, none⟩ hp1
  | _ => .bad
theorem si_zip {a b : PySem.Expr} {p tpos : Pos} {elts : List PySem.Expr} {kk : Nat} {fs : AM} (hm : X.mg "zip" = none) (ha : SA X W [a, b] fs) (hg : Gl X "zip" := by rfl) (hs : starEach [a, b] X.env = (false, eval a X.env) :: starEach [b] X.env := by rfl)
    (hpl : (backTo pos (starEach [b] X.env)).any (·.1) = false := by rfl) : SI X W (.Tuple elts kk tpos) (.Call (.Name "zip" p) [a, b] [] pos) (iZipM fs) := (RZ.pi_zipA hg hm ha hs hpl).weak fun σ H R ⟨A, loc, hp, r, hl, q⟩ => by
  refine ⟨A, loc, hp, r, hl, (Good.bind (R := RpL X.K) q).mono ?_⟩
  rintro vs H1 ⟨A1, hp1, ds, e1, r1, q1, g1⟩
  split at g1
  · rename_i xs ys
    cases q1 with
    | cons qx qr =>
      cases qr with
      | cons qy qn =>
        cases qn
        obtain ⟨a1, vx, rfl, tx, rx⟩ := qx.tup_inv
        obtain ⟨a2, vy, rfl, ty, ry⟩ := qy.tup_inv
        refine ⟨a1, a2, vx, vy, rfl, .inr ⟨tx.sq, ty.sq, g1 A1 H1 _ (.refl _ _) r1 ?_⟩⟩
        intro A2 H2 hp2 e2 r2 _
        have sx := (tx.ext e2).sq
        have sy := (ty.ext e2).sq
        have lx := rx.length
        have ly := ry.length
        refine ⟨fun i hi => ?_, fun i d x H' hd hy => ?_, fun i hi => ?_⟩
        · have hi : i < (zipD xs ys).length := hi
          rw [zipD_len] at hi
          have h1 : i < vx.length := by omega
          have h2 : i < vy.length := by omega
          exact ⟨vx, vy, vx[i], vy[i], sx, sy, by simp [h1], by simp [h2]⟩
        · obtain ⟨x1, y1, hx, hy1, rfl⟩ := zipD_get hd
          obtain ⟨T, vx1, vy1, rfl, nT, rfl, kx, ky⟩ := hy
          obtain ⟨u1, hu1, p1⟩ := (rx.ext e2).get hx
          obtain ⟨u2, hu2, p2⟩ := (ry.ext e2).get hy1
          have := kx vx sx
          rw [hu1] at this; cases this
          have := ky vy sy
          rw [hu2] at this; cases this
          obtain ⟨e3, r3⟩ := r2.new (o := .tup [vx1, vy1]) nT
          exact ⟨e3, r3, .tup (.new (r2.fresh nT)) (.cons (p1.ext e3) (.cons (p2.ext e3) .nil))⟩
        · have hi : (zipD xs ys).length ≤ i := hi
          rw [zipD_len] at hi
          exact ⟨vx, vy, sx, sy, by omega⟩
  · exact g1.elim

/-! ### for -/
def forGo (it : Itm) (g : Tg) (body : SM) : List D → Loc → HM → SO
  | [], loc, hp => if it.chk hp = true then .nx loc hp else .bad
  | d :: ds, loc, hp => if it.chk hp = true then (match g d loc with
    | some loc1 => match body loc1 hp with
      | .nx l h => forGo it g body ds l h
      | .ct l h => forGo it g body ds l h
      | .bk l h => .nx l h
      | .rt d h => .rt d h
      | .exc e l h => .exc e l h
      | .bad => .bad
    | none => .bad) else .bad
def sFor (i : IM) (g : Tg) (body : SM) : SM := fun loc hp => sE (i loc hp) loc fun it hp1 => forGo it g body it.ds loc hp1
theorem ss_for {tg iter : PySem.Expr} {body : List Stmt} {fi : IM} {t : TG} {g : Tg} {fb : SM} (hp : PassesOwn (model X.prog X.w) X.A X.env X.xe) (hi : SI X W tg iter fi) (hg : PG X tg t) (hr : TgR X.K X.mg t g) (hb : SSs X W body fb) (hc : X.calm = true := by rfl)
    (hs : ∀ x, foldedSetIterable iter X.env x = pure x := by intro _; rfl) : SS X W (.For tg iter body [] pos) (sFor fi g fb) := (ps_for hp hc hi hg hb hs).weak fun T σ H ⟨A, loc, hp, r, hl, q⟩ => by
  refine ⟨A, loc, hp, r, hl, (GoodS.bind hl q).mono ?_⟩
  rintro J H1 ⟨A1, hp1, it, e1, r1, y1, l1, g1⟩
  refine ⟨fun i m σ2 H2 => m = it.ds.length - i ∧ i ≤ it.ds.length ∧ ∃ A2 loc2 hp2, Ext A1 H1 A2 H2 ∧ HRel X.K X.mg A2 H2 hp2 ∧ LocR X.K A2 H2 σ2 loc2 ∧ GoodS X.K X.mg W A2 H2 (forGo it g fb (it.ds.drop i) loc2 hp2) T,
    ⟨_, rfl, Nat.zero_le _, A1, loc, hp1, .refl _ _, r1, l1, by simpa using g1⟩, ?_⟩
  rintro i m σ2 H2 ⟨rfl, hi, A2, loc2, hp2, e2, r2, l2, g2⟩
  by_cases hlt : i < it.ds.length
  · rw [List.drop_eq_getElem_cons hlt] at g2
    unfold forGo at g2
    by_cases hc : it.chk hp2 = true
    · rw [if_pos hc] at g2
      obtain ⟨ygo, yyl, _⟩ := y1 A2 H2 hp2 e2 r2 hc
      refine .inr ⟨ygo i hlt, fun σ' H' => it.ds.length - (i + 1) = it.ds.length - (i + 1) ∧ i + 1 ≤ it.ds.length ∧ ∃ A2 loc2 hp2, Ext A1 H1 A2 H' ∧ HRel X.K X.mg A2 H' hp2 ∧ LocR X.K A2 H' σ' loc2 ∧ GoodS X.K X.mg W A2 H' (forGo it g fb (it.ds.drop (i + 1)) loc2 hp2) T,
        fun σ' H' w => ⟨it.ds.length - (i + 1), by omega, w⟩, fun x H' hy => ?_⟩
      obtain ⟨e3, r3, q3⟩ := yyl i it.ds[i] x H' (by simp [hlt]) hy
      cases hgd : g it.ds[i] loc2 with
      | none => rw [hgd] at g2; exact g2.elim
      | some loc3 =>
        rw [hgd] at g2
        refine hr A2 H' hp2 x it.ds[i] σ2 loc2 loc3 _ r3 q3 (l2.ext e3) hgd fun σ3 l3 => ⟨A2, loc3, hp2, r3, l3, ?_⟩
        have g3 := GoodS.ext g2 e3
        simp only at g3
        cases o : fb loc3 hp2 with
        | nx l h => rw [o] at g3; exact fun A4 H4 σ4 e4 r4 l4 => ⟨rfl, hlt, A4, l, h, (e2.trans e3).trans e4, r4, l4, g3.ext e4⟩
        | ct l h => rw [o] at g3; exact fun A4 H4 σ4 e4 r4 l4 => ⟨rfl, hlt, A4, l, h, (e2.trans e3).trans e4, r4, l4, g3.ext e4⟩
        | bk l h => rw [o] at g3; exact g3
        | rt d h => rw [o] at g3; exact g3
        | exc x l h => rw [o] at g3; exact g3
        | bad => rw [o] at g3; exact g3
    · rw [if_neg hc] at g2; exact g2.elim
  · have he : i = it.ds.length := by omega
    subst he
    rw [List.drop_length] at g2
    unfold forGo at g2
    by_cases hc : it.chk hp2 = true
    · rw [if_pos hc] at g2
      obtain ⟨_, _, ys⟩ := y1 A2 H2 hp2 e2 r2 hc
      exact .inl ⟨ys _ (Nat.le_refl _), g2 A2 H2 σ2 (.refl _ _) r2 l2⟩
    · rw [if_neg hc] at g2; exact g2.elim

/-! ### while, with fuel -/
def whileGo (t : TM) (body : SM) : Nat → Loc → HM → SO
  | 0, _, _ => .bad
  | n + 1, loc, hp => sE (t loc hp) loc fun b hp1 => if b = true then (match body loc hp1 with
    | .nx l h => whileGo t body n l h
    | .ct l h => whileGo t body n l h
    | .bk l h => .nx l h
    | .rt d h => .rt d h
    | .exc e l h => .exc e l h
    | .bad => .bad) else .nx loc hp1
def sWhile (n : Nat) (t : TM) (body : SM) : SM := whileGo t body n
theorem ss_while {c : PySem.Expr} {body : List Stmt} {t : TM} {fb : SM} (n : Nat) (hp : PassesOwn (model X.prog X.w) X.A X.env X.xe) (hc : STt X W c t) (hb : SSs X W body fb) : SS X W (.While c body [] pos) (sWhile n t fb) := (ps_while hp hc hb).weak fun T σ H ⟨A, loc, hp, r, hl, q⟩ => by
  refine ⟨fun m σ2 H2 => ∃ A2 loc2 hp2, HRel X.K X.mg A2 H2 hp2 ∧ LocR X.K A2 H2 σ2 loc2 ∧ GoodS X.K X.mg W A2 H2 (whileGo t fb m loc2 hp2) T, ⟨n, A, loc, hp, r, hl, q⟩, ?_⟩
  rintro m σ2 H2 ⟨A2, loc2, hp2, r2, l2, g2⟩
  cases m with
  | zero => exact g2.elim
  | succ m =>
    refine ⟨A2, loc2, hp2, r2, l2, (GoodS.bind (R := RB) l2 g2).mono ?_⟩
    rintro b H3 ⟨A3, hp3, b', e3, r3, q3, l3, g3⟩
    cases q3
    cases b with
    | true =>
      simp only [if_true] at g3 ⊢
      refine ⟨_, fun σ' H' w => ⟨m, Nat.lt_succ_self m, w⟩, A3, loc2, hp3, r3, l3, ?_⟩
      cases o : fb loc2 hp3 with
      | nx l h => rw [o] at g3; exact fun A4 H4 σ4 e4 r4 l4 => ⟨A4, l, h, r4, l4, g3.ext e4⟩
      | ct l h => rw [o] at g3; exact fun A4 H4 σ4 e4 r4 l4 => ⟨A4, l, h, r4, l4, g3.ext e4⟩
      | bk l h => rw [o] at g3; exact g3
      | rt d h => rw [o] at g3; exact g3
      | exc x l h => rw [o] at g3; exact g3
      | bad => rw [o] at g3; exact g3
    | false => exact iteF (g3 A3 H3 σ2 (.refl _ _) r3 l3)

/-! ### a def -/
mutual
def okD (n : Nat) : D → Bool
  | .ref m => decide (m < n)
  | .tup ds => okL n ds
  | .lst ds => okL n ds
  | _ => true
def okL (n : Nat) : List D → Bool
  | [] => true
  | d :: r => okD n d && okL n r
end
def okM (n : Nat) : MO → Bool
  | .lst ds => okL n ds
  | .ins _ fs => fs.all fun p => okD n p.2
section
variable {K : PySem.W.Frag} {mg : Str → Option Value} {A : List Addr} {H : Hp} {hp : HM}
theorem not_take {n : Nat} {a : Addr} (h : a ∉ A) : a ∉ A.take n := fun q => h (List.mem_of_mem_take q)
mutual
theorem Rp.cut {n : Nat} : ∀ {v : V} {d : D}, okD n d = true → Rp K A H v d → Rp K (A.take n) H v d
  | _, _, _, .non => .non
  | _, _, _, .bl b => .bl b
  | _, _, _, .int i => .int i
  | _, _, _, .str x => .str x
  | _, _, h, .tup (.own h1 h2) r => .tup (.own (not_take h1) h2) (RpL.cut (by simpa [okD] using h) r)
  | _, _, h, .tup (.wr h1) r => .tup (.wr h1) (RpL.cut (by simpa [okD] using h) r)
  | _, _, h, .lst (.own h1 h2) r => .lst (.own (not_take h1) h2) (RpL.cut (by simpa [okD] using h) r)
  | _, _, _, .scr (.own h1 h2) => .scr (.own (not_take h1) h2)
  | _, _, _, .scr (.wr h1) => .scr (.wr h1)
  | _, .ref m, h, .ref h1 => .ref (by
    have h2 : m < n := by simpa [okD] using h
    rw [List.getElem?_take_of_lt h2]; exact h1)
theorem RpL.cut {n : Nat} : ∀ {vs : List V} {ds : List D}, okL n ds = true → RpL K A H vs ds → RpL K (A.take n) H vs ds
  | _, _, _, .nil => .nil
  | _, d :: ds, h, .cons r rs => by
    have h2 : okD n d = true ∧ okL n ds = true := by simpa [okL] using h
    exact .cons (Rp.cut h2.1 r) (RpL.cut h2.2 rs)
end
theorem FldR.cut {n : Nat} : ∀ {xs : List (Str × V)} {ys : List (Str × D)}, (ys.all fun p => okD n p.2) = true → FldR K A H xs ys → FldR K (A.take n) H xs ys
  | _, _, _, .nil => .nil
  | _ :: _, y :: ys, h, .cons r t => by
    rw [List.all_cons, Bool.and_eq_true] at h
    exact .cons ⟨r.1, r.2.cut h.1⟩ (FldR.cut h.2 t)
theorem HRel.cut {n : Nat} (r : HRel K mg A H hp) (h : ((hp.take n).all fun m => okM n m) = true) : HRel K mg (A.take n) H (hp.take n) := by
  refine ⟨by simp [r.len], r.nd.sublist (List.take_sublist _ _), fun j mo a h1 h2 => ?_⟩
  have hj : j < n := by
    have := (List.getElem?_eq_some_iff.mp h1).1
    simp at this
    omega
  have hm : okM n mo = true := List.all_eq_true.mp h mo (List.mem_of_getElem? h1)
  rw [List.getElem?_take_of_lt hj] at h1 h2
  have := r.ob j mo a h1 h2
  cases mo with
  | lst ds =>
    obtain ⟨vs, q1, q2⟩ := this
    exact ⟨vs, q1, q2.cut hm⟩
  | ins c fs =>
    obtain ⟨C, dx, vfs, q0, q1, q2, q3, q4⟩ := this
    exact ⟨C, dx, vfs, q0, q1, q2, not_take q3, q4.cut hm⟩
theorem Ext.cut {A' : List Addr} {H' : Hp} (e : Ext A H A' H') : Ext A H (A'.take A.length) H' := by
  refine ⟨⟨[], ?_⟩, fun a o h n => ?_⟩
  · obtain ⟨m, q⟩ := e.pre
    rw [q]; simp
  · obtain ⟨h1, n1⟩ := e.keep a o h n
    exact ⟨h1, not_take n1⟩
end
/-- what a def hands back when its own changing objects are given up -/
def frz (n : Nat) (hp : HM) (d : D) : Option D := match d with
  | .ref m => if m < n then some (.ref m) else match hp[m]? with
    | some (.lst ds) => if okL n ds = true then some (.lst ds) else none
    | _ => none
  | d => if okD n d = true then some d else none
/-- a def's mirror: n parameters, l names in all; its own changing objects are given up -/
def fnOf (n l : Nat) (body : SM) : Fn := fun ds hp => match body (ds.map some ++ List.replicate (l - n) none) hp with
  | .rt d hp' => if ((hp'.take hp.length).all fun m => okM hp.length m) = true then (match frz hp.length hp' d with
    | some d' => .ok d' (hp'.take hp.length)
    | none => .bad) else .bad
  | .nx _ hp' => if ((hp'.take hp.length).all fun m => okM hp.length m) = true then .ok .non (hp'.take hp.length) else .bad
  | .exc e _ hp' => if ((hp'.take hp.length).all fun m => okM hp.length m) = true then .exc e (hp'.take hp.length) else .bad
  | _ => .bad
/-- .. all is kept -/
def fnKeep (n l : Nat) (body : SM) : Fn := fun ds hp => match body (ds.map some ++ List.replicate (l - n) none) hp with
  | .rt d hp' => .ok d hp'
  | .nx _ hp' => .ok .non hp'
  | .exc e _ hp' => .exc e hp'
  | _ => .bad
theorem start_rel {K : PySem.W.Frag} {A : List Addr} {H : Hp} {vs : List V} {ds : List D} {N : List Str} {n : Nat} (h : RpL K A H vs ds) (hn : vs.length = n) : LocR K A H (L2.start N vs) (ds.map some ++ List.replicate (N.length - n) none) := by
  refine ⟨by simp [L2.start, h.length, ← hn], fun i d hd => ?_⟩
  by_cases hi : i < ds.length
  · rw [List.getElem?_append_left (by simpa using hi)] at hd
    rw [List.getElem?_map] at hd
    cases q : ds[i]? with
    | none => rw [q] at hd; cases hd
    | some d' =>
      rw [q] at hd
      simp only [Option.map_some, Option.some.injEq] at hd
      subst hd
      obtain ⟨v, hv, r⟩ := h.get q
      refine ⟨v, ?_, r⟩
      unfold L2.start
      rw [List.getElem?_append_left (by simp [h.length]; exact hi), List.getElem?_map, hv]
      rfl
  · rw [List.getElem?_append_right (by simpa using hi)] at hd
    rw [List.getElem?_replicate] at hd
    split at hd <;> cases hd
section
variable {P : Program} {w : World} {K : PySem.W.Frag} {mg : Str → Option Value} {base : Heap}
/-- in a def's body an exception leaves it -/
abbrev WD (E : XK) : WX := fun cls d _ H => E cls d H
theorem fn_sim {x : Str} {st : Stmt} {f : Addr} {fd : FuncData} {N ps : List Str} {k n : Nat} {body : SM} (F : Fun K x x st f fd) (S : FnScope N ps (defScope st)) (hn : ps.length = n)
    (hbody : ∀ (cdv : Value) (A : Around) (outer : List Env) (s : Shared) (H : Hp) (E : XK), Room k (A.deeper (PyProof.Rows.envOfC x (defScope st) s.heap.objs.size f cdv)) →
      SSs (cxOf (L2.CX P w) P w K mg base N x (defScope st) f cdv A outer s H E) (WD E) (defBody st) body) : FnOk P w K mg base (L2.CX P w) (k + 1) f fd ps (spOf K mg n (fnOf n N.length body)) := by
  refine F.okX S (fun vs H Q E h => h.1.trans hn.symm) fun cdv A outer s H vs Q E hr h => ?_
  obtain ⟨hl, A1, hp, ds, r, q, g⟩ := h
  refine ⟨_, hbody cdv A outer s H E hr, A1, _, hp, r, start_rel q hl, ?_⟩
  unfold fnOf at g
  cases o : body (ds.map some ++ List.replicate (N.length - n) none) hp with
  | rt d hp' =>
    rw [o] at g
    simp only at g
    by_cases hk : ((hp'.take hp.length).all fun m => okM hp.length m) = true
    · rw [if_pos hk] at g
      intro A2 H2 v e2 r2 q2
      have r3 := r2.cut hk
      rw [← r.len] at r3
      cases d with
      | ref m =>
        simp only [frz] at g
        by_cases hm : m < hp.length
        · rw [if_pos hm] at g
          rw [← r.len] at g hm
          exact g _ H2 v e2.cut r3 (q2.cut (by simpa [okD] using hm))
        · rw [if_neg hm] at g
          obtain ⟨a, rfl, ha⟩ := q2.ref_inv
          have hl2 : m < hp'.length := by rw [← r2.len]; exact (List.getElem?_eq_some_iff.mp ha).1
          rw [List.getElem?_eq_getElem hl2] at g
          cases hq : hp'[m] with
          | lst ds' =>
            rw [hq] at g
            simp only at g
            by_cases hz : okL hp.length ds' = true
            · rw [if_pos hz] at g
              rw [← r.len] at g hz hm
              obtain ⟨vs', h1, h2⟩ := r2.ob m _ a (by rw [List.getElem?_eq_getElem hl2, hq]) ha
              refine g _ H2 _ e2.cut r3 (.lst (.own (fun z => ?_) h1) (h2.cut hz))
              obtain ⟨j, hj⟩ := List.mem_iff_getElem?.mp z
              have hjn : j < A1.length := by
                have := (List.getElem?_eq_some_iff.mp hj).1
                simp at this
                omega
              rw [List.getElem?_take_of_lt hjn] at hj
              obtain ⟨_, e1⟩ := List.getElem?_eq_some_iff.mp hj
              obtain ⟨_, e3⟩ := List.getElem?_eq_some_iff.mp ha
              have := (List.getElem_inj r2.nd).mp (e1.trans e3.symm)
              omega
            · rw [if_neg hz] at g; exact g.elim
          | ins c fs => rw [hq] at g; exact g.elim
      | _ =>
        simp only [frz] at g
        split at g
        · rename_i d' hd
          split at hd
          · rename_i hz
            simp only [Option.some.injEq] at hd
            subst hd
            rw [← r.len] at g hz
            exact g _ H2 v e2.cut r3 (q2.cut hz)
          · cases hd
        · exact g.elim
    · rw [if_neg hk] at g; exact g.elim
  | nx l hp' =>
    rw [o] at g
    simp only at g
    by_cases hk : ((hp'.take hp.length).all fun m => okM hp.length m) = true
    · rw [if_pos hk] at g
      intro A2 H2 σ2 e2 r2 q2
      have r3 := r2.cut hk
      rw [← r.len] at r3 g
      exact g _ H2 .non e2.cut r3 .non
    · rw [if_neg hk] at g; exact g.elim
  | exc x l hp' =>
    rw [o] at g
    simp only at g
    by_cases hk : ((hp'.take hp.length).all fun m => okM hp.length m) = true
    · rw [if_pos hk] at g
      intro A2 H2 σ2 c od e2 r2 q2 hx
      have r3 := r2.cut hk
      rw [← r.len] at r3 g
      exact g _ H2 c od e2.cut r3 hx
    · rw [if_neg hk] at g; exact g.elim
  | bk l h => rw [o] at g; exact g.elim
  | ct l h => rw [o] at g; exact g.elim
  | bad => rw [o] at g; exact g.elim
theorem fn_keep {x q : Str} {st : Stmt} {f : Addr} {fd : FuncData} {N ps : List Str} {k n : Nat} {body : SM} (F : Fun K x q st f fd) (S : FnScope N ps (defScope st)) (hn : ps.length = n)
    (hbody : ∀ (cdv : Value) (A : Around) (outer : List Env) (s : Shared) (H : Hp) (E : XK), Room k (A.deeper (PyProof.Rows.envOfC q (defScope st) s.heap.objs.size f cdv)) →
      SSs (cxOf (L2.CX P w) P w K mg base N q (defScope st) f cdv A outer s H E) (WD E) (defBody st) body) : FnOk P w K mg base (L2.CX P w) (k + 1) f fd ps (spOf K mg n (fnKeep n N.length body)) := by
  refine F.okX S (fun vs H Q E h => h.1.trans hn.symm) fun cdv A outer s H vs Q E hr h => ?_
  obtain ⟨hl, A1, hp, ds, r, q, g⟩ := h
  refine ⟨_, hbody cdv A outer s H E hr, A1, _, hp, r, start_rel q hl, ?_⟩
  unfold fnKeep at g
  cases o : body (ds.map some ++ List.replicate (N.length - n) none) hp with
  | rt d hp' => rw [o] at g; exact g
  | nx l hp' => rw [o] at g; exact fun A2 H2 σ2 e2 r2 q2 => g A2 H2 .non e2 r2 .non
  | exc x l hp' => rw [o] at g; exact fun A2 H2 σ2 c od e2 r2 q2 hx => g A2 H2 c od e2 r2 hx
  | bk l h => rw [o] at g; exact g.elim
  | ct l h => rw [o] at g; exact g.elim
  | bad => rw [o] at g; exact g.elim
end
end
end Ms

namespace Ms
open PySem L2
section
variable {K : PySem.W.Frag} {mg : Str → Option Value} {A : List Addr} {H : Hp} {hp : HM} {W : WX} {σ : L2.St}

/-! ### built-in functions -/
/-- one operand -/
def gOne (f : D → HM → O D) : Fn := fun ds hp => match ds with
  | [d] => f d hp
  | _ => .bad
theorem one_of {v : List V} {ds : List D} {f : D → HM → O D} {Q : VK} (q : RpL K A H v ds) (g : Good K mg W σ (Rp K) A H (gOne f ds hp) Q) : ∃ x d, v = [x] ∧ ds = [d] ∧ Rp K A H x d ∧ Good K mg W σ (Rp K) A H (f d hp) Q := by
  match ds, q, g with
  | [], _, g => exact g.elim
  | [d], q, g =>
    cases q with
    | cons q1 qn => cases qn; exact ⟨_, d, rfl, rfl, q1, g⟩
  | _ :: _ :: _, _, g => exact g.elim
def gLen : Fn := gOne fun d hp => match d with
  | .str x => if x.length ≤ big then .ok (.int x.length) hp else .bad
  | d => match seqOf hp d with
    | some xs => .ok (.int xs.length) hp
    | none => .bad
theorem cg_len : CallG K mg (fun xs H Q => ∃ x n, xs = [x] ∧ LenV K x H n ∧ Q (.int (n : Nat)) H) gLen := fun W σ A H hp vs ds Q r q g => by
  obtain ⟨x, d, rfl, rfl, q1, g⟩ := one_of q g
  have low : Good K mg W σ (Rp K) A H (match seqOf hp d with
      | some xs => .ok (.int xs.length) hp
      | none => .bad) Q → ∃ x' n, [x] = [x'] ∧ LenV K x' H n ∧ Q (.int (n : Nat)) H := fun g' => by
    cases h1 : seqOf hp d with
    | none => rw [h1] at g'; exact g'.elim
    | some xs =>
      rw [h1] at g'
      obtain ⟨p, ws, rfl, s, rl⟩ := seqOf_rp r q1 h1
      refine ⟨_, xs.length, rfl, ?_, g'.here r (.int _)⟩
      rcases s with s | s
      · exact .inl ⟨ws, s, rl.length.symm⟩
      · exact .inr ⟨ws, s, rl.length.symm⟩
  cases d with
  | str z =>
    simp only at g
    by_cases hz : z.length ≤ big
    · rw [if_pos hz] at g
      exact ⟨_, z.length, rfl, by rw [q1.str_inv]; exact ⟨big_line hz, rfl⟩, g.here r (.int _)⟩
    · rw [if_neg hz] at g; exact g.elim
  | _ => exact low g
theorem lstOf_of {d : D} {ds : List D} (nt : ∀ ys, d ≠ .tup ys) (r : HRel K mg A H hp) {v : V} (q : Rp K A H v d) (h : seqOf hp d = some ds) : ∃ p vs, v = .ref p ∧ SqL K H p vs ∧ RpL K A H vs ds := by
  have low : lstOf hp d = some ds → ∃ p vs, v = .ref p ∧ SqL K H p vs ∧ RpL K A H vs ds := fun h => by
    obtain ⟨p, vs, e, h1, h2⟩ := lstOf_rp r q h
    exact ⟨p, vs, e, SqL.of h1, h2⟩
  cases d with
  | tup ds' => exact absurd rfl (nt ds')
  | scr ns =>
    simp only [seqOf, Option.some.injEq] at h
    subst h
    cases q with
    | scr h1 => exact ⟨_, _, rfl, h1.sq, ints_rpl⟩
  | lst _ => exact low h
  | ref _ => exact low h
  | non => exact low h
  | bl _ => exact low h
  | int _ => exact low h
  | str _ => exact low h
def gTuple : Fn := gOne fun d hp => match d with
  | .tup xs => .ok (.tup xs) hp
  | d => match seqOf hp d with
    | some xs => .ok (.tup xs) hp
    | none => .bad
theorem cg_tuple : CallG K mg (fun xs H Q => ∃ p ys, xs = [.ref p] ∧ ((SqL K H p ys ∧ ∀ l, H l = none → Q (.ref l) (upd H l (.tup ys))) ∨ (SqT K H p ys ∧ Q (.ref p) H))) gTuple := fun W σ A H hp vs ds Q r q g => by
  obtain ⟨x, d, rfl, rfl, q1, g⟩ := one_of q g
  have low : (∀ ys, d ≠ .tup ys) → Good K mg W σ (Rp K) A H (match seqOf hp d with
          | some xs => .ok (.tup xs) hp
          | none => .bad) Q → ∃ p ys, [x] = [V.ref p] ∧ ((SqL K H p ys ∧ ∀ l, H l = none → Q (.ref l) (upd H l (.tup ys))) ∨ (SqT K H p ys ∧ Q (.ref p) H)) := fun nt g' => by
    cases h1 : seqOf hp d with
    | none => rw [h1] at g'; exact g'.elim
    | some xs =>
      rw [h1] at g'
      obtain ⟨p, ws, rfl, s, rl⟩ := lstOf_of nt r q1 h1
      exact ⟨p, ws, rfl, .inl ⟨s, new_tup r rl g'⟩⟩
  cases d with
  | tup ys =>
    have q2 := q1
    obtain ⟨a, ws, rfl, t, rl⟩ := q1.tup_inv
    exact ⟨a, ws, rfl, .inr ⟨t.sq, g.here r q2⟩⟩
  | _ => exact low (by intro z h; cases h) g
def gStr : Fn := gOne fun d hp => match d with
  | .int i => if i.natAbs < 2 ^ 1000 then .ok (.str (toString i : String)) hp else .bad
  | _ => .bad
def gInt : Fn := gOne fun d hp => match d with
  | .int i => .ok (.int i) hp
  | .bl b => .ok (.int (if b then 1 else 0)) hp
  | .str a => match PySem.intText? a with
    | some n => if a.length ≤ 640 then .ok (.int n) hp else .bad
    | none => .bad
  | _ => .bad
theorem cg_int : CallG K mg (fun xs H Q => ((∃ i, xs = [.int i] ∧ Q (.int i) H) ∨ ∃ k, xs = [.bl k] ∧ Q (.int (if k then 1 else 0)) H) ∨ ∃ a n, xs = [.str a] ∧ PySem.intText? a = some n ∧ a.length ≤ 640 ∧ Q (.int n) H) gInt := fun W σ A H hp vs ds Q r q g => by
  obtain ⟨x, d, rfl, rfl, q1, g⟩ := one_of q g
  cases d with
  | int i => exact .inl (.inl ⟨i, by rw [q1.int_inv], g.here r (.int _)⟩)
  | bl b => exact .inl (.inr ⟨b, by rw [q1.bl_inv], g.here r (.int _)⟩)
  | str a =>
    simp only at g
    cases h : PySem.intText? a with
    | none => rw [h] at g; exact g.elim
    | some n =>
      rw [h] at g
      simp only at g
      by_cases hz : a.length ≤ 640
      · rw [if_pos hz] at g
        exact .inr ⟨a, n, by rw [q1.str_inv], h, hz, g.here r (.int _)⟩
      · rw [if_neg hz] at g; exact g.elim
  | _ => exact g.elim
def gMin2 : Fn := fun ds hp => match ds with
  | [.int i, .int j] => .ok (.int (if j < i then j else i)) hp
  | _ => .bad
def gMax2 : Fn := fun ds hp => match ds with
  | [.int i, .int j] => .ok (.int (if j > i then j else i)) hp
  | _ => .bad
theorem cg_min2 : CallG K mg (fun xs H Q => ∃ i j, xs = [.int i, .int j] ∧ Q (.int (if j < i then j else i)) H) gMin2 := fun W σ A H hp vs ds Q r q g => by
  unfold gMin2 at g
  split at g
  · rename_i i j
    exact ⟨i, j, rpl_ints (ns := [i, j]) q, g.here r (.int _)⟩
  · exact g.elim
theorem cg_max2 : CallG K mg (fun xs H Q => ∃ i j, xs = [.int i, .int j] ∧ Q (.int (if j > i then j else i)) H) gMax2 := fun W σ A H hp vs ds Q r q g => by
  unfold gMax2 at g
  split at g
  · rename_i i j
    exact ⟨i, j, rpl_ints (ns := [i, j]) q, g.here r (.int _)⟩
  · exact g.elim
/-- truth values -/
def blsOf : List D → Option (List Bool)
  | [] => some []
  | .bl b :: r => (blsOf r).map (b :: ·)
  | _ => none
theorem blsOf_rp : ∀ {ds : List D} {vs : List V} {bs : List Bool}, RpL K A H vs ds → blsOf ds = some bs → vs = bs.map V.bl
  | [], _, bs, .nil, h => by simp [blsOf] at h; subst h; rfl
  | d :: r, _, bs, .cons q qs, h => by
    cases d with
    | bl b =>
      simp only [blsOf] at h
      cases h1 : blsOf r with
      | none => rw [h1] at h; cases h
      | some bs' =>
        rw [h1] at h
        simp only [Option.map_some, Option.some.injEq] at h
        subst h
        rw [q.bl_inv, blsOf_rp qs h1]; rfl
    | _ => cases h
def gBls (f : List Bool → Bool) : Fn := gOne fun d hp => match lstOf hp d with
  | some ds => match blsOf ds with
    | some bs => .ok (.bl (f bs)) hp
    | none => .bad
  | none => .bad
theorem cg_bls {f : List Bool → Bool} : CallG K mg (fun vs H Q => ∃ (a : Addr) (bs : List Bool), vs = [V.ref a] ∧ SqL K H a (bs.map V.bl) ∧ Q (.bl (f bs)) H) (gBls f) := fun W σ A H hp vs ds Q r q g => by
  obtain ⟨x, d, rfl, rfl, q1, g⟩ := one_of q g
  cases h : lstOf hp d with
  | none => rw [h] at g; exact g.elim
  | some ds =>
    rw [h] at g
    simp only at g
    cases h2 : blsOf ds with
    | none => rw [h2] at g; exact g.elim
    | some bs =>
      rw [h2] at g
      obtain ⟨p, ws, rfl, s, rl⟩ := lstOf_rp r q1 h
      have := blsOf_rp rl h2
      subst this
      exact ⟨p, bs, rfl, SqL.of s, g.here r (.bl _)⟩

/-! ### texts -/
def strsOf : List D → Option (List Str)
  | [] => some []
  | .str b :: r => (strsOf r).map (b :: ·)
  | _ => none
theorem strsOf_rp : ∀ {ds : List D} {vs : List V} {bs : List Str}, RpL K A H vs ds → strsOf ds = some bs → vs = bs.map V.str
  | [], _, bs, .nil, h => by simp [strsOf] at h; subst h; rfl
  | d :: r, _, bs, .cons q qs, h => by
    cases d with
    | str b =>
      simp only [strsOf] at h
      cases h1 : strsOf r with
      | none => rw [h1] at h; cases h
      | some bs' =>
        rw [h1] at h
        simp only [Option.map_some, Option.some.injEq] at h
        subst h
        rw [q.str_inv, strsOf_rp qs h1]; rfl
    | _ => cases h
theorem strs_rpl : ∀ {ss : List Str}, RpL K A H (ss.map V.str) (ss.map D.str)
  | [] => .nil
  | s :: r => .cons (.str s) strs_rpl
/-- o.m(e) of a text -/
def eM1 (g : D → D → HM → O D) (fo fe : EM) : EM := fun loc hp => (fo loc hp).bind fun x hp1 => match x with
  | .str a => (fe loc hp1).bind fun y hp2 => g (.str a) y hp2
  | _ => .bad
def MtG (K : PySem.W.Frag) (mg : Str → Option Value) (r : V → List V → Hp → VK → Prop) (g : D → D → HM → O D) : Prop :=
  ∀ (W : WX) (σ : L2.St) (A : List Addr) (H : Hp) (hp : HM) (v1 v2 : V) (d1 d2 : D) (Q : VK), HRel K mg A H hp → Rp K A H v1 d1 → Rp K A H v2 d2 → Good K mg W σ (Rp K) A H (g d1 d2 hp) Q → r v1 [v2] H Q
theorem m1_w {r : V → List V → Hp → VK → Prop} {g : D → D → HM → O D} {fo fe : EM} (hg : MtG K mg r g) : ∀ σ H Q, tG K mg W (Rp K) (eM1 g fo fe) σ H Q → tM1 r (tG K mg W (Rp K) fo) (tG K mg W (Rp K) fe) σ H Q := by
  rintro σ H Q ⟨A, loc, hp, hr, hl, hq⟩
  refine ⟨A, loc, hp, hr, hl, (Good.bind (R := Rp K) hq).mono ?_⟩
  rintro v1 H1 ⟨A1, hp1, d1, e1, r1, q1, g1⟩
  cases d1 with
  | str a =>
    refine ⟨⟨a, q1.str_inv⟩, A1, loc, hp1, r1, hl.ext e1, (Good.bind (R := Rp K) g1).mono ?_⟩
    rintro v2 H2 ⟨A2, hp2, d2, e2, r2, q2, g2⟩
    exact hg W σ A2 H2 hp2 v1 v2 _ d2 Q r2 (q1.ext e2) q2 g2
  | _ => exact g1.elim
def gSplit : D → D → HM → O D := fun x y hp => match x, y with
  | .str a, .str b => if (b.length == 0) = false ∧ a.length ≤ big then .ok (.lst ((Txt.split a b).map .str)) hp else .bad
  | _, _ => .bad
theorem mg_split : MtG K mg (fun x xs H Q => ∃ a b, x = .str a ∧ xs = [.str b] ∧ (b.length == 0) = false ∧ a.length + 2 ≤ sizeLine ∧ rNewStrs (Txt.split a b) H Q) gSplit := fun W σ A H hp v1 v2 d1 d2 Q r q1 q2 g => by
  cases d1 with
  | str a =>
    cases d2 with
    | str b =>
      simp only [gSplit] at g
      by_cases hz : (b.length == 0) = false ∧ a.length ≤ big
      · rw [if_pos hz] at g
        refine ⟨a, b, q1.str_inv, by rw [q2.str_inv], hz.1, ?_, new_lst r strs_rpl g⟩
        have := hz.2
        have e : sizeLine = 16777216 := sizeLine_eq
        simp only [big] at this
        omega
      · rw [if_neg hz] at g; exact g.elim
    | _ => exact g.elim
  | _ => exact g.elim
def gPart : D → D → HM → O D := fun x y hp => match x, y with
  | .str a, .str b => if (b.length == 0) = false ∧ a.length ≤ big then .ok (.tup [.str (Txt.partition a b).1, .str (Txt.partition a b).2.1, .str (Txt.partition a b).2.2]) hp else .bad
  | _, _ => .bad
theorem mg_part : MtG K mg (fun x xs H Q => ∃ a b, x = .str a ∧ xs = [.str b] ∧ (b.length == 0) = false ∧ a.length ≤ sizeLine ∧
    ∀ p, H p = none → Q (.ref p) (upd H p (.tup [.str (Txt.partition a b).1, .str (Txt.partition a b).2.1, .str (Txt.partition a b).2.2]))) gPart := fun W σ A H hp v1 v2 d1 d2 Q r q1 q2 g => by
  cases d1 with
  | str a =>
    cases d2 with
    | str b =>
      simp only [gPart] at g
      by_cases hz : (b.length == 0) = false ∧ a.length ≤ big
      · rw [if_pos hz] at g
        exact ⟨a, b, q1.str_inv, by rw [q2.str_inv], hz.1, big_line hz.2, new_tup r (.cons (.str _) (.cons (.str _) (.cons (.str _) .nil))) g⟩
      · rw [if_neg hz] at g; exact g.elim
    | _ => exact g.elim
  | _ => exact g.elim
def gJoin : D → D → HM → O D := fun x y hp => match x with
  | .str a => match seqOf hp y with
    | some ds => match strsOf ds with
      | some ss => if (ss.map (·.length)).sum + ss.length * a.length ≤ big then .ok (.str (Txt.join a ss)) hp else .bad
      | none => .bad
    | none => .bad
  | _ => .bad
theorem mg_join : MtG K mg (fun x xs H Q => ∃ a p, ∃ ys : List Str, x = .str a ∧ xs = [.ref p] ∧ (SqL K H p (ys.map V.str) ∨ SqT K H p (ys.map V.str)) ∧
    (ys.map (·.length)).sum + ys.length * a.length ≤ 16777216 ∧ Q (.str (Txt.join a ys)) H) gJoin := fun W σ A H hp v1 v2 d1 d2 Q r q1 q2 g => by
  cases d1 with
  | str a =>
    simp only [gJoin] at g
    cases h : seqOf hp d2 with
    | none => rw [h] at g; exact g.elim
    | some ds =>
      rw [h] at g
      simp only at g
      cases h2 : strsOf ds with
      | none => rw [h2] at g; exact g.elim
      | some ss =>
        rw [h2] at g
        simp only at g
        by_cases hz : (ss.map (·.length)).sum + ss.length * a.length ≤ big
        · rw [if_pos hz] at g
          obtain ⟨p, ws, rfl, s, rl⟩ := seqOf_rp r q2 h
          have := strsOf_rp rl h2
          subst this
          exact ⟨a, p, ss, q1.str_inv, rfl, s, Nat.le_trans hz (by decide), g.here r (.str _)⟩
        · rw [if_neg hz] at g; exact g.elim
  | _ => exact g.elim
section
variable {X : Cx} {W : WX} {e o : PySem.Expr} {es : List PySem.Expr} {pos : Pos} {fe fo : EM}
theorem se_split {apos : Pos} (ho : SE X W o fo) (he : SE X W e fe) (hs : starEach [e] X.env = [(false, eval e X.env)] := by rfl) (hbase : attributeBase o "split" X.env (eval o X.env) = eval o X.env := by rfl) (hline : (apos.endLine == pos.line) = true := by rfl) :
    SE X W (.Call (.Attribute o "split" apos) [e] [] pos) (eM1 gSplit fo fe) := (pe_split ho he hs hbase hline).weak (m1_w mg_split)
theorem se_part {apos : Pos} (ho : SE X W o fo) (he : SE X W e fe) (hs : starEach [e] X.env = [(false, eval e X.env)] := by rfl) (hbase : attributeBase o "partition" X.env (eval o X.env) = eval o X.env := by rfl) (hline : (apos.endLine == pos.line) = true := by rfl) :
    SE X W (.Call (.Attribute o "partition" apos) [e] [] pos) (eM1 gPart fo fe) := (pe_partition ho he hs hbase hline).weak (m1_w mg_part)
theorem se_join {apos : Pos} (ho : SE X W o fo) (he : SE X W e fe) (hs : starEach [e] X.env = [(false, eval e X.env)] := by rfl) (hbase : attributeBase o "join" X.env (eval o X.env) = eval o X.env := by rfl) (hline : (apos.endLine == pos.line) = true := by rfl) :
    SE X W (.Call (.Attribute o "join" apos) [e] [] pos) (eM1 gJoin fo fe) := (pe_join ho he hs hbase hline).weak (m1_w mg_join)

/-! ### append, extend -/
def eAppend (fo fe : EM) : EM := fun loc hp => (fo loc hp).bind fun x hp1 => match x with
  | .ref n => match hp1[n]? with
    | some (.lst _) => (fe loc hp1).bind fun y hp2 => match hp2[n]? with
      | some (.lst ds) => if ds.length < big then .ok .non (hp2.set n (.lst (ds ++ [y]))) else .bad
      | _ => .bad
    | _ => .bad
  | _ => .bad
theorem se_append {apos : Pos} (ho : SE X W o fo) (he : SE X W e fe)
    (hbase : attributeBase o "append" X.env (eval o X.env) = eval o X.env := by rfl)
    (hfew : ((backTo pos (starEach [e] X.env)).all (fun x => !x.1) && (backToKw pos (keywordEach [] X.env)).all (fun x => x.1.isSome)
      && decide ([e].length + ([] : List Keyword).length + (if ([] : List Keyword).isEmpty then 0 else 1) < 30)) = true := by rfl)
    (hline : (apos.endLine == pos.line) = true := by rfl) (hs : starEach [e] X.env = (false, eval e X.env) :: starEach [] X.env := by rfl) (hplain : (backTo pos (starEach [] X.env)).any (·.1) = false := by rfl) :
    SE X W (.Call (.Attribute o "append" apos) [e] [] pos) (eAppend fo fe) :=
  (pe_bm PySem.F.plainAttrs_list PySem.F.slot_list_append PySem.F.type_list_append mt_append ho (pa_cons he pa_nil hs) hbase hfew hline hs hplain).weak fun σ H Q ⟨A, loc, hp, r, hl, q⟩ => by
  refine ⟨A, loc, hp, r, hl, (Good.bind (R := Rp X.K) q).mono ?_⟩
  rintro v1 H1 ⟨A1, hp1, d1, e1, r1, q1, g1⟩
  cases d1 with
  | ref n =>
    obtain ⟨a, rfl, ha⟩ := q1.ref_inv
    have hl1 : n < hp1.length := by rw [← r1.len]; exact (List.getElem?_eq_some_iff.mp ha).1
    simp only at g1
    cases hm : hp1[n]? with
    | none => rw [hm] at g1; exact g1.elim
    | some mo =>
      cases mo with
      | lst ds0 =>
        rw [hm] at g1
        obtain ⟨vs0, h0, _⟩ := r1.ob n _ a hm ha
        refine ⟨.inl ⟨rfl, vs0, SqL.of h0⟩, A1, loc, hp1, r1, hl.ext e1, (Good.bind (R := Rp X.K) g1).mono ?_⟩
        rintro v2 H2 ⟨A2, hp2, d2, e2, r2, q2, g2⟩
        have ha2 := e2.at ha
        cases hm2 : hp2[n]? with
        | none => rw [hm2] at g2; exact g2.elim
        | some mo2 =>
          cases mo2 with
          | lst ds =>
            rw [hm2] at g2
            simp only at g2
            by_cases hz : ds.length < big
            · rw [if_pos hz] at g2
              obtain ⟨vs, h2, rl⟩ := r2.ob n _ a hm2 ha2
              refine ⟨a, vs, v2, rfl, rfl, h2, by rw [rl.length]; exact Nat.lt_of_lt_of_le hz (by decide), ?_⟩
              obtain ⟨e4, r4⟩ := r2.write (o := .lst (vs ++ [v2])) (mo := .lst (ds ++ [d2])) ha2 fun e4 => ⟨_, upd_same, RpL.append (rl.ext e4) (.cons (q2.ext e4) .nil)⟩
              exact g2 A2 _ .non e4 r4 .non
            · rw [if_neg hz] at g2; exact g2.elim
          | ins c fs => rw [hm2] at g2; exact g2.elim
      | ins c fs => rw [hm] at g1; exact g1.elim
  | _ => exact g1.elim

/-! ### isinstance of a built-in type -/
end
end
end Ms

/-! A list comprehension out of which an exception may fly. -/
namespace Ms
open PySem L2 PySem.Spec PyProof.Rows

/-- an exception in the air of X, which has passed the frame L at most -/
def Air (X : Cx) (L : Addr) (W : WX) (u : Value) (s' : Shared) : Prop :=
  ∃ (a : Addr) (B : Heap) (t : Shared) (pins : List (Addr × Obj)) (σ : L2.St) (H : Hp) (cls : Value) (d : Option Addr), u = .ref a ∧ Inv X pins σ H t ∧
    (∀ b o, t.heap.get? b = some o → b ∉ frs X.stack → B.get? b = some o) ∧ t.heap.UpToSlots s'.heap ∧
    (HandSPX.FlyingZ B X.stack a (Zc cls d) s'.heap ∨ HandSPX.HeldZ B X.stack a (Zc cls d) L s'.heap) ∧ H a = none ∧ s'.os = t.os ∧ AllBare s'.gens ∧ W cls d σ H
/-- what is in the air of X is wanted -/
def Tk (X : Cx) (W : WX) : Prop := ∃ L, X.env.frame = some L ∧ (∃ F r, X.stack = F :: r ∧ F.frame = some L) ∧ ∀ u s', Air X L W u s' → X.xe u s'
theorem Tk.of {X : Cx} {W : WX} (tk : Takes X W) (hs : X.stack = X.env :: X.outer) (hf : X.env.frame = some X.env.locals) : Tk X W :=
  ⟨X.env.locals, hf, ⟨_, _, hs, hf⟩, fun u s' ⟨a, B, t, pins, σ, H, cls, d, e, I, nb, up, sky, na, os, ag, w⟩ =>
    tk u s' ⟨a, B, t, pins, σ, H, cls, d, e, I, nb, up, .inr sky, na, os, ag, w⟩⟩
/-- .. out of a call -/
theorem Air.of_call {X : Cx} {L : Addr} {W : WX} {pins : List (Addr × Obj)} {σ : L2.St} {H : Hp} {s s' : Shared} {E : XK} (I : Inv X pins σ H s) (hW : ∀ c d H', E c d H' → W c d σ H') {u : Value} (c : L2.CX X.prog X.w X.stack H s E u s') : Air X L W u s' := by
  obtain ⟨a, B, H', cls, d, rfl, fly, hok, ub, na, os, ag, hE⟩ := c
  obtain ⟨G, gin, gout⟩ := restrict s'.heap fun b => (B.get? b).isSome || decide (b ∈ frs X.stack)
  have ofB : ∀ b o, B.get? b = some o → G.get? b = some o := fun b o e => (gin b (by simp [e])).trans (fly.1 b o e)
  have ofF : ∀ b, b ∈ frs X.stack → G.get? b = s'.heap.get? b := fun b hb => gin b (by simp [hb])
  have back : ∀ b o, G.get? b = some o → s'.heap.get? b = some o ∧ ((B.get? b).isSome = true ∨ b ∈ frs X.stack) := fun b o e => by
    by_cases q : ((B.get? b).isSome || decide (b ∈ frs X.stack)) = true
    · rw [gin b q] at e
      refine ⟨e, ?_⟩
      rcases Bool.or_eq_true _ _ |>.mp q with z | z
      · exact .inl z
      · exact .inr (of_decide_eq_true z)
    · rw [gout b (by simpa using q)] at e; cases e
  have J : Inv X pins σ H' { s with heap := G, gens := s'.gens, drawn := s'.drawn, toks := s'.toks } := by
    refine I.call (ch := []) (g' := s'.gens) (t' := s'.toks) (d' := s'.drawn) ⟨?_, ?_, ?_, ?_, ub.tups, ub.frzs, ub.tbls⟩ (hok.kept ofB) ag (fun _ z => nomatch z)
    · exact fun b o e n hb _ => ofB b o (ub.keep b o e n hb)
    · intro b o e n hb _
      obtain ⟨sl, q⟩ := ub.slot b o e hb
      exact ⟨sl, (ofF b hb).trans q⟩
    · exact fun b o e n _ => ub.free b o e n
    · intro b o e _
      by_cases hb : b ∈ frs X.stack
      · obtain ⟨sl, q⟩ := ub.slot b o e hb
        exact ⟨_, (ofF b hb).trans q⟩
      · obtain ⟨o', q⟩ := ub.there b o e hb
        exact ⟨o', ofB b o' q⟩
  refine ⟨a, B, _, pins, σ, H', cls, d, rfl, J, ?_, Heap.UpToSlots.of_keeps fun b o e => (back b o e).1, .inl fly, na, os, ag, hW _ _ _ hE⟩
  intro b o e hb
  obtain ⟨e', q | q⟩ := back b o e
  · obtain ⟨o', q⟩ := Option.isSome_iff_exists.mp q
    have z := fly.1 b o' q
    rw [e'] at z; cases z
    exact q
  · exact absurd q hb
theorem passTk {X : Cx} {W : WX} (tk : Tk X W) (σ : L2.St) : PassesAt (L2.CX X.prog X.w) X σ (WE W σ) := fun _ _ _ e s' I c => by
  obtain ⟨L, _, _, k⟩ := tk
  exact k e s' (Air.of_call I (fun _ _ _ h => h) c)

/-- the block of a comprehension, with a wish about exceptions -/
abbrev blkX (X : Cx) (s : Shared) (H : Hp) (scope : Scope) (cenv : Env) (fp : List Addr) (E : Value → Shared → Prop) : Cx := { X.blk s H scope cenv fp with xe := E }
/-- what the block wishes: what its def wishes at its slots -/
abbrev WB (W : WX) (σ : L2.St) : WX := fun c d _ H => W c d σ H
theorem compFrame {scope : Scope} {cl : List (Str × Addr)} {C : Addr} {env : Env} : (compEnvC scope cl C env).frame = env.frame := rfl

section
variable {X : Cx} {W : WX}
/-- out of the block into the def's own air -/
theorem air_out {pins : List (Addr × Obj)} {σ : L2.St} {H3 : Hp} {s3 : Shared} {scope : Scope} {ce : Env} {fp : List Addr} {L C : Addr} {Qf : Value → Shared → Prop} {use : Option (Value → Sem Unit)} {D : Addr}
    (I3 : Inv X pins σ H3 s3) (hfp : ∀ b ∈ fp, FpOk X pins H3 b ∧ b < s3.heap.objs.size) (hC : ce.locals = C) (hC2 : C = s3.heap.objs.size) (hf : ce.frame = some L) {F : Env} {r : List Env} (hs : X.stack = F :: r) (hF : F.frame = some L)
    (k : ∀ u s', Air X L W u s' → X.xe u s') : ∀ u s', Air (X.blk s3 H3 scope ce fp) L (WB W σ) u s' →
      notedBy (model X.prog X.w) X.A ce (fun e s' => compEnds (model X.prog X.w) X.A X.xe use Qf (.ref D) ce (.error e) s') u s' := by
  rintro u s' ⟨a, B, t, pins', σ', H', cls, d, rfl, J, nb, up, sky, na, os, ag, w⟩
  have hfr : X.A.frames = some (F :: r) := by rw [I3.ok.frames, hs]
  have sky : HandSPX.FlyingZ B (F :: r) a (Zc cls d) s'.heap ∨ HandSPX.HeldZ B (F :: r) a (Zc cls d) L s'.heap := by rw [← hs]; exact sky
  have nb : ∀ b o, t.heap.get? b = some o → b ∉ frs X.stack → B.get? b = some o := nb
  have notC : ∀ b o, s3.heap.get? b = some o → b ≠ C := fun b o e z => by
    rw [z, hC2] at e
    exact absurd (Heap.lt_size e) (Nat.lt_irrefl _)
  have HC : H' C = none := by
    have z : H' ce.locals = none := J.free
    rw [hC] at z; exact z
  obtain ⟨m, hn, _⟩ := J.loc
  have hn : t.heap.Ns C m := by
    have z : t.heap.Ns ce.locals m := hn
    rw [hC] at z; exact z
  have CnF : C ∉ frs X.stack := fun hb => by
    obtain ⟨_, o, ho, _⟩ := I3.stack.mem hb
    exact notC C o ho rfl
  -- what goes on from a held exception
  have go : ∀ h1, HandSPX.HeldZ B (F :: r) a (Zc cls d) L h1 → t.heap.UpToSlots h1 → compEnds (model X.prog X.w) X.A X.xe use Qf (.ref D) ce (.error (.ref a)) { s' with heap := h1 } := by
    intro h1 hh up1
    show CompFails (model X.prog X.w) X.A X.xe ce (.ref a) { s' with heap := h1 }
    refine ⟨m, ?_, fun h2 m2 hn2 sb => ?_⟩
    · rw [hC]
      obtain ⟨oC, es, ep, e1, e2, e3⟩ := hn
      obtain ⟨sl, e4⟩ := up1 C oC e1 fun vs q => by rw [e2] at q; cases q
      exact ⟨_, es, ep, e4, e2, e3⟩
    rw [hC] at hn2 sb
    obtain ⟨b1, b0, f1, oe, vs, T, oT, ts, he, hz, hd, h1', hnT, hTe, hT, hdT, h3⟩ := hh
    -- the ground without the block's own dict
    have hid : ∀ b o, (PySem.W.hideAll B [C]).get? b = some o → B.get? b = some o ∧ b ≠ C := fun b o e => ⟨PySem.W.of_hideAll _ e, fun z => by
      rw [z, PySem.W.hideAll_none [C] (by simp)] at e; cases e⟩
    have aC : a ≠ C := fun z => by
      obtain ⟨oC, es, ep, e1, e2, _⟩ := hn
      obtain ⟨sl, e4⟩ := up1 C oC e1 fun vs q => by rw [e2] at q; cases q
      rw [z, e4] at he; cases he
      rw [show ({ oC with slots := sl } : Obj).data = oC.data from rfl, e2] at hd; cases hd
    have TC : T ≠ C := fun z => by
      obtain ⟨oC, es, ep, e1, e2, _⟩ := hn
      obtain ⟨sl, e4⟩ := up1 C oC e1 fun vs q => by rw [e2] at q; cases q
      rw [z, e4] at hT; cases hT
      rw [show ({ oC with slots := sl } : Obj).data = oC.data from rfl, e2] at hdT; cases hdT
    have nn : ∀ b, B.get? b = none → (PySem.W.hideAll B [C]).get? b = none := fun b e => by
      cases q : (PySem.W.hideAll B [C]).get? b with
      | none => rfl
      | some o => rw [(hid b o q).1] at e; cases e
    have he2 : h2.get? a = some oe := (sb.2 a aC).trans he
    have hT2 : h2.get? T = some oT := (sb.2 T TC).trans hT
    have st2 : (PySem.W.hideAll B [C]).StaysIn h2 := fun b o e => (sb.2 b (hid b o e).2).trans (b1 b o (hid b o e).1)
    have fr2 : h2.FunFrames (PySem.W.hideAll B [C]) (F :: r) := funFrames_none (Heap.FunFrames.sameBut sb hn2 f1) fun b hb => by
      obtain ⟨q1, _⟩ := f1.mem hb
      exact nn b q1
    have held2 : HandSPX.HeldZ (PySem.W.hideAll B [C]) (F :: r) a (Zc cls d) L h2 := ⟨st2, nn a b0, fr2, oe, vs, T, oT, ts, he2, hz, hd, h1', nn T hnT, hTe, hT2, hdT, h3⟩
    -- the state without the exception and without the block's dict
    have keepT : ∀ b o, t.heap.get? b = some o → b ≠ C → (PySem.W.hideAll t.heap [C]).get? b = some o := fun b o e n => PySem.W.hideAll_get _ e (by simpa using n)
    have ofT : ∀ b o, (PySem.W.hideAll t.heap [C]).get? b = some o → t.heap.get? b = some o ∧ b ≠ C := fun b o e => ⟨PySem.W.of_hideAll _ e, fun z => by
      rw [z, PySem.W.hideAll_none [C] (by simp)] at e; cases e⟩
    have base : Un (frs X.stack) fp H3 H' s3.heap t.heap := J.base
    have hokT : HOk X.prog X.w H' (PySem.W.hideAll t.heap [C]) := fun b o q => (J.hok b o q).stay (fun c u hc e => keepT c u e fun z => by
      rw [z] at hc
      rcases hc with hc | hc
      · rw [← hc, HC] at q; cases q
      · rw [HC] at hc; cases hc) (fun _ q => q) fun _ _ q => q
    have J2 : Inv X pins σ H' { t with heap := PySem.W.hideAll t.heap [C] } := by
      refine I3.call' (ch := fp) J.os ⟨?_, ?_, base.free, ?_, base.tups, base.frzs, base.tbls⟩ hokT J.bare fun b hb => ?_
      · exact fun b o e n h1 h2 => keepT b o (base.keep b o e n h1 h2) (notC b o e)
      · intro b o e n h1 h2
        obtain ⟨sl, q⟩ := base.slot b o e n h1 h2
        exact ⟨sl, keepT b _ q (notC b o e)⟩
      · intro b o e h2
        obtain ⟨o', q⟩ := base.there b o e h2
        exact ⟨o', keepT b o' q (notC b o e)⟩
      · exact ⟨(hfp b hb).1.2.2.2.1, (hfp b hb).1.2.1, (hfp b hb).1.2.2.2.2.1, (hfp b hb).1.2.2.2.2.2⟩
    unfold PySem.passOn
    refine wpAny_bind (wpAny_field he2 hd h1' ?_)
    rw [if_neg (show ¬ ((Value.ref T == Value.none) = true) from by simp)]
    rw [hf]
    have fin : wpAny (model X.prog X.w) X.A (setFlight (.ref a) (some L)) (fun _ s4 => wpAny (model X.prog X.w) X.A (throw (.ref a) : Sem Value) (fun _ _ => False) X.xe s4) X.xe { s' with heap := h2 } := by
      refine HandSPX.setFlight_onZ held2 fun h4 hh4 up4 => wpAny_throw (k _ _ ?_)
      refine ⟨a, PySem.W.hideAll B [C], _, pins, σ, H', cls, d, rfl, J2, fun b o e hb => ?_, fun b o e hnf => ?_, .inr (by rw [hs]; exact hh4), na, os, ag, w⟩
      · obtain ⟨e1, nC⟩ := ofT b o e
        exact PySem.W.hideAll_get _ (nb b o e1 hb) (by simpa using nC)
      · obtain ⟨e1, nC⟩ := ofT b o e
        obtain ⟨sl, e2⟩ := up1 b o e1 hnf
        obtain ⟨sl2, e3⟩ := up4 b _ ((sb.2 b nC).trans e2) hnf
        exact ⟨sl2, e3⟩
    first
      | exact wpAny_bind (wpAny_pure (wpAny_bind fin))
      | exact wpAny_bind fin
  show wpAny _ _ (noteFrame (.ref a) ce) _ _ s'
  rw [noteFrame_env (.ref a) (hf.trans hF.symm : ce.frame = F.frame)]
  rcases sky with fl | hh
  · exact HandSPX.looks_onZ Zc.steady hfr hF fl fun h1 hh1 up1 => go h1 hh1 (up.trans up1)
  · exact HandSPX.againZ hF hh.2.2.2 (go s'.heap hh up)
end
end Ms

namespace Ms
open PySem L2 PySem.Spec PyProof.Rows
section
variable {X : Cx}
theorem Inv.toX {s s0 : Shared} {H H0 : Hp} {scope : Scope} {ce : Env} {fp : List Addr} {E : Value → Shared → Prop} {pins : List (Addr × Obj)} {σ : L2.St} (I : Inv (X.blk s0 H0 scope ce fp) pins σ H s) : Inv (blkX X s0 H0 scope ce fp E) pins σ H s := I.wish E
theorem Inv.ofX {s s0 : Shared} {H H0 : Hp} {scope : Scope} {ce : Env} {fp : List Addr} {E : Value → Shared → Prop} {pins : List (Addr × Obj)} {σ : L2.St} (I : Inv (blkX X s0 H0 scope ce fp E) pins σ H s) : Inv (X.blk s0 H0 scope ce fp) pins σ H s :=
  Inv.unwish (X := X.blk s0 H0 scope ce fp) I
/-- an own object that was not tracked is tracked -/
theorem Inv.trackd {pins : List (Addr × Obj)} {σ : L2.St} {H : Hp} {s : Shared} {a : Addr} {o : HO} (I : Inv X pins σ H s) (f : FpOk X pins H a) (new : ObjOk X.prog X.w (upd H a o) s.heap a o) : Inv X pins σ (upd H a o) s := by
  obtain ⟨f0, f1, f2, f3, f4, f5⟩ := f
  refine I.step (ch := [a]) (g' := s.gens) (t' := s.toks) (d' := s.drawn) (h' := s.heap) (fun b hb => ?_) (fun b u _ _ _ e _ => e) (fun b u _ _ _ e _ => ⟨u.slots, e⟩) (fun b u hb _ n => ?_) (fun b u _ e => ⟨u, e⟩) (fun b xs e => ?_) (fun b u xs e => ?_)
    (fun b ps e => ⟨#[], ?_⟩) (fun m h => h) (fun b u e => ?_) I.bare
  · have z : b = a := by simpa using hb
    subst z
    exact ⟨f3, f1, f4, f5⟩
  · rw [upd_ne (by simpa using hb)]; exact n
  · rw [upd_ne (ne_of_none e f0)]; exact e
  · rw [upd_ne (ne_of_none e f0)]; exact e
  · rw [upd_ne (ne_of_none e f0), e]; simp
  · by_cases hb : b = a
    · subst hb; rw [upd_same] at e; cases e; exact new
    · rw [upd_ne hb] at e
      exact (I.hok b u e).stay (fun c v _ q => q) (fun c q => by rw [upd_ne (ne_of_none q f0)]; exact q) fun c xs q => by rw [upd_ne (ne_of_none q f0)]; exact q
/-- [elt for tg in iter if ..], whose test and element may raise; the list so far is told by its items -/
def tLcX (wi : TI) (g : TG) (tt : L2.St → TT) (te : L2.St → TE) (vs : List Nat) : TE := fun σ H Q => wi σ H fun J H1 => ∃ V : Nat → Nat → List L2.V → Hp → Prop, (∃ m, V 0 m [] H1) ∧ ∀ i m acc H2, V i m acc H2 →
  (J.stop i H2 ∧ acc.length ≤ sizeLine ∧ ∀ D, H2 D = none → Q (.ref D) (upd H2 D (.lst acc))) ∨ (J.go i H2 ∧ ∃ N : List L2.V → Hp → Prop, (∀ a H', N a H' → ∃ m', m' < m ∧ V (i + 1) m' a H') ∧ ∀ x H', J.yld i H2 x H' → g x (wipe σ vs) H' fun σ2 H3 => wipe σ2 vs = wipe σ vs ∧
    tt σ σ2 H3 fun b H4 => if b = true then te σ σ2 H4 fun y H5 => acc.length < sizeLine ∧ N (acc ++ [y]) H5 else N acc H4)
theorem lc_x {W : WX} {pins : List (Addr × Obj)} {s : Shared} {σ : L2.St} {H : Hp} {Q : VK} {elt tg iter : PySem.Expr} {ifs : List PySem.Expr} {scope : Scope} {own : List (Str × Nat)} {pos pos' : Pos} {wi : TI} {g : TG} {tt : L2.St → TT} {te : L2.St → TE} {use : Option (Value → Sem Unit)} {Qf : Value → Shared → Prop}
    (hc : X.calm = true) (hN : X.N.Nodup) (I : Inv X pins σ H s) (hi : PI X tg iter wi) (ok : BlkOk X.N X.env.scope scope own) (tk : Tk X W)
    (hg : ∀ (s : Shared) (H : Hp) (C : Addr) (cl : List (Str × Addr)) (fp : List Addr) (E : Value → Shared → Prop), PG (blkX X s H scope (compEnvC scope cl C X.env) fp E) tg g)
    (ht : ∀ (σ0 : L2.St) (s : Shared) (H : Hp) (C : Addr) (cl : List (Str × Addr)) (fp : List Addr) (E : Value → Shared → Prop), Tk (blkX X s H scope (compEnvC scope cl C X.env) fp E) (WB W σ0) → PTs (blkX X s H scope (compEnvC scope cl C X.env) fp E) ifs (tt σ0))
    (he : ∀ (σ0 : L2.St) (s : Shared) (H : Hp) (C : Addr) (cl : List (Str × Addr)) (fp : List Addr) (E : Value → Shared → Prop), Tk (blkX X s H scope (compEnvC scope cl C X.env) fp E) (WB W σ0) → PE (blkX X s H scope (compEnvC scope cl C X.env) fp E) elt (te σ0))
    (hs : ∀ x, foldedSetIterable iter X.env x = pure x) (h : tLcX wi g tt te (own.map (·.2)) σ H Q)
    (hRR : ∀ D s' m H' (ce : Env), Inv X pins σ H' s' → Q (.ref D) H' → s'.heap.Ns ce.locals m → FpOk X pins H' ce.locals → compEnds (model X.prog X.w) X.A X.xe use Qf (.ref D) ce (.ok .next) s') :
    wpAny (model X.prog X.w) X.A (comprehension (.ListComp elt [⟨tg, iter, ifs, 0⟩] scope pos) scope X.env pos' (newList []) false (eval iter X.env) use) Qf X.xe s := by
  obtain ⟨L, hfL, ⟨F, rr, hsF, hFL⟩, kA⟩ := tk
  have cells : ∀ y ∈ scope.names, y.2 = .free → ∃ c, X.env.cells.lookup y.1 = some c := fun y hy e => by
    rcases ok.free y hy e with k | k
    · exact I.ok.has _ (.inl k)
    · exact I.ok.has _ (.inr k)
  refine comprehension_at (use := use) rfl hs (closure_ok cells) ok.kind (fun y hy e => by rw [ok.uniq y hy, e]) (thn (hi.run pins s σ H _ I h) fun v1 s1 h1 => thn h1 fun v2 s2 h2 => ?_)
  obtain ⟨it, fp, tn, J, H2, rfl, I2, T, st2, f2, q⟩ := h2
  refine wpAny_newObj_type (newEnv_comp ?_) (Nat.zero_le _)
  obtain ⟨D, hD⟩ : ∃ D, s2.heap.objs.size = D := ⟨_, rfl⟩
  rw [hD]
  obtain ⟨V, ⟨m0, w0⟩, turn⟩ := q
  -- the new list stands, untracked
  obtain ⟨s3, hs3⟩ : ∃ s3 : Shared, ({ s2 with heap := s2.heap.push { cls := .type "list", data := .seq ([] : List Value).toArray } } : Shared) = s3 := ⟨_, rfl⟩
  rw [hs3]
  have heap3 : s3.heap = s2.heap.push { cls := .type "list", data := .seq ([] : List Value).toArray } := by rw [← hs3]
  have kept3 : ∀ b o, s2.heap.get? b = some o → s3.heap.get? b = some o := fun b o e => by rw [heap3]; exact Heap.get?_push_of_some _ e
  have I3 : Inv X pins σ H2 s3 := by
    rw [← hs3]
    exact I2.kept (t' := s2.toks) fun b o e => Heap.get?_push_of_some _ e
  have D3 : s3.heap.get? D = some { cls := .type "list", data := .seq ([] : List Value).toArray } := by
    rw [heap3, ← hD]
    exact Heap.get?_push_size _ rfl
  have D2 : H2 D = none := I2.hok.fresh (Nat.le_of_eq hD)
  have f3 : ∀ b ∈ D :: fp, FpOk X pins H2 b ∧ b < s3.heap.objs.size := fun b hb => by
    rcases List.mem_cons.mp hb with z | hb
    · rw [z]; exact ⟨I2.fpOk (Nat.le_of_eq hD) D2, Heap.lt_size D3⟩
    · obtain ⟨o, e, _⟩ := T.obj _ _ st2 b hb
      exact ⟨f2 b hb, Heap.lt_size (kept3 b o e)⟩
  have st3 : tn 0 s3.heap := T.keep _ _ _ st2 fun b _ o e => kept3 b o e
  -- the block's own state
  have I4 := block_start I3 ok hN f3
  obtain ⟨ce, hce⟩ : ∃ ce, compEnvC scope (cellsFrom (s3.heap.objs.size + 1) scope.names (cloFrom X.env.cells scope.names [])) s3.heap.objs.size X.env = ce := ⟨_, rfl⟩
  show codeAny _ _ (.compStart (.ListComp elt [⟨tg, iter, ifs, 0⟩] scope pos) 0 (.ref it) (.ref D) (compEnvC scope (cellsFrom (s3.heap.objs.size + 1) scope.names (cloFrom X.env.cells scope.names [])) s3.heap.objs.size X.env))
    (compEnds (model X.prog X.w) X.A X.xe use Qf (.ref D) (compEnvC scope (cellsFrom (s3.heap.objs.size + 1) scope.names (cloFrom X.env.cells scope.names [])) s3.heap.objs.size X.env)) { s3 with heap := pushCells (s3.heap.push { cls := .type "dict", data := .dict #[] }) scope.names }
  have hg' := hg s3 H2 s3.heap.objs.size (cellsFrom (s3.heap.objs.size + 1) scope.names (cloFrom X.env.cells scope.names [])) (D :: fp)
  have ht' := ht σ s3 H2 s3.heap.objs.size (cellsFrom (s3.heap.objs.size + 1) scope.names (cloFrom X.env.cells scope.names [])) (D :: fp)
  have he' := he σ s3 H2 s3.heap.objs.size (cellsFrom (s3.heap.objs.size + 1) scope.names (cloFrom X.env.cells scope.names [])) (D :: fp)
  have ceL : ce.locals = s3.heap.objs.size := by rw [← hce]; rfl
  have ceF : ce.frame = some L := by rw [← hce]; exact hfL
  rw [hce] at I4 hg' ht' he' ⊢
  obtain ⟨s4, hs4⟩ : ∃ s4 : Shared, ({ s3 with heap := pushCells (s3.heap.push { cls := .type "dict", data := .dict #[] }) scope.names } : Shared) = s4 := ⟨_, rfl⟩
  rw [hs4] at I4 ⊢
  have kept4 : ∀ b o, s3.heap.get? b = some o → s4.heap.get? b = some o := fun b o e => by rw [← hs4]; exact pushCells_keeps _ _ _ _ (Heap.get?_push_of_some _ e)
  have st4 : tn 0 s4.heap := T.keep _ _ _ st3 fun b _ o e => kept4 b o e
  have nfp : ∀ b ∈ D :: fp, H2 b = none := fun b hb => (f3 b hb).1.1
  -- its wish
  obtain ⟨E, hE⟩ : ∃ E : Value → Shared → Prop, (fun u s' => Air (X.blk s3 H2 scope ce (D :: fp)) L (WB W σ) u s') = E := ⟨_, rfl⟩
  have tkb : Tk (blkX X s3 H2 scope ce (D :: fp) E) (WB W σ) := ⟨L, ceF, ⟨F, rr, hsF, hFL⟩, fun u s' ⟨a, B, t, pins, σ', H', cls, d, e, J, r⟩ => by
    show E u s'
    rw [← hE]
    exact ⟨a, B, t, pins, σ', H', cls, d, e, Inv.ofX J, r⟩⟩
  have hg2 := hg' E
  have ht2 := ht' E tkb
  have he2 := he' E tkb
  have out : ∀ u s', E u s' → notedBy (model X.prog X.w) X.A ce (fun e s' => compEnds (model X.prog X.w) X.A X.xe use Qf (.ref D) ce (.error e) s') u s' := fun u s' x => by
    rw [← hE] at x
    exact air_out I3 f3 ceL rfl ceF hsF hFL kA u s' x
  have fpB : ∀ {σ' : L2.St} {H' : Hp} {s' : Shared}, Inv (X.blk s3 H2 scope ce (D :: fp)) [] σ' H' s' → (∀ b ∈ D :: fp, H' b = none) → ∀ b ∈ D :: fp, FpOk (X.blk s3 H2 scope ce (D :: fp)) [] H' b := fun {σ' H' s'} J hn b hb =>
    ⟨hn b hb, (J.ok.exf b hb).1, J.ok.exfs b hb, .inl hb, fun x c e => (J.ok.exf b hb).2 x c e, fun p hp => by cases hp⟩
  -- the list as it stands
  let At : Heap → List L2.V → Prop := fun h acc => ∃ (its : List Value) (n : Nat), Vals acc its ∧ h.get? D = some { cls := .type "list", data := .seq its.toArray n }
  have loop : codeAny (model X.prog X.w) X.A (.compLoop (.ListComp elt [⟨tg, iter, ifs, 0⟩] scope pos) 0 (.ref it) (.ref D) ce) (compEnds (model X.prog X.w) X.A X.xe use Qf (.ref D) ce) s4 := by
    refine compLoop_any (fun n s' => ∃ i H' acc, Inv (X.blk s3 H2 scope ce (D :: fp)) [] (wipe σ (own.map (·.2))) H' s' ∧ tn i s'.heap ∧ (∀ b ∈ D :: fp, H' b = none) ∧ At s'.heap acc ∧ V i n acc H') ?_ m0 ⟨0, H2, [], I4, st4, nfp, ⟨[], 0, .nil, kept4 D _ D3⟩, w0⟩
    rintro n s5 ⟨i, H5, acc, I5, st5, n5, a5, w5⟩
    have fpI : ∀ {H' : Hp}, (∀ b ∈ D :: fp, FpOk (X.blk s3 H2 scope ce (D :: fp)) [] H' b) → ∀ b ∈ fp, FpOk (X.blk s3 H2 scope ce (D :: fp)) [] H' b := fun h b hb => h b (List.mem_cons_of_mem _ hb)
    rcases turn i n acc H5 w5 with ⟨stop, hz, qq⟩ | ⟨go, N, hNx, step⟩
    · have I5p := I5.pinned (fp := [D]) (fun b hb => by rw [List.mem_singleton.mp hb]; exact fpB I5 n5 D (by simp)) (fun b hb => by
        rw [List.mem_singleton.mp hb]
        obtain ⟨its, k, _, e⟩ := a5
        exact ⟨_, e, fun v z => by cases z⟩)
      have fp5 : ∀ b ∈ fp, FpOk (X.blk s3 H2 scope ce (D :: fp)) ([] ++ pinsAt [D] s5.heap) H5 b := fun b hb => by
        obtain ⟨x0, x1, x2, x3, x4, x5⟩ := fpB I5 n5 b (List.mem_cons_of_mem _ hb)
        refine ⟨x0, x1, x2, x3, x4, fun p hp z => ?_⟩
        have hp' : p ∈ pinsAt [D] s5.heap := by simpa using hp
        have := (of_pinsAt hp').1
        rw [List.mem_singleton.mp this] at z
        obtain ⟨o, e, _⟩ := T.obj _ _ st2 b hb
        have lt := Heap.lt_size e
        rw [← z, ← hD] at lt
        exact absurd lt (Nat.lt_irrefl _)
      refine thnF (T.done (X.blk s3 H2 scope ce (D :: fp)) rfl rfl rfl hc i _ s5 _ H5 (fun _ _ => False) I5p fp5 st5 stop) fun rv s6 ⟨hr, I6⟩ => ?_
      subst hr
      have I7 : Inv X pins σ H5 s6 := I3.call' (ch := D :: fp) I6.os I6.base I6.hok I6.bare fun b hb => ⟨(f3 b hb).1.2.2.2.1, (f3 b hb).1.2.1, (f3 b hb).1.2.2.2.2.1, (f3 b hb).1.2.2.2.2.2⟩
      have nC : H5 ce.locals = none := I6.free
      obtain ⟨m, hn, _⟩ := I6.loc
      obtain ⟨its, k, rv, e⟩ := a5
      have eD : s6.heap.get? D = some { cls := .type "list", data := .seq its.toArray k } := (I6.pin (D, _) (List.mem_append_right _ (List.mem_append_right _ (mem_pinsAt (by simp) e)))).1
      have fD : FpOk X pins H5 D := ⟨n5 D (by simp), (f3 D (by simp)).1.2⟩
      have I8 : Inv X pins σ (upd H5 D (.lst acc)) s6 := Inv.trackd I7 fD ⟨hz, its, k, rv, eD⟩
      have nCD : ce.locals ≠ D := fun z => by
        have lt := Heap.lt_size D3
        rw [← z, ceL] at lt
        exact absurd lt (Nat.lt_irrefl _)
      exact hRR D s6 m _ ce I8 (qq D (n5 D (by simp))) hn (by rw [ceL] at nC nCD ⊢; exact I3.fpOk (Nat.le_refl _) ((upd_ne nCD).trans nC))
    · have pin5 : ∀ b ∈ D :: fp, ∃ o, s5.heap.get? b = some o ∧ ∀ v, o.data ≠ .cell v := fun b hb => by
        rcases List.mem_cons.mp hb with z | hb
        · obtain ⟨its, k, _, e⟩ := a5
          rw [z]; exact ⟨_, e, fun v z => by cases z⟩
        · exact T.obj _ _ st5 b hb
      have I5p := I5.pinned (fp := [D]) (fun b hb => by rw [List.mem_singleton.mp hb]; exact fpB I5 n5 D (by simp)) (fun b hb => by rw [List.mem_singleton.mp hb]; exact pin5 D (by simp))
      have fp5 : ∀ b ∈ fp, FpOk (X.blk s3 H2 scope ce (D :: fp)) ([] ++ pinsAt [D] s5.heap) H5 b := fun b hb => by
        obtain ⟨x0, x1, x2, x3, x4, x5⟩ := fpB I5 n5 b (List.mem_cons_of_mem _ hb)
        refine ⟨x0, x1, x2, x3, x4, fun p hp z => ?_⟩
        have hp' : p ∈ pinsAt [D] s5.heap := by simpa using hp
        have := (of_pinsAt hp').1
        rw [List.mem_singleton.mp this] at z
        obtain ⟨o, e, _⟩ := T.obj _ _ st2 b hb
        have lt := Heap.lt_size e
        rw [← z, ← hD] at lt
        exact absurd lt (Nat.lt_irrefl _)
      refine thnF (T.item (X.blk s3 H2 scope ce (D :: fp)) rfl rfl rfl hc i _ s5 _ H5 (fun _ _ => False) I5p fp5 st5 go) fun rv s6 ⟨u, hr, h6⟩ => ?_
      subst hr
      refine thnF h6 fun _ s7 ⟨x, H7, I7, r7, y7, st7, n7⟩ => ?_
      obtain ⟨its, k, rv, e5⟩ := a5
      obtain ⟨e7, nD7, _⟩ := I7.pin (D, _) (List.mem_append_right _ (List.mem_append_right _ (mem_pinsAt (by simp) e5)))
      have I7u := I7.unpinned (pins := [])
      have n7' : ∀ b ∈ D :: fp, H7 b = none := fun b hb => by
        rcases List.mem_cons.mp hb with z | hb
        · rw [z]; exact nD7
        · exact n7 b hb
      have I7' := I7u.pinned (fpB I7u n7') (fun b hb => by
        rcases List.mem_cons.mp hb with z | hb
        · rw [z]; exact ⟨_, e7, fun v z => by cases z⟩
        · exact T.obj _ _ st7 b hb)
      refine wpAny_mono (hg2.run _ s7 _ H7 x u _ (Inv.toX I7') r7 (step x H7 y7)) (fun _ s8 ⟨σ8, H8, I8, hw8, q8⟩ => ?_) out
      refine wpAny_mono (ht2.run _ s8 σ8 H8 _ I8 q8) (fun b s9 ⟨H9, I9, q9⟩ => ?_) out
      -- how a turn ends
      have pinned : ∀ {s' : Shared} {H' : Hp}, Inv (X.blk s3 H2 scope ce (D :: fp)) ([] ++ pinsAt (D :: fp) s7.heap) σ8 H' s' → ∀ b ∈ D :: fp, ∀ o, s7.heap.get? b = some o → s'.heap.get? b = some o ∧ H' b = none := fun {s' H'} J b hb o e =>
        let z := J.pin (b, o) (List.mem_append_right _ (List.mem_append_right _ (mem_pinsAt hb e)))
        ⟨z.1, z.2.1⟩
      have weak8 : ∀ {s' : Shared} {H' : Hp}, Inv (X.blk s3 H2 scope ce (D :: fp)) ([] ++ pinsAt (D :: fp) s7.heap) σ8 H' s' → Inv (X.blk s3 H2 scope ce (D :: fp)) [] (wipe σ (own.map (·.2))) H' s' := fun {s' H'} J =>
        (J.unpinned (pins := [])).weak (by rw [← hw8, wipe_length]) (fun j v e => by
          rw [← hw8] at e
          exact (wipe_some e).1)
      have nfp8 : ∀ {s' : Shared} {H' : Hp}, Inv (X.blk s3 H2 scope ce (D :: fp)) ([] ++ pinsAt (D :: fp) s7.heap) σ8 H' s' → ∀ b ∈ D :: fp, H' b = none := fun {s' H'} J b hb => by
        rcases List.mem_cons.mp hb with z | hb
        · rw [z]; exact (pinned J D (by simp) _ e7).2
        · obtain ⟨o, e, _⟩ := T.obj _ _ st7 b hb
          exact (pinned J b (List.mem_cons_of_mem _ hb) o e).2
      cases b with
      | false =>
        simp only [Bool.false_eq_true, if_false] at q9 ⊢
        have J := Inv.ofX I9
        obtain ⟨m', hm, w'⟩ := hNx acc H9 q9
        exact ⟨m', hm, i + 1, H9, acc, weak8 J, T.keep _ _ _ st7 (fun b hb o e => (pinned J b (List.mem_cons_of_mem _ hb) o e).1), nfp8 J, ⟨its, k, rv, (pinned J D (by simp) _ e7).1⟩, w'⟩
      | true =>
        simp only [if_true] at q9 ⊢
        refine wpAny_mono (he2.run _ s9 σ8 H9 _ I9 q9) (fun z s10 ⟨yv, H10, I10, r10, hz10, nx⟩ => ?_) out
        have J := Inv.ofX I10
        have e10 := (pinned J D (by simp) _ e7).1
        have hl := rv.length
        refine append_at (hsz := by rw [List.size_toArray]; omega) e10 fun h' sb ho' => ?_
        obtain ⟨m', hm, w'⟩ := hNx _ H10 nx
        have JD := fpB (weak8 J) (nfp8 J) D (by simp)
        have J2 := Inv.turned (it := D) (t' := s10.toks) (weak8 J) (fun b o hb e => (sb.2 b hb).trans e) JD.1 JD.2.1 JD.2.2.2.1 JD.2.2.2.2.1 JD.2.2.2.2.2
        refine ⟨m', hm, i + 1, H10, acc ++ [yv], J2, T.keep _ _ _ st7 (fun b hb o e => ?_), nfp8 J, ⟨its ++ [z], k + 1, rv.append (.cons r10 .nil), ?_⟩, w'⟩
        · have nb : b ≠ D := fun z => by
            obtain ⟨o2, e2, _⟩ := T.obj _ _ st2 b hb
            have lt := Heap.lt_size e2
            rw [z, ← hD] at lt
            exact absurd lt (Nat.lt_irrefl _)
          exact (sb.2 b nb).trans (pinned J b (List.mem_cons_of_mem _ hb) o e).1
        · show h'.get? D = _
          rw [ho']
          simp
  exact codeAny_compStart_list loop (T.self X.A 0 _ _ _ st4 loop)
end
end Ms

namespace Ms
open PySem L2 PySem.Spec PyProof.Rows
section
variable {X : Cx} {W : WX}
theorem pe_lcX {elt tg iter : PySem.Expr} {ifs : List PySem.Expr} {scope : Scope} {own : List (Str × Nat)} {pos : Pos} {wi : TI} {g : TG} {tt : L2.St → TT} {te : L2.St → TE} (hc : X.calm = true) (hN : X.N.Nodup) (hi : PI X tg iter wi) (ok : BlkOk X.N X.env.scope scope own) (tk : Tk X W)
    (hg : ∀ (s : Shared) (H : Hp) (C : Addr) (cl : List (Str × Addr)) (fp : List Addr) (E : Value → Shared → Prop), PG (blkX X s H scope (compEnvC scope cl C X.env) fp E) tg g)
    (ht : ∀ (σ0 : L2.St) (s : Shared) (H : Hp) (C : Addr) (cl : List (Str × Addr)) (fp : List Addr) (E : Value → Shared → Prop), Tk (blkX X s H scope (compEnvC scope cl C X.env) fp E) (WB W σ0) → PTs (blkX X s H scope (compEnvC scope cl C X.env) fp E) ifs (tt σ0))
    (he : ∀ (σ0 : L2.St) (s : Shared) (H : Hp) (C : Addr) (cl : List (Str × Addr)) (fp : List Addr) (E : Value → Shared → Prop), Tk (blkX X s H scope (compEnvC scope cl C X.env) fp E) (WB W σ0) → PE (blkX X s H scope (compEnvC scope cl C X.env) fp E) elt (te σ0))
    (hs : ∀ x, foldedSetIterable iter X.env x = pure x := by intro _; rfl) : PE X (.ListComp elt [⟨tg, iter, ifs, 0⟩] scope pos) (tLcX wi g tt te (own.map (·.2))) := by
  refine ⟨fun pins s σ H Q I h => ?_⟩
  rw [eval_ListComp]
  refine lc_x hc hN I hi ok tk hg ht he hs h fun D s' m H' ce J q hn ⟨f0, f1, f2, f3, f4, f5⟩ => ⟨m, hn, fun h2 sb => ?_⟩
  exact ⟨.ref D, H', J.turned (t' := s'.toks) (fun b o hb e => (sb.2 b hb).trans e) f0 f1 f3 f4 f5, rfl, q⟩
/-- name = [..], the name a local -/
theorem ps_setLcX {i : Nat} {y : Str} {py : Pos} {elt tg iter : PySem.Expr} {ifs : List PySem.Expr} {scope : Scope} {own : List (Str × Nat)} {pos spos : Pos} {wi : TI} {g : TG} {tt : L2.St → TT} {te : L2.St → TE} (hc : X.calm = true) (hN : X.N.Nodup) (hi : PI X tg iter wi) (ok : BlkOk X.N X.env.scope scope own) (tk : Tk X W)
    (hg : ∀ (s : Shared) (H : Hp) (C : Addr) (cl : List (Str × Addr)) (fp : List Addr) (E : Value → Shared → Prop), PG (blkX X s H scope (compEnvC scope cl C X.env) fp E) tg g)
    (ht : ∀ (σ0 : L2.St) (s : Shared) (H : Hp) (C : Addr) (cl : List (Str × Addr)) (fp : List Addr) (E : Value → Shared → Prop), Tk (blkX X s H scope (compEnvC scope cl C X.env) fp E) (WB W σ0) → PTs (blkX X s H scope (compEnvC scope cl C X.env) fp E) ifs (tt σ0))
    (he : ∀ (σ0 : L2.St) (s : Shared) (H : Hp) (C : Addr) (cl : List (Str × Addr)) (fp : List Addr) (E : Value → Shared → Prop), Tk (blkX X s H scope (compEnvC scope cl C X.env) fp E) (WB W σ0) → PE (blkX X s H scope (compEnvC scope cl C X.env) fp E) elt (te σ0))
    (hy : X.N[i]? = some y) (hyl : X.env.scope.names.lookup y = some .local) (hsw : swapsWith (.ListComp elt [⟨tg, iter, ifs, 0⟩] scope pos) (some (.Name y py)) spos.line X.env = pure true)
    (hs : ∀ x, foldedSetIterable iter X.env x = pure x := by intro _; rfl) : PS X (.Assign [.Name y py] (.ListComp elt [⟨tg, iter, ifs, 0⟩] scope pos) spos) (tAsg (tLcX wi g tt te (own.map (·.2))) (gName i)) := by
  refine ⟨fun pins s σ H T I h => ?_⟩
  rw [exec_Assign_Name_used _ _ _ _ hsw]
  refine wpAny_bind (wpAny_standAt (wpAny_bind ?_))
  have h : tLcX wi g tt te (own.map (·.2)) σ H (fun x H1 => gName i x σ H1 T.nx) := h
  show wpAny _ X.A (do let _ ← comprehension (.ListComp elt [⟨tg, iter, ifs, 0⟩] scope pos) scope X.env (firstIterPos [⟨tg, iter, ifs, 0⟩] pos) (newList []) false (eval iter X.env) (some (assign (.Name y py) X.env))) _ _ s
  refine wpAny_bind (thn (lc_x (Qf := fun _ s' => SP X pins T .next s') hc hN I hi ok tk hg ht he hs h fun D s' m H' ce J q hn ⟨f0, f1, f2, f3, f4, f5⟩ => ?_) fun _ s' hq => wpAny_pure (wpAny_pure hq))
  refine wpAny_assign_Name (store_ok2 (v := V.ref D) J hN hy (.inl hyl) rfl (fun s2 I2 ⟨a, sb, ha⟩ => ?_) (.inr hyl))
  have ne : ce.locals ≠ a := by
    rcases ha with z | z
    · rw [z]; exact f1
    · exact fun e => f4 y a z e.symm
  exact ⟨m, hn.sameBut sb ne, fun h3 sb3 => ⟨_, H', I2.turned (t' := s2.toks) (fun b o hb e => (sb3.2 b hb).trans e) f0 f1 f3 f4 f5, q⟩⟩

/-! ### its mirror -/
def wipeL (loc : Loc) : List Nat → Loc
  | [] => loc
  | v :: vs => (wipeL loc vs).set v none
theorem wipe_set {σ : L2.St} {v : V} {i : Nat} : ∀ {vs : List Nat}, i ∈ vs → wipe (σ.set i (some v)) vs = wipe σ vs
  | j :: vs, h => by
    show (wipe (σ.set i (some v)) vs).set j none = (wipe σ vs).set j none
    by_cases hj : i ∈ vs
    · rw [wipe_set hj]
    · have e : i = j := by
        rcases List.mem_cons.mp h with e | e
        · exact e
        · exact absurd e hj
      subst e
      have : ∀ (ws : List Nat) (τ : L2.St), i ∉ ws → wipe (τ.set i (some v)) ws = (wipe τ ws).set i (some v) := by
        intro ws
        induction ws with
        | nil => intro τ _; rfl
        | cons k ws ih =>
          intro τ hn
          simp only [List.mem_cons, not_or] at hn
          show (wipe (τ.set i (some v)) ws).set k none = ((wipe τ ws).set k none).set i (some v)
          rw [ih τ hn.2, List.set_comm _ _ hn.1]
      rw [this vs σ hj, List.set_set]
theorem wipe_idem {σ : L2.St} : ∀ {vs : List Nat}, wipe (wipe σ vs) vs = wipe σ vs := by
  intro vs
  have key : ∀ (ws : List Nat) (τ : L2.St) (i : Nat), wipe (τ.set i none) ws = (wipe τ ws).set i none := by
    intro ws
    induction ws with
    | nil => intro τ i; rfl
    | cons k ws ih =>
      intro τ i
      show (wipe (τ.set i none) ws).set k none = ((wipe τ ws).set k none).set i none
      rw [ih τ i]
      by_cases h : i = k
      · subst h; simp
      · rw [List.set_comm _ _ h]
  induction vs with
  | nil => rfl
  | cons v vs ih =>
    show (wipe ((wipe σ vs).set v none) vs).set v none = (wipe σ vs).set v none
    rw [key, ih]; simp
theorem LocR.wipe {K : PySem.W.Frag} {A : List Addr} {H : Hp} {σ : L2.St} {loc : Loc} (l : LocR K A H σ loc) : ∀ vs : List Nat, LocR K A H (L2.wipe σ vs) (wipeL loc vs)
  | [] => l
  | v :: vs => by
    have r := LocR.wipe l vs
    refine ⟨by show ((L2.wipe σ vs).set v none).length = ((wipeL loc vs).set v none).length; simp [r.1], fun i d h => ?_⟩
    have h : ((wipeL loc vs).set v none)[i]? = some (some d) := h
    by_cases hi : v = i
    · subst hi
      by_cases hl : v < (wipeL loc vs).length
      · rw [List.getElem?_set_self hl] at h; cases h
      · rw [List.getElem?_eq_none (by simpa using hl)] at h; cases h
    · rw [List.getElem?_set_ne hi] at h
      obtain ⟨x, e, q⟩ := r.2 i d h
      exact ⟨x, by show ((L2.wipe σ vs).set v none)[i]? = _; rw [List.getElem?_set_ne hi]; exact e, q⟩
/-- a target that stores in the slots vs alone -/
def TgW (K : PySem.W.Frag) (mg : Str → Option Value) (vs : List Nat) (t : TG) (g : Tg) : Prop :=
  ∀ (A : List Addr) (H : Hp) (hp : HM) (v : V) (d : D) (σ : L2.St) (loc loc' : Loc) (Q : L2.St → Hp → Prop), HRel K mg A H hp → Rp K A H v d → LocR K A H σ loc → g d loc = some loc' → (∀ σ', wipe σ' vs = wipe σ vs → LocR K A H σ' loc' → Q σ' H) → t v σ H Q
def TgsW (K : PySem.W.Frag) (mg : Str → Option Value) (ws : List Nat) (t : TGs) (g : List D → Loc → Option Loc) : Prop :=
  ∀ (A : List Addr) (H : Hp) (hp : HM) (vs : List V) (ds : List D) (σ : L2.St) (loc loc' : Loc) (Q : L2.St → Hp → Prop), HRel K mg A H hp → RpL K A H vs ds → LocR K A H σ loc → g ds loc = some loc' → (∀ σ', wipe σ' ws = wipe σ ws → LocR K A H σ' loc' → Q σ' H) → t vs σ H Q
section
variable {K : PySem.W.Frag} {mg : Str → Option Value} {ws : List Nat}
theorem tw_name {i : Nat} (h : i ∈ ws) : TgW K mg ws (gName i) (tgName i) := fun A H hp v d σ loc loc' Q r q l e k => by
  simp only [tgName, Option.some.injEq] at e
  subst e
  exact k _ (wipe_set h) (l.set i q)
theorem tw_nil : TgsW K mg ws gNil tgsNil := fun A H hp vs ds σ loc loc' Q r q l h k => by
  cases ds with
  | nil =>
    cases q
    simp only [tgsNil, Option.some.injEq] at h
    subst h
    exact ⟨rfl, k _ rfl l⟩
  | cons _ _ => cases h
theorem tw_cons {t : TG} {u : TGs} {g : Tg} {gs : List D → Loc → Option Loc} (h1 : TgW K mg ws t g) (h2 : TgsW K mg ws u gs) : TgsW K mg ws (gCons t u) (tgsCons g gs) := fun A H hp vs ds σ loc loc' Q r q l h k => by
  cases ds with
  | nil => cases h
  | cons d ds =>
    cases q with
    | cons q qs =>
      simp only [tgsCons] at h
      cases hg : g d loc with
      | none => rw [hg] at h; cases h
      | some l1 =>
        rw [hg] at h
        exact ⟨_, _, rfl, h1 A H hp _ d σ loc l1 _ r q l hg fun σ1 w1 l1' => h2 A H hp _ ds σ1 l1 loc' Q r qs l1' h fun σ2 w2 => k σ2 (w2.trans w1)⟩
theorem tw_tup {n : Nat} {u : TGs} {gs : List D → Loc → Option Loc} (h2 : TgsW K mg ws u gs) : TgW K mg ws (gTup K n u) (tgTup n gs) := fun A H hp v d σ loc loc' Q r q l h k => by
  cases d with
  | tup ds =>
    obtain ⟨a, vs, rfl, t, rl⟩ := q.tup_inv
    simp only [tgTup] at h
    by_cases hz : ds.length = n
    · rw [if_pos hz] at h
      exact ⟨a, vs, rfl, t.sq, by rw [rl.length]; exact hz, h2 A H hp vs ds σ loc loc' Q r rl l h k⟩
    · rw [if_neg hz] at h; cases h
  | _ => cases h
end
def compGo (it : Itm) (g : Tg) (ft : TM) (fe : EM) (loc : Loc) : List D → HM → List D → O (List D)
  | [], hp, acc => if it.chk hp = true then .ok acc hp else .bad
  | d :: ds, hp, acc => if it.chk hp = true then (match g d loc with
    | some l => (ft l hp).bind fun b hp1 => if b = true then (fe l hp1).bind fun y hp2 => if acc.length < big then compGo it g ft fe loc ds hp2 (acc ++ [y]) else .bad else compGo it g ft fe loc ds hp1 acc
    | none => .bad) else .bad
def eComp (i : IM) (g : Tg) (ft : TM) (fe : EM) (own : List Nat) : EM := fun loc hp => (i loc hp).bind fun it hp1 => (compGo it g ft fe (wipeL loc own) it.ds hp1 []).bind fun ds hp2 => if ds.length ≤ big then .ok (.lst ds) hp2 else .bad
def mYes : TM := fun _ hp => .ok true hp
/-- a clause's tests -/
abbrev STs (X : Cx) (W : WX) (ifs : List PySem.Expr) (f : TM) : Prop := PTs X ifs (tG X.K X.mg W RB f)
theorem _root_.L2.PTs.weak {X : Cx} {e : List PySem.Expr} {t t' : TT} (h : PTs X e t) (w : ∀ σ H Q, t' σ H Q → t σ H Q) : PTs X e t' := ⟨fun pins s σ H Q I q => h.run pins s σ H Q I (w σ H Q q)⟩
theorem sts_nil : STs X W [] mYes := pts_nil.weak fun σ H Q ⟨A, loc, hp, hr, hl, g⟩ => g A H true (.refl A H) hr rfl
theorem sts_one {c : PySem.Expr} {f : TM} (h : STt X W c f) : STs X W [c] f := pts_one h
theorem comp_w {K : PySem.W.Frag} {mg : Str → Option Value} {fi : IM} {t : TG} {g : Tg} {ft : TM} {fe : EM} {own : List Nat} (hr : TgW K mg own t g) : ∀ σ H Q, tG K mg W (Rp K) (eComp fi g ft fe own) σ H Q →
    tLcX (tI K mg W fi) t (fun σ0 => tG K mg (WB W σ0) RB ft) (fun σ0 => tG K mg (WB W σ0) (Rp K) fe) own σ H Q := by
  rintro σ H Q ⟨A, loc, hp, r, hl, q⟩
  refine ⟨A, loc, hp, r, hl, (Good.bind q).mono ?_⟩
  rintro J H1 ⟨A1, hp1, it, e1, r1, y1, g1⟩
  refine ⟨fun i m accv H2 => m = it.ds.length - i ∧ i ≤ it.ds.length ∧ ∃ A2 hp2 acc, Ext A1 H1 A2 H2 ∧ HRel K mg A2 H2 hp2 ∧ RpL K A2 H2 accv acc ∧
    Good K mg W σ (Rp K) A2 H2 ((compGo it g ft fe (wipeL loc own) (it.ds.drop i) hp2 acc).bind fun ds hp2 => if ds.length ≤ big then .ok (.lst ds) hp2 else .bad) Q, ⟨_, rfl, Nat.zero_le _, A1, hp1, [], .refl _ _, r1, .nil, by simpa using g1⟩, ?_⟩
  rintro i m accv H2 ⟨rfl, hi, A2, hp2, acc, e2, r2, ra, g2⟩
  by_cases hlt : i < it.ds.length
  · rw [List.drop_eq_getElem_cons hlt] at g2
    unfold compGo at g2
    by_cases hc : it.chk hp2 = true
    · rw [if_pos hc] at g2
      obtain ⟨ygo, yyl, _⟩ := y1 A2 H2 hp2 e2 r2 hc
      refine .inr ⟨ygo i hlt, fun accv' H' => it.ds.length - (i + 1) = it.ds.length - (i + 1) ∧ i + 1 ≤ it.ds.length ∧ ∃ A2 hp2 acc, Ext A1 H1 A2 H' ∧ HRel K mg A2 H' hp2 ∧ RpL K A2 H' accv' acc ∧
        Good K mg W σ (Rp K) A2 H' ((compGo it g ft fe (wipeL loc own) (it.ds.drop (i + 1)) hp2 acc).bind fun ds hp2 => if ds.length ≤ big then .ok (.lst ds) hp2 else .bad) Q, fun a H' w => ⟨it.ds.length - (i + 1), by omega, w⟩, fun x H' hy => ?_⟩
      obtain ⟨e3, r3, q3⟩ := yyl i it.ds[i] x H' (by simp [hlt]) hy
      cases hgd : g it.ds[i] (wipeL loc own) with
      | none => rw [hgd] at g2; exact g2.elim
      | some l =>
        rw [hgd] at g2
        have hl2 := ((((hl.ext e1).ext e2).ext e3).wipe own)
        refine hr A2 H' hp2 x it.ds[i] (wipe σ own) (wipeL loc own) l _ r3 q3 hl2 hgd fun σ3 hw l3 => ⟨hw.trans wipe_idem, A2, l, hp2, r3, l3, ?_⟩
        have g3 := Good.ext g2 e3
        simp only at g3
        rw [show ((ft l hp2).bind fun b hp1 => if b = true then (fe l hp1).bind fun y hp2 => if acc.length < big then compGo it g ft fe (wipeL loc own) (it.ds.drop (i + 1)) hp2 (acc ++ [y]) else .bad else compGo it g ft fe (wipeL loc own) (it.ds.drop (i + 1)) hp1 acc).bind
            (fun ds hp2 => if ds.length ≤ big then O.ok (D.lst ds) hp2 else .bad) = (ft l hp2).bind fun b hp1 => (if b = true then (fe l hp1).bind fun y hp2 => if acc.length < big then compGo it g ft fe (wipeL loc own) (it.ds.drop (i + 1)) hp2 (acc ++ [y]) else .bad else compGo it g ft fe (wipeL loc own) (it.ds.drop (i + 1)) hp1 acc).bind
            (fun ds hp2 => if ds.length ≤ big then O.ok (D.lst ds) hp2 else .bad) from by cases ft l hp2 <;> rfl] at g3
        refine ((Good.bind (R := RB) g3).mono ?_).retag (fun _ _ _ h => h)
        rintro b H4 ⟨A4, hp4, b', e4, r4, q4, g4⟩
        cases q4
        cases b with
        | true =>
          simp only [if_true] at g4 ⊢
          refine ⟨A4, l, hp4, r4, l3.ext e4, ?_⟩
          rw [show ((fe l hp4).bind fun y hp2 => if acc.length < big then compGo it g ft fe (wipeL loc own) (it.ds.drop (i + 1)) hp2 (acc ++ [y]) else .bad).bind (fun ds hp2 => if ds.length ≤ big then O.ok (D.lst ds) hp2 else .bad) =
            (fe l hp4).bind fun y hp2 => (if acc.length < big then compGo it g ft fe (wipeL loc own) (it.ds.drop (i + 1)) hp2 (acc ++ [y]) else .bad).bind (fun ds hp2 => if ds.length ≤ big then O.ok (D.lst ds) hp2 else .bad) from by cases fe l hp4 <;> rfl] at g4
          refine ((Good.bind (R := Rp K) g4).mono ?_).retag (fun _ _ _ h => h)
          rintro y H5 ⟨A5, hp5, d5, e5, r5, q5, g5⟩
          by_cases hz : acc.length < big
          · rw [if_pos hz] at g5
            refine ⟨by rw [ra.length]; exact Nat.lt_of_lt_of_le hz (by decide), trivial, hlt, A5, hp5, acc ++ [d5], ((e2.trans e3).trans e4).trans e5, r5, RpL.append (((ra.ext e3).ext e4).ext e5) (.cons q5 .nil), g5⟩
          · rw [if_neg hz] at g5; exact g5.elim
        | false =>
          simp only [Bool.false_eq_true, if_false] at g4 ⊢
          exact ⟨trivial, hlt, A4, hp4, acc, (e2.trans e3).trans e4, r4, (ra.ext e3).ext e4, g4⟩
    · rw [if_neg hc] at g2; exact g2.elim
  · have he : i = it.ds.length := by omega
    subst he
    rw [List.drop_length] at g2
    unfold compGo at g2
    by_cases hc : it.chk hp2 = true
    · rw [if_pos hc] at g2
      obtain ⟨_, _, ys⟩ := y1 A2 H2 hp2 e2 r2 hc
      simp only [O.bind] at g2
      by_cases hz : acc.length ≤ big
      · rw [if_pos hz] at g2
        exact .inl ⟨ys _ (Nat.le_refl _), by rw [ra.length]; exact big_line hz, fun D hD => new_lst r2 ra g2 D hD⟩
      · rw [if_neg hz] at g2; exact g2.elim
    · rw [if_neg hc] at g2; exact g2.elim
theorem se_comp {elt tg iter : PySem.Expr} {ifs : List PySem.Expr} {scope : Scope} {own : List (Str × Nat)} {pos : Pos} {fi : IM} {t : TG} {g : Tg} {ft : TM} {fe : EM} (hN : X.N.Nodup) (tk : Tk X W) (hi : SI X W tg iter fi) (ok : BlkOk X.N X.env.scope scope own)
    (hg : ∀ (s : Shared) (H : Hp) (C : Addr) (cl : List (Str × Addr)) (fp : List Addr) (E : Value → Shared → Prop), PG (blkX X s H scope (compEnvC scope cl C X.env) fp E) tg t) (hr : TgW X.K X.mg (own.map (·.2)) t g)
    (ht : ∀ (σ0 : L2.St) (s : Shared) (H : Hp) (C : Addr) (cl : List (Str × Addr)) (fp : List Addr) (E : Value → Shared → Prop), Tk (blkX X s H scope (compEnvC scope cl C X.env) fp E) (WB W σ0) → STs (blkX X s H scope (compEnvC scope cl C X.env) fp E) (WB W σ0) ifs ft)
    (he : ∀ (σ0 : L2.St) (s : Shared) (H : Hp) (C : Addr) (cl : List (Str × Addr)) (fp : List Addr) (E : Value → Shared → Prop), Tk (blkX X s H scope (compEnvC scope cl C X.env) fp E) (WB W σ0) → SE (blkX X s H scope (compEnvC scope cl C X.env) fp E) (WB W σ0) elt fe)
    (hc : X.calm = true := by rfl) (hs : ∀ x, foldedSetIterable iter X.env x = pure x := by intro _; rfl) : SE X W (.ListComp elt [⟨tg, iter, ifs, 0⟩] scope pos) (eComp fi g ft fe (own.map (·.2))) := (pe_lcX hc hN hi ok tk hg ht he hs).weak (comp_w hr)
theorem ss_setComp {i : Nat} {y : Str} {py : Pos} {elt tg iter : PySem.Expr} {ifs : List PySem.Expr} {scope : Scope} {own : List (Str × Nat)} {pos spos : Pos} {fi : IM} {t : TG} {g : Tg} {ft : TM} {fe : EM} (hN : X.N.Nodup) (tk : Tk X W) (hi : SI X W tg iter fi) (ok : BlkOk X.N X.env.scope scope own)
    (hg : ∀ (s : Shared) (H : Hp) (C : Addr) (cl : List (Str × Addr)) (fp : List Addr) (E : Value → Shared → Prop), PG (blkX X s H scope (compEnvC scope cl C X.env) fp E) tg t) (hr : TgW X.K X.mg (own.map (·.2)) t g)
    (ht : ∀ (σ0 : L2.St) (s : Shared) (H : Hp) (C : Addr) (cl : List (Str × Addr)) (fp : List Addr) (E : Value → Shared → Prop), Tk (blkX X s H scope (compEnvC scope cl C X.env) fp E) (WB W σ0) → STs (blkX X s H scope (compEnvC scope cl C X.env) fp E) (WB W σ0) ifs ft)
    (he : ∀ (σ0 : L2.St) (s : Shared) (H : Hp) (C : Addr) (cl : List (Str × Addr)) (fp : List Addr) (E : Value → Shared → Prop), Tk (blkX X s H scope (compEnvC scope cl C X.env) fp E) (WB W σ0) → SE (blkX X s H scope (compEnvC scope cl C X.env) fp E) (WB W σ0) elt fe)
    (hsw : swapsWith (.ListComp elt [⟨tg, iter, ifs, 0⟩] scope pos) (some (.Name y py)) spos.line X.env = pure true)
    (hy : X.N[i]? = some y := by rfl) (hyl : X.env.scope.names.lookup y = some .local := by rfl) (hc : X.calm = true := by rfl) (hs : ∀ x, foldedSetIterable iter X.env x = pure x := by intro _; rfl) :
    SS X W (.Assign [.Name y py] (.ListComp elt [⟨tg, iter, ifs, 0⟩] scope pos) spos) (sAsg (eComp fi g ft fe (own.map (·.2))) i) := (ps_setLcX hc hN hi ok tk hg ht he hy hyl hsw hs).weak fun T σ H ⟨A, loc, hp, r, hl, q⟩ => by
  refine comp_w hr σ H _ ⟨A, loc, hp, r, hl, (GoodS.bind (R := Rp X.K) hl q).mono ?_⟩
  rintro v H1 ⟨A1, hp1, d1, e1, r1, q1, l1, g1⟩
  exact g1 A1 H1 _ (.refl _ _) r1 (l1.set i q1)
end

/-! ### calls, with this wish -/
section
variable {X : Cx} {W : WX} {pos : Pos} {e : PySem.Expr} {es : List PySem.Expr}
theorem se_callK {fs : AM} {x : Str} {st : Stmt} {ps : List Str} {p : Pos} {f : Addr} {fd : FuncData} {k n : Nat} {m : Fn} (d : Dfn X.K X.mg x st ps f fd) (F : FnOk X.prog X.w X.K X.mg X.base (L2.CX X.prog X.w) k f fd ps (spOf X.K X.mg n m)) (hr : Room k X.A) (tk : Tk X W) (ha : SA X W (e :: es) fs) (hg : Gl X x := by rfl)
    (hdb : (x == ("__debug__" : Str)) = false := by decide) (he : starEach (e :: es) X.env = (false, eval e X.env) :: starEach es X.env := by rfl) (hpl : (backTo pos (starEach es X.env)).any (·.1) = false := by rfl) :
    SE X W (.Call (.Name x p) (e :: es) [] pos) (eCall (argc n m) fs) := (pe_callS F hr hg d.m d.F.kp d.b (fun σ => passTk tk σ) ha hdb he hpl).weak fun σ H Q ⟨A, loc, hp, hr, hl, hq⟩ => by
  refine ⟨A, loc, hp, hr, hl, (Good.bind (R := RpL X.K) hq).mono ?_⟩
  rintro vs H1 ⟨A1, hp1, ds, e1, r1, q1, g1⟩
  unfold argc at g1
  by_cases hz : ds.length = n
  · rw [if_pos hz] at g1
    exact ⟨by rw [q1.length]; exact hz, A1, hp1, ds, r1, q1, g1.retag fun _ _ _ h => h⟩
  · rw [if_neg hz] at g1; exact g1.elim

/-! ### isinstance -/
inductive Ty5 | bool | int | str | tuple | list
def Ty5.nm : Ty5 → String
  | .bool => "bool" | .int => "int" | .str => "str" | .tuple => "tuple" | .list => "list"
def isT (t : Ty5) (hp : HM) : D → Option Bool
  | .non => some false
  | .bl _ => some (match t with | .bool => true | .int => true | _ => false)
  | .int _ => some (match t with | .int => true | _ => false)
  | .str _ => some (match t with | .str => true | _ => false)
  | .tup _ => some (match t with | .tuple => true | _ => false)
  | .lst _ => some (match t with | .list => true | _ => false)
  | .ref n => match hp[n]? with
    | some (.lst _) => some (match t with | .list => true | _ => false)
    | _ => none
  | .scr _ => none
theorem kit5 {K : PySem.W.Frag} {a : String} {t : Ty5} {b : Bool} (h : kitB a t.nm = some b) : PySem.W.kitOne K (.type a) (.type t.nm) = some b := kit_ty h
theorem isT_rp {K : PySem.W.Frag} {mg : Str → Option Value} {A : List Addr} {H : Hp} {hp : HM} (r : HRel K mg A H hp) {t : Ty5} {v : V} {d : D} {b : Bool} (q : Rp K A H v d) (h : isT t hp d = some b) : ∃ ty, TyX K H v ty ∧ PySem.W.kitOne K ty (.type t.nm) = some b := by
  cases d with
  | non => rw [q.non_inv]; simp only [isT, Option.some.injEq] at h; subst h; exact ⟨_, .base .non, kit5 (by cases t <;> decide +kernel)⟩
  | bl x => rw [q.bl_inv]; simp only [isT, Option.some.injEq] at h; subst h; exact ⟨_, .base (.bl x), kit5 (by cases t <;> decide +kernel)⟩
  | int x => rw [q.int_inv]; simp only [isT, Option.some.injEq] at h; subst h; exact ⟨_, .base (.int x), kit5 (by cases t <;> decide +kernel)⟩
  | str x => rw [q.str_inv]; simp only [isT, Option.some.injEq] at h; subst h; exact ⟨_, .base (.str x), kit5 (by cases t <;> decide +kernel)⟩
  | tup xs =>
    simp only [isT, Option.some.injEq] at h; subst h
    obtain ⟨a, vs, rfl, tt, _⟩ := q.tup_inv
    cases tt with
    | own h1 h2 =>
      rcases h2 with h2 | ⟨o, h2⟩
      · exact ⟨_, .base (.tup h2), kit5 (by cases t <;> decide +kernel)⟩
      · exact ⟨_, .fTuple h2, kit5 (by cases t <;> decide +kernel)⟩
    | wr h1 =>
      rcases h1 fun _ => none with (z | ⟨o, z⟩) | ⟨o, its, n, e, c, _⟩
      · cases z
      · cases z
      · exact ⟨_, .kTuple e c, kit5 (by cases t <;> decide +kernel)⟩
  | lst xs =>
    simp only [isT, Option.some.injEq] at h; subst h
    obtain ⟨a, vs, rfl, _, h2, _⟩ := q.lst_inv
    exact ⟨_, .base (.lst h2), kit5 (by cases t <;> decide +kernel)⟩
  | ref n =>
    obtain ⟨a, rfl, ha⟩ := q.ref_inv
    simp only [isT] at h
    cases hm : hp[n]? with
    | none => rw [hm] at h; cases h
    | some mo =>
      rw [hm] at h
      cases mo with
      | lst xs =>
        simp only [Option.some.injEq] at h; subst h
        obtain ⟨vs, h2, _⟩ := r.ob n _ a hm ha
        exact ⟨_, .base (.lst h2), kit5 (by cases t <;> decide +kernel)⟩
      | ins c fs => cases h
  | scr _ => cases h
def eIsi (t : Ty5) (f : EM) : EM := fun loc hp => (f loc hp).bind fun d hp1 => match isT t hp1 d with
  | some b => .ok (.bl b) hp1
  | none => .bad
theorem se_isi {t : Ty5} {T : Str} {p p2 : Pos} {fe : EM} (hm : X.mg "isinstance" = none) (hmT : X.mg T = none) (hv : bootBuiltins T = some (.type t.nm)) (he : SE X W e fe) (hg : Gl X "isinstance" := by rfl) (hgT : Gl X T := by rfl) (hnT : T ≠ "__name__" := by decide) (hdT : (T == ("__debug__" : Str)) = false := by decide)
    (hs : starEach [e, .Name T p2] X.env = (false, eval e X.env) :: starEach [.Name T p2] X.env := by rfl) (hs2 : starEach [.Name T p2] X.env = (false, eval (.Name T p2) X.env) :: starEach [] X.env := by rfl) (hpl : (backTo pos (starEach [.Name T p2] X.env)).any (·.1) = false := by rfl) :
    SE X W (.Call (.Name "isinstance" p) [e, .Name T p2] [] pos) (eIsi t fe) :=
  (pe_callB call_isi hg hm (by decide +kernel) (pa_cons he (pa_cons (pe_bltn (v := .ty t.nm) hgT hmT hv rfl hnT hdT) pa_nil hs2) hs) (by decide) (by decide) hs hpl).weak fun σ H Q ⟨A, loc, hp, hr, hl, hq⟩ => by
  refine ⟨A, loc, hp, hr, hl, (Good.bind (R := Rp X.K) hq).mono ?_⟩
  rintro v H1 ⟨A1, hp1, d1, e1, r1, q1, g1⟩
  cases h : isT t hp1 d1 with
  | none => rw [h] at g1; exact g1.elim
  | some b =>
    rw [h] at g1
    obtain ⟨ty, h1, h2⟩ := isT_rp r1 q1 h
    exact ⟨v, _, ty, _, b, rfl, .ty _, h1, h2, g1.here r1 (.bl b)⟩
/-- str of a number -/
def gStrI : Fn := gOne fun d hp => match d with
  | .int i => if i.natAbs.log2 < 1920 then .ok (.str (toString i)) hp else .bad
  | _ => .bad
theorem cg_str {K : PySem.W.Frag} {mg : Str → Option Value} : CallG K mg (fun xs H Q => ∃ i : Int, xs = [.int i] ∧ i.natAbs.log2 < 1920 ∧ Q (.str (toString i)) H) gStrI := fun W σ A H hp vs ds Q r q g => by
  obtain ⟨x, d, rfl, rfl, q1, g⟩ := one_of q g
  cases d with
  | int i =>
    simp only at g
    by_cases hz : i.natAbs.log2 < 1920
    · rw [if_pos hz] at g
      exact ⟨i, by rw [q1.int_inv], hz, g.here r (.str _)⟩
    · rw [if_neg hz] at g; exact g.elim
  | _ => exact g.elim
/-- a module's constant -/
theorem se_glob {x : Str} {u : Value} {v : V} {d : D} {p : Pos} (hm : X.mg x = some u) (r : RelV v u) (q : ∀ A H, Rp X.K A H v d) (hg : Gl X x := by rfl) (hd : (x == ("__debug__" : Str)) = false := by decide) : SE X W (.Name x p) (eC d) := se_c (pe_glob hg hm r hd) q
end
end Ms

namespace Ms
open PySem L2 PySem.Spec PyProof.Rows
section
variable {X : Cx} {W : WX} {pos : Pos} {e : PySem.Expr} {es : List PySem.Expr} {fe : EM}

/-! ### slices -/
abbrev PM := Loc → HM → O (Option Int)
abbrev RO : List Addr → Hp → Option Int → Option Int → Prop := fun _ _ a b => a = b
abbrev SPo (X : Cx) (W : WX) (e : Option PySem.Expr) (f : PM) : Prop := PO X e (tG X.K X.mg W RO f)
theorem _root_.L2.PO.weak {e : Option PySem.Expr} {t t' : TO} (h : PO X e t) (w : ∀ σ H Q, t' σ H Q → t σ H Q) : PO X e t' := ⟨fun pins s σ H Q I q => h.run pins s σ H Q I (w σ H Q q)⟩
def pNone : PM := fun _ hp => .ok none hp
def pSome (f : EM) : PM := fun loc hp => (f loc hp).bind fun d hp1 => match d with
  | .int i => .ok (some i) hp1
  | _ => .bad
theorem sp_none : SPo X W none pNone := po_none.weak fun σ H Q ⟨A, loc, hp, hr, hl, g⟩ => g A H none (.refl A H) hr rfl
theorem sp_some (he : SE X W e fe) : SPo X W (some e) (pSome fe) := (po_some he).weak fun σ H Q ⟨A, loc, hp, hr, hl, hq⟩ => by
  refine ⟨A, loc, hp, hr, hl, (Good.bind (R := Rp X.K) hq).mono ?_⟩
  rintro v1 H1 ⟨A1, hp1, d1, e1, r1, q1, g1⟩
  cases d1 with
  | int i => exact ⟨i, q1.int_inv, g1 A1 H1 _ (.refl _ _) r1 rfl⟩
  | _ => exact g1.elim
def cutD (xs : List D) (lo hi : Option Int) : List D := (xs.drop (HT.sIx xs.length 0 lo)).take (HT.sIx xs.length xs.length hi - HT.sIx xs.length 0 lo)
theorem cut_rpl {K : PySem.W.Frag} {A : List Addr} {H : Hp} {vs : List V} {ds : List D} (r : RpL K A H vs ds) (lo hi : Option Int) : RpL K A H (cutV vs lo hi) (cutD ds lo hi) := by
  unfold cutV cutD
  rw [r.length]
  exact (r.drop _).take _
def gCut (d : D) (lo hi : Option Int) (hp : HM) : O D := match d with
  | .tup ds => .ok (.tup (cutD ds lo hi)) hp
  | d => match lstOf hp d with
    | some ds => .ok (.lst (cutD ds lo hi)) hp
    | none => .bad
def eCut (f : EM) (l h : PM) : EM := fun loc hp => (f loc hp).bind fun d hp1 => (l loc hp1).bind fun lo hp2 => (h loc hp2).bind fun hi hp3 => gCut d lo hi hp3
theorem se_cut {lo hi : Option PySem.Expr} {p2 : Pos} {l h : PM} (he : SE X W e fe) (hl : SPo X W lo l) (hh : SPo X W hi h) : SE X W (.Subscript e (.Slice lo hi none p2) pos) (eCut fe l h) :=
  (pe_slice (sl_tupA.or sl_list) he hl hh).weak fun σ H Q ⟨A, loc, hp, hr, hloc, hq⟩ => by
  refine ⟨A, loc, hp, hr, hloc, (Good.bind (R := Rp X.K) hq).mono ?_⟩
  rintro v1 H1 ⟨A1, hp1, d1, e1, r1, q1, g1⟩
  refine ⟨A1, loc, hp1, r1, hloc.ext e1, (Good.bind (R := RO) g1).mono ?_⟩
  rintro lo' H2 ⟨A2, hp2, lo2, e2, r2, q2, g2⟩
  cases q2
  refine ⟨A2, loc, hp2, r2, (hloc.ext e1).ext e2, (Good.bind (R := RO) g2).mono ?_⟩
  rintro hi' H3 ⟨A3, hp3, hi2, e3, r3, q3, g3⟩
  cases q3
  have q4 := (q1.ext e2).ext e3
  have low : Good X.K X.mg W σ (Rp X.K) A3 H3 (match lstOf hp3 d1 with
    | some ds => .ok (.lst (cutD ds lo' hi')) hp3
    | none => .bad) Q → (rSlA X.K v1 lo' hi' H3 Q ∨ rSlL X.K v1 lo' hi' H3 Q) := fun g => by
    cases h1 : lstOf hp3 d1 with
    | none => rw [h1] at g; exact g.elim
    | some ds =>
      rw [h1] at g
      obtain ⟨p, vs, rfl, a1, a2⟩ := lstOf_rp r3 q4 h1
      exact .inr ⟨p, vs, rfl, SqL.of a1, new_lst r3 (cut_rpl a2 _ _) g⟩
  cases d1 with
  | tup ds =>
    have q5 := q4
    obtain ⟨a, vs, rfl, t, rl⟩ := q4.tup_inv
    refine .inl ⟨a, vs, rfl, t.sq, fun z => ?_, fun _ => new_tup r3 (cut_rpl rl _ _) g3⟩
    have : cutD ds lo' hi' = ds := by
      unfold cutD
      rw [← rl.length, z.1, z.2]
      simp [rl.length]
    simp only [gCut, this] at g3
    exact g3.here r3 q5
  | _ => exact low g3

/-! ### f-strings -/
def eFmt (f : EM) : EM := fun loc hp => (f loc hp).bind fun d hp1 => match d with
  | .str y => if y.length ≤ big then .ok (.str y) hp1 else .bad
  | .int i => if i.natAbs.log2 < 1920 then .ok (.str (toString i)) hp1 else .bad
  | _ => .bad
theorem se_fmt (he : SE X W e fe) : SE X W (.FormattedValue e (-1) none pos) (eFmt fe) := (pe_fmt he).weak fun σ H Q ⟨A, loc, hp, hr, hl, hq⟩ => by
  refine ⟨A, loc, hp, hr, hl, (Good.bind (R := Rp X.K) hq).mono ?_⟩
  rintro v1 H1 ⟨A1, hp1, d1, e1, r1, q1, g1⟩
  cases d1 with
  | str y =>
    simp only at g1
    by_cases hz : y.length ≤ big
    · rw [if_pos hz] at g1
      exact .inl ⟨y, q1.str_inv, big_line hz, g1.here r1 (.str _)⟩
    · rw [if_neg hz] at g1; exact g1.elim
  | int i =>
    simp only at g1
    by_cases hz : i.natAbs.log2 < 1920
    · rw [if_pos hz] at g1
      exact .inr ⟨i, q1.int_inv, hz, g1.here r1 (.str _)⟩
    · rw [if_neg hz] at g1; exact g1.elim
  | _ => exact g1.elim
inductive SJ (X : Cx) (W : WX) : List PySem.Expr → List EM → Prop where
  | nil : SJ X W [] []
  | cons {e : PySem.Expr} {f : EM} {es : List PySem.Expr} {fs : List EM} (h : SE X W e f) (r : SJ X W es fs) : SJ X W (e :: es) (f :: fs)
theorem SJ.pj {es : List PySem.Expr} {fs : List EM} (h : SJ X W es fs) : PJ X es (fs.map fun f => tG X.K X.mg W (Rp X.K) f) := by
  induction h with
  | nil => exact .nil
  | cons h _ ih => exact .cons h ih
def jGo : List EM → Str → Loc → HM → O D
  | [], acc, _, hp => .ok (.str acc) hp
  | f :: fs, acc, loc, hp => (f loc hp).bind fun d hp1 => match d with
    | .str y => if (acc ++ y).length ≤ big then jGo fs (acc ++ y) loc hp1 else .bad
    | _ => .bad
theorem js_w : ∀ {fs : List EM} {acc : Str} {σ : L2.St} {H : Hp} {Q : VK} {A : List Addr} {loc : Loc} {hp : HM}, HRel X.K X.mg A H hp → LocR X.K A H σ loc → Good X.K X.mg W σ (Rp X.K) A H (jGo fs acc loc hp) Q →
    tJs (fs.map fun f => tG X.K X.mg W (Rp X.K) f) acc σ H (fun out H1 => Q (.str out) H1)
  | [], acc, σ, H, Q, A, loc, hp, r, l, g => g.here r (.str _)
  | f :: fs, acc, σ, H, Q, A, loc, hp, r, l, g => by
    refine ⟨A, loc, hp, r, l, (Good.bind (R := Rp X.K) g).mono ?_⟩
    rintro v1 H1 ⟨A1, hp1, d1, e1, r1, q1, g1⟩
    cases d1 with
    | str y =>
      simp only at g1
      by_cases hz : (acc ++ y).length ≤ big
      · rw [if_pos hz] at g1
        exact ⟨y, q1.str_inv, big_line hz, js_w r1 (l.ext e1) g1⟩
      · rw [if_neg hz] at g1; exact g1.elim
    | _ => exact g1.elim
def eJoined (fs : List EM) : EM := fun loc hp => jGo fs Str.empty loc hp
theorem se_joined {v1 v2 : PySem.Expr} {rest : List PySem.Expr} {fs : List EM} (h : SJ X W (v1 :: v2 :: rest) fs) : SE X W (.JoinedStr (v1 :: v2 :: rest) pos) (eJoined fs) := (pe_joined h.pj).weak fun σ H Q ⟨A, loc, hp, hr, hl, hq⟩ => js_w hr hl hq

/-! ### a text many times -/
def repS (x : Str) (n : Int) : Str := if n < 1 then Str.empty else if (n == 1 || x.length == 0) = true then x else ⟨(List.replicate n.toNat x.cps).foldl (· ++ ·) #[]⟩
theorem op_repS : OpR X (binaryOp .Mult) (fun x y H Q => ∃ (a : Str) (n : Int), x = .str a ∧ y = .int n ∧ -1000 ≤ n ∧ n ≤ 1000 ∧ a.length ≤ 1000 ∧ (repS a n).length ≤ big ∧ Q (.str (repS a n)) H) := by
  intro pins s σ H x y v u Q I rx ry h
  obtain ⟨a, n, rfl, rfl, h1, h2, h3, h4, q⟩ := h
  obtain ⟨t, rfl⟩ := rx
  obtain ⟨t', rfl⟩ := ry
  have e64 : (2 : Int) ^ 63 = 9223372036854775808 := rfl
  refine PySem.P.mul_str ?_ (fun _ _ => ?_) (fun _ _ => ?_) ?_
  · simp only [e64]
    have a1 : ¬ n < -9223372036854775808 := by omega
    have a2 : ¬ n ≥ 9223372036854775808 := by omega
    simp [a1, a2]
  · rename_i hn1 _
    have hn : 1 ≤ n := by omega
    have : (1000000 : Int) ≤ (2 ^ 63 - 1) / n := by
      rw [e64]
      apply Int.le_ediv_of_mul_le (by omega)
      omega
    omega
  · have e : sizeLine = 16777216 := sizeLine_eq
    unfold Builtin.Str.tooLong
    have : a.length * n.toNat ≤ 1000 * 1000 := Nat.mul_le_mul h3 (by omega)
    simp only [decide_eq_false_iff_not]
    omega
  · have h4 := big_line h4
    unfold repS at q h4
    split
    · rename_i hh; rw [if_pos hh] at q h4; exact ⟨h4, .str _, H, I.tok _, ⟨_, rfl⟩, q⟩
    · rename_i hh
      rw [if_neg hh] at q h4
      split
      · rename_i h5; rw [if_pos h5] at q; exact ⟨.str _, H, I, ⟨_, rfl⟩, q⟩
      · rename_i h5; rw [if_neg h5] at q h4; exact ⟨h4, .str _, H, I.tok _, ⟨_, rfl⟩, q⟩
def gRepS : D → D → HM → O D := fun x y hp => match x, y with
  | .str a, .int n => if -1000 ≤ n ∧ n ≤ 1000 ∧ a.length ≤ 1000 ∧ (repS a n).length ≤ big then .ok (.str (repS a n)) hp else .bad
  | _, _ => .bad
theorem og_repS {K : PySem.W.Frag} {mg : Str → Option Value} : OpG K mg (fun x y H Q => ∃ (a : Str) (n : Int), x = .str a ∧ y = .int n ∧ -1000 ≤ n ∧ n ≤ 1000 ∧ a.length ≤ 1000 ∧ (repS a n).length ≤ big ∧ Q (.str (repS a n)) H) gRepS := fun W σ A H hp v1 v2 d1 d2 Q r q1 q2 g => by
  unfold gRepS at g
  split at g
  · rename_i a n
    by_cases hz : -1000 ≤ n ∧ n ≤ 1000 ∧ a.length ≤ 1000 ∧ (repS a n).length ≤ big
    · rw [if_pos hz] at g
      exact ⟨a, n, q1.str_inv, q2.int_inv, hz.1, hz.2.1, hz.2.2.1, hz.2.2.2, g.here r (.str _)⟩
    · rw [if_neg hz] at g; exact g.elim
  · exact g.elim

/-! ### range of one -/
def iRg1 (fs : AM) : IM := fun loc hp => (fs loc hp).bind fun ds hp1 => match ds with
  | [.int j] => if -lim ≤ j ∧ j ≤ lim then .ok ⟨rngD 0 j.toNat, none⟩ hp1 else .bad
  | _ => .bad
theorem si_rg1 {tg a : PySem.Expr} {p : Pos} {fs : AM} (hm : X.mg "range" = none) (ha : SA X W [a] fs) (hg : Gl X "range" := by rfl) (hs : starEach [a] X.env = [(false, eval a X.env)] := by rfl) : SI X W tg (.Call (.Name "range" p) [a] [] pos) (iRg1 fs) := si_range1 hm ha hg hs

/-! ### the module's names -/
theorem se_globI {x : Str} {i : Int} {p : Pos} (h : ∃ t, X.mg x = some (.int i t)) (hg : Gl X x := by rfl) (hd : (x == ("__debug__" : Str)) = false := by decide) : SE X W (.Name x p) (eC (.int i)) := by
  obtain ⟨t, h⟩ := h
  exact se_glob (v := .int i) h ⟨_, rfl⟩ (fun _ _ => .int i) hg hd
theorem se_globS {x y : Str} {p : Pos} (h : ∃ t, X.mg x = some (.str y t)) (hg : Gl X x := by rfl) (hd : (x == ("__debug__" : Str)) = false := by decide) : SE X W (.Name x p) (eC (.str y)) := by
  obtain ⟨t, h⟩ := h
  exact se_glob (v := .str y) h ⟨_, rfl⟩ (fun _ _ => .str y) hg hd
/-- a written tuple of ints -/
theorem se_globT {x : Str} {ns : List Int} {p : Pos} (h : ∃ a, X.mg x = some (.ref a) ∧ ∀ H, SqT X.K H a (ns.map V.int)) (hg : Gl X x := by rfl) (hd : (x == ("__debug__" : Str)) = false := by decide) : SE X W (.Name x p) (eC (.tup (ns.map .int))) := by
  obtain ⟨a, h, k⟩ := h
  exact se_glob (v := .ref a) h rfl (fun _ _ => .tup (.wr k) ints_rpl) hg hd
/-- a def keeps to its mirror -/
def Ok (P : Program) (w : World) (K : PySem.W.Frag) (mg : Str → Option Value) (base : Heap) (k : Nat) (x : Str) (st : Stmt) (ps : List Str) (n : Nat) (m : Fn) : Prop :=
  ∃ f fd, Dfn K mg x st ps f fd ∧ FnOk P w K mg base (L2.CX P w) k f fd ps (spOf K mg n m)
theorem se_own {fs : AM} {x : Str} {st : Stmt} {ps : List Str} {p : Pos} {k j n : Nat} {m : Fn} (h : Ok X.prog X.w X.K X.mg X.base k x st ps n m) (hr : Room j X.A) (tk : Tk X W) (ha : SA X W (e :: es) fs) (hk : k ≤ j := by decide) (hg : Gl X x := by rfl)
    (hdb : (x == ("__debug__" : Str)) = false := by decide) (he : starEach (e :: es) X.env = (false, eval e X.env) :: starEach es X.env := by rfl) (hpl : (backTo pos (starEach es X.env)).any (·.1) = false := by rfl) :
    SE X W (.Call (.Name x p) (e :: es) [] pos) (eCall (argc n m) fs) := by
  obtain ⟨f, fd, d, F⟩ := h
  exact se_callK d F (hr.mono hk) tk ha hg hdb he hpl
section
variable {P : Program} {w : World} {K : PySem.W.Frag} {mg : Str → Option Value} {base : Heap}
theorem ok_fn {x : Str} {st : Stmt} {N ps : List Str} {k n : Nat} {body : SM} (d : ∃ f fd, Dfn K mg x st ps f fd) (S : FnScope N ps (defScope st)) (hn : ps.length = n)
    (hbody : ∀ (f : Addr) (cdv : Value) (A : Around) (outer : List Env) (s : Shared) (H : Hp) (E : XK), Room k (A.deeper (PyProof.Rows.envOfC x (defScope st) s.heap.objs.size f cdv)) →
      SSs (cxOf (L2.CX P w) P w K mg base N x (defScope st) f cdv A outer s H E) (WD E) (defBody st) body) : Ok P w K mg base (k + 1) x st ps n (fnOf n N.length body) := by
  obtain ⟨f, fd, d⟩ := d
  exact ⟨f, fd, d, fn_sim d.F S hn (hbody f)⟩
theorem ok_keep {x : Str} {st : Stmt} {N ps : List Str} {k n : Nat} {body : SM} (d : ∃ f fd, Dfn K mg x st ps f fd) (S : FnScope N ps (defScope st)) (hn : ps.length = n)
    (hbody : ∀ (f : Addr) (cdv : Value) (A : Around) (outer : List Env) (s : Shared) (H : Hp) (E : XK), Room k (A.deeper (PyProof.Rows.envOfC x (defScope st) s.heap.objs.size f cdv)) →
      SSs (cxOf (L2.CX P w) P w K mg base N x (defScope st) f cdv A outer s H E) (WD E) (defBody st) body) : Ok P w K mg base (k + 1) x st ps n (fnKeep n N.length body) := by
  obtain ⟨f, fd, d⟩ := d
  exact ⟨f, fd, d, fn_keep d.F S hn (hbody f)⟩
theorem ok_zero {x : Str} {st : Stmt} {ps : List Str} {k n : Nat} (d : ∃ f fd, Dfn K mg x st ps f fd) : Ok P w K mg base k x st ps n (fun _ _ => .bad) := by
  obtain ⟨f, fd, d⟩ := d
  exact ⟨f, fd, d, fun vs H Q E h => by obtain ⟨_, _, _, _, _, _, g⟩ := h; exact g.elim, fun _ _ _ _ _ _ _ _ _ _ _ _ _ h => by obtain ⟨_, _, _, _, _, _, g⟩ := h; exact g.elim⟩
end

/-! ### raise, try -/
theorem ss_raiseE {x m : Str} {j : Nat} {p p2 cpos : Pos} (T : ∃ C, ExcX X.K X.mg x C) (tk : Takes X W) (hc : X.calm = true := by rfl) (hg : Gl X x := by rfl) (hdb : (x == ("__debug__" : Str)) = false := by decide) :
    SS X W (.Raise (some (.Call (.Name x p) [.Constant (.str m) j p2] [] cpos)) none pos) (sRaise x) := by
  obtain ⟨C, T⟩ := T
  exact ss_raise T tk hc hg hdb
theorem LocR.hide {K : PySem.W.Frag} {A : List Addr} {H : Hp} {σ : L2.St} {loc : Loc} (l : LocR K A H σ loc) (i : Nat) (o : Option V) : LocR K A H (σ.set i o) (loc.set i none) := by
  refine ⟨by simp [l.1], fun j d h => ?_⟩
  by_cases hj : i = j
  · subst hj
    by_cases hl : i < loc.length
    · rw [List.getElem?_set_self hl] at h; cases h
    · rw [List.getElem?_eq_none (by simpa using hl)] at h; cases h
  · rw [List.getElem?_set_ne hj] at h ⊢
    exact l.2 j d h
/-- an exception x, caught as what it is; of the class y too -/
structure Caught (K : PySem.W.Frag) (mg : Str → Option Value) (x y : Str) : Prop where
  ex : ∃ C D, mg x = some (.ref C) ∧ mg y = some (.ref D) ∧ L2.ExcC K C ∧ PySem.W.exmOne K (.ref C) (.ref C) = some true ∧ PySem.W.kitOne K (.ref C) (.ref D) = some true
/-- try: body / except x as n: if isinstance(n, y): return e -/
def sTryIs (x : Str) (i : Nat) (body : SM) (fe : EM) : SM := fun loc hp => match body loc hp with
  | .exc ex l hp' => if ex.cls = x ∧ ex.fld = none ∧ i < l.length then (match fe (l.set i none) hp' with
    | .ok d hp2 => .rt d hp2
    | _ => .bad) else .bad
  | .nx l h => .nx l h
  | .rt d h => .rt d h
  | .bk l h => .bk l h
  | .ct l h => .ct l h
  | .bad => .bad
theorem ss_tryIs {i : Nat} {x y n : Str} {body : List Stmt} {np pos' ip cp p1 p2 p3 rp : Pos} {fb : SM} (hs : X.stack = X.env :: X.outer) (hf : X.env.frame = some X.env.locals) (hN : X.N.Nodup) (C : Caught X.K X.mg x y) (hm : X.mg "isinstance" = none)
    (hb : ∀ (W : WX) (pn : List (Addr × Obj)) (xe : Value → Shared → Prop), Takes (X.tr pn xe) W → PassesOwn (model X.prog X.w) X.A X.env xe → SSs (X.tr pn xe) W body fb)
    (he : ∀ (a : Addr) (oe : Obj) (pn : List (Addr × Obj)), SE (X.suite a ((a, oe) :: pn)) (fun _ _ _ _ => False) e fe)
    (hi : X.N[i]? = some n := by rfl) (hln : X.env.kindOf n = some .local := by rfl) (hgx : Gl X x := by rfl) (hgy : Gl X y := by rfl) (hg : Gl X "isinstance" := by rfl) (hxd : (x == ("__debug__" : Str)) = false := by decide) (hyd : (y == ("__debug__" : Str)) = false := by decide)
    (hnd : (n == ("__debug__" : Str)) = false := by decide) (hnc : (n == ("__classdict__" : Str)) = false := by decide) :
    SS X W (.Try body [.ExceptHandler (some (.Name x np)) (some n) [.If (.Call (.Name "isinstance" p1) [.Name n p2, .Name y p3] [] cp) [.Return (some e) rp] [] ip] pos'] [] [] pos) (sTryIs x i fb fe) := by
  obtain ⟨CB, CS, gx, gy, T, hx, hk⟩ := C.ex
  have key := ps_try_as (X := X) (Wout := fun _ _ _ _ => False) (x := x) (n := n) (c := .ref CB) (i := i) (body := body) (b₀ := .If (.Call (.Name "isinstance" p1) [.Name n p2, .Name y p3] [] cp) [.Return (some e) rp] [] ip) (suite := []) (np := np) (pos := pos) (pos' := pos')
    (tb := fun W => tS X.K X.mg W fb) (ts := fun a cls d T σ H => cls = .ref CB ∧ d = none ∧ σ[i]? = some (some (.ref a)) ∧ tRet (tG X.K X.mg (fun _ _ _ _ => False) (Rp X.K) fe) T σ H)
    hs hf hN hi hln ⟨hgx, hxd, .inl gx⟩ takes0 (fun W pn xe tk po => hb W pn xe tk po) (fun a oe cls d pn hz hfld => ⟨fun pins s σ H T' I q => by
      obtain ⟨rfl, rfl, hσ, q⟩ := q
      have vis : Vis X.env.scope n := .inl hln
      have pe : PE (X.suite a ((a, oe) :: pn)) (.Call (.Name "isinstance" p1) [.Name n p2, .Name y p3] [] cp) (tCB (rIsE X.K CB a) (tCons (tVar i) (tCons (tC (.ref CS)) tNil))) :=
        pe_callB (X := X.suite a ((a, oe) :: pn)) (call_isE T hz hfld) hg hm (by decide +kernel) (pa_cons (pe_var hi vis hnd hnc) (pa_cons (pe_glob hgy gy rfl hyd) pa_nil)) (by decide) (by decide)
      exact (pss_one (ps_if (pt_val pe) (pss_one (ps_ret (he a oe pn))) pss_nil)).run pins s σ H T' I ⟨_, hσ, .ref CS, .ref CS, true, rfl, fun u r => r, hk, true, rfl, iteT q⟩⟩)
  refine key.weak fun T' σ H ⟨A, loc, hp, r, hl, q⟩ => ⟨A, loc, hp, r, hl, ?_⟩
  unfold sTryIs at q
  cases o : fb loc hp with
  | exc ex l hp' =>
    rw [o] at q
    simp only at q
    by_cases hz : ex.cls = x ∧ ex.fld = none ∧ i < l.length
    · rw [if_pos hz] at q
      intro A2 H2 σ2 c od e2 r2 l2 hx2
      obtain ⟨x1, x2⟩ := hx2
      rw [hz.1, gx] at x1
      cases x1
      rw [hz.2.1] at x2
      refine ⟨true, hx, fun _ a ha => ⟨rfl, x2, ?_, ?_⟩, fun z => by cases z⟩
      · rw [List.getElem?_set_self (by rw [l2.1]; exact hz.2.2)]
      · cases o2 : fe (l.set i none) hp' with
        | ok d hp2 =>
          rw [o2] at q
          refine ⟨A2, l.set i none, hp', r2, l2.hide i _, ?_⟩
          rw [o2]
          exact fun A3 H3 v e3 r3 q3 => q A3 H3 v (e2.trans e3) r3 q3
        | exc _ _ => rw [o2] at q; exact q.elim
        | bad => rw [o2] at q; exact q.elim
    · rw [if_neg hz] at q; exact q.elim
  | nx l h => rw [o] at q; exact q
  | rt d h => rw [o] at q; exact q
  | bk l h => rw [o] at q; exact q
  | ct l h => rw [o] at q; exact q
  | bad => rw [o] at q; exact q
end
end Ms

/-! Statements behind which a token is given out: str.replace. -/
namespace Ms
open PySem L2 PySem.Spec PyProof.Rows
section
variable {X : Cx} {W : WX} {pos : Pos} {e a b : PySem.Expr} {es : List PySem.Expr} {fe fa fb : EM} {st : Stmt} {rest : List Stmt} {f g : SM}
structure SET (X : Cx) (W : WX) (e : PySem.Expr) (f : EM) : Prop where
  run : PET X e (tG X.K X.mg W (Rp X.K) f)
structure SAT (X : Cx) (W : WX) (es : List PySem.Expr) (f : AM) : Prop where
  run : PAT X es (tG X.K X.mg W (RpL X.K) f)
structure SST (X : Cx) (W : WX) (st : Stmt) (f : SM) : Prop where
  run : PST X st (tS X.K X.mg W f)
structure SSsT (X : Cx) (W : WX) (st : List Stmt) (f : SM) : Prop where
  run : PSsT X st (tS X.K X.mg W f)
theorem set_of (h : SE X W e fe) : SET X W e fe := ⟨fun pins s σ H Q _ I q => h.run pins s σ H Q I q⟩
theorem sst_of (h : SS X W st f) : SST X W st f := ⟨PST.of h⟩
theorem ssst_of (h : SSs X W rest f) : SSsT X W rest f := ⟨PSsT.of h⟩
theorem set_bin {op : Operator} {r : R2} {gg : D → D → HM → O D} (ho : OpR X (binaryOp op) r) (hg : OpG X.K X.mg r gg) (ha : SET X W a fa) (hb : SET X W b fb) : SET X W (.BinOp a op b pos) (eBin gg fa fb) :=
  ⟨fun pins s σ H Q h0 I q => CwR.pet_op ho ha.run hb.run pins s σ H Q h0 I (bin_w hg σ H Q q)⟩
theorem sat_nil : SAT X W [] aNil := ⟨fun pos pins s σ H Q h0 I q => (sa_nil (X := X) (W := W)).run pos pins s σ H Q I q⟩
theorem sat_cons {fs : AM} (ha : SET X W e fe) (hr : SAT X W es fs) (hs : starEach (e :: es) X.env = (false, eval e X.env) :: starEach es X.env := by rfl) : SAT X W (e :: es) (aCons fe fs) := by
  refine ⟨fun pos pins s σ H Q h0 I q => ?_⟩
  refine pat_cons ha.run hr.run hs pos pins s σ H Q h0 I ?_
  obtain ⟨A, loc, hp, r, hl, hq⟩ := q
  refine ⟨A, loc, hp, r, hl, (Good.bind (R := Rp X.K) hq).mono ?_⟩
  rintro v1 H1 ⟨A1, hp1, d1, e1, r1, q1, g1⟩
  refine ⟨A1, loc, hp1, r1, hl.ext e1, (Good.bind (R := RpL X.K) g1).mono ?_⟩
  rintro vs H2 ⟨A2, hp2, ds, e2, r2, q2, g2⟩
  exact g2 A2 H2 _ (.refl _ _) r2 (.cons (q1.ext e2) q2)
theorem set_lst {fs : AM} (h : SAT X W es fs) : SET X W (.List es pos) (eLst fs) := by
  refine ⟨fun pins s σ H Q h0 I q => ?_⟩
  refine pet_lst h.run pins s σ H Q h0 I ?_
  obtain ⟨A, loc, hp, r, hl, hq⟩ := q
  refine ⟨A, loc, hp, r, hl, (Good.bind (R := RpL X.K) hq).mono ?_⟩
  rintro vs H1 ⟨A1, hp1, ds, e1, r1, q1, g1⟩
  by_cases hz : ds.length ≤ big
  · rw [if_pos hz] at g1
    exact ⟨by rw [q1.length]; exact big_line hz, new_lst r1 q1 g1⟩
  · rw [if_neg hz] at g1; exact g1.elim
theorem pet_tup {t : TA} {k : Nat} (h : PAT X es t) : PET X (.Tuple es k pos) (tTup t) := fun pins s σ H Q h0 I hq => by
  refine wpAny_Tuple_spliced (thn (h pos pins s σ H _ h0 I hq) fun us s1 ⟨xs, H1, I1, r, z, q⟩ => ⟨r.length ▸ z, ?_⟩)
  have hf := I1.hok.fresh (Nat.le_refl s1.heap.objs.size)
  exact ⟨.ref s1.heap.objs.size, _, I1.laid (t' := s1.toks) (o := .tup xs) (fun b u e => Heap.get?_push_of_some _ e) (Nat.le_refl _) ⟨z, us, r, ⟨_, Heap.get?_push_size _ rfl, rfl, _, rfl⟩⟩, rfl, q _ hf⟩
theorem set_tup {fs : AM} {k : Nat} (h : SAT X W es fs) : SET X W (.Tuple es k pos) (eTup fs) := by
  refine ⟨fun pins s σ H Q h0 I q => ?_⟩
  refine pet_tup h.run pins s σ H Q h0 I ?_
  obtain ⟨A, loc, hp, r, hl, hq⟩ := q
  refine ⟨A, loc, hp, r, hl, (Good.bind (R := RpL X.K) hq).mono ?_⟩
  rintro vs H1 ⟨A1, hp1, ds, e1, r1, q1, g1⟩
  by_cases hz : ds.length ≤ big
  · rw [if_pos hz] at g1
    exact ⟨by rw [q1.length]; exact big_line hz, new_tup r1 q1 g1⟩
  · rw [if_neg hz] at g1; exact g1.elim
/-- o.replace('y', 'z') -/
def eRepl (f : EM) (y z : Str) : EM := fun loc hp => (f loc hp).bind fun d hp1 => match d with
  | .str x => if x.length + (x.length + 1) * z.length ≤ big then .ok (.str (Txt.replace x y z)) hp1 else .bad
  | _ => .bad
theorem set_repl {y z : Str} {j k : Nat} {c0 c1 apos : Pos} (ho : SE X W e fe) (hyz : (y == z) = false := by decide)
    (hst : starEach [.Constant (.str y) j c0, .Constant (.str z) k c1] X.env = [(false, eval (.Constant (.str y) j c0) X.env), (false, eval (.Constant (.str z) k c1) X.env)] := by rfl)
    (hbase : attributeBase e "replace" X.env (eval e X.env) = eval e X.env := by rfl) (hline : (apos.endLine == pos.line) = true := by rfl) :
    SET X W (.Call (.Attribute e "replace" apos) [.Constant (.str y) j c0, .Constant (.str z) k c1] [] pos) (eRepl fe y z) := by
  refine ⟨fun pins s σ H Q h0 I q => ?_⟩
  refine CwR.pet_replC ho hyz hst hbase hline pins s σ H Q h0 I ?_
  obtain ⟨A, loc, hp, r, hl, hq⟩ := q
  refine ⟨A, loc, hp, r, hl, (Good.bind (R := Rp X.K) hq).mono ?_⟩
  rintro v1 H1 ⟨A1, hp1, d1, e1, r1, q1, g1⟩
  cases d1 with
  | str x =>
    simp only at g1
    by_cases hz : x.length + (x.length + 1) * z.length ≤ big
    · rw [if_pos hz] at g1
      exact ⟨x, q1.str_inv, Nat.le_trans hz (by decide), g1.here r1 (.str _)⟩
    · rw [if_neg hz] at g1; exact g1.elim
  | _ => exact g1.elim
theorem sst_asg {i : Nat} {x : Str} {pos' : Pos} (hN : X.N.Nodup) (he : SET X W e fe) (hi : X.N[i]? = some x := by rfl) (hx : L2.Loc X.env.scope x := by first | exact Or.inl rfl | exact Or.inr rfl) (hs : swapsWith e (some (.Name x pos')) pos.line X.env = pure false := by rfl)
    (hf : X.fn x = true ∨ X.env.scope.names.lookup x = some .local := by first | exact .inl rfl | exact .inr rfl | assumption) : SST X W (.Assign [.Name x pos'] e pos) (sAsg fe i) := by
  refine ⟨fun pins s σ H T h0 I q => ?_⟩
  obtain ⟨A, loc, hp, r, hl, hq⟩ := q
  refine wpAny_Assign_Name (thn (he.run pins s σ H (fun y H1 => T.nx (σ.set i (some y)) H1) h0 I ⟨A, loc, hp, r, hl, (GoodS.bind (R := Rp X.K) hl hq).mono ?_⟩) fun v s1 ⟨y, H1, I1, r1, q1⟩ => ?_) hs
  · rintro v H1 ⟨A1, hp1, d1, e1, r1, q1, l1, g1⟩
    exact g1 A1 H1 _ (.refl _ _) r1 (l1.set i q1)
  · exact store_ok I1 hN hi hx r1 (fun s2 I2 => ⟨_, H1, I2, q1⟩) hf
theorem ssst_cons (h1 : SST X W st f) (h2 : SSsT X W rest g) : SSsT X W (st :: rest) (sSeq f g) := by
  refine ⟨fun pins s σ H T h0 I q => ?_⟩
  refine psst_cons h1.run h2.run pins s σ H T h0 I ?_
  obtain ⟨A, loc, hp, r, hl, q⟩ := q
  refine ⟨A, loc, hp, r, hl, ?_⟩
  unfold sSeq at q
  cases o : f loc hp with
  | nx l h => rw [o] at q; exact fun A1 H1 σ1 e1 r1 l1 => ⟨A1, l, h, r1, l1, q.ext e1⟩
  | rt d h => rw [o] at q; exact q
  | bk l h => rw [o] at q; exact q
  | ct l h => rw [o] at q; exact q
  | exc x l h => rw [o] at q; exact q
  | bad => rw [o] at q; exact q
/-- x = k op b, k a written int: a token is given out -/
theorem ss_consK {i : Nat} {x : Str} {pos' p1 p2 : Pos} {k : Int} {j : Nat} {op : Operator} {r : R2} {gg : D → D → HM → O D} (hN : X.N.Nodup) (ho : OpR X (binaryOp op) r) (hg : OpG X.K X.mg r gg) (hb : SE X W b fb) (h2 : SSsT X W rest g)
    (hi : X.N[i]? = some x := by rfl) (hx : L2.Loc X.env.scope x := by first | exact Or.inl rfl | exact Or.inr rfl) (hs : swapsWith (.BinOp (.Constant (.int k) j p1) op b p2) (some (.Name x pos')) pos.line X.env = pure false := by rfl)
    (hf : X.fn x = true ∨ X.env.scope.names.lookup x = some .local := by first | exact .inl rfl | exact .inr rfl | assumption) :
    SSs X W (.Assign [.Name x pos'] (.BinOp (.Constant (.int k) j p1) op b p2) pos :: rest) (sSeq (sAsg (eBin gg (eC (.int k)) fb) i) g) := by
  refine ⟨fun pins s σ H T I q => ?_⟩
  obtain ⟨A, loc, hp, hr, hl, q⟩ := q
  -- what follows, behind the store
  have q : GoodS X.K X.mg W A H (sE ((eBin gg (eC (.int k)) fb) loc hp) loc fun d hp1 => g (loc.set i (some d)) hp1) T := by
    unfold sSeq sAsg at q
    cases o : eBin gg (eC (.int k)) fb loc hp with
    | ok d hp1 => rw [o] at q; exact q
    | exc x h => rw [o] at q; exact q
    | bad => rw [o] at q; exact q
  have tok : wpAny (model X.prog X.w) X.A (eval (.BinOp (.Constant (.int k) j p1) op b p2) X.env) (fun u s' => 1 ≤ s'.toks ∧ EP X pins σ (fun y H1 => tS X.K X.mg W g T (σ.set i (some y)) H1) u s') X.xe s := by
    refine wpAny_BinOp (wpAny_Constant_int ?_)
    have I1 := I.tok (s.toks + 1)
    have q' := GoodS.bind (R := Rp X.K) (σ := σ) hl q
    have hbr := hb.run pins { s with toks := s.toks + 1 } σ H (fun y H2 => r (.int k) y H2 fun z H3 => tS X.K X.mg W g T (σ.set i (some z)) H3) I1 ⟨A, loc, hp, hr, hl, (Good.bind (R := Rp X.K) (k := fun y hp2 => gg (.int k) y hp2) (o := fb loc hp) q').mono (by
        rintro v2 H2 ⟨A2, hp2, d2, e2, r2, q2, g2⟩
        refine hg W σ A2 H2 hp2 _ v2 _ d2 _ r2 (.int k) q2 (g2.mono ?_)
        rintro v3 H3 ⟨A3, hp3, d3, e3, r3, q3, l3, g3⟩
        exact ⟨A3, _, hp3, r3, l3.set i q3, g3⟩)⟩
    refine wpAny_mono (wpAny_toks_of (n := 1) (Nat.le_add_left 1 s.toks) hbr) (fun u s2 z => ?_) fun _ _ z => z.2
    obtain ⟨h1, y, H2, I2, r2, q2⟩ := z
    exact wpAny_mono (wpAny_toks_of (n := 1) h1 (ho pins s2 σ H2 (.int k) y _ u _ I2 ⟨_, rfl⟩ r2 q2)) (fun _ _ z => z) fun _ _ z => z.2
  have key : wpAny (model X.prog X.w) X.A (exec (.Assign [.Name x pos'] (.BinOp (.Constant (.int k) j p1) op b p2) pos) X.env) (fun fl s1 => fl = .next ∧ 1 ≤ s1.toks ∧ ∃ σ' H', Inv X pins σ' H' s1 ∧ tS X.K X.mg W g T σ' H') X.xe s := by
    refine wpAny_Assign_Name (thn tok fun v s1 ⟨h1, y, H1, I1, r1, q1⟩ => ?_) hs
    have st := store_ok (M := model X.prog X.w) (A := X.A) (E := X.xe) (Q := fun _ s2 => ∃ σ' H', Inv X pins σ' H' s2 ∧ tS X.K X.mg W g T σ' H') I1 hN hi hx r1 (fun s2 I2 => ⟨_, H1, I2, q1⟩) hf
    exact wpAny_mono (wpAny_toks_of (n := 1) h1 st) (fun _ s2 z => ⟨rfl, z.1, z.2⟩) fun _ _ z => z.2
  refine wpAny_execs_cons (thn key fun fl s1 ⟨e1, h1, σ', H', I1, q1⟩ => ?_)
  subst e1
  exact h2.run pins s1 σ' H' T h1 I1 q1
end
end Ms

/-! What the top has written, by what k_is finds; the end. -/
namespace Ms
open PySem L2
section
variable {K : PySem.W.Frag} {h : Heap} {mg : Str → Option Value}
theorem dfn_mk {x : Str} {st : Stmt} {ps : List Str} {f : Addr} {oc kV dc pm cd ct : Value} {od an : Option Addr} {sl : Array (Option Value)} (X : K.In h) (G : h.Ns mainGlobals mg) (a : PySem.W.nsIn K mainGlobals x = some (some (.ref f)))
    (l : K.lookup f = some ⟨oc, od, .func (PySem.W.fnOf x x (defArgs st) (defBody st) (defScope st) .none kV dc pm an cd ct), sl⟩) (c : PySem.W.codeIn K cd x = true) (k : PySem.W.keepIn K (.ref f) = true)
    (hb : ∀ (kV doc pm : Value) (an : Option Addr) (cdv ct : Value) (us : List Value), us.length = ps.length → bindArgs (PySem.W.fnOf x x (defArgs st) (defBody st) (defScope st) .none kV doc pm an cdv ct) ⟨us, []⟩ = pure (ps.zip us)) : ∃ f fd, Dfn K mg x st ps f fd :=
  ⟨f, _, PySem.W.mg_of X G a, fun_mk l c k, (fun_mk l c k).binds hb⟩
theorem tup_mk {x : Str} {ns : List Int} {a : Addr} {its : Array Value} {n : Nat} (X : K.In h) (G : h.Ns mainGlobals mg) (ha : PySem.W.nsIn K mainGlobals x = some (some (.ref a))) (l : K.lookup a = some { cls := .type "tuple", data := .seq its n })
    (z : its.size ≤ 1000) (r : Vals (ns.map V.int) its.toList) : ∃ a, mg x = some (.ref a) ∧ ∀ H, SqT K H a (ns.map V.int) :=
  ⟨a, PySem.W.mg_of X G ha, fun H => .inr ⟨_, its, n, l, rfl, rfl, Nat.le_trans z (by decide), r⟩⟩
theorem int_mk {x : Str} {i : Int} {u : Value} (X : K.In h) (G : h.Ns mainGlobals mg) (a : PySem.W.nsIn K mainGlobals x = some (some u)) (r : ∃ t, u = .int i t) : ∃ t, mg x = some (.int i t) := by
  obtain ⟨t, e⟩ := r
  exact ⟨t, by rw [PySem.W.mg_of X G a, e]⟩
theorem str_mk {x y : Str} {u : Value} (X : K.In h) (G : h.Ns mainGlobals mg) (a : PySem.W.nsIn K mainGlobals x = some (some u)) (r : ∃ t, u = .str y t) : ∃ t, mg x = some (.str y t) := by
  obtain ⟨t, e⟩ := r
  exact ⟨t, by rw [PySem.W.mg_of X G a, e]⟩
theorem exc_mk {x : Str} {C : Addr} (X : K.In h) (G : h.Ns mainGlobals mg) (a : PySem.W.nsIn K mainGlobals x = some (some (.ref C)))
    (e : PySem.W.excIn K C [.type "ValueError", .type "Exception", .type "BaseException", .type "object"] "ValueError.__new__" = true) (k : PySem.W.keepIn K (.ref C) = true) (b : PySem.W.subIn K (.ref C) (.type "BaseException") = some true)
    (t : PySem.W.typeIn K (.ref C) = some (.type "type")) : ∃ C, ExcX K mg x C := ⟨C, PySem.W.mg_of X G a, e, k, b, t⟩
theorem caught_mk {x y : Str} {C D : Addr} (X : K.In h) (G : h.Ns mainGlobals mg) (a : PySem.W.nsIn K mainGlobals x = some (some (.ref C))) (b : PySem.W.nsIn K mainGlobals y = some (some (.ref D)))
    (g1 : PySem.W.findIn K (.ref C) "__getattribute__" = some (some (.builtin "BaseException.__getattribute__"))) (g2 : PySem.W.findIn K (.ref C) "__getattr__" = some none) (g3 : PySem.W.subIn K (.ref C) (.type "BaseException") = some true) (g4 : PySem.W.hasDictIn K C = true)
    (g5 : PySem.W.findIn K (.ref C) "__class__" = some (some (.builtin "object.__class__"))) (g6 : PySem.W.specialIn K (.builtin "object.__class__") "__get__" = some (some (.builtin "getset_descriptor.__get__"))) (g7 : PySem.W.takesIn K (.builtin "object.__class__") = some true)
    (g8 : PySem.W.mroIn K C (.type "object") = some true) (hx : PySem.W.exmOne K (.ref C) (.ref C) = some true) (hk : PySem.W.kitOne K (.ref C) (.ref D) = some true) : Caught K mg x y :=
  ⟨C, D, PySem.W.mg_of X G a, PySem.W.mg_of X G b, ⟨g1, g2, g3, g4, g5, g6, g7, g8⟩, hx, hk⟩
end
theorem body_cast {X : Cx} {W : WX} {l l' : List Stmt} {f : SM} (e : l = l') (h : SSs X W l' f) : SSs X W l f := by rw [e]; exact h
/-- the end of a law: its mirror says True of every script -/
theorem walk_law {l : PySem.W.OpenLaw} {q : Program} {loose : List Str} {XP : (Str → Option Value) → Heap → Prop} {YP : World → Heap → Prop} {d : DefRec} {K : Params → PySem.W.Frag} {m : Fn} {st : Stmt} {j : Nat} (hn : l.most = some 63) (hdf : d.params.defaults = []) (hr : Room j callerA)
    (hb : ∀ (kV doc pm : Value) (an : Option Addr) (cdv ct : Value) (u : Value), bindArgs (PySem.W.fnOf d.name d.name (defArgs st) (defBody st) (defScope st) .none kV doc pm an cdv ct) ⟨[u], []⟩ = pure [(("script" : Str), u)])
    (hY : ∀ (w : World) (h : Heap), YP w h → (K w.params).In h)
    (F : ∀ (w : World) (mg : Str → Option Value) (h : Heap), (K w.params).In h → h.Ns mainGlobals mg → ∀ base : Heap, Ok l.prog w (K w.params) mg base j d.name st ["script"] 1 m)
    (T : ∀ ns : List Int, ns.length ≤ 63 → ∃ hp, m [.scr ns] [] = .ok (.bl true) hp) :
    PySem.W.WalkO q loose XP YP l.row.toRowW d [] (fun f vs => PySem.call f vs) := by
  refine L2.walk_of (n := 63) (k := j) (x := "script") (CX := fun w => L2.CX l.prog w) (sp := fun w vs H Q E => ∃ (a : Addr) (ns : List Int), vs = [.ref a] ∧ ns.length ≤ 63 ∧ SqL (K w.params) H a (ns.map V.int) ∧ ∀ H', Q (.bl true) H') hn (by decide) hdf hr hY
    (fun w mg fa h KX G hmg => ?_) (fun w H a ns hl hO hS => ⟨a, ns, rfl, hl, hS, fun _ => rfl⟩) fun w H s e s' z => ?_
  · obtain ⟨f, fd, D0, _⟩ := F w mg h KX G h
    obtain ⟨oc, od, kV, doc, pm, an, cdv, ct, osl, e1, _⟩ := D0.F.ex
    have ef : f = fa := by
      have := D0.m
      rw [hmg] at this
      cases this; rfl
    subst ef
    refine ⟨fd, fun s u => .of_eq (by rw [e1]; exact hb kV doc pm an cdv ct u), fun base hK hG => ?_⟩
    obtain ⟨f2, fd2, D2, F2⟩ := F w mg h KX G base
    have ef2 : f2 = f := by
      have := D2.m
      rw [hmg] at this
      cases this; rfl
    subst ef2
    have efd : fd2 = fd := by
      obtain ⟨_, _, _, _, _, _, _, _, _, _, lk, _⟩ := D0.F.ex
      obtain ⟨_, _, _, _, _, _, _, _, _, _, lk2, _⟩ := D2.F.ex
      rw [lk] at lk2
      cases lk2; rfl
    subst efd
    refine F2.imp fun vs H Q E z => ?_
    obtain ⟨a, ns, rfl, hl, hS, k⟩ := z
    obtain ⟨hp, hT⟩ := T ns hl
    refine ⟨rfl, [], [], [.scr ns], ⟨rfl, List.nodup_nil, fun n mo a h => by simp at h⟩, .cons (.scr ?_) .nil, ?_⟩
    · rcases hS with hS | hS
      · exact .own (by simp) hS
      · exact .wr fun H' => .inr hS
    · rw [hT]
      intro A' H' v _ _ qv
      rw [qv.bl_inv]
      exact k H'
  · obtain ⟨_, _, _, _, _, _, _, _, _, _, _, _, x⟩ := z
    exact x
end Ms

namespace G80
open PySem L2 Ms
def top (i : Nat) : Stmt := PySem.Challenge.pw_stewardsight_k80_texts_of_eyes_and_rows.main.body.getD i (.Pass ⟨0, 0, 0, 0⟩)
/-- what the top has written -/
structure Txt (K : PySem.W.Frag) (mg : Str → Option Value) : Prop where
  d__law_numbers : ∃ f fd, Dfn K mg "_law_numbers" (top 43) ["cell", "many"] f fd
  d__law_cell : ∃ f fd, Dfn K mg "_law_cell" (top 42) ["script", "k"] f fd
  d__law_pool : ∃ f fd, Dfn K mg "_law_pool" (top 44) ["script"] f fd
  d__law_draw : ∃ f fd, Dfn K mg "_law_draw" (top 45) ["pool", "many"] f fd
  d__law_some : ∃ f fd, Dfn K mg "_law_some" (top 46) ["pool", "many", "lean"] f fd
  d__law_row : ∃ f fd, Dfn K mg "_law_row" (top 48) ["pool", "deeds", "most"] f fd
  d__law_eyes : ∃ f fd, Dfn K mg "_law_eyes" (top 47) ["pool", "deeds"] f fd
  d__law_join : ∃ f fd, Dfn K mg "_law_join" (top 53) ["mark", "words"] f fd
  d__law_guard : ∃ f fd, Dfn K mg "_law_guard" (top 49) ["pool", "deeds", "most"] f fd
  d__law_kind : ∃ f fd, Dfn K mg "_law_kind" (top 50) ["x"] f fd
  d__law_equal : ∃ f fd, Dfn K mg "_law_equal" (top 51) ["x", "due"] f fd
  d__law_set_text : ∃ f fd, Dfn K mg "_law_set_text" (top 54) ["numbers"] f fd
  d_sign_of : ∃ f fd, Dfn K mg "sign_of" (top 27) ["number"] f fd
  d_write_steps : ∃ f fd, Dfn K mg "write_steps" (top 38) ["steps"] f fd
  d_require : ∃ f fd, Dfn K mg "require" (top 26) ["condition"] f fd
  d_is_ascending : ∃ f fd, Dfn K mg "is_ascending" (top 10) ["value"] f fd
  d_number_of : ∃ f fd, Dfn K mg "number_of" (top 13) ["text"] f fd
  d_read_set : ∃ f fd, Dfn K mg "read_set" (top 32) ["text"] f fd
  d_read_guard_line : ∃ f fd, Dfn K mg "read_guard_line" (top 36) ["line"] f fd
  d_is_tuple : ∃ f fd, Dfn K mg "is_tuple" (top 8) ["value", "size"] f fd
  d_is_between : ∃ f fd, Dfn K mg "is_between" (top 9) ["value", "low", "high"] f fd
  d_is_integer : ∃ f fd, Dfn K mg "is_integer" (top 6) ["value"] f fd
  d_is_number : ∃ f fd, Dfn K mg "is_number" (top 7) ["value", "low", "high"] f fd
  d_are_integers : ∃ f fd, Dfn K mg "are_integers" (top 11) ["value", "low", "high"] f fd
  d_are_numbers : ∃ f fd, Dfn K mg "are_numbers" (top 12) ["value", "low", "high"] f fd
  d_is_guard : ∃ f fd, Dfn K mg "is_guard" (top 23) ["deeds", "value"] f fd
  d_read_guard : ∃ f fd, Dfn K mg "read_guard" (top 37) ["deeds", "text"] f fd
  d_read_row : ∃ f fd, Dfn K mg "read_row" (top 30) ["text"] f fd
  d_read_sign : ∃ f fd, Dfn K mg "read_sign" (top 28) ["text"] f fd
  d_read_step : ∃ f fd, Dfn K mg "read_step" (top 39) ["text"] f fd
  d_read_steps : ∃ f fd, Dfn K mg "read_steps" (top 40) ["text"] f fd
  d_is_eyes : ∃ f fd, Dfn K mg "is_eyes" (top 18) ["deeds", "value"] f fd
  d_read_eyes : ∃ f fd, Dfn K mg "read_eyes" (top 34) ["deeds", "text"] f fd
  d__law_read : ∃ f fd, Dfn K mg "_law_read" (top 57) ["way", "deeds", "text"] f fd
  d_write_eyes : ∃ f fd, Dfn K mg "write_eyes" (top 33) ["eyes"] f fd
  d_write_set : ∃ f fd, Dfn K mg "write_set" (top 31) ["numbers"] f fd
  d_write_guard : ∃ f fd, Dfn K mg "write_guard" (top 35) ["guard"] f fd
  d_write_row : ∃ f fd, Dfn K mg "write_row" (top 29) ["numbers"] f fd
  d__law_row_text : ∃ f fd, Dfn K mg "_law_row_text" (top 55) ["numbers"] f fd
  d__law_sign : ∃ f fd, Dfn K mg "_law_sign" (top 52) ["number"] f fd
  d_law : ∃ f fd, Dfn K mg "law" (top 58) ["script"] f fd
  b_all : mg "all" = none
  b_bool : mg "bool" = none
  b_int : mg "int" = none
  b_isinstance : mg "isinstance" = none
  b_len : mg "len" = none
  b_list : mg "list" = none
  b_max : mg "max" = none
  b_min : mg "min" = none
  b_range : mg "range" = none
  b_str : mg "str" = none
  b_tuple : mg "tuple" = none
  b_zip : mg "zip" = none
  c_DASH : ∃ t, mg "DASH" = some (.str "-" t)
  c_DIGITS : ∃ t, mg "DIGITS" = some (.str "0123456789" t)
  c_LAST_LOOK : ∃ t, mg "LAST_LOOK" = some (.int (3) t)
  c_LOOKS : ∃ a, mg "LOOKS" = some (.ref a) ∧ ∀ H, SqT K H a (([0, 1, 2, 3] : List Int).map V.int)
  c_MOST_DEEDS : ∃ t, mg "MOST_DEEDS" = some (.int (4) t)
  c_MOST_DIGITS : ∃ t, mg "MOST_DIGITS" = some (.int (9) t)
  c_MOST_GUARDS : ∃ t, mg "MOST_GUARDS" = some (.int (5000) t)
  c_NOTHING : ∃ t, mg "NOTHING" = some (.int (-1) t)
  c_NOWHERE : ∃ t, mg "NOWHERE" = some (.int (-1) t)
  x_BadText : ∃ C, ExcX K mg "BadText" C
  y_BadText : Caught K mg "BadText" "StewardError"
section
variable {P : Program} {w : World} {K : PySem.W.Frag} {mg : Str → Option Value} {base : Heap}
/-! _law_numbers -/
abbrev s__law_numbers : Stmt := top 43
abbrev N__law_numbers : List Str := ["cell", "many", "rows", "left", "k", "mixed"]
theorem sc__law_numbers : FnScope N__law_numbers ["cell", "many"] (defScope s__law_numbers) := ⟨rfl, rfl, rfl, by decide +kernel, rfl, by decide +kernel, by decide +kernel⟩
def b__law_numbers : SM :=
  (sSeq (sAsg (eLstT aNil) 2)
    (sSeq (sAsg (eVar 0) 3)
    (sSeq (sFor (iRg1 (aCons (eVar 1) aNil)) (tgName 4) (sIf (mAnd (mT (eBin gGe (eVar 0) (eBin gPow (eC (.int 10)) (eC (.int 18))))) (mT (eBin gGt (eVar 3) (eC (.int 0))))) (sSeq (sDrop (eAppend (eVar 2) (eBin gMod (eCall gInt (aCons (eVar 3) aNil)) (eC (.int 4099)))))
    (sAsg (eBin gDiv (eVar 3) (eC (.int 4099))) 3)) (sSeq (sAsg (eBin gMod (eCall gInt (aCons (eBin gAdd (eBin gMul (eVar 0) (eC (.int 69621))) (eBin gMul (eBin gAdd (eVar 4) (eC (.int 1))) (eC (.int 48271)))) aNil)) (eC (.int 2147483647))) 5)
    (sSeq (sAsg (eBin gMod (eCall gInt (aCons (eBin gAdd (eBin gAdd (eBin gMul (eVar 5) (eVar 5)) (eBin gMul (eVar 5) (eC (.int 16807)))) (eBin gMul (eVar 4) (eC (.int 7919)))) aNil)) (eC (.int 2147483629))) 5)
    (sSeq (sAsg (eBin gMod (eCall gInt (aCons (eBin gAdd (eBin gAdd (eBin gMul (eVar 5) (eVar 5)) (eVar 0)) (eBin gMul (eC (.int 17)) (eVar 4))) aNil)) (eC (.int 2147483587))) 5)
    (sDrop (eAppend (eVar 2) (eBin gMod (eBin gDiv (eVar 5) (eC (.int 5))) (eC (.int 4099))))))))))
    (sRet (eVar 2)))))
def m__law_numbers : Fn := fnOf 2 6 b__law_numbers
theorem ok__law_numbers (T : Txt K mg) : Ok P w K mg base 1 "_law_numbers" s__law_numbers ["cell", "many"] 2 m__law_numbers := ok_fn T.d__law_numbers sc__law_numbers rfl fun f cdv A outer s H E hr => (fun (tk : Tk (cxOf (L2.CX P w) P w K mg base N__law_numbers "_law_numbers" (defScope s__law_numbers) f cdv A outer s H E) (WD E)) => (ss_cons (ss_asg (i := 2) sc__law_numbers.nd (se_lstT sa_nil))
    (ss_cons (ss_asg (i := 3) sc__law_numbers.nd (se_of (pv 0)))
    (ss_cons (ss_for (passes_of rfl) (si_rg1 T.b_range (sa_cons (se_of (pv 1)) sa_nil)) (pg_name (i := 4) sc__law_numbers.nd rfl (Or.inl rfl)) tr_name (ss_one (ss_if (PW.pt (sw_and (st_cmp op_ge og_ge (se_of (pv 0)) (se_bin op_pow og_pow se_int se_int) (nomark _)) (sw_one (st_cmp op_gt og_gt (se_of (pv 3)) se_int (nomark _))))) (ss_cons (ss_expr (se_append (se_of (pv 2)) (se_bin op_mod og_mod (se_callTy (call_int1.or call_int_str) cg_int (by rfl) T.b_int (by decide +kernel) (sa_cons (se_of (pv 3)) sa_nil)) se_int)))
    (ss_one (ss_asg (i := 3) sc__law_numbers.nd (se_bin op_fdiv og_div (se_of (pv 3)) se_int)))) (ss_cons (ss_asg (i := 5) sc__law_numbers.nd (se_bin op_mod og_mod (se_callTy (call_int1.or call_int_str) cg_int (by rfl) T.b_int (by decide +kernel) (sa_cons (se_bin op_addA og_add (se_bin op_mul og_mul (se_of (pv 0)) se_int) (se_bin op_mul og_mul (se_bin op_addA og_add (se_of (pv 4)) se_int) se_int)) sa_nil)) se_int))
    (ss_cons (ss_asg (i := 5) sc__law_numbers.nd (se_bin op_mod og_mod (se_callTy (call_int1.or call_int_str) cg_int (by rfl) T.b_int (by decide +kernel) (sa_cons (se_bin op_addA og_add (se_bin op_addA og_add (se_bin op_mul og_mul (se_of (pv 5)) (se_of (pv 5))) (se_bin op_mul og_mul (se_of (pv 5)) se_int)) (se_bin op_mul og_mul (se_of (pv 4)) se_int)) sa_nil)) se_int))
    (ss_cons (ss_asg (i := 5) sc__law_numbers.nd (se_bin op_mod og_mod (se_callTy (call_int1.or call_int_str) cg_int (by rfl) T.b_int (by decide +kernel) (sa_cons (se_bin op_addA og_add (se_bin op_addA og_add (se_bin op_mul og_mul (se_of (pv 5)) (se_of (pv 5))) (se_of (pv 0))) (se_bin op_mul og_mul se_int (se_of (pv 4)))) sa_nil)) se_int))
    (ss_one (ss_expr (se_append (se_of (pv 2)) (se_bin op_mod og_mod (se_bin op_fdiv og_div (se_of (pv 5)) se_int) se_int))))))))))
    (ss_one (ss_ret (se_of (pv 2)))))))) (Tk.of (takes_of rfl rfl rfl rfl) rfl rfl)
/-! _law_cell -/
abbrev s__law_cell : Stmt := top 42
abbrev N__law_cell : List Str := ["script", "k"]
theorem sc__law_cell : FnScope N__law_cell ["script", "k"] (defScope s__law_cell) := ⟨rfl, rfl, rfl, by decide +kernel, rfl, by decide +kernel, by decide +kernel⟩
def b__law_cell : SM :=
  (sSeq (sIf (mT (eBin gLt (eVar 1) (eCall gLen (aCons (eVar 0) aNil)))) (sRet (eBin gIx (eVar 0) (eVar 1))) sNext)
    (sRet (eC (.int 0))))
def m__law_cell : Fn := fnOf 2 2 b__law_cell
theorem ok__law_cell (T : Txt K mg) : Ok P w K mg base 1 "_law_cell" s__law_cell ["script", "k"] 2 m__law_cell := ok_fn T.d__law_cell sc__law_cell rfl fun f cdv A outer s H E hr => (fun (tk : Tk (cxOf (L2.CX P w) P w K mg base N__law_cell "_law_cell" (defScope s__law_cell) f cdv A outer s H E) (WD E)) => (ss_cons (ss_if (st_cmp op_lt og_lt (se_of (pv 1)) (se_callB call_len cg_len (by rfl) T.b_len (by decide +kernel) (sa_cons (se_of (pv 0)) sa_nil)) (nomark _)) (ss_one (ss_ret (se_ix (se_of (pv 0)) (se_of (pv 1))))) ss_nil)
    (ss_one (ss_ret se_int)))) (Tk.of (takes_of rfl rfl rfl rfl) rfl rfl)
/-! _law_pool -/
abbrev s__law_pool : Stmt := top 44
abbrev N__law_pool : List Str := ["script", "rows", "k"]
theorem sc__law_pool : FnScope N__law_pool ["script"] (defScope s__law_pool) := ⟨rfl, rfl, rfl, by decide +kernel, rfl, by decide +kernel, by decide +kernel⟩
def b__law_pool : SM :=
  (sSeq (sAsg (eLst aNil) 1)
    (sSeq (sFor (iRg1 (aCons (eCall gMin2 (aCons (eC (.int 6)) (aCons (eCall gMax2 (aCons (eC (.int 1)) (aCons (eCall gLen (aCons (eVar 0) aNil)) aNil))) aNil))) aNil)) (tgName 2) (sAsg (eBin gAdd (eVar 1) (eCall (argc 2 m__law_numbers) (aCons (eBin gAdd (eCall (argc 2 m__law_cell) (aCons (eVar 0) (aCons (eVar 2) aNil))) (eBin gMul (eC (.int 11)) (eVar 2))) (aCons (eC (.int 24)) aNil)))) 1))
    (sRet (eLst (aCons (eVar 1) (aCons (eLstT (aCons (eC (.int 0)) aNil)) aNil))))))
def m__law_pool : Fn := fnKeep 1 3 b__law_pool
theorem ok__law_pool (T : Txt K mg) : Ok P w K mg base 2 "_law_pool" s__law_pool ["script"] 1 m__law_pool := ok_keep T.d__law_pool sc__law_pool rfl fun f cdv A outer s H E hr => (fun (tk : Tk (cxOf (L2.CX P w) P w K mg base N__law_pool "_law_pool" (defScope s__law_pool) f cdv A outer s H E) (WD E)) => (ss_cons (ss_asg (i := 1) sc__law_pool.nd (se_lst sa_nil))
    (ss_cons (ss_for (passes_of rfl) (si_rg1 T.b_range (sa_cons (se_callB (call_min2 rfl) cg_min2 (by rfl) T.b_min (by decide +kernel) (sa_cons se_int (sa_cons (se_callB (call_max2 rfl) cg_max2 (by rfl) T.b_max (by decide +kernel) (sa_cons se_int (sa_cons (se_callB call_len cg_len (by rfl) T.b_len (by decide +kernel) (sa_cons (se_of (pv 0)) sa_nil)) sa_nil))) sa_nil))) sa_nil)) (pg_name (i := 2) sc__law_pool.nd rfl (Or.inl rfl)) tr_name (ss_one (ss_asg (i := 1) sc__law_pool.nd (se_bin op_addA og_add (se_of (pv 1)) (se_own (ok__law_numbers T) hr tk (sa_cons (se_bin op_addA og_add (se_own (ok__law_cell T) hr tk (sa_cons (se_of (pv 0)) (sa_cons (se_of (pv 2)) sa_nil))) (se_bin op_mul og_mul se_int (se_of (pv 2)))) (sa_cons se_int sa_nil)))))))
    (ss_one (ss_ret (se_lst (sa_cons (se_of (pv 1)) (sa_cons (se_lstT (sa_cons se_int sa_nil)) sa_nil)))))))) (Tk.of (takes_of rfl rfl rfl rfl) rfl rfl)
/-! _law_draw -/
abbrev s__law_draw : Stmt := top 45
abbrev N__law_draw : List Str := ["pool", "many", "at", "turn"]
theorem sc__law_draw : FnScope N__law_draw ["pool", "many"] (defScope s__law_draw) := ⟨rfl, rfl, rfl, by decide +kernel, rfl, by decide +kernel, by decide +kernel⟩
def b__law_draw : SM :=
  (sSeq (sAsg (eBin gIx (eBin gIx (eVar 0) (eC (.int 1))) (eC (.int 0))) 2)
    (sSeq (sSub (eBin gAdd (eVar 2) (eC (.int 1))) (eBin gIx (eVar 0) (eC (.int 1))) (eC (.int 0)))
    (sSeq (sAsg (eBin gDiv (eVar 2) (eCall gLen (aCons (eBin gIx (eVar 0) (eC (.int 0))) aNil))) 3)
    (sRet (eBin gMod (eCall gInt (aCons (eBin gAdd (eBin gAdd (eBin gIx (eBin gIx (eVar 0) (eC (.int 0))) (eBin gMod (eVar 2) (eCall gLen (aCons (eBin gIx (eVar 0) (eC (.int 0))) aNil)))) (eBin gMul (eVar 3) (eC (.int 1013)))) (eBin gMul (eBin gMul (eVar 3) (eVar 2)) (eC (.int 7)))) aNil)) (eVar 1))))))
def m__law_draw : Fn := fnOf 2 4 b__law_draw
theorem ok__law_draw (T : Txt K mg) : Ok P w K mg base 1 "_law_draw" s__law_draw ["pool", "many"] 2 m__law_draw := ok_fn T.d__law_draw sc__law_draw rfl fun f cdv A outer s H E hr => (fun (tk : Tk (cxOf (L2.CX P w) P w K mg base N__law_draw "_law_draw" (defScope s__law_draw) f cdv A outer s H E) (WD E)) => (ss_cons (ss_asg (i := 2) sc__law_draw.nd (se_ix (se_ix (se_of (pv 0)) se_int) se_int))
    (ss_cons (ss_sub (se_bin op_addA og_add (se_of (pv 2)) se_int) (se_ix (se_of (pv 0)) se_int) se_int)
    (ss_cons (ss_asg (i := 3) sc__law_draw.nd (se_bin op_fdiv og_div (se_of (pv 2)) (se_callB call_len cg_len (by rfl) T.b_len (by decide +kernel) (sa_cons (se_ix (se_of (pv 0)) se_int) sa_nil))))
    (ss_one (ss_ret (se_bin op_mod og_mod (se_callTy (call_int1.or call_int_str) cg_int (by rfl) T.b_int (by decide +kernel) (sa_cons (se_bin op_addA og_add (se_bin op_addA og_add (se_ix (se_ix (se_of (pv 0)) se_int) (se_bin op_mod og_mod (se_of (pv 2)) (se_callB call_len cg_len (by rfl) T.b_len (by decide +kernel) (sa_cons (se_ix (se_of (pv 0)) se_int) sa_nil)))) (se_bin op_mul og_mul (se_of (pv 3)) se_int)) (se_bin op_mul og_mul (se_bin op_mul og_mul (se_of (pv 3)) (se_of (pv 2))) se_int)) sa_nil)) (se_of (pv 1))))))))) (Tk.of (takes_of rfl rfl rfl rfl) rfl rfl)
/-! _law_some -/
abbrev s__law_some : Stmt := top 46
abbrev N__law_some : List Str := ["pool", "many", "lean", "one"]
theorem sc__law_some : FnScope N__law_some ["pool", "many", "lean"] (defScope s__law_some) := ⟨rfl, rfl, rfl, by decide +kernel, rfl, by decide +kernel, by decide +kernel⟩
def b__law_some : SM :=
  (sRet (eCall gTuple (aCons (eComp (iRg1 (aCons (eVar 1) aNil)) (tgName 3) (mT (eBin gGt (eCall (argc 2 m__law_draw) (aCons (eVar 0) (aCons (eVar 2) aNil))) (eC (.int 0)))) (eVar 3) [3]) aNil)))
def m__law_some : Fn := fnOf 3 4 b__law_some
theorem ok__law_some (T : Txt K mg) : Ok P w K mg base 2 "_law_some" s__law_some ["pool", "many", "lean"] 3 m__law_some := ok_fn T.d__law_some sc__law_some rfl fun f cdv A outer s H E hr => (fun (tk : Tk (cxOf (L2.CX P w) P w K mg base N__law_some "_law_some" (defScope s__law_some) f cdv A outer s H E) (WD E)) => (ss_one (ss_ret (se_callTy call_tuple_of cg_tuple (by rfl) T.b_tuple (by decide +kernel) (sa_cons (se_comp (own := [("one", 3)]) sc__law_some.nd tk (si_rg1 T.b_range (sa_cons (se_of (pv 1)) sa_nil)) (blkOk_by (N := N__law_some) (sc := defScope s__law_some) (by decide +kernel)) (fun _ _ _ _ _ _ => (pg_name (i := 3) sc__law_some.nd rfl (Or.inl rfl))) (tw_name (by decide)) (fun _ _ _ _ _ _ _ tk => (sts_one (st_cmp op_gt og_gt (se_own (ok__law_draw T) hr tk (sa_cons (se_of (pv 0)) (sa_cons (se_of (pv 2)) sa_nil))) se_int (nomark _)))) (fun _ _ _ _ _ _ _ tk => (se_of (pv 3)))) sa_nil))))) (Tk.of (takes_of rfl rfl rfl rfl) rfl rfl)
/-! _law_row -/
abbrev s__law_row : Stmt := top 48
abbrev N__law_row : List Str := ["pool", "deeds", "most", "row", "k"]
theorem sc__law_row : FnScope N__law_row ["pool", "deeds", "most"] (defScope s__law_row) := ⟨rfl, rfl, rfl, by decide +kernel, rfl, by decide +kernel, by decide +kernel⟩
def b__law_row : SM :=
  (sSeq (sAsg (eTup aNil) 3)
    (sSeq (sFor (iRg1 (aCons (eCall (argc 2 m__law_draw) (aCons (eVar 0) (aCons (eBin gAdd (eVar 2) (eC (.int 1))) aNil))) aNil)) (tgName 4) (sAsg (eBin gAdd (eVar 3) (eTup (aCons (eCall (argc 2 m__law_draw) (aCons (eVar 0) (aCons (eVar 1) aNil))) aNil))) 3))
    (sRet (eVar 3))))
def m__law_row : Fn := fnOf 3 5 b__law_row
theorem ok__law_row (T : Txt K mg) : Ok P w K mg base 2 "_law_row" s__law_row ["pool", "deeds", "most"] 3 m__law_row := ok_fn T.d__law_row sc__law_row rfl fun f cdv A outer s H E hr => (fun (tk : Tk (cxOf (L2.CX P w) P w K mg base N__law_row "_law_row" (defScope s__law_row) f cdv A outer s H E) (WD E)) => (ss_cons (ss_asg (i := 3) sc__law_row.nd (se_tup sa_nil))
    (ss_cons (ss_for (passes_of rfl) (si_rg1 T.b_range (sa_cons (se_own (ok__law_draw T) hr tk (sa_cons (se_of (pv 0)) (sa_cons (se_bin op_addA og_add (se_of (pv 2)) se_int) sa_nil))) sa_nil)) (pg_name (i := 4) sc__law_row.nd rfl (Or.inl rfl)) tr_name (ss_one (ss_asg (i := 3) sc__law_row.nd (se_bin op_addA og_add (se_of (pv 3)) (se_tup (sa_cons (se_own (ok__law_draw T) hr tk (sa_cons (se_of (pv 0)) (sa_cons (se_of (pv 1)) sa_nil))) sa_nil))))))
    (ss_one (ss_ret (se_of (pv 3))))))) (Tk.of (takes_of rfl rfl rfl rfl) rfl rfl)
/-! _law_eyes -/
abbrev s__law_eyes : Stmt := top 47
abbrev N__law_eyes : List Str := ["pool", "deeds", "way", "eyes", "deed", "looks", "look"]
theorem sc__law_eyes : FnScope N__law_eyes ["pool", "deeds"] (defScope s__law_eyes) := ⟨rfl, rfl, rfl, by decide +kernel, rfl, by decide +kernel, by decide +kernel⟩
def b__law_eyes : SM :=
  (sSeq (sAsg (eCall (argc 2 m__law_draw) (aCons (eVar 0) (aCons (eC (.int 4)) aNil))) 2)
    (sSeq (sAsg (eTup aNil) 3)
    (sSeq (sFor (iRg1 (aCons (eVar 1) aNil)) (tgName 4) (sSeq (sAsg (eTup (aCons (eVar 4) aNil)) 5)
    (sSeq (sIf (mAnd (mT (eBin gLt (eVar 2) (eC (.int 2)))) (mT (eBin gEq (eCall (argc 2 m__law_draw) (aCons (eVar 0) (aCons (eC (.int 2)) aNil))) (eC (.int 0))))) (sAsg (eTup (aCons (eNeg (eC (.int 1))) aNil)) 5) sNext)
    (sSeq (sIf (mT (eBin gEq (eVar 2) (eC (.int 2)))) (sAsg (eTup (aCons (eBin gSub (eCall (argc 2 m__law_draw) (aCons (eVar 0) (aCons (eC (.int 4)) aNil))) (eC (.int 1))) aNil)) 5) sNext)
    (sSeq (sIf (mT (eBin gEq (eVar 2) (eC (.int 3)))) (sSeq (sAsg (eCall gTuple (aCons (eComp (iSeq (eTup (aCons (eNeg (eC (.int 1))) (aCons (eC (.int 0)) (aCons (eC (.int 1)) (aCons (eC (.int 2)) (aCons (eC (.int 3)) aNil))))))) (tgName 6) (mT (eBin gEq (eCall (argc 2 m__law_draw) (aCons (eVar 0) (aCons (eC (.int 3)) aNil))) (eC (.int 0)))) (eVar 6) [6]) aNil)) 5)
    (sIf (mT (eBin gEq (eCall gLen (aCons (eVar 5) aNil)) (eC (.int 0)))) (sAsg (eTup (aCons (eBin gSub (eCall (argc 2 m__law_draw) (aCons (eVar 0) (aCons (eC (.int 5)) aNil))) (eC (.int 1))) aNil)) 5) sNext)) sNext)
    (sAsg (eBin gAdd (eVar 3) (eTup (aCons (eVar 5) aNil))) 3))))))
    (sRet (eVar 3)))))
def m__law_eyes : Fn := fnOf 2 7 b__law_eyes
theorem ok__law_eyes (T : Txt K mg) : Ok P w K mg base 2 "_law_eyes" s__law_eyes ["pool", "deeds"] 2 m__law_eyes := ok_fn T.d__law_eyes sc__law_eyes rfl fun f cdv A outer s H E hr => (fun (tk : Tk (cxOf (L2.CX P w) P w K mg base N__law_eyes "_law_eyes" (defScope s__law_eyes) f cdv A outer s H E) (WD E)) => (ss_cons (ss_asg (i := 2) sc__law_eyes.nd (se_own (ok__law_draw T) hr tk (sa_cons (se_of (pv 0)) (sa_cons se_int sa_nil))))
    (ss_cons (ss_asg (i := 3) sc__law_eyes.nd (se_tup sa_nil))
    (ss_cons (ss_for (passes_of rfl) (si_rg1 T.b_range (sa_cons (se_of (pv 1)) sa_nil)) (pg_name (i := 4) sc__law_eyes.nd rfl (Or.inl rfl)) tr_name (ss_cons (ss_asg (i := 5) sc__law_eyes.nd (se_tup (sa_cons (se_of (pv 4)) sa_nil)))
    (ss_cons (ss_if (PW.pt (sw_and (st_cmp op_lt og_lt (se_of (pv 2)) se_int (nomark _)) (sw_one (st_cmp op_eq og_eq (se_own (ok__law_draw T) hr tk (sa_cons (se_of (pv 0)) (sa_cons se_int sa_nil))) se_int (nomark _))))) (ss_one (ss_asg (i := 5) sc__law_eyes.nd (se_tup (sa_cons (se_neg se_int) sa_nil)))) ss_nil)
    (ss_cons (ss_if (st_cmp op_eq og_eq (se_of (pv 2)) se_int (nomark _)) (ss_one (ss_asg (i := 5) sc__law_eyes.nd (se_tup (sa_cons (se_bin op_sub og_sub (se_own (ok__law_draw T) hr tk (sa_cons (se_of (pv 0)) (sa_cons se_int sa_nil))) se_int) sa_nil)))) ss_nil)
    (ss_cons (ss_if (st_cmp op_eq og_eq (se_of (pv 2)) se_int (nomark _)) (ss_cons (ss_asg (i := 5) sc__law_eyes.nd (se_callTy call_tuple_of cg_tuple (by rfl) T.b_tuple (by decide +kernel) (sa_cons (se_comp (own := [("look", 6)]) sc__law_eyes.nd tk (si_seq (se_tup (sa_cons (se_neg se_int) (sa_cons se_int (sa_cons se_int (sa_cons se_int (sa_cons se_int sa_nil))))))) (blkOk_by (N := N__law_eyes) (sc := defScope s__law_eyes) (by decide +kernel)) (fun _ _ _ _ _ _ => (pg_name (i := 6) sc__law_eyes.nd rfl (Or.inl rfl))) (tw_name (by decide)) (fun _ _ _ _ _ _ _ tk => (sts_one (st_cmp op_eq og_eq (se_own (ok__law_draw T) hr tk (sa_cons (se_of (pv 0)) (sa_cons se_int sa_nil))) se_int (nomark _)))) (fun _ _ _ _ _ _ _ tk => (se_of (pv 6)))) sa_nil)))
    (ss_one (ss_if (st_cmp op_eq og_eq (se_callB call_len cg_len (by rfl) T.b_len (by decide +kernel) (sa_cons (se_of (pv 5)) sa_nil)) se_int (nomark _)) (ss_one (ss_asg (i := 5) sc__law_eyes.nd (se_tup (sa_cons (se_bin op_sub og_sub (se_own (ok__law_draw T) hr tk (sa_cons (se_of (pv 0)) (sa_cons se_int sa_nil))) se_int) sa_nil)))) ss_nil))) ss_nil)
    (ss_one (ss_asg (i := 3) sc__law_eyes.nd (se_bin op_addA og_add (se_of (pv 3)) (se_tup (sa_cons (se_of (pv 5)) sa_nil))))))))))
    (ss_one (ss_ret (se_of (pv 3)))))))) (Tk.of (takes_of rfl rfl rfl rfl) rfl rfl)
/-! _law_join -/
abbrev s__law_join : Stmt := top 53
abbrev N__law_join : List Str := ["mark", "words", "text", "k"]
theorem sc__law_join : FnScope N__law_join ["mark", "words"] (defScope s__law_join) := ⟨rfl, rfl, rfl, by decide +kernel, rfl, by decide +kernel, by decide +kernel⟩
def b__law_join : SM :=
  (sSeq (sAsg (eC (.str "")) 2)
    (sSeq (sFor (iRg1 (aCons (eCall gLen (aCons (eVar 1) aNil)) aNil)) (tgName 3) (sSeq (sIf (mT (eBin gGt (eVar 3) (eC (.int 0)))) (sAsg (eBin gAdd (eVar 2) (eVar 0)) 2) sNext)
    (sAsg (eBin gAdd (eVar 2) (eBin gIx (eVar 1) (eVar 3))) 2)))
    (sRet (eVar 2))))
def m__law_join : Fn := fnOf 2 4 b__law_join
theorem ok__law_join (T : Txt K mg) : Ok P w K mg base 1 "_law_join" s__law_join ["mark", "words"] 2 m__law_join := ok_fn T.d__law_join sc__law_join rfl fun f cdv A outer s H E hr => (fun (tk : Tk (cxOf (L2.CX P w) P w K mg base N__law_join "_law_join" (defScope s__law_join) f cdv A outer s H E) (WD E)) => (ss_cons (ss_asg (i := 2) sc__law_join.nd se_str)
    (ss_cons (ss_for (passes_of rfl) (si_rg1 T.b_range (sa_cons (se_callB call_len cg_len (by rfl) T.b_len (by decide +kernel) (sa_cons (se_of (pv 1)) sa_nil)) sa_nil)) (pg_name (i := 3) sc__law_join.nd rfl (Or.inl rfl)) tr_name (ss_cons (ss_if (st_cmp op_gt og_gt (se_of (pv 3)) se_int (nomark _)) (ss_one (ss_asg (i := 2) sc__law_join.nd (se_bin op_addA og_add (se_of (pv 2)) (se_of (pv 0))))) ss_nil)
    (ss_one (ss_asg (i := 2) sc__law_join.nd (se_bin op_addA og_add (se_of (pv 2)) (se_ix (se_of (pv 1)) (se_of (pv 3))))))))
    (ss_one (ss_ret (se_of (pv 2))))))) (Tk.of (takes_of rfl rfl rfl rfl) rfl rfl)
/-! _law_guard -/
abbrev s__law_guard : Stmt := top 49
abbrev N__law_guard : List Str := ["pool", "deeds", "most", "n", "rows", "bars", "state", "row", "look"]
theorem sc__law_guard : FnScope N__law_guard ["pool", "deeds", "most"] (defScope s__law_guard) := ⟨rfl, rfl, rfl, by decide +kernel, rfl, by decide +kernel, by decide +kernel⟩
def b__law_guard : SM :=
  (sSeq (sAsg (eBin gAdd (eC (.int 1)) (eCall (argc 2 m__law_draw) (aCons (eVar 0) (aCons (eVar 2) aNil)))) 3)
    (sSeq (sAsg (eTup aNil) 4)
    (sSeq (sAsg (eTup aNil) 5)
    (sSeq (sFor (iRg1 (aCons (eVar 3) aNil)) (tgName 6) (sSeq (sAsg (eTup aNil) 7)
    (sSeq (sFor (iRg1 (aCons (eC (.int 4)) aNil)) (tgName 8) (sAsg (eBin gAdd (eVar 7) (eTup (aCons (eCall (argc 2 m__law_draw) (aCons (eVar 0) (aCons (eVar 3) aNil))) aNil))) 7))
    (sSeq (sAsg (eBin gAdd (eVar 4) (eTup (aCons (eVar 7) aNil))) 4)
    (sAsg (eBin gAdd (eVar 5) (eTup (aCons (eCall (argc 3 m__law_some) (aCons (eVar 0) (aCons (eVar 1) (aCons (eC (.int 2)) aNil)))) aNil))) 5)))))
    (sRet (eTup (aCons (eVar 4) (aCons (eVar 5) aNil))))))))
def m__law_guard : Fn := fnOf 3 9 b__law_guard
theorem ok__law_guard (T : Txt K mg) : Ok P w K mg base 3 "_law_guard" s__law_guard ["pool", "deeds", "most"] 3 m__law_guard := ok_fn T.d__law_guard sc__law_guard rfl fun f cdv A outer s H E hr => (fun (tk : Tk (cxOf (L2.CX P w) P w K mg base N__law_guard "_law_guard" (defScope s__law_guard) f cdv A outer s H E) (WD E)) => (ss_cons (ss_asg (i := 3) sc__law_guard.nd (se_bin op_addA og_add se_int (se_own (ok__law_draw T) hr tk (sa_cons (se_of (pv 0)) (sa_cons (se_of (pv 2)) sa_nil)))))
    (ss_cons (ss_asg (i := 4) sc__law_guard.nd (se_tup sa_nil))
    (ss_cons (ss_asg (i := 5) sc__law_guard.nd (se_tup sa_nil))
    (ss_cons (ss_for (passes_of rfl) (si_rg1 T.b_range (sa_cons (se_of (pv 3)) sa_nil)) (pg_name (i := 6) sc__law_guard.nd rfl (Or.inl rfl)) tr_name (ss_cons (ss_asg (i := 7) sc__law_guard.nd (se_tup sa_nil))
    (ss_cons (ss_for (passes_of rfl) (si_rg1 T.b_range (sa_cons se_int sa_nil)) (pg_name (i := 8) sc__law_guard.nd rfl (Or.inl rfl)) tr_name (ss_one (ss_asg (i := 7) sc__law_guard.nd (se_bin op_addA og_add (se_of (pv 7)) (se_tup (sa_cons (se_own (ok__law_draw T) hr tk (sa_cons (se_of (pv 0)) (sa_cons (se_of (pv 3)) sa_nil))) sa_nil))))))
    (ss_cons (ss_asg (i := 4) sc__law_guard.nd (se_bin op_addA og_add (se_of (pv 4)) (se_tup (sa_cons (se_of (pv 7)) sa_nil))))
    (ss_one (ss_asg (i := 5) sc__law_guard.nd (se_bin op_addA og_add (se_of (pv 5)) (se_tup (sa_cons (se_own (ok__law_some T) hr tk (sa_cons (se_of (pv 0)) (sa_cons (se_of (pv 1)) (sa_cons se_int sa_nil)))) sa_nil)))))))))
    (ss_one (ss_ret (se_tup (sa_cons (se_of (pv 4)) (sa_cons (se_of (pv 5)) sa_nil)))))))))) (Tk.of (takes_of rfl rfl rfl rfl) rfl rfl)
/-! _law_kind -/
abbrev s__law_kind : Stmt := top 50
abbrev N__law_kind : List Str := ["x"]
theorem sc__law_kind : FnScope N__law_kind ["x"] (defScope s__law_kind) := ⟨rfl, rfl, rfl, by decide +kernel, rfl, by decide +kernel, by decide +kernel⟩
def b__law_kind : SM :=
  (sSeq (sIf (mTru (eIsi .bool (eVar 0))) (sRet (eC (.int 1))) sNext)
    (sSeq (sIf (mTru (eIsi .int (eVar 0))) (sRet (eC (.int 2))) sNext)
    (sSeq (sIf (mTru (eIsi .str (eVar 0))) (sRet (eC (.int 3))) sNext)
    (sSeq (sIf (mTru (eIsi .tuple (eVar 0))) (sRet (eC (.int 4))) sNext)
    (sSeq (sIf (mTru (eIsi .list (eVar 0))) (sRet (eC (.int 5))) sNext)
    (sSeq (sIf (mT (eBin gIsN (eVar 0) (eC .non))) (sRet (eC (.int 6))) sNext)
    (sRet (eC (.int 0)))))))))
def m__law_kind : Fn := fnOf 1 1 b__law_kind
theorem ok__law_kind (T : Txt K mg) : Ok P w K mg base 1 "_law_kind" s__law_kind ["x"] 1 m__law_kind := ok_fn T.d__law_kind sc__law_kind rfl fun f cdv A outer s H E hr => (fun (tk : Tk (cxOf (L2.CX P w) P w K mg base N__law_kind "_law_kind" (defScope s__law_kind) f cdv A outer s H E) (WD E)) => (ss_cons (ss_if (st_tru (se_isi (t := .bool) T.b_isinstance T.b_bool (by decide +kernel) (se_of (pv 0)))) (ss_one (ss_ret se_int)) ss_nil)
    (ss_cons (ss_if (st_tru (se_isi (t := .int) T.b_isinstance T.b_int (by decide +kernel) (se_of (pv 0)))) (ss_one (ss_ret se_int)) ss_nil)
    (ss_cons (ss_if (st_tru (se_isi (t := .str) T.b_isinstance T.b_str (by decide +kernel) (se_of (pv 0)))) (ss_one (ss_ret se_int)) ss_nil)
    (ss_cons (ss_if (st_tru (se_isi (t := .tuple) T.b_isinstance T.b_tuple (by decide +kernel) (se_of (pv 0)))) (ss_one (ss_ret se_int)) ss_nil)
    (ss_cons (ss_if (st_tru (se_isi (t := .list) T.b_isinstance T.b_list (by decide +kernel) (se_of (pv 0)))) (ss_one (ss_ret se_int)) ss_nil)
    (ss_cons (ss_if (st_cmp op_isN og_isN (se_of (pv 0)) se_non (nomark _)) (ss_one (ss_ret se_int)) ss_nil)
    (ss_one (ss_ret se_int))))))))) (Tk.of (takes_of rfl rfl rfl rfl) rfl rfl)
/-! _law_equal -/
abbrev s__law_equal : Stmt := top 51
abbrev N__law_equal : List Str := ["x", "due", "k"]
theorem sc__law_equal : FnScope N__law_equal ["x", "due"] (defScope s__law_equal) := ⟨rfl, rfl, rfl, by decide +kernel, rfl, by decide +kernel, by decide +kernel⟩
def b__law_equal (rec : Fn) : SM :=
  (sSeq (sIf (mOr (mT (eBin gNe (eCall (argc 1 m__law_kind) (aCons (eVar 0) aNil)) (eCall (argc 1 m__law_kind) (aCons (eVar 1) aNil)))) (mT (eBin gEq (eCall (argc 1 m__law_kind) (aCons (eVar 0) aNil)) (eC (.int 0))))) (sRet (eC (.bl false))) sNext)
    (sSeq (sIf (mOr (mTru (eIsi .tuple (eVar 1))) (mTru (eIsi .list (eVar 1)))) (sSeq (sIf (mT (eBin gNe (eCall gLen (aCons (eVar 0) aNil)) (eCall gLen (aCons (eVar 1) aNil)))) (sRet (eC (.bl false))) sNext)
    (sSeq (sFor (iRg1 (aCons (eCall gLen (aCons (eVar 1) aNil)) aNil)) (tgName 2) (sIf (mNot (mTru (eCall (argc 2 rec) (aCons (eBin gIx (eVar 0) (eVar 2)) (aCons (eBin gIx (eVar 1) (eVar 2)) aNil))))) (sRet (eC (.bl false))) sNext))
    (sRet (eC (.bl true))))) sNext)
    (sRet (eBin gEq (eVar 0) (eVar 1)))))
def m__law_equal : Nat → Fn
  | 0 => fun _ _ => .bad
  | i + 1 => fnOf 2 3 (b__law_equal (m__law_equal i))
theorem okr__law_equal (T : Txt K mg) : ∀ i : Nat, Ok P w K mg base (2 + i) "_law_equal" s__law_equal ["x", "due"] 2 (m__law_equal i)
  | 0 => ok_zero T.d__law_equal
  | i + 1 => (fun hrec => ok_fn T.d__law_equal sc__law_equal rfl fun f cdv A outer s H E hr => (fun (tk : Tk (cxOf (L2.CX P w) P w K mg base N__law_equal "_law_equal" (defScope s__law_equal) f cdv A outer s H E) (WD E)) => (ss_cons (ss_if (PW.pt (sw_or (st_cmp op_ne og_ne (se_own (ok__law_kind T) hr tk (sa_cons (se_of (pv 0)) sa_nil) (Nat.le_trans (by decide) (Nat.le_add_right 2 _))) (se_own (ok__law_kind T) hr tk (sa_cons (se_of (pv 1)) sa_nil) (Nat.le_trans (by decide) (Nat.le_add_right 2 _))) (nomark _)) (sw_one (st_cmp op_eq og_eq (se_own (ok__law_kind T) hr tk (sa_cons (se_of (pv 0)) sa_nil) (Nat.le_trans (by decide) (Nat.le_add_right 2 _))) se_int (nomark _))))) (ss_one (ss_ret se_bl)) ss_nil)
    (ss_cons (ss_if (PW.pt (sw_or (st_tru (se_isi (t := .tuple) T.b_isinstance T.b_tuple (by decide +kernel) (se_of (pv 1)))) (sw_one (st_tru (se_isi (t := .list) T.b_isinstance T.b_list (by decide +kernel) (se_of (pv 1))))))) (ss_cons (ss_if (st_cmp op_ne og_ne (se_callB call_len cg_len (by rfl) T.b_len (by decide +kernel) (sa_cons (se_of (pv 0)) sa_nil)) (se_callB call_len cg_len (by rfl) T.b_len (by decide +kernel) (sa_cons (se_of (pv 1)) sa_nil)) (nomark _)) (ss_one (ss_ret se_bl)) ss_nil)
    (ss_cons (ss_for (passes_of rfl) (si_rg1 T.b_range (sa_cons (se_callB call_len cg_len (by rfl) T.b_len (by decide +kernel) (sa_cons (se_of (pv 1)) sa_nil)) sa_nil)) (pg_name (i := 2) sc__law_equal.nd rfl (Or.inl rfl)) tr_name (ss_one (ss_if (st_not (st_tru (se_own hrec hr tk (sa_cons (se_ix (se_of (pv 0)) (se_of (pv 2))) (sa_cons (se_ix (se_of (pv 1)) (se_of (pv 2))) sa_nil)) (Nat.le_refl _)))) (ss_one (ss_ret se_bl)) ss_nil)))
    (ss_one (ss_ret se_bl)))) ss_nil)
    (ss_one (ss_ret (se_cmp op_eq og_eq (se_of (pv 0)) (se_of (pv 1)) (nomark _))))))) (Tk.of (takes_of rfl rfl rfl rfl) rfl rfl)) (okr__law_equal T i)
theorem ok__law_equal (T : Txt K mg) : Ok P w K mg base 10 "_law_equal" s__law_equal ["x", "due"] 2 (m__law_equal 8) := okr__law_equal T 8
/-! _law_set_text -/
abbrev s__law_set_text : Stmt := top 54
abbrev N__law_set_text : List Str := ["numbers", "number"]
theorem sc__law_set_text : FnScope N__law_set_text ["numbers"] (defScope s__law_set_text) := ⟨rfl, rfl, rfl, by decide +kernel, rfl, by decide +kernel, by decide +kernel⟩
def b__law_set_text : SM :=
  (sSeq (sIf (mT (eBin gEq (eCall gLen (aCons (eVar 0) aNil)) (eC (.int 0)))) (sRet (eC (.str "-"))) sNext)
    (sRet (eCall (argc 2 m__law_join) (aCons (eC (.str ",")) (aCons (eComp (iSeq (eVar 0)) (tgName 1) mYes (eCall gStrI (aCons (eVar 1) aNil)) [1]) aNil)))))
def m__law_set_text : Fn := fnOf 1 2 b__law_set_text
theorem ok__law_set_text (T : Txt K mg) : Ok P w K mg base 2 "_law_set_text" s__law_set_text ["numbers"] 1 m__law_set_text := ok_fn T.d__law_set_text sc__law_set_text rfl fun f cdv A outer s H E hr => (fun (tk : Tk (cxOf (L2.CX P w) P w K mg base N__law_set_text "_law_set_text" (defScope s__law_set_text) f cdv A outer s H E) (WD E)) => (ss_cons (ss_if (st_cmp op_eq og_eq (se_callB call_len cg_len (by rfl) T.b_len (by decide +kernel) (sa_cons (se_of (pv 0)) sa_nil)) se_int (nomark _)) (ss_one (ss_ret se_str)) ss_nil)
    (ss_one (ss_ret (se_own (ok__law_join T) hr tk (sa_cons se_str (sa_cons (se_comp (own := [("number", 1)]) sc__law_set_text.nd tk (si_seq (se_of (pv 0))) (blkOk_by (N := N__law_set_text) (sc := defScope s__law_set_text) (by decide +kernel)) (fun _ _ _ _ _ _ => (pg_name (i := 1) sc__law_set_text.nd rfl (Or.inl rfl))) (tw_name (by decide)) (fun _ _ _ _ _ _ _ tk => sts_nil) (fun _ _ _ _ _ _ _ tk => (se_callTy call_str_int cg_str (by rfl) T.b_str (by decide +kernel) (sa_cons (se_of (pv 1)) sa_nil)))) sa_nil))))))) (Tk.of (takes_of rfl rfl rfl rfl) rfl rfl)
/-! sign_of -/
abbrev s_sign_of : Stmt := top 27
abbrev N_sign_of : List Str := ["number"]
theorem sc_sign_of : FnScope N_sign_of ["number"] (defScope s_sign_of) := ⟨rfl, rfl, rfl, by decide +kernel, rfl, by decide +kernel, by decide +kernel⟩
def b_sign_of : SM :=
  (sRet (eIf (mT (eBin gEq (eVar 0) (eC (.int (-1))))) (eC (.str "-")) (eCall gStrI (aCons (eVar 0) aNil))))
def m_sign_of : Fn := fnOf 1 1 b_sign_of
theorem ok_sign_of (T : Txt K mg) : Ok P w K mg base 1 "sign_of" s_sign_of ["number"] 1 m_sign_of := ok_fn T.d_sign_of sc_sign_of rfl fun f cdv A outer s H E hr => (fun (tk : Tk (cxOf (L2.CX P w) P w K mg base N_sign_of "sign_of" (defScope s_sign_of) f cdv A outer s H E) (WD E)) => (ss_one (ss_ret (se_if (st_cmp op_eq og_eq (se_of (pv 0)) (se_globI T.c_NOWHERE) (nomark _)) (se_globS T.c_DASH) (se_callTy call_str_int cg_str (by rfl) T.b_str (by decide +kernel) (sa_cons (se_of (pv 0)) sa_nil)))))) (Tk.of (takes_of rfl rfl rfl rfl) rfl rfl)
/-! write_steps -/
abbrev s_write_steps : Stmt := top 38
abbrev N_write_steps : List Str := ["steps", "deed", "look"]
theorem sc_write_steps : FnScope N_write_steps ["steps"] (defScope s_write_steps) := ⟨rfl, rfl, rfl, by decide +kernel, rfl, by decide +kernel, by decide +kernel⟩
def b_write_steps : SM :=
  (sRet (eIf (mT (eBin gGt (eCall gLen (aCons (eVar 0) aNil)) (eC (.int 0)))) (eM1 gJoin (eC (.str " ")) (eComp (iSeq (eVar 0)) (tgTup 2 (tgsCons (tgName 1) (tgsCons (tgName 2) tgsNil))) mYes (eJoined [(eFmt (eVar 1)), (eC (.str ":")), (eFmt (eCall (argc 1 m_sign_of) (aCons (eVar 2) aNil)))]) [1, 2])) (eC (.str "-"))))
def m_write_steps : Fn := fnOf 1 3 b_write_steps
theorem ok_write_steps (T : Txt K mg) : Ok P w K mg base 2 "write_steps" s_write_steps ["steps"] 1 m_write_steps := ok_fn T.d_write_steps sc_write_steps rfl fun f cdv A outer s H E hr => (fun (tk : Tk (cxOf (L2.CX P w) P w K mg base N_write_steps "write_steps" (defScope s_write_steps) f cdv A outer s H E) (WD E)) => (ss_one (ss_ret (se_if (st_cmp op_gt og_gt (se_callB call_len cg_len (by rfl) T.b_len (by decide +kernel) (sa_cons (se_of (pv 0)) sa_nil)) se_int (nomark _)) (se_join se_str (se_comp (own := [("deed", 1), ("look", 2)]) sc_write_steps.nd tk (si_seq (se_of (pv 0))) (blkOk_by (N := N_write_steps) (sc := defScope s_write_steps) (by decide +kernel)) (fun _ _ _ _ _ _ => (pg_tup rfl (pgs_cons (pg_name (i := 1) sc_write_steps.nd rfl (Or.inl rfl)) (pgs_cons (pg_name (i := 2) sc_write_steps.nd rfl (Or.inl rfl)) pgs_nil)))) (tw_tup (tw_cons (tw_name (by decide)) (tw_cons (tw_name (by decide)) tw_nil))) (fun _ _ _ _ _ _ _ tk => sts_nil) (fun _ _ _ _ _ _ _ tk => (se_joined (SJ.cons (se_fmt (se_of (pv 1))) (SJ.cons se_str (SJ.cons (se_fmt (se_own (ok_sign_of T) hr tk (sa_cons (se_of (pv 2)) sa_nil))) SJ.nil))))))) (se_globS T.c_DASH))))) (Tk.of (takes_of rfl rfl rfl rfl) rfl rfl)
/-! require -/
abbrev s_require : Stmt := top 26
abbrev N_require : List Str := ["condition"]
theorem sc_require : FnScope N_require ["condition"] (defScope s_require) := ⟨rfl, rfl, rfl, by decide +kernel, rfl, by decide +kernel, by decide +kernel⟩
def b_require : SM :=
  (sIf (mNot (mTru (eVar 0))) (sRaise "BadText") sNext)
def m_require : Fn := fnOf 1 1 b_require
theorem ok_require (T : Txt K mg) : Ok P w K mg base 1 "require" s_require ["condition"] 1 m_require := ok_fn T.d_require sc_require rfl fun f cdv A outer s H E hr => (fun (tk : Tk (cxOf (L2.CX P w) P w K mg base N_require "require" (defScope s_require) f cdv A outer s H E) (WD E)) => (ss_one (ss_if (st_not (st_tru (se_of (pv 0)))) (ss_one (ss_raiseE T.x_BadText (takes_of rfl rfl rfl rfl))) ss_nil))) (Tk.of (takes_of rfl rfl rfl rfl) rfl rfl)
/-! is_ascending -/
abbrev s_is_ascending : Stmt := top 10
abbrev N_is_ascending : List Str := ["value", "at"]
theorem sc_is_ascending : FnScope N_is_ascending ["value"] (defScope s_is_ascending) := ⟨rfl, rfl, rfl, by decide +kernel, rfl, by decide +kernel, by decide +kernel⟩
def b_is_ascending : SM :=
  (sRet (eCall (gBls fun bs => bs.all id) (aCons (eComp (iRange2 (aCons (eC (.int 1)) (aCons (eCall gLen (aCons (eVar 0) aNil)) aNil))) (tgName 1) mYes (eBin gLt (eBin gIx (eVar 0) (eBin gSub (eVar 1) (eC (.int 1)))) (eBin gIx (eVar 0) (eVar 1))) [1]) aNil)))
def m_is_ascending : Fn := fnOf 1 2 b_is_ascending
theorem ok_is_ascending (T : Txt K mg) : Ok P w K mg base 1 "is_ascending" s_is_ascending ["value"] 1 m_is_ascending := ok_fn T.d_is_ascending sc_is_ascending rfl fun f cdv A outer s H E hr => (fun (tk : Tk (cxOf (L2.CX P w) P w K mg base N_is_ascending "is_ascending" (defScope s_is_ascending) f cdv A outer s H E) (WD E)) => (ss_one (ss_ret (se_callB (cr_all rfl) (cg_bls (f := fun bs => bs.all id)) (by rfl) T.b_all (by decide +kernel) (sa_cons (se_comp (own := [("at", 1)]) sc_is_ascending.nd tk (si_range2 T.b_range (sa_cons se_int (sa_cons (se_callB call_len cg_len (by rfl) T.b_len (by decide +kernel) (sa_cons (se_of (pv 0)) sa_nil)) sa_nil))) (blkOk_by (N := N_is_ascending) (sc := defScope s_is_ascending) (by decide +kernel)) (fun _ _ _ _ _ _ => (pg_name (i := 1) sc_is_ascending.nd rfl (Or.inl rfl))) (tw_name (by decide)) (fun _ _ _ _ _ _ _ tk => sts_nil) (fun _ _ _ _ _ _ _ tk => (se_cmp op_lt og_lt (se_ix (se_of (pv 0)) (se_bin op_sub og_sub (se_of (pv 1)) se_int)) (se_ix (se_of (pv 0)) (se_of (pv 1))) (nomark _)))) sa_nil))))) (Tk.of (takes_of rfl rfl rfl rfl) rfl rfl)
/-! number_of -/
abbrev s_number_of : Stmt := top 13
abbrev N_number_of : List Str := ["text", "digit"]
theorem sc_number_of : FnScope N_number_of ["text"] (defScope s_number_of) := ⟨rfl, rfl, rfl, by decide +kernel, rfl, by decide +kernel, by decide +kernel⟩
def b_number_of : SM :=
  (sSeq (sIf (mOr (mNot (mT (eChain gLe gLe (eC (.int 1)) (eCall gLen (aCons (eVar 0) aNil)) (eC (.int (9)))))) (mAnd (mT (eBin gEq (eBin gIx (eVar 0) (eC (.int 0))) (eC (.str "0")))) (mT (eBin gGt (eCall gLen (aCons (eVar 0) aNil)) (eC (.int 1)))))) (sRaise "BadText") sNext)
    (sSeq (sIf (mNot (mTru (eCall (gBls fun bs => bs.all id) (aCons (eComp (iStrM (eVar 0)) (tgName 1) mYes (eBin gInSign (eVar 1) (eC (.str "0123456789"))) [1]) aNil)))) (sRaise "BadText") sNext)
    (sRet (eCall gInt (aCons (eVar 0) aNil)))))
def m_number_of : Fn := fnOf 1 2 b_number_of
theorem ok_number_of (T : Txt K mg) : Ok P w K mg base 1 "number_of" s_number_of ["text"] 1 m_number_of := ok_fn T.d_number_of sc_number_of rfl fun f cdv A outer s H E hr => (fun (tk : Tk (cxOf (L2.CX P w) P w K mg base N_number_of "number_of" (defScope s_number_of) f cdv A outer s H E) (WD E)) => (ss_cons (ss_if (PW.pt (sw_or (st_not (st_chain op_le op_le og_le og_le se_int (se_callB call_len cg_len (by rfl) T.b_len (by decide +kernel) (sa_cons (se_of (pv 0)) sa_nil)) (se_globI T.c_MOST_DIGITS))) (sw_one (PW.pt (sw_and (st_cmp op_eq og_eq (se_ix (se_of (pv 0)) se_int) se_str (nomark _)) (sw_one (st_cmp op_gt og_gt (se_callB call_len cg_len (by rfl) T.b_len (by decide +kernel) (sa_cons (se_of (pv 0)) sa_nil)) se_int (nomark _)))))))) (ss_one (ss_raiseE T.x_BadText (takes_of rfl rfl rfl rfl))) ss_nil)
    (ss_cons (ss_if (st_not (st_tru (se_callB (cr_all rfl) (cg_bls (f := fun bs => bs.all id)) (by rfl) T.b_all (by decide +kernel) (sa_cons (se_comp (own := [("digit", 1)]) sc_number_of.nd tk (si_str (se_of (pv 0))) (blkOk_by (N := N_number_of) (sc := defScope s_number_of) (by decide +kernel)) (fun _ _ _ _ _ _ => (pg_name (i := 1) sc_number_of.nd rfl (Or.inl rfl))) (tw_name (by decide)) (fun _ _ _ _ _ _ _ tk => sts_nil) (fun _ _ _ _ _ _ _ tk => (se_cmp op_in_sign og_inSign (se_of (pv 1)) (se_globS T.c_DIGITS) rfl))) sa_nil)))) (ss_one (ss_raiseE T.x_BadText (takes_of rfl rfl rfl rfl))) ss_nil)
    (ss_one (ss_ret (se_callTy (call_int1.or call_int_str) cg_int (by rfl) T.b_int (by decide +kernel) (sa_cons (se_of (pv 0)) sa_nil))))))) (Tk.of (takes_of rfl rfl rfl rfl) rfl rfl)
/-! read_set -/
abbrev s_read_set : Stmt := top 32
abbrev N_read_set : List Str := ["text", "found", "word"]
theorem sc_read_set : FnScope N_read_set ["text"] (defScope s_read_set) := ⟨rfl, rfl, rfl, by decide +kernel, rfl, by decide +kernel, by decide +kernel⟩
def b_read_set : SM :=
  (sSeq (sAsg (eIf (mT (eBin gEq (eVar 0) (eC (.str "-")))) (eTup aNil) (eCall gTuple (aCons (eComp (iSeq (eM1 gSplit (eVar 0) (eC (.str ",")))) (tgName 2) mYes (eCall (argc 1 m_number_of) (aCons (eVar 2) aNil)) [2]) aNil))) 1)
    (sSeq (sDrop (eCall (argc 1 m_require) (aCons (eCall (argc 1 m_is_ascending) (aCons (eVar 1) aNil)) aNil)))
    (sRet (eVar 1))))
def m_read_set : Fn := fnOf 1 3 b_read_set
theorem ok_read_set (T : Txt K mg) : Ok P w K mg base 2 "read_set" s_read_set ["text"] 1 m_read_set := ok_fn T.d_read_set sc_read_set rfl fun f cdv A outer s H E hr => (fun (tk : Tk (cxOf (L2.CX P w) P w K mg base N_read_set "read_set" (defScope s_read_set) f cdv A outer s H E) (WD E)) => (ss_cons (ss_asg (i := 1) sc_read_set.nd (se_if (st_cmp op_eq og_eq (se_of (pv 0)) (se_globS T.c_DASH) (nomark _)) (se_tup sa_nil) (se_callTy call_tuple_of cg_tuple (by rfl) T.b_tuple (by decide +kernel) (sa_cons (se_comp (own := [("word", 2)]) sc_read_set.nd tk (si_seq (se_split (se_of (pv 0)) se_str)) (blkOk_by (N := N_read_set) (sc := defScope s_read_set) (by decide +kernel)) (fun _ _ _ _ _ _ => (pg_name (i := 2) sc_read_set.nd rfl (Or.inl rfl))) (tw_name (by decide)) (fun _ _ _ _ _ _ _ tk => sts_nil) (fun _ _ _ _ _ _ _ tk => (se_own (ok_number_of T) hr tk (sa_cons (se_of (pv 2)) sa_nil)))) sa_nil))))
    (ss_cons (ss_expr (se_own (ok_require T) hr tk (sa_cons (se_own (ok_is_ascending T) hr tk (sa_cons (se_of (pv 1)) sa_nil)) sa_nil)))
    (ss_one (ss_ret (se_of (pv 1))))))) (Tk.of (takes_of rfl rfl rfl rfl) rfl rfl)
/-! read_guard_line -/
abbrev s_read_guard_line : Stmt := top 36
abbrev N_read_guard_line : List Str := ["line", "words", "word"]
theorem sc_read_guard_line : FnScope N_read_guard_line ["line"] (defScope s_read_guard_line) := ⟨rfl, rfl, rfl, by decide +kernel, rfl, by decide +kernel, by decide +kernel⟩
def b_read_guard_line : SM :=
  (sSeq (sAsg (eM1 gSplit (eVar 0) (eC (.str " "))) 1)
    (sSeq (sDrop (eCall (argc 1 m_require) (aCons (eAnd (eBin gEq (eCall gLen (aCons (eVar 1) aNil)) (eBin gAdd (eCall gLen (aCons (eC (.tup (([0, 1, 2, 3] : List Int).map .int))) aNil)) (eC (.int 3)))) (eAnd (eBin gEq (eBin gIx (eVar 1) (eC (.int 0))) (eC (.str "guard"))) (eBin gEq (eBin gIx (eVar 1) (eNeg (eC (.int 2)))) (eC (.str "bars"))))) aNil)))
    (sRet (eTup (aCons (eCall gTuple (aCons (eComp (iSeq (eCut (eVar 1) (pSome (eC (.int 1))) (pSome (eNeg (eC (.int 2)))))) (tgName 2) mYes (eCall (argc 1 m_number_of) (aCons (eVar 2) aNil)) [2]) aNil)) (aCons (eCall (argc 1 m_read_set) (aCons (eBin gIx (eVar 1) (eNeg (eC (.int 1)))) aNil)) aNil))))))
def m_read_guard_line : Fn := fnOf 1 3 b_read_guard_line
theorem ok_read_guard_line (T : Txt K mg) : Ok P w K mg base 3 "read_guard_line" s_read_guard_line ["line"] 1 m_read_guard_line := ok_fn T.d_read_guard_line sc_read_guard_line rfl fun f cdv A outer s H E hr => (fun (tk : Tk (cxOf (L2.CX P w) P w K mg base N_read_guard_line "read_guard_line" (defScope s_read_guard_line) f cdv A outer s H E) (WD E)) => (ss_cons (ss_asg (i := 1) sc_read_guard_line.nd (se_split (se_of (pv 0)) se_str))
    (ss_cons (ss_expr (se_own (ok_require T) hr tk (sa_cons (se_and (se_cmp op_eq og_eq (se_callB call_len cg_len (by rfl) T.b_len (by decide +kernel) (sa_cons (se_of (pv 1)) sa_nil)) (se_bin op_addA og_add (se_callB call_len cg_len (by rfl) T.b_len (by decide +kernel) (sa_cons (se_globT T.c_LOOKS) sa_nil)) se_int) (nomark _)) (se_and (se_cmp op_eq og_eq (se_ix (se_of (pv 1)) se_int) se_str (nomark _)) (se_one (se_cmp op_eq og_eq (se_ix (se_of (pv 1)) (se_neg se_int)) se_str (nomark _))))) sa_nil)))
    (ss_one (ss_ret (se_tup (sa_cons (se_callTy call_tuple_of cg_tuple (by rfl) T.b_tuple (by decide +kernel) (sa_cons (se_comp (own := [("word", 2)]) sc_read_guard_line.nd tk (si_seq (se_cut (se_of (pv 1)) (sp_some se_int) (sp_some (se_neg se_int)))) (blkOk_by (N := N_read_guard_line) (sc := defScope s_read_guard_line) (by decide +kernel)) (fun _ _ _ _ _ _ => (pg_name (i := 2) sc_read_guard_line.nd rfl (Or.inl rfl))) (tw_name (by decide)) (fun _ _ _ _ _ _ _ tk => sts_nil) (fun _ _ _ _ _ _ _ tk => (se_own (ok_number_of T) hr tk (sa_cons (se_of (pv 2)) sa_nil)))) sa_nil)) (sa_cons (se_own (ok_read_set T) hr tk (sa_cons (se_ix (se_of (pv 1)) (se_neg se_int)) sa_nil)) sa_nil)))))))) (Tk.of (takes_of rfl rfl rfl rfl) rfl rfl)
/-! is_tuple -/
abbrev s_is_tuple : Stmt := top 8
abbrev N_is_tuple : List Str := ["value", "size"]
theorem sc_is_tuple : FnScope N_is_tuple ["value", "size"] (defScope s_is_tuple) := ⟨rfl, rfl, rfl, by decide +kernel, rfl, by decide +kernel, by decide +kernel⟩
def b_is_tuple : SM :=
  (sRet (eAnd (eIsi .tuple (eVar 0)) (eBin gEq (eCall gLen (aCons (eVar 0) aNil)) (eVar 1))))
def m_is_tuple : Fn := fnOf 2 2 b_is_tuple
theorem ok_is_tuple (T : Txt K mg) : Ok P w K mg base 1 "is_tuple" s_is_tuple ["value", "size"] 2 m_is_tuple := ok_fn T.d_is_tuple sc_is_tuple rfl fun f cdv A outer s H E hr => (fun (tk : Tk (cxOf (L2.CX P w) P w K mg base N_is_tuple "is_tuple" (defScope s_is_tuple) f cdv A outer s H E) (WD E)) => (ss_one (ss_ret (se_and (se_isi (t := .tuple) T.b_isinstance T.b_tuple (by decide +kernel) (se_of (pv 0))) (se_one (se_cmp op_eq og_eq (se_callB call_len cg_len (by rfl) T.b_len (by decide +kernel) (sa_cons (se_of (pv 0)) sa_nil)) (se_of (pv 1)) (nomark _))))))) (Tk.of (takes_of rfl rfl rfl rfl) rfl rfl)
/-! is_between -/
abbrev s_is_between : Stmt := top 9
abbrev N_is_between : List Str := ["value", "low", "high"]
theorem sc_is_between : FnScope N_is_between ["value", "low", "high"] (defScope s_is_between) := ⟨rfl, rfl, rfl, by decide +kernel, rfl, by decide +kernel, by decide +kernel⟩
def b_is_between : SM :=
  (sRet (eAnd (eIsi .tuple (eVar 0)) (eChain gLe gLe (eVar 1) (eCall gLen (aCons (eVar 0) aNil)) (eVar 2))))
def m_is_between : Fn := fnOf 3 3 b_is_between
theorem ok_is_between (T : Txt K mg) : Ok P w K mg base 1 "is_between" s_is_between ["value", "low", "high"] 3 m_is_between := ok_fn T.d_is_between sc_is_between rfl fun f cdv A outer s H E hr => (fun (tk : Tk (cxOf (L2.CX P w) P w K mg base N_is_between "is_between" (defScope s_is_between) f cdv A outer s H E) (WD E)) => (ss_one (ss_ret (se_and (se_isi (t := .tuple) T.b_isinstance T.b_tuple (by decide +kernel) (se_of (pv 0))) (se_one (se_chain op_le op_le og_le og_le (se_of (pv 1)) (se_callB call_len cg_len (by rfl) T.b_len (by decide +kernel) (sa_cons (se_of (pv 0)) sa_nil)) (se_of (pv 2)))))))) (Tk.of (takes_of rfl rfl rfl rfl) rfl rfl)
/-! is_integer -/
abbrev s_is_integer : Stmt := top 6
abbrev N_is_integer : List Str := ["value"]
theorem sc_is_integer : FnScope N_is_integer ["value"] (defScope s_is_integer) := ⟨rfl, rfl, rfl, by decide +kernel, rfl, by decide +kernel, by decide +kernel⟩
def b_is_integer : SM :=
  (sRet (eAnd (eIsi .int (eVar 0)) (eNot (eIsi .bool (eVar 0)))))
def m_is_integer : Fn := fnOf 1 1 b_is_integer
theorem ok_is_integer (T : Txt K mg) : Ok P w K mg base 1 "is_integer" s_is_integer ["value"] 1 m_is_integer := ok_fn T.d_is_integer sc_is_integer rfl fun f cdv A outer s H E hr => (fun (tk : Tk (cxOf (L2.CX P w) P w K mg base N_is_integer "is_integer" (defScope s_is_integer) f cdv A outer s H E) (WD E)) => (ss_one (ss_ret (se_and (se_isi (t := .int) T.b_isinstance T.b_int (by decide +kernel) (se_of (pv 0))) (se_one (se_not (se_isi (t := .bool) T.b_isinstance T.b_bool (by decide +kernel) (se_of (pv 0))))))))) (Tk.of (takes_of rfl rfl rfl rfl) rfl rfl)
/-! is_number -/
abbrev s_is_number : Stmt := top 7
abbrev N_is_number : List Str := ["value", "low", "high"]
theorem sc_is_number : FnScope N_is_number ["value", "low", "high"] (defScope s_is_number) := ⟨rfl, rfl, rfl, by decide +kernel, rfl, by decide +kernel, by decide +kernel⟩
def b_is_number : SM :=
  (sRet (eAnd (eCall (argc 1 m_is_integer) (aCons (eVar 0) aNil)) (eChain gLe gLe (eVar 1) (eVar 0) (eVar 2))))
def m_is_number : Fn := fnOf 3 3 b_is_number
theorem ok_is_number (T : Txt K mg) : Ok P w K mg base 2 "is_number" s_is_number ["value", "low", "high"] 3 m_is_number := ok_fn T.d_is_number sc_is_number rfl fun f cdv A outer s H E hr => (fun (tk : Tk (cxOf (L2.CX P w) P w K mg base N_is_number "is_number" (defScope s_is_number) f cdv A outer s H E) (WD E)) => (ss_one (ss_ret (se_and (se_own (ok_is_integer T) hr tk (sa_cons (se_of (pv 0)) sa_nil)) (se_one (se_chain op_le op_le og_le og_le (se_of (pv 1)) (se_of (pv 0)) (se_of (pv 2)))))))) (Tk.of (takes_of rfl rfl rfl rfl) rfl rfl)
/-! are_integers -/
abbrev s_are_integers : Stmt := top 11
abbrev N_are_integers : List Str := ["value", "low", "high", "one"]
theorem sc_are_integers : FnScope N_are_integers ["value", "low", "high"] (defScope s_are_integers) := ⟨rfl, rfl, rfl, by decide +kernel, rfl, by decide +kernel, by decide +kernel⟩
def b_are_integers : SM :=
  (sRet (eAnd (eIsi .tuple (eVar 0)) (eCall (gBls fun bs => bs.all id) (aCons (eComp (iSeq (eVar 0)) (tgName 3) mYes (eCall (argc 3 m_is_number) (aCons (eVar 3) (aCons (eVar 1) (aCons (eVar 2) aNil)))) [3]) aNil))))
def m_are_integers : Fn := fnOf 3 4 b_are_integers
theorem ok_are_integers (T : Txt K mg) : Ok P w K mg base 3 "are_integers" s_are_integers ["value", "low", "high"] 3 m_are_integers := ok_fn T.d_are_integers sc_are_integers rfl fun f cdv A outer s H E hr => (fun (tk : Tk (cxOf (L2.CX P w) P w K mg base N_are_integers "are_integers" (defScope s_are_integers) f cdv A outer s H E) (WD E)) => (ss_one (ss_ret (se_and (se_isi (t := .tuple) T.b_isinstance T.b_tuple (by decide +kernel) (se_of (pv 0))) (se_one (se_callB (cr_all rfl) (cg_bls (f := fun bs => bs.all id)) (by rfl) T.b_all (by decide +kernel) (sa_cons (se_comp (own := [("one", 3)]) sc_are_integers.nd tk (si_seq (se_of (pv 0))) (blkOk_by (N := N_are_integers) (sc := defScope s_are_integers) (by decide +kernel)) (fun _ _ _ _ _ _ => (pg_name (i := 3) sc_are_integers.nd rfl (Or.inl rfl))) (tw_name (by decide)) (fun _ _ _ _ _ _ _ tk => sts_nil) (fun _ _ _ _ _ _ _ tk => (se_own (ok_is_number T) hr tk (sa_cons (se_of (pv 3)) (sa_cons (se_of (pv 1)) (sa_cons (se_of (pv 2)) sa_nil)))))) sa_nil))))))) (Tk.of (takes_of rfl rfl rfl rfl) rfl rfl)
/-! are_numbers -/
abbrev s_are_numbers : Stmt := top 12
abbrev N_are_numbers : List Str := ["value", "low", "high"]
theorem sc_are_numbers : FnScope N_are_numbers ["value", "low", "high"] (defScope s_are_numbers) := ⟨rfl, rfl, rfl, by decide +kernel, rfl, by decide +kernel, by decide +kernel⟩
def b_are_numbers : SM :=
  (sRet (eAnd (eCall (argc 3 m_are_integers) (aCons (eVar 0) (aCons (eVar 1) (aCons (eVar 2) aNil)))) (eCall (argc 1 m_is_ascending) (aCons (eVar 0) aNil))))
def m_are_numbers : Fn := fnOf 3 3 b_are_numbers
theorem ok_are_numbers (T : Txt K mg) : Ok P w K mg base 4 "are_numbers" s_are_numbers ["value", "low", "high"] 3 m_are_numbers := ok_fn T.d_are_numbers sc_are_numbers rfl fun f cdv A outer s H E hr => (fun (tk : Tk (cxOf (L2.CX P w) P w K mg base N_are_numbers "are_numbers" (defScope s_are_numbers) f cdv A outer s H E) (WD E)) => (ss_one (ss_ret (se_and (se_own (ok_are_integers T) hr tk (sa_cons (se_of (pv 0)) (sa_cons (se_of (pv 1)) (sa_cons (se_of (pv 2)) sa_nil)))) (se_one (se_own (ok_is_ascending T) hr tk (sa_cons (se_of (pv 0)) sa_nil))))))) (Tk.of (takes_of rfl rfl rfl rfl) rfl rfl)
/-! is_guard -/
abbrev s_is_guard : Stmt := top 23
abbrev N_is_guard : List Str := ["deeds", "value", "rows", "bars", "barred", "row"]
theorem sc_is_guard : FnScope N_is_guard ["deeds", "value"] (defScope s_is_guard) := ⟨rfl, rfl, rfl, by decide +kernel, rfl, by decide +kernel, by decide +kernel⟩
def b_is_guard : SM :=
  (sSeq (sIf (mOr (mNot (mTru (eCall (argc 2 m_is_tuple) (aCons (eVar 1) (aCons (eC (.int 2)) aNil))))) (mOr (mNot (mTru (eCall (argc 3 m_is_between) (aCons (eBin gIx (eVar 1) (eC (.int 0))) (aCons (eC (.int 1)) (aCons (eC (.int (5000))) aNil)))))) (mNot (mTru (eCall (argc 2 m_is_tuple) (aCons (eBin gIx (eVar 1) (eC (.int 1))) (aCons (eCall gLen (aCons (eBin gIx (eVar 1) (eC (.int 0))) aNil)) aNil))))))) (sRet (eC (.bl false))) sNext)
    (sSeq (sAsgT (eVar 1) (tgTup 2 (tgsCons (tgName 2) (tgsCons (tgName 3) tgsNil))))
    (sSeq (sIf (mNot (mTru (eCall (gBls fun bs => bs.all id) (aCons (eComp (iSeq (eVar 2)) (tgName 5) mYes (eAnd (eCall (argc 2 m_is_tuple) (aCons (eVar 5) (aCons (eCall gLen (aCons (eC (.tup (([0, 1, 2, 3] : List Int).map .int))) aNil)) aNil))) (eCall (argc 3 m_are_integers) (aCons (eVar 5) (aCons (eC (.int 0)) (aCons (eBin gSub (eCall gLen (aCons (eVar 2) aNil)) (eC (.int 1))) aNil))))) [5]) aNil)))) (sRet (eC (.bl false))) sNext)
    (sRet (eCall (gBls fun bs => bs.all id) (aCons (eComp (iSeq (eVar 3)) (tgName 4) mYes (eCall (argc 3 m_are_numbers) (aCons (eVar 4) (aCons (eC (.int 0)) (aCons (eBin gSub (eVar 0) (eC (.int 1))) aNil)))) [4]) aNil))))))
def m_is_guard : Fn := fnOf 2 6 b_is_guard
theorem ok_is_guard (T : Txt K mg) : Ok P w K mg base 5 "is_guard" s_is_guard ["deeds", "value"] 2 m_is_guard := ok_fn T.d_is_guard sc_is_guard rfl fun f cdv A outer s H E hr => (fun (tk : Tk (cxOf (L2.CX P w) P w K mg base N_is_guard "is_guard" (defScope s_is_guard) f cdv A outer s H E) (WD E)) => (ss_cons (ss_if (PW.pt (sw_or (st_not (st_tru (se_own (ok_is_tuple T) hr tk (sa_cons (se_of (pv 1)) (sa_cons se_int sa_nil))))) (sw_or (st_not (st_tru (se_own (ok_is_between T) hr tk (sa_cons (se_ix (se_of (pv 1)) se_int) (sa_cons se_int (sa_cons (se_globI T.c_MOST_GUARDS) sa_nil)))))) (sw_one (st_not (st_tru (se_own (ok_is_tuple T) hr tk (sa_cons (se_ix (se_of (pv 1)) se_int) (sa_cons (se_callB call_len cg_len (by rfl) T.b_len (by decide +kernel) (sa_cons (se_ix (se_of (pv 1)) se_int) sa_nil)) sa_nil))))))))) (ss_one (ss_ret se_bl)) ss_nil)
    (ss_cons (ss_asgT (se_of (pv 1)) (pg_tup rfl (pgs_cons (pg_name (i := 2) sc_is_guard.nd rfl (Or.inr rfl)) (pgs_cons (pg_name (i := 3) sc_is_guard.nd rfl (Or.inl rfl)) pgs_nil))) (tr_tup (tr_cons tr_name (tr_cons tr_name tr_nil))))
    (ss_cons (ss_if (st_not (st_tru (se_callB (cr_all rfl) (cg_bls (f := fun bs => bs.all id)) (by rfl) T.b_all (by decide +kernel) (sa_cons (se_comp (own := [("row", 5)]) sc_is_guard.nd tk (si_seq (se_of (pv 2))) (blkOk_by (N := N_is_guard) (sc := defScope s_is_guard) (by decide +kernel)) (fun _ _ _ _ _ _ => (pg_name (i := 5) sc_is_guard.nd rfl (Or.inl rfl))) (tw_name (by decide)) (fun _ _ _ _ _ _ _ tk => sts_nil) (fun _ _ _ _ _ _ _ tk => (se_and (se_own (ok_is_tuple T) hr tk (sa_cons (se_of (pv 5)) (sa_cons (se_callB call_len cg_len (by rfl) T.b_len (by decide +kernel) (sa_cons (se_globT T.c_LOOKS) sa_nil)) sa_nil))) (se_one (se_own (ok_are_integers T) hr tk (sa_cons (se_of (pv 5)) (sa_cons se_int (sa_cons (se_bin op_sub og_sub (se_callB call_len cg_len (by rfl) T.b_len (by decide +kernel) (sa_cons (se_of (pv 2)) sa_nil)) se_int) sa_nil)))))))) sa_nil)))) (ss_one (ss_ret se_bl)) ss_nil)
    (ss_one (ss_ret (se_callB (cr_all rfl) (cg_bls (f := fun bs => bs.all id)) (by rfl) T.b_all (by decide +kernel) (sa_cons (se_comp (own := [("barred", 4)]) sc_is_guard.nd tk (si_seq (se_of (pv 3))) (blkOk_by (N := N_is_guard) (sc := defScope s_is_guard) (by decide +kernel)) (fun _ _ _ _ _ _ => (pg_name (i := 4) sc_is_guard.nd rfl (Or.inl rfl))) (tw_name (by decide)) (fun _ _ _ _ _ _ _ tk => sts_nil) (fun _ _ _ _ _ _ _ tk => (se_own (ok_are_numbers T) hr tk (sa_cons (se_of (pv 4)) (sa_cons se_int (sa_cons (se_bin op_sub og_sub (se_of (pv 0)) se_int) sa_nil)))))) sa_nil)))))))) (Tk.of (takes_of rfl rfl rfl rfl) rfl rfl)
/-! read_guard -/
abbrev s_read_guard : Stmt := top 37
abbrev N_read_guard : List Str := ["deeds", "text", "rows", "found", "line", "row", "_", "barred"]
theorem sc_read_guard : FnScope N_read_guard ["deeds", "text"] (defScope s_read_guard) := ⟨rfl, rfl, rfl, by decide +kernel, rfl, by decide +kernel, by decide +kernel⟩
def b_read_guard : SM :=
  (sSeq (sAsg (eComp (iSeq (eM1 gSplit (eVar 1) (eC (.str "\n")))) (tgName 4) mYes (eCall (argc 1 m_read_guard_line) (aCons (eVar 4) aNil)) [4]) 2)
    (sSeq (sAsg (eTup (aCons (eCall gTuple (aCons (eComp (iSeq (eVar 2)) (tgTup 2 (tgsCons (tgName 5) (tgsCons (tgName 6) tgsNil))) mYes (eVar 5) [5, 6]) aNil)) (aCons (eCall gTuple (aCons (eComp (iSeq (eVar 2)) (tgTup 2 (tgsCons (tgName 6) (tgsCons (tgName 7) tgsNil))) mYes (eVar 7) [6, 7]) aNil)) aNil))) 3)
    (sSeq (sDrop (eCall (argc 1 m_require) (aCons (eCall (argc 2 m_is_guard) (aCons (eVar 0) (aCons (eVar 3) aNil))) aNil)))
    (sRet (eVar 3)))))
def m_read_guard : Fn := fnOf 2 8 b_read_guard
theorem ok_read_guard (T : Txt K mg) : Ok P w K mg base 6 "read_guard" s_read_guard ["deeds", "text"] 2 m_read_guard := ok_fn T.d_read_guard sc_read_guard rfl fun f cdv A outer s H E hr => (fun (tk : Tk (cxOf (L2.CX P w) P w K mg base N_read_guard "read_guard" (defScope s_read_guard) f cdv A outer s H E) (WD E)) => (ss_cons (ss_setComp (i := 2) (own := [("line", 4)]) sc_read_guard.nd tk (si_seq (se_split (se_of (pv 1)) se_str)) (blkOk_by (N := N_read_guard) (sc := defScope s_read_guard) (by decide +kernel)) (fun _ _ _ _ _ _ => (pg_name (i := 4) sc_read_guard.nd rfl (Or.inl rfl))) (tw_name (by decide)) (fun _ _ _ _ _ _ _ tk => sts_nil) (fun _ _ _ _ _ _ _ tk => (se_own (ok_read_guard_line T) hr tk (sa_cons (se_of (pv 4)) sa_nil))) (sw_true rfl rfl rfl (by decide +kernel)))
    (ss_cons (ss_asg (i := 3) sc_read_guard.nd (se_tup (sa_cons (se_callTy call_tuple_of cg_tuple (by rfl) T.b_tuple (by decide +kernel) (sa_cons (se_comp (own := [("row", 5), ("_", 6)]) sc_read_guard.nd tk (si_seq (se_of (pv 2))) (blkOk_by (N := N_read_guard) (sc := defScope s_read_guard) (by decide +kernel)) (fun _ _ _ _ _ _ => (pg_tup rfl (pgs_cons (pg_name (i := 5) sc_read_guard.nd rfl (Or.inl rfl)) (pgs_cons (pg_name (i := 6) sc_read_guard.nd rfl (Or.inl rfl)) pgs_nil)))) (tw_tup (tw_cons (tw_name (by decide)) (tw_cons (tw_name (by decide)) tw_nil))) (fun _ _ _ _ _ _ _ tk => sts_nil) (fun _ _ _ _ _ _ _ tk => (se_of (pv 5)))) sa_nil)) (sa_cons (se_callTy call_tuple_of cg_tuple (by rfl) T.b_tuple (by decide +kernel) (sa_cons (se_comp (own := [("_", 6), ("barred", 7)]) sc_read_guard.nd tk (si_seq (se_of (pv 2))) (blkOk_by (N := N_read_guard) (sc := defScope s_read_guard) (by decide +kernel)) (fun _ _ _ _ _ _ => (pg_tup rfl (pgs_cons (pg_name (i := 6) sc_read_guard.nd rfl (Or.inl rfl)) (pgs_cons (pg_name (i := 7) sc_read_guard.nd rfl (Or.inl rfl)) pgs_nil)))) (tw_tup (tw_cons (tw_name (by decide)) (tw_cons (tw_name (by decide)) tw_nil))) (fun _ _ _ _ _ _ _ tk => sts_nil) (fun _ _ _ _ _ _ _ tk => (se_of (pv 7)))) sa_nil)) sa_nil))))
    (ss_cons (ss_expr (se_own (ok_require T) hr tk (sa_cons (se_own (ok_is_guard T) hr tk (sa_cons (se_of (pv 0)) (sa_cons (se_of (pv 3)) sa_nil))) sa_nil)))
    (ss_one (ss_ret (se_of (pv 3)))))))) (Tk.of (takes_of rfl rfl rfl rfl) rfl rfl)
/-! read_row -/
abbrev s_read_row : Stmt := top 30
abbrev N_read_row : List Str := ["text", "word"]
theorem sc_read_row : FnScope N_read_row ["text"] (defScope s_read_row) := ⟨rfl, rfl, rfl, by decide +kernel, rfl, by decide +kernel, by decide +kernel⟩
def b_read_row : SM :=
  (sRet (eIf (mT (eBin gEq (eVar 0) (eC (.str "-")))) (eTup aNil) (eCall gTuple (aCons (eComp (iSeq (eM1 gSplit (eVar 0) (eC (.str " ")))) (tgName 1) mYes (eCall (argc 1 m_number_of) (aCons (eVar 1) aNil)) [1]) aNil))))
def m_read_row : Fn := fnOf 1 2 b_read_row
theorem ok_read_row (T : Txt K mg) : Ok P w K mg base 2 "read_row" s_read_row ["text"] 1 m_read_row := ok_fn T.d_read_row sc_read_row rfl fun f cdv A outer s H E hr => (fun (tk : Tk (cxOf (L2.CX P w) P w K mg base N_read_row "read_row" (defScope s_read_row) f cdv A outer s H E) (WD E)) => (ss_one (ss_ret (se_if (st_cmp op_eq og_eq (se_of (pv 0)) (se_globS T.c_DASH) (nomark _)) (se_tup sa_nil) (se_callTy call_tuple_of cg_tuple (by rfl) T.b_tuple (by decide +kernel) (sa_cons (se_comp (own := [("word", 1)]) sc_read_row.nd tk (si_seq (se_split (se_of (pv 0)) se_str)) (blkOk_by (N := N_read_row) (sc := defScope s_read_row) (by decide +kernel)) (fun _ _ _ _ _ _ => (pg_name (i := 1) sc_read_row.nd rfl (Or.inl rfl))) (tw_name (by decide)) (fun _ _ _ _ _ _ _ tk => sts_nil) (fun _ _ _ _ _ _ _ tk => (se_own (ok_number_of T) hr tk (sa_cons (se_of (pv 1)) sa_nil)))) sa_nil)))))) (Tk.of (takes_of rfl rfl rfl rfl) rfl rfl)
/-! read_sign -/
abbrev s_read_sign : Stmt := top 28
abbrev N_read_sign : List Str := ["text"]
theorem sc_read_sign : FnScope N_read_sign ["text"] (defScope s_read_sign) := ⟨rfl, rfl, rfl, by decide +kernel, rfl, by decide +kernel, by decide +kernel⟩
def b_read_sign : SM :=
  (sRet (eIf (mT (eBin gEq (eVar 0) (eC (.str "-")))) (eC (.int (-1))) (eCall (argc 1 m_number_of) (aCons (eVar 0) aNil))))
def m_read_sign : Fn := fnOf 1 1 b_read_sign
theorem ok_read_sign (T : Txt K mg) : Ok P w K mg base 2 "read_sign" s_read_sign ["text"] 1 m_read_sign := ok_fn T.d_read_sign sc_read_sign rfl fun f cdv A outer s H E hr => (fun (tk : Tk (cxOf (L2.CX P w) P w K mg base N_read_sign "read_sign" (defScope s_read_sign) f cdv A outer s H E) (WD E)) => (ss_one (ss_ret (se_if (st_cmp op_eq og_eq (se_of (pv 0)) (se_globS T.c_DASH) (nomark _)) (se_globI T.c_NOWHERE) (se_own (ok_number_of T) hr tk (sa_cons (se_of (pv 0)) sa_nil)))))) (Tk.of (takes_of rfl rfl rfl rfl) rfl rfl)
/-! read_step -/
abbrev s_read_step : Stmt := top 39
abbrev N_read_step : List Str := ["text", "found", "deed", "mark", "look"]
theorem sc_read_step : FnScope N_read_step ["text"] (defScope s_read_step) := ⟨rfl, rfl, rfl, by decide +kernel, rfl, by decide +kernel, by decide +kernel⟩
def b_read_step : SM :=
  (sSeq (sAsgT (eM1 gPart (eVar 0) (eC (.str ":"))) (tgTup 3 (tgsCons (tgName 2) (tgsCons (tgName 3) (tgsCons (tgName 4) tgsNil)))))
    (sSeq (sDrop (eCall (argc 1 m_require) (aCons (eBin gEq (eVar 3) (eC (.str ":"))) aNil)))
    (sSeq (sAsg (eTup (aCons (eCall (argc 1 m_number_of) (aCons (eVar 2) aNil)) (aCons (eCall (argc 1 m_read_sign) (aCons (eVar 4) aNil)) aNil))) 1)
    (sSeq (sDrop (eCall (argc 1 m_require) (aCons (eAnd (eBin gLt (eBin gIx (eVar 1) (eC (.int 0))) (eC (.int (4)))) (eChain gLe gLe (eC (.int (-1))) (eBin gIx (eVar 1) (eC (.int 1))) (eBin gIx (eC (.tup (([0, 1, 2, 3] : List Int).map .int))) (eNeg (eC (.int 1)))))) aNil)))
    (sRet (eVar 1))))))
def m_read_step : Fn := fnOf 1 5 b_read_step
theorem ok_read_step (T : Txt K mg) : Ok P w K mg base 3 "read_step" s_read_step ["text"] 1 m_read_step := ok_fn T.d_read_step sc_read_step rfl fun f cdv A outer s H E hr => (fun (tk : Tk (cxOf (L2.CX P w) P w K mg base N_read_step "read_step" (defScope s_read_step) f cdv A outer s H E) (WD E)) => (ss_cons (ss_asgT (se_part (se_of (pv 0)) se_str) (pg_tup rfl (pgs_cons (pg_name (i := 2) sc_read_step.nd rfl (Or.inl rfl)) (pgs_cons (pg_name (i := 3) sc_read_step.nd rfl (Or.inl rfl)) (pgs_cons (pg_name (i := 4) sc_read_step.nd rfl (Or.inl rfl)) pgs_nil)))) (tr_tup (tr_cons tr_name (tr_cons tr_name (tr_cons tr_name tr_nil)))))
    (ss_cons (ss_expr (se_own (ok_require T) hr tk (sa_cons (se_cmp op_eq og_eq (se_of (pv 3)) se_str (nomark _)) sa_nil)))
    (ss_cons (ss_asg (i := 1) sc_read_step.nd (se_tup (sa_cons (se_own (ok_number_of T) hr tk (sa_cons (se_of (pv 2)) sa_nil)) (sa_cons (se_own (ok_read_sign T) hr tk (sa_cons (se_of (pv 4)) sa_nil)) sa_nil))))
    (ss_cons (ss_expr (se_own (ok_require T) hr tk (sa_cons (se_and (se_cmp op_lt og_lt (se_ix (se_of (pv 1)) se_int) (se_globI T.c_MOST_DEEDS) (nomark _)) (se_one (se_chain op_le op_le og_le og_le (se_globI T.c_NOTHING) (se_ix (se_of (pv 1)) se_int) (se_ix (se_globT T.c_LOOKS) (se_neg se_int))))) sa_nil)))
    (ss_one (ss_ret (se_of (pv 1))))))))) (Tk.of (takes_of rfl rfl rfl rfl) rfl rfl)
/-! read_steps -/
abbrev s_read_steps : Stmt := top 40
abbrev N_read_steps : List Str := ["text", "word"]
theorem sc_read_steps : FnScope N_read_steps ["text"] (defScope s_read_steps) := ⟨rfl, rfl, rfl, by decide +kernel, rfl, by decide +kernel, by decide +kernel⟩
def b_read_steps : SM :=
  (sRet (eIf (mT (eBin gEq (eVar 0) (eC (.str "-")))) (eTup aNil) (eCall gTuple (aCons (eComp (iSeq (eM1 gSplit (eVar 0) (eC (.str " ")))) (tgName 1) mYes (eCall (argc 1 m_read_step) (aCons (eVar 1) aNil)) [1]) aNil))))
def m_read_steps : Fn := fnOf 1 2 b_read_steps
theorem ok_read_steps (T : Txt K mg) : Ok P w K mg base 4 "read_steps" s_read_steps ["text"] 1 m_read_steps := ok_fn T.d_read_steps sc_read_steps rfl fun f cdv A outer s H E hr => (fun (tk : Tk (cxOf (L2.CX P w) P w K mg base N_read_steps "read_steps" (defScope s_read_steps) f cdv A outer s H E) (WD E)) => (ss_one (ss_ret (se_if (st_cmp op_eq og_eq (se_of (pv 0)) (se_globS T.c_DASH) (nomark _)) (se_tup sa_nil) (se_callTy call_tuple_of cg_tuple (by rfl) T.b_tuple (by decide +kernel) (sa_cons (se_comp (own := [("word", 1)]) sc_read_steps.nd tk (si_seq (se_split (se_of (pv 0)) se_str)) (blkOk_by (N := N_read_steps) (sc := defScope s_read_steps) (by decide +kernel)) (fun _ _ _ _ _ _ => (pg_name (i := 1) sc_read_steps.nd rfl (Or.inl rfl))) (tw_name (by decide)) (fun _ _ _ _ _ _ _ tk => sts_nil) (fun _ _ _ _ _ _ _ tk => (se_own (ok_read_step T) hr tk (sa_cons (se_of (pv 1)) sa_nil)))) sa_nil)))))) (Tk.of (takes_of rfl rfl rfl rfl) rfl rfl)
/-! is_eyes -/
abbrev s_is_eyes : Stmt := top 18
abbrev N_is_eyes : List Str := ["deeds", "value", "looks"]
theorem sc_is_eyes : FnScope N_is_eyes ["deeds", "value"] (defScope s_is_eyes) := ⟨rfl, rfl, rfl, by decide +kernel, rfl, by decide +kernel, by decide +kernel⟩
def b_is_eyes : SM :=
  (sSeq (sIf (mOr (mNot (mTru (eCall (argc 2 m_is_tuple) (aCons (eVar 1) (aCons (eVar 0) aNil))))) (mNot (mTru (eCall (gBls fun bs => bs.all id) (aCons (eComp (iSeq (eVar 1)) (tgName 2) mYes (eCall (argc 3 m_are_numbers) (aCons (eVar 2) (aCons (eC (.int (-1))) (aCons (eC (.int (3))) aNil)))) [2]) aNil))))) (sRet (eC (.bl false))) sNext)
    (sRet (eCall (gBls fun bs => bs.all id) (aCons (eComp (iSeq (eVar 1)) (tgName 2) mYes (eBin gGt (eCall gLen (aCons (eVar 2) aNil)) (eC (.int 0))) [2]) aNil))))
def m_is_eyes : Fn := fnOf 2 3 b_is_eyes
theorem ok_is_eyes (T : Txt K mg) : Ok P w K mg base 5 "is_eyes" s_is_eyes ["deeds", "value"] 2 m_is_eyes := ok_fn T.d_is_eyes sc_is_eyes rfl fun f cdv A outer s H E hr => (fun (tk : Tk (cxOf (L2.CX P w) P w K mg base N_is_eyes "is_eyes" (defScope s_is_eyes) f cdv A outer s H E) (WD E)) => (ss_cons (ss_if (PW.pt (sw_or (st_not (st_tru (se_own (ok_is_tuple T) hr tk (sa_cons (se_of (pv 1)) (sa_cons (se_of (pv 0)) sa_nil))))) (sw_one (st_not (st_tru (se_callB (cr_all rfl) (cg_bls (f := fun bs => bs.all id)) (by rfl) T.b_all (by decide +kernel) (sa_cons (se_comp (own := [("looks", 2)]) sc_is_eyes.nd tk (si_seq (se_of (pv 1))) (blkOk_by (N := N_is_eyes) (sc := defScope s_is_eyes) (by decide +kernel)) (fun _ _ _ _ _ _ => (pg_name (i := 2) sc_is_eyes.nd rfl (Or.inl rfl))) (tw_name (by decide)) (fun _ _ _ _ _ _ _ tk => sts_nil) (fun _ _ _ _ _ _ _ tk => (se_own (ok_are_numbers T) hr tk (sa_cons (se_of (pv 2)) (sa_cons (se_globI T.c_NOTHING) (sa_cons (se_globI T.c_LAST_LOOK) sa_nil)))))) sa_nil))))))) (ss_one (ss_ret se_bl)) ss_nil)
    (ss_one (ss_ret (se_callB (cr_all rfl) (cg_bls (f := fun bs => bs.all id)) (by rfl) T.b_all (by decide +kernel) (sa_cons (se_comp (own := [("looks", 2)]) sc_is_eyes.nd tk (si_seq (se_of (pv 1))) (blkOk_by (N := N_is_eyes) (sc := defScope s_is_eyes) (by decide +kernel)) (fun _ _ _ _ _ _ => (pg_name (i := 2) sc_is_eyes.nd rfl (Or.inl rfl))) (tw_name (by decide)) (fun _ _ _ _ _ _ _ tk => sts_nil) (fun _ _ _ _ _ _ _ tk => (se_cmp op_gt og_gt (se_callB call_len cg_len (by rfl) T.b_len (by decide +kernel) (sa_cons (se_of (pv 2)) sa_nil)) se_int (nomark _)))) sa_nil)))))) (Tk.of (takes_of rfl rfl rfl rfl) rfl rfl)
/-! read_eyes -/
abbrev s_read_eyes : Stmt := top 34
abbrev N_read_eyes : List Str := ["deeds", "text", "words", "found", "word", "sign"]
theorem sc_read_eyes : FnScope N_read_eyes ["deeds", "text"] (defScope s_read_eyes) := ⟨rfl, rfl, rfl, by decide +kernel, rfl, by decide +kernel, by decide +kernel⟩
def b_read_eyes : SM :=
  (sSeq (sAsg (eM1 gSplit (eVar 1) (eC (.str " "))) 2)
    (sSeq (sAsg (eCall gTuple (aCons (eComp (iSeq (eVar 2)) (tgName 4) mYes (eCall gTuple (aCons (eComp (iSeq (eM1 gSplit (eVar 4) (eC (.str ",")))) (tgName 5) mYes (eCall (argc 1 m_read_sign) (aCons (eVar 5) aNil)) [5]) aNil)) [4]) aNil)) 3)
    (sSeq (sDrop (eCall (argc 1 m_require) (aCons (eCall (argc 2 m_is_eyes) (aCons (eVar 0) (aCons (eVar 3) aNil))) aNil)))
    (sRet (eVar 3)))))
def m_read_eyes : Fn := fnOf 2 6 b_read_eyes
theorem ok_read_eyes (T : Txt K mg) : Ok P w K mg base 6 "read_eyes" s_read_eyes ["deeds", "text"] 2 m_read_eyes := ok_fn T.d_read_eyes sc_read_eyes rfl fun f cdv A outer s H E hr => (fun (tk : Tk (cxOf (L2.CX P w) P w K mg base N_read_eyes "read_eyes" (defScope s_read_eyes) f cdv A outer s H E) (WD E)) => (ss_cons (ss_asg (i := 2) sc_read_eyes.nd (se_split (se_of (pv 1)) se_str))
    (ss_cons (ss_asg (i := 3) sc_read_eyes.nd (se_callTy call_tuple_of cg_tuple (by rfl) T.b_tuple (by decide +kernel) (sa_cons (se_comp (own := [("word", 4)]) sc_read_eyes.nd tk (si_seq (se_of (pv 2))) (blkOk_by (N := N_read_eyes) (sc := defScope s_read_eyes) (by decide +kernel)) (fun _ _ _ _ _ _ => (pg_name (i := 4) sc_read_eyes.nd rfl (Or.inl rfl))) (tw_name (by decide)) (fun _ _ _ _ _ _ _ tk => sts_nil) (fun _ _ _ _ _ _ _ tk => (se_callTy call_tuple_of cg_tuple (by rfl) T.b_tuple (by decide +kernel) (sa_cons (se_comp (own := [("sign", 5)]) sc_read_eyes.nd tk (si_seq (se_split (se_of (pv 4)) se_str)) (blkOk_by (by kernel_rfl)) (fun _ _ _ _ _ _ => (pg_name (i := 5) sc_read_eyes.nd rfl (Or.inl rfl))) (tw_name (by decide)) (fun _ _ _ _ _ _ _ tk => sts_nil) (fun _ _ _ _ _ _ _ tk => (se_own (ok_read_sign T) hr tk (sa_cons (se_of (pv 5)) sa_nil)))) sa_nil)))) sa_nil)))
    (ss_cons (ss_expr (se_own (ok_require T) hr tk (sa_cons (se_own (ok_is_eyes T) hr tk (sa_cons (se_of (pv 0)) (sa_cons (se_of (pv 3)) sa_nil))) sa_nil)))
    (ss_one (ss_ret (se_of (pv 3)))))))) (Tk.of (takes_of rfl rfl rfl rfl) rfl rfl)
/-! _law_read -/
abbrev s__law_read : Stmt := top 57
abbrev N__law_read : List Str := ["way", "deeds", "text", "e"]
theorem sc__law_read : FnScope N__law_read ["way", "deeds", "text"] (defScope s__law_read) := ⟨rfl, rfl, rfl, by decide +kernel, rfl, by decide +kernel, by decide +kernel⟩
def b__law_read : SM :=
  (sSeq (sTryIs "BadText" 3 (sSeq (sIf (mT (eBin gEq (eVar 0) (eC (.int 0)))) (sRet (eTup (aCons (eCall (argc 1 m_read_set) (aCons (eVar 2) aNil)) aNil))) sNext)
    (sSeq (sIf (mT (eBin gEq (eVar 0) (eC (.int 1)))) (sRet (eTup (aCons (eCall (argc 1 m_read_row) (aCons (eVar 2) aNil)) aNil))) sNext)
    (sSeq (sIf (mT (eBin gEq (eVar 0) (eC (.int 2)))) (sRet (eTup (aCons (eCall (argc 1 m_read_steps) (aCons (eVar 2) aNil)) aNil))) sNext)
    (sSeq (sIf (mT (eBin gEq (eVar 0) (eC (.int 3)))) (sRet (eTup (aCons (eCall (argc 2 m_read_eyes) (aCons (eVar 1) (aCons (eVar 2) aNil))) aNil))) sNext)
    (sRet (eTup (aCons (eCall (argc 2 m_read_guard) (aCons (eVar 1) (aCons (eVar 2) aNil))) aNil))))))) (eTup aNil))
    (sRet (eC .non)))
def m__law_read : Fn := fnOf 3 4 b__law_read
theorem ok__law_read (T : Txt K mg) : Ok P w K mg base 7 "_law_read" s__law_read ["way", "deeds", "text"] 3 m__law_read := ok_fn T.d__law_read sc__law_read rfl fun f cdv A outer s H E hr => (fun (tk : Tk (cxOf (L2.CX P w) P w K mg base N__law_read "_law_read" (defScope s__law_read) f cdv A outer s H E) (WD E)) => (ss_cons (ss_tryIs (i := 3) rfl rfl sc__law_read.nd T.y_BadText T.b_isinstance (fun _ _ _ tk0 po => (fun tk => (ss_cons (ss_if (st_cmp op_eq og_eq (se_of (pv 0)) se_int (nomark _)) (ss_one (ss_ret (se_tup (sa_cons (se_own (ok_read_set T) hr tk (sa_cons (se_of (pv 2)) sa_nil)) sa_nil)))) ss_nil)
    (ss_cons (ss_if (st_cmp op_eq og_eq (se_of (pv 0)) se_int (nomark _)) (ss_one (ss_ret (se_tup (sa_cons (se_own (ok_read_row T) hr tk (sa_cons (se_of (pv 2)) sa_nil)) sa_nil)))) ss_nil)
    (ss_cons (ss_if (st_cmp op_eq og_eq (se_of (pv 0)) se_int (nomark _)) (ss_one (ss_ret (se_tup (sa_cons (se_own (ok_read_steps T) hr tk (sa_cons (se_of (pv 2)) sa_nil)) sa_nil)))) ss_nil)
    (ss_cons (ss_if (st_cmp op_eq og_eq (se_of (pv 0)) se_int (nomark _)) (ss_one (ss_ret (se_tup (sa_cons (se_own (ok_read_eyes T) hr tk (sa_cons (se_of (pv 1)) (sa_cons (se_of (pv 2)) sa_nil))) sa_nil)))) ss_nil)
    (ss_one (ss_ret (se_tup (sa_cons (se_own (ok_read_guard T) hr tk (sa_cons (se_of (pv 1)) (sa_cons (se_of (pv 2)) sa_nil))) sa_nil))))))))) (Tk.of tk0 rfl rfl)) (fun _ _ _ => (se_tup sa_nil)))
    (ss_one (ss_ret se_non)))) (Tk.of (takes_of rfl rfl rfl rfl) rfl rfl)
/-! write_eyes -/
abbrev s_write_eyes : Stmt := top 33
abbrev N_write_eyes : List Str := ["eyes", "looks", "look"]
theorem sc_write_eyes : FnScope N_write_eyes ["eyes"] (defScope s_write_eyes) := ⟨rfl, rfl, rfl, by decide +kernel, rfl, by decide +kernel, by decide +kernel⟩
def b_write_eyes : SM :=
  (sRet (eM1 gJoin (eC (.str " ")) (eComp (iSeq (eVar 0)) (tgName 1) mYes (eM1 gJoin (eC (.str ",")) (eComp (iSeq (eVar 1)) (tgName 2) mYes (eCall (argc 1 m_sign_of) (aCons (eVar 2) aNil)) [2])) [1])))
def m_write_eyes : Fn := fnOf 1 3 b_write_eyes
theorem ok_write_eyes (T : Txt K mg) : Ok P w K mg base 2 "write_eyes" s_write_eyes ["eyes"] 1 m_write_eyes := ok_fn T.d_write_eyes sc_write_eyes rfl fun f cdv A outer s H E hr => (fun (tk : Tk (cxOf (L2.CX P w) P w K mg base N_write_eyes "write_eyes" (defScope s_write_eyes) f cdv A outer s H E) (WD E)) => (ss_one (ss_ret (se_join se_str (se_comp (own := [("looks", 1)]) sc_write_eyes.nd tk (si_seq (se_of (pv 0))) (blkOk_by (N := N_write_eyes) (sc := defScope s_write_eyes) (by decide +kernel)) (fun _ _ _ _ _ _ => (pg_name (i := 1) sc_write_eyes.nd rfl (Or.inl rfl))) (tw_name (by decide)) (fun _ _ _ _ _ _ _ tk => sts_nil) (fun _ _ _ _ _ _ _ tk => (se_join se_str (se_comp (own := [("look", 2)]) sc_write_eyes.nd tk (si_seq (se_of (pv 1))) (blkOk_by (by kernel_rfl)) (fun _ _ _ _ _ _ => (pg_name (i := 2) sc_write_eyes.nd rfl (Or.inl rfl))) (tw_name (by decide)) (fun _ _ _ _ _ _ _ tk => sts_nil) (fun _ _ _ _ _ _ _ tk => (se_own (ok_sign_of T) hr tk (sa_cons (se_of (pv 2)) sa_nil))))))))))) (Tk.of (takes_of rfl rfl rfl rfl) rfl rfl)
/-! write_set -/
abbrev s_write_set : Stmt := top 31
abbrev N_write_set : List Str := ["numbers", "number"]
theorem sc_write_set : FnScope N_write_set ["numbers"] (defScope s_write_set) := ⟨rfl, rfl, rfl, by decide +kernel, rfl, by decide +kernel, by decide +kernel⟩
def b_write_set : SM :=
  (sRet (eIf (mT (eBin gGt (eCall gLen (aCons (eVar 0) aNil)) (eC (.int 0)))) (eM1 gJoin (eC (.str ",")) (eComp (iSeq (eVar 0)) (tgName 1) mYes (eCall gStrI (aCons (eVar 1) aNil)) [1])) (eC (.str "-"))))
def m_write_set : Fn := fnOf 1 2 b_write_set
theorem ok_write_set (T : Txt K mg) : Ok P w K mg base 1 "write_set" s_write_set ["numbers"] 1 m_write_set := ok_fn T.d_write_set sc_write_set rfl fun f cdv A outer s H E hr => (fun (tk : Tk (cxOf (L2.CX P w) P w K mg base N_write_set "write_set" (defScope s_write_set) f cdv A outer s H E) (WD E)) => (ss_one (ss_ret (se_if (st_cmp op_gt og_gt (se_callB call_len cg_len (by rfl) T.b_len (by decide +kernel) (sa_cons (se_of (pv 0)) sa_nil)) se_int (nomark _)) (se_join se_str (se_comp (own := [("number", 1)]) sc_write_set.nd tk (si_seq (se_of (pv 0))) (blkOk_by (N := N_write_set) (sc := defScope s_write_set) (by decide +kernel)) (fun _ _ _ _ _ _ => (pg_name (i := 1) sc_write_set.nd rfl (Or.inl rfl))) (tw_name (by decide)) (fun _ _ _ _ _ _ _ tk => sts_nil) (fun _ _ _ _ _ _ _ tk => (se_callTy call_str_int cg_str (by rfl) T.b_str (by decide +kernel) (sa_cons (se_of (pv 1)) sa_nil))))) (se_globS T.c_DASH))))) (Tk.of (takes_of rfl rfl rfl rfl) rfl rfl)
/-! write_guard -/
abbrev s_write_guard : Stmt := top 35
abbrev N_write_guard : List Str := ["guard", "lines", "row", "barred", "goal"]
theorem sc_write_guard : FnScope N_write_guard ["guard"] (defScope s_write_guard) := ⟨rfl, rfl, rfl, by decide +kernel, rfl, by decide +kernel, by decide +kernel⟩
def b_write_guard : SM :=
  (sSeq (sAsg (eLstT aNil) 1)
    (sSeq (sFor (iZipM (aCons (eBin gIx (eVar 0) (eC (.int 0))) (aCons (eBin gIx (eVar 0) (eC (.int 1))) aNil))) (tgTup 2 (tgsCons (tgName 2) (tgsCons (tgName 3) tgsNil))) (sDrop (eAppend (eVar 1) (eBin gAdd (eBin gAdd (eBin gAdd (eC (.str "guard ")) (eM1 gJoin (eC (.str " ")) (eComp (iSeq (eVar 2)) (tgName 4) mYes (eCall gStrI (aCons (eVar 4) aNil)) [4]))) (eC (.str " bars "))) (eCall (argc 1 m_write_set) (aCons (eVar 3) aNil))))))
    (sRet (eM1 gJoin (eC (.str "\n")) (eVar 1)))))
def m_write_guard : Fn := fnOf 1 5 b_write_guard
theorem ok_write_guard (T : Txt K mg) : Ok P w K mg base 2 "write_guard" s_write_guard ["guard"] 1 m_write_guard := ok_fn T.d_write_guard sc_write_guard rfl fun f cdv A outer s H E hr => (fun (tk : Tk (cxOf (L2.CX P w) P w K mg base N_write_guard "write_guard" (defScope s_write_guard) f cdv A outer s H E) (WD E)) => (ss_cons (ss_asg (i := 1) sc_write_guard.nd (se_lstT sa_nil))
    (ss_cons (ss_for (passes_of rfl) (si_zip T.b_zip (sa_cons (se_ix (se_of (pv 0)) se_int) (sa_cons (se_ix (se_of (pv 0)) se_int) sa_nil))) (pg_tup rfl (pgs_cons (pg_name (i := 2) sc_write_guard.nd rfl (Or.inl rfl)) (pgs_cons (pg_name (i := 3) sc_write_guard.nd rfl (Or.inl rfl)) pgs_nil))) (tr_tup (tr_cons tr_name (tr_cons tr_name tr_nil))) (ss_one (ss_expr (se_append (se_of (pv 1)) (se_bin op_addA og_add (se_bin op_addA og_add (se_bin op_addA og_add se_str (se_join se_str (se_comp (own := [("goal", 4)]) sc_write_guard.nd tk (si_seq (se_of (pv 2))) (blkOk_by (N := N_write_guard) (sc := defScope s_write_guard) (by decide +kernel)) (fun _ _ _ _ _ _ => (pg_name (i := 4) sc_write_guard.nd rfl (Or.inl rfl))) (tw_name (by decide)) (fun _ _ _ _ _ _ _ tk => sts_nil) (fun _ _ _ _ _ _ _ tk => (se_callTy call_str_int cg_str (by rfl) T.b_str (by decide +kernel) (sa_cons (se_of (pv 4)) sa_nil)))))) se_str) (se_own (ok_write_set T) hr tk (sa_cons (se_of (pv 3)) sa_nil)))))))
    (ss_one (ss_ret (se_join se_str (se_of (pv 1)))))))) (Tk.of (takes_of rfl rfl rfl rfl) rfl rfl)
/-! write_row -/
abbrev s_write_row : Stmt := top 29
abbrev N_write_row : List Str := ["numbers", "number"]
theorem sc_write_row : FnScope N_write_row ["numbers"] (defScope s_write_row) := ⟨rfl, rfl, rfl, by decide +kernel, rfl, by decide +kernel, by decide +kernel⟩
def b_write_row : SM :=
  (sRet (eIf (mT (eBin gGt (eCall gLen (aCons (eVar 0) aNil)) (eC (.int 0)))) (eM1 gJoin (eC (.str " ")) (eComp (iSeq (eVar 0)) (tgName 1) mYes (eCall gStrI (aCons (eVar 1) aNil)) [1])) (eC (.str "-"))))
def m_write_row : Fn := fnOf 1 2 b_write_row
theorem ok_write_row (T : Txt K mg) : Ok P w K mg base 1 "write_row" s_write_row ["numbers"] 1 m_write_row := ok_fn T.d_write_row sc_write_row rfl fun f cdv A outer s H E hr => (fun (tk : Tk (cxOf (L2.CX P w) P w K mg base N_write_row "write_row" (defScope s_write_row) f cdv A outer s H E) (WD E)) => (ss_one (ss_ret (se_if (st_cmp op_gt og_gt (se_callB call_len cg_len (by rfl) T.b_len (by decide +kernel) (sa_cons (se_of (pv 0)) sa_nil)) se_int (nomark _)) (se_join se_str (se_comp (own := [("number", 1)]) sc_write_row.nd tk (si_seq (se_of (pv 0))) (blkOk_by (N := N_write_row) (sc := defScope s_write_row) (by decide +kernel)) (fun _ _ _ _ _ _ => (pg_name (i := 1) sc_write_row.nd rfl (Or.inl rfl))) (tw_name (by decide)) (fun _ _ _ _ _ _ _ tk => sts_nil) (fun _ _ _ _ _ _ _ tk => (se_callTy call_str_int cg_str (by rfl) T.b_str (by decide +kernel) (sa_cons (se_of (pv 1)) sa_nil))))) (se_globS T.c_DASH))))) (Tk.of (takes_of rfl rfl rfl rfl) rfl rfl)
/-! _law_row_text -/
abbrev s__law_row_text : Stmt := top 55
abbrev N__law_row_text : List Str := ["numbers", "number"]
theorem sc__law_row_text : FnScope N__law_row_text ["numbers"] (defScope s__law_row_text) := ⟨rfl, rfl, rfl, by decide +kernel, rfl, by decide +kernel, by decide +kernel⟩
def b__law_row_text : SM :=
  (sSeq (sIf (mT (eBin gEq (eCall gLen (aCons (eVar 0) aNil)) (eC (.int 0)))) (sRet (eC (.str "-"))) sNext)
    (sRet (eCall (argc 2 m__law_join) (aCons (eC (.str " ")) (aCons (eComp (iSeq (eVar 0)) (tgName 1) mYes (eCall gStrI (aCons (eVar 1) aNil)) [1]) aNil)))))
def m__law_row_text : Fn := fnOf 1 2 b__law_row_text
theorem ok__law_row_text (T : Txt K mg) : Ok P w K mg base 2 "_law_row_text" s__law_row_text ["numbers"] 1 m__law_row_text := ok_fn T.d__law_row_text sc__law_row_text rfl fun f cdv A outer s H E hr => (fun (tk : Tk (cxOf (L2.CX P w) P w K mg base N__law_row_text "_law_row_text" (defScope s__law_row_text) f cdv A outer s H E) (WD E)) => (ss_cons (ss_if (st_cmp op_eq og_eq (se_callB call_len cg_len (by rfl) T.b_len (by decide +kernel) (sa_cons (se_of (pv 0)) sa_nil)) se_int (nomark _)) (ss_one (ss_ret se_str)) ss_nil)
    (ss_one (ss_ret (se_own (ok__law_join T) hr tk (sa_cons se_str (sa_cons (se_comp (own := [("number", 1)]) sc__law_row_text.nd tk (si_seq (se_of (pv 0))) (blkOk_by (N := N__law_row_text) (sc := defScope s__law_row_text) (by decide +kernel)) (fun _ _ _ _ _ _ => (pg_name (i := 1) sc__law_row_text.nd rfl (Or.inl rfl))) (tw_name (by decide)) (fun _ _ _ _ _ _ _ tk => sts_nil) (fun _ _ _ _ _ _ _ tk => (se_callTy call_str_int cg_str (by rfl) T.b_str (by decide +kernel) (sa_cons (se_of (pv 1)) sa_nil)))) sa_nil))))))) (Tk.of (takes_of rfl rfl rfl rfl) rfl rfl)
/-! _law_sign -/
abbrev s__law_sign : Stmt := top 52
abbrev N__law_sign : List Str := ["number"]
theorem sc__law_sign : FnScope N__law_sign ["number"] (defScope s__law_sign) := ⟨rfl, rfl, rfl, by decide +kernel, rfl, by decide +kernel, by decide +kernel⟩
def b__law_sign : SM :=
  (sSeq (sIf (mT (eBin gLt (eVar 0) (eC (.int 0)))) (sRet (eC (.str "-"))) sNext)
    (sRet (eCall gStrI (aCons (eVar 0) aNil))))
def m__law_sign : Fn := fnOf 1 1 b__law_sign
theorem ok__law_sign (T : Txt K mg) : Ok P w K mg base 1 "_law_sign" s__law_sign ["number"] 1 m__law_sign := ok_fn T.d__law_sign sc__law_sign rfl fun f cdv A outer s H E hr => (fun (tk : Tk (cxOf (L2.CX P w) P w K mg base N__law_sign "_law_sign" (defScope s__law_sign) f cdv A outer s H E) (WD E)) => (ss_cons (ss_if (st_cmp op_lt og_lt (se_of (pv 0)) se_int (nomark _)) (ss_one (ss_ret se_str)) ss_nil)
    (ss_one (ss_ret (se_callTy call_str_int cg_str (by rfl) T.b_str (by decide +kernel) (sa_cons (se_of (pv 0)) sa_nil)))))) (Tk.of (takes_of rfl rfl rfl rfl) rfl rfl)
/-! law -/
abbrev s_law : Stmt := top 58
abbrev N_law : List Str := ["script", "pool", "deeds", "numbers", "big", "row", "one", "steps", "text", "eyes", "seen", "guard", "lines", "whole", "bad", "way", "other", "k", "deed", "looks", "look", "goal"]
theorem sc_law : FnScope N_law ["script"] (defScope s_law) := ⟨rfl, rfl, rfl, by decide +kernel, rfl, by decide +kernel, by decide +kernel⟩
def b_law_0 : SM :=
  (sAsg (eCall (argc 1 m__law_pool) (aCons (eVar 0) aNil)) 1)
set_option maxHeartbeats 0 in
theorem st_law_0 {f : Addr} {cdv : Value} {A : Around} {outer : List Env} {s : Shared} {H : Hp} {E : XK} (T : Txt K mg) (hr : Room 10 (A.deeper (PyProof.Rows.envOfC "law" (defScope s_law) s.heap.objs.size f cdv))) (tk : Tk (cxOf (L2.CX P w) P w K mg base N_law "law" (defScope s_law) f cdv A outer s H E) (WD E)) : SS (cxOf (L2.CX P w) P w K mg base N_law "law" (defScope s_law) f cdv A outer s H E) (WD E) ((defBody s_law).getD 0 (.Pass ⟨0, 0, 0, 0⟩)) b_law_0 :=
  (ss_asg (i := 1) sc_law.nd (se_own (ok__law_pool T) hr tk (sa_cons (se_of (pv 0)) sa_nil)))
theorem st_law_1 {f : Addr} {cdv : Value} {A : Around} {outer : List Env} {s : Shared} {H : Hp} {E : XK} {rest : List Stmt} {gg : SM} (T : Txt K mg) (hr : Room 10 (A.deeper (PyProof.Rows.envOfC "law" (defScope s_law) s.heap.objs.size f cdv))) (tk : Tk (cxOf (L2.CX P w) P w K mg base N_law "law" (defScope s_law) f cdv A outer s H E) (WD E)) (h2 : SSsT (cxOf (L2.CX P w) P w K mg base N_law "law" (defScope s_law) f cdv A outer s H E) (WD E) rest gg) : SSs (cxOf (L2.CX P w) P w K mg base N_law "law" (defScope s_law) f cdv A outer s H E) (WD E) ((defBody s_law).getD 1 (.Pass ⟨0, 0, 0, 0⟩) :: rest) (sSeq (sAsg (eBin gAdd (eC (.int 1)) (eCall (argc 2 m__law_draw) (aCons (eVar 1) (aCons (eC (.int 4)) aNil)))) 2) gg) :=
  ss_consK (i := 2) sc_law.nd op_addA og_add (se_own (ok__law_draw T) hr tk (sa_cons (se_of (pv 1)) (sa_cons se_int sa_nil))) h2
def b_law_2 : SM :=
  (sAsg (eCall (argc 3 m__law_some) (aCons (eVar 1) (aCons (eC (.int 12)) (aCons (eC (.int 3)) aNil)))) 3)
set_option maxHeartbeats 0 in
theorem st_law_2 {f : Addr} {cdv : Value} {A : Around} {outer : List Env} {s : Shared} {H : Hp} {E : XK} (T : Txt K mg) (hr : Room 10 (A.deeper (PyProof.Rows.envOfC "law" (defScope s_law) s.heap.objs.size f cdv))) (tk : Tk (cxOf (L2.CX P w) P w K mg base N_law "law" (defScope s_law) f cdv A outer s H E) (WD E)) : SS (cxOf (L2.CX P w) P w K mg base N_law "law" (defScope s_law) f cdv A outer s H E) (WD E) ((defBody s_law).getD 2 (.Pass ⟨0, 0, 0, 0⟩)) b_law_2 :=
  (ss_asg (i := 3) sc_law.nd (se_own (ok__law_some T) hr tk (sa_cons (se_of (pv 1)) (sa_cons se_int (sa_cons se_int sa_nil)))))
def b_law_3 : SM :=
  (sAsg (eTup (aCons (eC (.int 0)) (aCons (eC (.int 7)) (aCons (eC (.int 999999999)) aNil)))) 4)
set_option maxHeartbeats 0 in
theorem st_law_3 {f : Addr} {cdv : Value} {A : Around} {outer : List Env} {s : Shared} {H : Hp} {E : XK} (T : Txt K mg) (hr : Room 10 (A.deeper (PyProof.Rows.envOfC "law" (defScope s_law) s.heap.objs.size f cdv))) (tk : Tk (cxOf (L2.CX P w) P w K mg base N_law "law" (defScope s_law) f cdv A outer s H E) (WD E)) : SS (cxOf (L2.CX P w) P w K mg base N_law "law" (defScope s_law) f cdv A outer s H E) (WD E) ((defBody s_law).getD 3 (.Pass ⟨0, 0, 0, 0⟩)) b_law_3 :=
  (ss_asg (i := 4) sc_law.nd (se_tup (sa_cons se_int (sa_cons se_int (sa_cons se_int sa_nil)))))
def b_law_4 : SM :=
  (sFor (iSeq (eTup (aCons (eVar 3) (aCons (eVar 4) (aCons (eTup aNil) aNil))))) (tgName 5) (sIf (mOr (mNot (mTru (eCall (argc 2 (m__law_equal 8)) (aCons (eCall (argc 1 m_write_set) (aCons (eVar 5) aNil)) (aCons (eCall (argc 1 m__law_set_text) (aCons (eVar 5) aNil)) aNil))))) (mNot (mTru (eCall (argc 2 (m__law_equal 8)) (aCons (eCall (argc 3 m__law_read) (aCons (eC (.int 0)) (aCons (eVar 2) (aCons (eCall (argc 1 m__law_set_text) (aCons (eVar 5) aNil)) aNil)))) (aCons (eTup (aCons (eVar 5) aNil)) aNil)))))) (sRet (eC (.bl false))) sNext))
set_option maxHeartbeats 0 in
theorem st_law_4 {f : Addr} {cdv : Value} {A : Around} {outer : List Env} {s : Shared} {H : Hp} {E : XK} (T : Txt K mg) (hr : Room 10 (A.deeper (PyProof.Rows.envOfC "law" (defScope s_law) s.heap.objs.size f cdv))) (tk : Tk (cxOf (L2.CX P w) P w K mg base N_law "law" (defScope s_law) f cdv A outer s H E) (WD E)) : SS (cxOf (L2.CX P w) P w K mg base N_law "law" (defScope s_law) f cdv A outer s H E) (WD E) ((defBody s_law).getD 4 (.Pass ⟨0, 0, 0, 0⟩)) b_law_4 :=
  (ss_for (passes_of rfl) (si_seq (se_tup (sa_cons (se_of (pv 3)) (sa_cons (se_of (pv 4)) (sa_cons (se_tup sa_nil) sa_nil))))) (pg_name (i := 5) sc_law.nd rfl (Or.inl rfl)) tr_name (ss_one (ss_if (PW.pt (sw_or (st_not (st_tru (se_own (ok__law_equal T) hr tk (sa_cons (se_own (ok_write_set T) hr tk (sa_cons (se_of (pv 5)) sa_nil)) (sa_cons (se_own (ok__law_set_text T) hr tk (sa_cons (se_of (pv 5)) sa_nil)) sa_nil))))) (sw_one (st_not (st_tru (se_own (ok__law_equal T) hr tk (sa_cons (se_own (ok__law_read T) hr tk (sa_cons se_int (sa_cons (se_of (pv 2)) (sa_cons (se_own (ok__law_set_text T) hr tk (sa_cons (se_of (pv 5)) sa_nil)) sa_nil)))) (sa_cons (se_tup (sa_cons (se_of (pv 5)) sa_nil)) sa_nil)))))))) (ss_one (ss_ret se_bl)) ss_nil)))
def b_law_5 : SM :=
  (sAsg (eCall (argc 3 m__law_row) (aCons (eVar 1) (aCons (eC (.int 4)) (aCons (eC (.int 5)) aNil)))) 5)
set_option maxHeartbeats 0 in
theorem st_law_5 {f : Addr} {cdv : Value} {A : Around} {outer : List Env} {s : Shared} {H : Hp} {E : XK} (T : Txt K mg) (hr : Room 10 (A.deeper (PyProof.Rows.envOfC "law" (defScope s_law) s.heap.objs.size f cdv))) (tk : Tk (cxOf (L2.CX P w) P w K mg base N_law "law" (defScope s_law) f cdv A outer s H E) (WD E)) : SS (cxOf (L2.CX P w) P w K mg base N_law "law" (defScope s_law) f cdv A outer s H E) (WD E) ((defBody s_law).getD 5 (.Pass ⟨0, 0, 0, 0⟩)) b_law_5 :=
  (ss_asg (i := 5) sc_law.nd (se_own (ok__law_row T) hr tk (sa_cons (se_of (pv 1)) (sa_cons se_int (sa_cons se_int sa_nil)))))
def b_law_6 : SM :=
  (sFor (iSeq (eTup (aCons (eVar 5) (aCons (eVar 4) (aCons (eTup aNil) (aCons (eTup (aCons (eC (.int 5)) (aCons (eC (.int 5)) aNil))) aNil)))))) (tgName 6) (sIf (mOr (mNot (mTru (eCall (argc 2 (m__law_equal 8)) (aCons (eCall (argc 1 m_write_row) (aCons (eVar 6) aNil)) (aCons (eCall (argc 1 m__law_row_text) (aCons (eVar 6) aNil)) aNil))))) (mNot (mTru (eCall (argc 2 (m__law_equal 8)) (aCons (eCall (argc 3 m__law_read) (aCons (eC (.int 1)) (aCons (eVar 2) (aCons (eCall (argc 1 m__law_row_text) (aCons (eVar 6) aNil)) aNil)))) (aCons (eTup (aCons (eVar 6) aNil)) aNil)))))) (sRet (eC (.bl false))) sNext))
set_option maxHeartbeats 0 in
theorem st_law_6 {f : Addr} {cdv : Value} {A : Around} {outer : List Env} {s : Shared} {H : Hp} {E : XK} (T : Txt K mg) (hr : Room 10 (A.deeper (PyProof.Rows.envOfC "law" (defScope s_law) s.heap.objs.size f cdv))) (tk : Tk (cxOf (L2.CX P w) P w K mg base N_law "law" (defScope s_law) f cdv A outer s H E) (WD E)) : SS (cxOf (L2.CX P w) P w K mg base N_law "law" (defScope s_law) f cdv A outer s H E) (WD E) ((defBody s_law).getD 6 (.Pass ⟨0, 0, 0, 0⟩)) b_law_6 :=
  (ss_for (passes_of rfl) (si_seq (se_tup (sa_cons (se_of (pv 5)) (sa_cons (se_of (pv 4)) (sa_cons (se_tup sa_nil) (sa_cons (se_tup (sa_cons se_int (sa_cons se_int sa_nil))) sa_nil)))))) (pg_name (i := 6) sc_law.nd rfl (Or.inl rfl)) tr_name (ss_one (ss_if (PW.pt (sw_or (st_not (st_tru (se_own (ok__law_equal T) hr tk (sa_cons (se_own (ok_write_row T) hr tk (sa_cons (se_of (pv 6)) sa_nil)) (sa_cons (se_own (ok__law_row_text T) hr tk (sa_cons (se_of (pv 6)) sa_nil)) sa_nil))))) (sw_one (st_not (st_tru (se_own (ok__law_equal T) hr tk (sa_cons (se_own (ok__law_read T) hr tk (sa_cons se_int (sa_cons (se_of (pv 2)) (sa_cons (se_own (ok__law_row_text T) hr tk (sa_cons (se_of (pv 6)) sa_nil)) sa_nil)))) (sa_cons (se_tup (sa_cons (se_of (pv 6)) sa_nil)) sa_nil)))))))) (ss_one (ss_ret se_bl)) ss_nil)))
def b_law_7 : SM :=
  (sAsg (eCall gTuple (aCons (eComp (iSeq (eCall (argc 3 m__law_row) (aCons (eVar 1) (aCons (eC (.int 4)) (aCons (eC (.int 4)) aNil))))) (tgName 18) mYes (eTup (aCons (eVar 18) (aCons (eBin gSub (eCall (argc 2 m__law_draw) (aCons (eVar 1) (aCons (eC (.int 5)) aNil))) (eC (.int 1))) aNil))) [18]) aNil)) 7)
set_option maxHeartbeats 0 in
theorem st_law_7 {f : Addr} {cdv : Value} {A : Around} {outer : List Env} {s : Shared} {H : Hp} {E : XK} (T : Txt K mg) (hr : Room 10 (A.deeper (PyProof.Rows.envOfC "law" (defScope s_law) s.heap.objs.size f cdv))) (tk : Tk (cxOf (L2.CX P w) P w K mg base N_law "law" (defScope s_law) f cdv A outer s H E) (WD E)) : SS (cxOf (L2.CX P w) P w K mg base N_law "law" (defScope s_law) f cdv A outer s H E) (WD E) ((defBody s_law).getD 7 (.Pass ⟨0, 0, 0, 0⟩)) b_law_7 :=
  (ss_asg (i := 7) sc_law.nd (se_callTy call_tuple_of cg_tuple (by rfl) T.b_tuple (by decide +kernel) (sa_cons (se_comp (own := [("deed", 18)]) sc_law.nd tk (si_seq (se_own (ok__law_row T) hr tk (sa_cons (se_of (pv 1)) (sa_cons se_int (sa_cons se_int sa_nil))))) (blkOk_by (N := N_law) (sc := defScope s_law) (by decide +kernel)) (fun _ _ _ _ _ _ => (pg_name (i := 18) sc_law.nd rfl (Or.inl rfl))) (tw_name (by decide)) (fun _ _ _ _ _ _ _ tk => sts_nil) (fun _ _ _ _ _ _ _ tk => (se_tup (sa_cons (se_of (pv 18)) (sa_cons (se_bin op_sub og_sub (se_own (ok__law_draw T) hr tk (sa_cons (se_of (pv 1)) (sa_cons se_int sa_nil))) se_int) sa_nil))))) sa_nil)))
def b_law_8 : SM :=
  (sAsg (eC (.str "-")) 8)
set_option maxHeartbeats 0 in
theorem st_law_8 {f : Addr} {cdv : Value} {A : Around} {outer : List Env} {s : Shared} {H : Hp} {E : XK} (T : Txt K mg) (hr : Room 10 (A.deeper (PyProof.Rows.envOfC "law" (defScope s_law) s.heap.objs.size f cdv))) (tk : Tk (cxOf (L2.CX P w) P w K mg base N_law "law" (defScope s_law) f cdv A outer s H E) (WD E)) : SS (cxOf (L2.CX P w) P w K mg base N_law "law" (defScope s_law) f cdv A outer s H E) (WD E) ((defBody s_law).getD 8 (.Pass ⟨0, 0, 0, 0⟩)) b_law_8 :=
  (ss_asg (i := 8) sc_law.nd se_str)
def b_law_9 : SM :=
  (sIf (mT (eBin gGt (eCall gLen (aCons (eVar 7) aNil)) (eC (.int 0)))) (sAsg (eCall (argc 2 m__law_join) (aCons (eC (.str " ")) (aCons (eComp (iSeq (eVar 7)) (tgTup 2 (tgsCons (tgName 18) (tgsCons (tgName 20) tgsNil))) mYes (eBin gAdd (eBin gAdd (eCall gStrI (aCons (eVar 18) aNil)) (eC (.str ":"))) (eCall (argc 1 m__law_sign) (aCons (eVar 20) aNil))) [18, 20]) aNil))) 8) sNext)
set_option maxHeartbeats 0 in
theorem st_law_9 {f : Addr} {cdv : Value} {A : Around} {outer : List Env} {s : Shared} {H : Hp} {E : XK} (T : Txt K mg) (hr : Room 10 (A.deeper (PyProof.Rows.envOfC "law" (defScope s_law) s.heap.objs.size f cdv))) (tk : Tk (cxOf (L2.CX P w) P w K mg base N_law "law" (defScope s_law) f cdv A outer s H E) (WD E)) : SS (cxOf (L2.CX P w) P w K mg base N_law "law" (defScope s_law) f cdv A outer s H E) (WD E) ((defBody s_law).getD 9 (.Pass ⟨0, 0, 0, 0⟩)) b_law_9 :=
  (ss_if (st_cmp op_gt og_gt (se_callB call_len cg_len (by rfl) T.b_len (by decide +kernel) (sa_cons (se_of (pv 7)) sa_nil)) se_int (nomark _)) (ss_one (ss_asg (i := 8) sc_law.nd (se_own (ok__law_join T) hr tk (sa_cons se_str (sa_cons (se_comp (own := [("deed", 18), ("look", 20)]) sc_law.nd tk (si_seq (se_of (pv 7))) (blkOk_by (N := N_law) (sc := defScope s_law) (by decide +kernel)) (fun _ _ _ _ _ _ => (pg_tup rfl (pgs_cons (pg_name (i := 18) sc_law.nd rfl (Or.inl rfl)) (pgs_cons (pg_name (i := 20) sc_law.nd rfl (Or.inl rfl)) pgs_nil)))) (tw_tup (tw_cons (tw_name (by decide)) (tw_cons (tw_name (by decide)) tw_nil))) (fun _ _ _ _ _ _ _ tk => sts_nil) (fun _ _ _ _ _ _ _ tk => (se_bin op_addA og_add (se_bin op_addA og_add (se_callTy call_str_int cg_str (by rfl) T.b_str (by decide +kernel) (sa_cons (se_of (pv 18)) sa_nil)) se_str) (se_own (ok__law_sign T) hr tk (sa_cons (se_of (pv 20)) sa_nil))))) sa_nil))))) ss_nil)
def b_law_10 : SM :=
  (sIf (mOr (mNot (mTru (eCall (argc 2 (m__law_equal 8)) (aCons (eCall (argc 1 m_write_steps) (aCons (eVar 7) aNil)) (aCons (eVar 8) aNil))))) (mNot (mTru (eCall (argc 2 (m__law_equal 8)) (aCons (eCall (argc 3 m__law_read) (aCons (eC (.int 2)) (aCons (eVar 2) (aCons (eVar 8) aNil)))) (aCons (eTup (aCons (eVar 7) aNil)) aNil)))))) (sRet (eC (.bl false))) sNext)
set_option maxHeartbeats 0 in
theorem st_law_10 {f : Addr} {cdv : Value} {A : Around} {outer : List Env} {s : Shared} {H : Hp} {E : XK} (T : Txt K mg) (hr : Room 10 (A.deeper (PyProof.Rows.envOfC "law" (defScope s_law) s.heap.objs.size f cdv))) (tk : Tk (cxOf (L2.CX P w) P w K mg base N_law "law" (defScope s_law) f cdv A outer s H E) (WD E)) : SS (cxOf (L2.CX P w) P w K mg base N_law "law" (defScope s_law) f cdv A outer s H E) (WD E) ((defBody s_law).getD 10 (.Pass ⟨0, 0, 0, 0⟩)) b_law_10 :=
  (ss_if (PW.pt (sw_or (st_not (st_tru (se_own (ok__law_equal T) hr tk (sa_cons (se_own (ok_write_steps T) hr tk (sa_cons (se_of (pv 7)) sa_nil)) (sa_cons (se_of (pv 8)) sa_nil))))) (sw_one (st_not (st_tru (se_own (ok__law_equal T) hr tk (sa_cons (se_own (ok__law_read T) hr tk (sa_cons se_int (sa_cons (se_of (pv 2)) (sa_cons (se_of (pv 8)) sa_nil)))) (sa_cons (se_tup (sa_cons (se_of (pv 7)) sa_nil)) sa_nil)))))))) (ss_one (ss_ret se_bl)) ss_nil)
def b_law_11 : SM :=
  (sAsg (eCall (argc 2 m__law_eyes) (aCons (eVar 1) (aCons (eVar 2) aNil))) 9)
set_option maxHeartbeats 0 in
theorem st_law_11 {f : Addr} {cdv : Value} {A : Around} {outer : List Env} {s : Shared} {H : Hp} {E : XK} (T : Txt K mg) (hr : Room 10 (A.deeper (PyProof.Rows.envOfC "law" (defScope s_law) s.heap.objs.size f cdv))) (tk : Tk (cxOf (L2.CX P w) P w K mg base N_law "law" (defScope s_law) f cdv A outer s H E) (WD E)) : SS (cxOf (L2.CX P w) P w K mg base N_law "law" (defScope s_law) f cdv A outer s H E) (WD E) ((defBody s_law).getD 11 (.Pass ⟨0, 0, 0, 0⟩)) b_law_11 :=
  (ss_asg (i := 9) sc_law.nd (se_own (ok__law_eyes T) hr tk (sa_cons (se_of (pv 1)) (sa_cons (se_of (pv 2)) sa_nil))))
def b_law_12 : SM :=
  (sAsg (eCall (argc 2 m__law_join) (aCons (eC (.str " ")) (aCons (eComp (iSeq (eVar 9)) (tgName 19) mYes (eCall (argc 2 m__law_join) (aCons (eC (.str ",")) (aCons (eComp (iSeq (eVar 19)) (tgName 20) mYes (eCall (argc 1 m__law_sign) (aCons (eVar 20) aNil)) [20]) aNil))) [19]) aNil))) 10)
set_option maxHeartbeats 0 in
theorem st_law_12 {f : Addr} {cdv : Value} {A : Around} {outer : List Env} {s : Shared} {H : Hp} {E : XK} (T : Txt K mg) (hr : Room 10 (A.deeper (PyProof.Rows.envOfC "law" (defScope s_law) s.heap.objs.size f cdv))) (tk : Tk (cxOf (L2.CX P w) P w K mg base N_law "law" (defScope s_law) f cdv A outer s H E) (WD E)) : SS (cxOf (L2.CX P w) P w K mg base N_law "law" (defScope s_law) f cdv A outer s H E) (WD E) ((defBody s_law).getD 12 (.Pass ⟨0, 0, 0, 0⟩)) b_law_12 :=
  (ss_asg (i := 10) sc_law.nd (se_own (ok__law_join T) hr tk (sa_cons se_str (sa_cons (se_comp (own := [("looks", 19)]) sc_law.nd tk (si_seq (se_of (pv 9))) (blkOk_by (N := N_law) (sc := defScope s_law) (by decide +kernel)) (fun _ _ _ _ _ _ => (pg_name (i := 19) sc_law.nd rfl (Or.inl rfl))) (tw_name (by decide)) (fun _ _ _ _ _ _ _ tk => sts_nil) (fun _ _ _ _ _ _ _ tk => (se_own (ok__law_join T) hr tk (sa_cons se_str (sa_cons (se_comp (own := [("look", 20)]) sc_law.nd tk (si_seq (se_of (pv 19))) (blkOk_by (by kernel_rfl)) (fun _ _ _ _ _ _ => (pg_name (i := 20) sc_law.nd rfl (Or.inl rfl))) (tw_name (by decide)) (fun _ _ _ _ _ _ _ tk => sts_nil) (fun _ _ _ _ _ _ _ tk => (se_own (ok__law_sign T) hr tk (sa_cons (se_of (pv 20)) sa_nil)))) sa_nil))))) sa_nil))))
def b_law_13 : SM :=
  (sIf (mOr (mNot (mTru (eCall (argc 2 (m__law_equal 8)) (aCons (eCall (argc 1 m_write_eyes) (aCons (eVar 9) aNil)) (aCons (eVar 10) aNil))))) (mNot (mTru (eCall (argc 2 (m__law_equal 8)) (aCons (eCall (argc 3 m__law_read) (aCons (eC (.int 3)) (aCons (eVar 2) (aCons (eVar 10) aNil)))) (aCons (eTup (aCons (eVar 9) aNil)) aNil)))))) (sRet (eC (.bl false))) sNext)
set_option maxHeartbeats 0 in
theorem st_law_13 {f : Addr} {cdv : Value} {A : Around} {outer : List Env} {s : Shared} {H : Hp} {E : XK} (T : Txt K mg) (hr : Room 10 (A.deeper (PyProof.Rows.envOfC "law" (defScope s_law) s.heap.objs.size f cdv))) (tk : Tk (cxOf (L2.CX P w) P w K mg base N_law "law" (defScope s_law) f cdv A outer s H E) (WD E)) : SS (cxOf (L2.CX P w) P w K mg base N_law "law" (defScope s_law) f cdv A outer s H E) (WD E) ((defBody s_law).getD 13 (.Pass ⟨0, 0, 0, 0⟩)) b_law_13 :=
  (ss_if (PW.pt (sw_or (st_not (st_tru (se_own (ok__law_equal T) hr tk (sa_cons (se_own (ok_write_eyes T) hr tk (sa_cons (se_of (pv 9)) sa_nil)) (sa_cons (se_of (pv 10)) sa_nil))))) (sw_one (st_not (st_tru (se_own (ok__law_equal T) hr tk (sa_cons (se_own (ok__law_read T) hr tk (sa_cons se_int (sa_cons (se_of (pv 2)) (sa_cons (se_of (pv 10)) sa_nil)))) (sa_cons (se_tup (sa_cons (se_of (pv 9)) sa_nil)) sa_nil)))))))) (ss_one (ss_ret se_bl)) ss_nil)
def b_law_14 : SM :=
  (sAsg (eCall (argc 3 m__law_guard) (aCons (eVar 1) (aCons (eVar 2) (aCons (eC (.int 4)) aNil)))) 11)
set_option maxHeartbeats 0 in
theorem st_law_14 {f : Addr} {cdv : Value} {A : Around} {outer : List Env} {s : Shared} {H : Hp} {E : XK} (T : Txt K mg) (hr : Room 10 (A.deeper (PyProof.Rows.envOfC "law" (defScope s_law) s.heap.objs.size f cdv))) (tk : Tk (cxOf (L2.CX P w) P w K mg base N_law "law" (defScope s_law) f cdv A outer s H E) (WD E)) : SS (cxOf (L2.CX P w) P w K mg base N_law "law" (defScope s_law) f cdv A outer s H E) (WD E) ((defBody s_law).getD 14 (.Pass ⟨0, 0, 0, 0⟩)) b_law_14 :=
  (ss_asg (i := 11) sc_law.nd (se_own (ok__law_guard T) hr tk (sa_cons (se_of (pv 1)) (sa_cons (se_of (pv 2)) (sa_cons se_int sa_nil)))))
def b_law_15 : SM :=
  (sAsg (eComp (iRg1 (aCons (eCall gLen (aCons (eBin gIx (eVar 11) (eC (.int 0))) aNil)) aNil)) (tgName 17) mYes (eBin gAdd (eBin gAdd (eBin gAdd (eC (.str "guard ")) (eCall (argc 2 m__law_join) (aCons (eC (.str " ")) (aCons (eComp (iSeq (eBin gIx (eBin gIx (eVar 11) (eC (.int 0))) (eVar 17))) (tgName 21) mYes (eCall gStrI (aCons (eVar 21) aNil)) [21]) aNil)))) (eC (.str " bars "))) (eCall (argc 1 m__law_set_text) (aCons (eBin gIx (eBin gIx (eVar 11) (eC (.int 1))) (eVar 17)) aNil))) [17]) 12)
set_option maxHeartbeats 0 in
theorem st_law_15 {f : Addr} {cdv : Value} {A : Around} {outer : List Env} {s : Shared} {H : Hp} {E : XK} (T : Txt K mg) (hr : Room 10 (A.deeper (PyProof.Rows.envOfC "law" (defScope s_law) s.heap.objs.size f cdv))) (tk : Tk (cxOf (L2.CX P w) P w K mg base N_law "law" (defScope s_law) f cdv A outer s H E) (WD E)) : SS (cxOf (L2.CX P w) P w K mg base N_law "law" (defScope s_law) f cdv A outer s H E) (WD E) ((defBody s_law).getD 15 (.Pass ⟨0, 0, 0, 0⟩)) b_law_15 :=
  (ss_setComp (i := 12) (own := [("k", 17)]) sc_law.nd tk (si_rg1 T.b_range (sa_cons (se_callB call_len cg_len (by rfl) T.b_len (by decide +kernel) (sa_cons (se_ix (se_of (pv 11)) se_int) sa_nil)) sa_nil)) (blkOk_by (N := N_law) (sc := defScope s_law) (by decide +kernel)) (fun _ _ _ _ _ _ => (pg_name (i := 17) sc_law.nd rfl (Or.inl rfl))) (tw_name (by decide)) (fun _ _ _ _ _ _ _ tk => sts_nil) (fun _ _ _ _ _ _ _ tk => (se_bin op_addA og_add (se_bin op_addA og_add (se_bin op_addA og_add se_str (se_own (ok__law_join T) hr tk (sa_cons se_str (sa_cons (se_comp (own := [("goal", 21)]) sc_law.nd tk (si_seq (se_ix (se_ix (se_of (pv 11)) se_int) (se_of (pv 17)))) (blkOk_by (by kernel_rfl)) (fun _ _ _ _ _ _ => (pg_name (i := 21) sc_law.nd rfl (Or.inl rfl))) (tw_name (by decide)) (fun _ _ _ _ _ _ _ tk => sts_nil) (fun _ _ _ _ _ _ _ tk => (se_callTy call_str_int cg_str (by rfl) T.b_str (by decide +kernel) (sa_cons (se_of (pv 21)) sa_nil)))) sa_nil)))) se_str) (se_own (ok__law_set_text T) hr tk (sa_cons (se_ix (se_ix (se_of (pv 11)) se_int) (se_of (pv 17))) sa_nil)))) (sw_true rfl rfl rfl (by decide +kernel)))
def b_law_16 : SM :=
  (sAsg (eCall (argc 2 m__law_join) (aCons (eC (.str "\n")) (aCons (eVar 12) aNil))) 13)
set_option maxHeartbeats 0 in
theorem st_law_16 {f : Addr} {cdv : Value} {A : Around} {outer : List Env} {s : Shared} {H : Hp} {E : XK} (T : Txt K mg) (hr : Room 10 (A.deeper (PyProof.Rows.envOfC "law" (defScope s_law) s.heap.objs.size f cdv))) (tk : Tk (cxOf (L2.CX P w) P w K mg base N_law "law" (defScope s_law) f cdv A outer s H E) (WD E)) : SS (cxOf (L2.CX P w) P w K mg base N_law "law" (defScope s_law) f cdv A outer s H E) (WD E) ((defBody s_law).getD 16 (.Pass ⟨0, 0, 0, 0⟩)) b_law_16 :=
  (ss_asg (i := 13) sc_law.nd (se_own (ok__law_join T) hr tk (sa_cons se_str (sa_cons (se_of (pv 12)) sa_nil))))
def b_law_17 : SM :=
  (sIf (mOr (mNot (mTru (eCall (argc 2 (m__law_equal 8)) (aCons (eCall (argc 1 m_write_guard) (aCons (eVar 11) aNil)) (aCons (eVar 13) aNil))))) (mNot (mTru (eCall (argc 2 (m__law_equal 8)) (aCons (eCall (argc 3 m__law_read) (aCons (eC (.int 4)) (aCons (eVar 2) (aCons (eVar 13) aNil)))) (aCons (eTup (aCons (eVar 11) aNil)) aNil)))))) (sRet (eC (.bl false))) sNext)
set_option maxHeartbeats 0 in
theorem st_law_17 {f : Addr} {cdv : Value} {A : Around} {outer : List Env} {s : Shared} {H : Hp} {E : XK} (T : Txt K mg) (hr : Room 10 (A.deeper (PyProof.Rows.envOfC "law" (defScope s_law) s.heap.objs.size f cdv))) (tk : Tk (cxOf (L2.CX P w) P w K mg base N_law "law" (defScope s_law) f cdv A outer s H E) (WD E)) : SS (cxOf (L2.CX P w) P w K mg base N_law "law" (defScope s_law) f cdv A outer s H E) (WD E) ((defBody s_law).getD 17 (.Pass ⟨0, 0, 0, 0⟩)) b_law_17 :=
  (ss_if (PW.pt (sw_or (st_not (st_tru (se_own (ok__law_equal T) hr tk (sa_cons (se_own (ok_write_guard T) hr tk (sa_cons (se_of (pv 11)) sa_nil)) (sa_cons (se_of (pv 13)) sa_nil))))) (sw_one (st_not (st_tru (se_own (ok__law_equal T) hr tk (sa_cons (se_own (ok__law_read T) hr tk (sa_cons se_int (sa_cons (se_of (pv 2)) (sa_cons (se_of (pv 13)) sa_nil)))) (sa_cons (se_tup (sa_cons (se_of (pv 11)) sa_nil)) sa_nil)))))))) (ss_one (ss_ret se_bl)) ss_nil)
def b_law_18 : SM :=
  (sAsg (eLst (aCons (eTup (aCons (eC (.int 0)) (aCons (eC (.str "1,0")) aNil))) (aCons (eTup (aCons (eC (.int 0)) (aCons (eC (.str "1,1")) aNil))) (aCons (eTup (aCons (eC (.int 0)) (aCons (eC (.str "")) aNil))) (aCons (eTup (aCons (eC (.int 0)) (aCons (eC (.str "1, 2")) aNil))) (aCons (eTup (aCons (eC (.int 0)) (aCons (eC (.str "01")) aNil))) (aCons (eTup (aCons (eC (.int 0)) (aCons (eC (.str "-1")) aNil))) (aCons (eTup (aCons (eC (.int 0)) (aCons (eC (.str "1000000000")) aNil))) (aCons (eTup (aCons (eC (.int 0)) (aCons (eC (.str "1,")) aNil))) (aCons (eTup (aCons (eC (.int 0)) (aCons (eC (.str "--")) aNil))) (aCons (eTup (aCons (eC (.int 0)) (aCons (eC (.str " ")) aNil))) (aCons (eTup (aCons (eC (.int 0)) (aCons (eC (.str "x")) aNil))) aNil)))))))))))) 14)
set_option maxHeartbeats 0 in
theorem st_law_18 {f : Addr} {cdv : Value} {A : Around} {outer : List Env} {s : Shared} {H : Hp} {E : XK} (T : Txt K mg) (hr : Room 10 (A.deeper (PyProof.Rows.envOfC "law" (defScope s_law) s.heap.objs.size f cdv))) (tk : Tk (cxOf (L2.CX P w) P w K mg base N_law "law" (defScope s_law) f cdv A outer s H E) (WD E)) : SS (cxOf (L2.CX P w) P w K mg base N_law "law" (defScope s_law) f cdv A outer s H E) (WD E) ((defBody s_law).getD 18 (.Pass ⟨0, 0, 0, 0⟩)) b_law_18 :=
  (ss_asg (i := 14) sc_law.nd (se_lst (sa_cons (se_tup (sa_cons se_int (sa_cons se_str sa_nil))) (sa_cons (se_tup (sa_cons se_int (sa_cons se_str sa_nil))) (sa_cons (se_tup (sa_cons se_int (sa_cons se_str sa_nil))) (sa_cons (se_tup (sa_cons se_int (sa_cons se_str sa_nil))) (sa_cons (se_tup (sa_cons se_int (sa_cons se_str sa_nil))) (sa_cons (se_tup (sa_cons se_int (sa_cons se_str sa_nil))) (sa_cons (se_tup (sa_cons se_int (sa_cons se_str sa_nil))) (sa_cons (se_tup (sa_cons se_int (sa_cons se_str sa_nil))) (sa_cons (se_tup (sa_cons se_int (sa_cons se_str sa_nil))) (sa_cons (se_tup (sa_cons se_int (sa_cons se_str sa_nil))) (sa_cons (se_tup (sa_cons se_int (sa_cons se_str sa_nil))) sa_nil)))))))))))))
def b_law_19 : SM :=
  (sAsg (eBin gAdd (eVar 14) (eLst (aCons (eTup (aCons (eC (.int 1)) (aCons (eC (.str "")) aNil))) (aCons (eTup (aCons (eC (.int 1)) (aCons (eC (.str "1  2")) aNil))) (aCons (eTup (aCons (eC (.int 1)) (aCons (eC (.str "1 ")) aNil))) (aCons (eTup (aCons (eC (.int 1)) (aCons (eC (.str "01")) aNil))) (aCons (eTup (aCons (eC (.int 1)) (aCons (eC (.str "1,2")) aNil))) (aCons (eTup (aCons (eC (.int 1)) (aCons (eC (.str "-1")) aNil))) (aCons (eTup (aCons (eC (.int 1)) (aCons (eC (.str "- -")) aNil))) (aCons (eTup (aCons (eC (.int 2)) (aCons (eC (.str "")) aNil))) (aCons (eTup (aCons (eC (.int 2)) (aCons (eC (.str "0")) aNil))) (aCons (eTup (aCons (eC (.int 2)) (aCons (eC (.str "0:")) aNil))) (aCons (eTup (aCons (eC (.int 2)) (aCons (eC (.str ":0")) aNil))) (aCons (eTup (aCons (eC (.int 2)) (aCons (eC (.str "4:0")) aNil))) (aCons (eTup (aCons (eC (.int 2)) (aCons (eC (.str "0:4")) aNil))) (aCons (eTup (aCons (eC (.int 2)) (aCons (eC (.str "0:-1")) aNil))) (aCons (eTup (aCons (eC (.int 2)) (aCons (eC (.str "0:0  0:0")) aNil))) (aCons (eTup (aCons (eC (.int 2)) (aCons (eC (.str "00:0")) aNil))) (aCons (eTup (aCons (eC (.int 2)) (aCons (eC (.str "-:0")) aNil))) aNil))))))))))))))))))) 14)
set_option maxHeartbeats 0 in
theorem st_law_19 {f : Addr} {cdv : Value} {A : Around} {outer : List Env} {s : Shared} {H : Hp} {E : XK} (T : Txt K mg) (hr : Room 10 (A.deeper (PyProof.Rows.envOfC "law" (defScope s_law) s.heap.objs.size f cdv))) (tk : Tk (cxOf (L2.CX P w) P w K mg base N_law "law" (defScope s_law) f cdv A outer s H E) (WD E)) : SS (cxOf (L2.CX P w) P w K mg base N_law "law" (defScope s_law) f cdv A outer s H E) (WD E) ((defBody s_law).getD 19 (.Pass ⟨0, 0, 0, 0⟩)) b_law_19 :=
  (ss_asg (i := 14) sc_law.nd (se_bin op_addA og_add (se_of (pv 14)) (se_lst (sa_cons (se_tup (sa_cons se_int (sa_cons se_str sa_nil))) (sa_cons (se_tup (sa_cons se_int (sa_cons se_str sa_nil))) (sa_cons (se_tup (sa_cons se_int (sa_cons se_str sa_nil))) (sa_cons (se_tup (sa_cons se_int (sa_cons se_str sa_nil))) (sa_cons (se_tup (sa_cons se_int (sa_cons se_str sa_nil))) (sa_cons (se_tup (sa_cons se_int (sa_cons se_str sa_nil))) (sa_cons (se_tup (sa_cons se_int (sa_cons se_str sa_nil))) (sa_cons (se_tup (sa_cons se_int (sa_cons se_str sa_nil))) (sa_cons (se_tup (sa_cons se_int (sa_cons se_str sa_nil))) (sa_cons (se_tup (sa_cons se_int (sa_cons se_str sa_nil))) (sa_cons (se_tup (sa_cons se_int (sa_cons se_str sa_nil))) (sa_cons (se_tup (sa_cons se_int (sa_cons se_str sa_nil))) (sa_cons (se_tup (sa_cons se_int (sa_cons se_str sa_nil))) (sa_cons (se_tup (sa_cons se_int (sa_cons se_str sa_nil))) (sa_cons (se_tup (sa_cons se_int (sa_cons se_str sa_nil))) (sa_cons (se_tup (sa_cons se_int (sa_cons se_str sa_nil))) (sa_cons (se_tup (sa_cons se_int (sa_cons se_str sa_nil))) sa_nil))))))))))))))))))))
def b_law_20 : SM :=
  (sAsg (eBin gAdd (eVar 14) (eLst (aCons (eTup (aCons (eC (.int 3)) (aCons (eC (.str "")) aNil))) (aCons (eTup (aCons (eC (.int 3)) (aCons (eBin gAdd (eVar 10) (eC (.str " 0"))) aNil))) (aCons (eTup (aCons (eC (.int 3)) (aCons (eBin gAdd (eVar 10) (eC (.str " "))) aNil))) (aCons (eTup (aCons (eC (.int 3)) (aCons (eBin gAdd (eRepl (eVar 10) "-" "4") (eC (.str ",9"))) aNil))) (aCons (eTup (aCons (eC (.int 3)) (aCons (eBin gAdd (eC (.str "0,0")) (eBin gRepS (eC (.str " 0")) (eBin gSub (eVar 2) (eC (.int 1))))) aNil))) (aCons (eTup (aCons (eC (.int 3)) (aCons (eBin gAdd (eC (.str "0,-")) (eBin gRepS (eC (.str " 0")) (eBin gSub (eVar 2) (eC (.int 1))))) aNil))) (aCons (eTup (aCons (eC (.int 3)) (aCons (eBin gAdd (eC (.str "4")) (eBin gRepS (eC (.str " 0")) (eBin gSub (eVar 2) (eC (.int 1))))) aNil))) aNil))))))))) 14)
set_option maxHeartbeats 0 in
theorem st_law_20 {f : Addr} {cdv : Value} {A : Around} {outer : List Env} {s : Shared} {H : Hp} {E : XK} (T : Txt K mg) (hr : Room 10 (A.deeper (PyProof.Rows.envOfC "law" (defScope s_law) s.heap.objs.size f cdv))) (tk : Tk (cxOf (L2.CX P w) P w K mg base N_law "law" (defScope s_law) f cdv A outer s H E) (WD E)) : SST (cxOf (L2.CX P w) P w K mg base N_law "law" (defScope s_law) f cdv A outer s H E) (WD E) ((defBody s_law).getD 20 (.Pass ⟨0, 0, 0, 0⟩)) b_law_20 :=
  (sst_asg (i := 14) sc_law.nd (set_bin op_addA og_add (set_of (se_of (pv 14))) (set_lst (sat_cons (set_of (se_tup (sa_cons se_int (sa_cons se_str sa_nil)))) (sat_cons (set_of (se_tup (sa_cons se_int (sa_cons (se_bin op_addA og_add (se_of (pv 10)) se_str) sa_nil)))) (sat_cons (set_of (se_tup (sa_cons se_int (sa_cons (se_bin op_addA og_add (se_of (pv 10)) se_str) sa_nil)))) (sat_cons (set_tup (sat_cons (set_of se_int) (sat_cons (set_bin op_addA og_add (set_repl (se_of (pv 10))) (set_of se_str)) sat_nil))) (sat_cons (set_of (se_tup (sa_cons se_int (sa_cons (se_bin op_addA og_add se_str (se_bin op_repS og_repS se_str (se_bin op_sub og_sub (se_of (pv 2)) se_int))) sa_nil)))) (sat_cons (set_of (se_tup (sa_cons se_int (sa_cons (se_bin op_addA og_add se_str (se_bin op_repS og_repS se_str (se_bin op_sub og_sub (se_of (pv 2)) se_int))) sa_nil)))) (sat_cons (set_of (se_tup (sa_cons se_int (sa_cons (se_bin op_addA og_add se_str (se_bin op_repS og_repS se_str (se_bin op_sub og_sub (se_of (pv 2)) se_int))) sa_nil)))) sat_nil))))))))))
def b_law_21 : SM :=
  (sAsg (eBin gAdd (eVar 14) (eLst (aCons (eTup (aCons (eC (.int 4)) (aCons (eC (.str "")) aNil))) (aCons (eTup (aCons (eC (.int 4)) (aCons (eBin gAdd (eVar 13) (eC (.str "\n"))) aNil))) (aCons (eTup (aCons (eC (.int 4)) (aCons (eRepl (eVar 13) "guard" "gard") aNil))) (aCons (eTup (aCons (eC (.int 4)) (aCons (eRepl (eVar 13) "bars" "bar") aNil))) (aCons (eTup (aCons (eC (.int 4)) (aCons (eC (.str "guard 0 0 0 1 bars -")) aNil))) (aCons (eTup (aCons (eC (.int 4)) (aCons (eC (.str "guard 0 0 0 bars -")) aNil))) (aCons (eTup (aCons (eC (.int 4)) (aCons (eC (.str "guard 0 0 0 0 bars 0,0")) aNil))) (aCons (eTup (aCons (eC (.int 4)) (aCons (eBin gAdd (eC (.str "guard 0 0 0 0 bars ")) (eCall gStrI (aCons (eVar 2) aNil))) aNil))) (aCons (eTup (aCons (eC (.int 4)) (aCons (eC (.str "guard 0 0 0 0 bars ")) aNil))) (aCons (eTup (aCons (eC (.int 4)) (aCons (eC (.str "guard 0 0 0 - bars -")) aNil))) aNil)))))))))))) 14)
set_option maxHeartbeats 0 in
theorem st_law_21 {f : Addr} {cdv : Value} {A : Around} {outer : List Env} {s : Shared} {H : Hp} {E : XK} (T : Txt K mg) (hr : Room 10 (A.deeper (PyProof.Rows.envOfC "law" (defScope s_law) s.heap.objs.size f cdv))) (tk : Tk (cxOf (L2.CX P w) P w K mg base N_law "law" (defScope s_law) f cdv A outer s H E) (WD E)) : SST (cxOf (L2.CX P w) P w K mg base N_law "law" (defScope s_law) f cdv A outer s H E) (WD E) ((defBody s_law).getD 21 (.Pass ⟨0, 0, 0, 0⟩)) b_law_21 :=
  (sst_asg (i := 14) sc_law.nd (set_bin op_addA og_add (set_of (se_of (pv 14))) (set_lst (sat_cons (set_of (se_tup (sa_cons se_int (sa_cons se_str sa_nil)))) (sat_cons (set_of (se_tup (sa_cons se_int (sa_cons (se_bin op_addA og_add (se_of (pv 13)) se_str) sa_nil)))) (sat_cons (set_tup (sat_cons (set_of se_int) (sat_cons (set_repl (se_of (pv 13))) sat_nil))) (sat_cons (set_tup (sat_cons (set_of se_int) (sat_cons (set_repl (se_of (pv 13))) sat_nil))) (sat_cons (set_of (se_tup (sa_cons se_int (sa_cons se_str sa_nil)))) (sat_cons (set_of (se_tup (sa_cons se_int (sa_cons se_str sa_nil)))) (sat_cons (set_of (se_tup (sa_cons se_int (sa_cons se_str sa_nil)))) (sat_cons (set_of (se_tup (sa_cons se_int (sa_cons (se_bin op_addA og_add se_str (se_callTy call_str_int cg_str (by rfl) T.b_str (by decide +kernel) (sa_cons (se_of (pv 2)) sa_nil))) sa_nil)))) (sat_cons (set_of (se_tup (sa_cons se_int (sa_cons se_str sa_nil)))) (sat_cons (set_of (se_tup (sa_cons se_int (sa_cons se_str sa_nil)))) sat_nil)))))))))))))
def b_law_22 : SM :=
  (sFor (iSeq (eVar 14)) (tgTup 2 (tgsCons (tgName 15) (tgsCons (tgName 16) tgsNil))) (sIf (mNot (mTru (eCall (argc 2 (m__law_equal 8)) (aCons (eCall (argc 3 m__law_read) (aCons (eVar 15) (aCons (eVar 2) (aCons (eVar 16) aNil)))) (aCons (eTup aNil) aNil))))) (sRet (eC (.bl false))) sNext))
set_option maxHeartbeats 0 in
theorem st_law_22 {f : Addr} {cdv : Value} {A : Around} {outer : List Env} {s : Shared} {H : Hp} {E : XK} (T : Txt K mg) (hr : Room 10 (A.deeper (PyProof.Rows.envOfC "law" (defScope s_law) s.heap.objs.size f cdv))) (tk : Tk (cxOf (L2.CX P w) P w K mg base N_law "law" (defScope s_law) f cdv A outer s H E) (WD E)) : SS (cxOf (L2.CX P w) P w K mg base N_law "law" (defScope s_law) f cdv A outer s H E) (WD E) ((defBody s_law).getD 22 (.Pass ⟨0, 0, 0, 0⟩)) b_law_22 :=
  (ss_for (passes_of rfl) (si_seq (se_of (pv 14))) (pg_tup rfl (pgs_cons (pg_name (i := 15) sc_law.nd rfl (Or.inl rfl)) (pgs_cons (pg_name (i := 16) sc_law.nd rfl (Or.inl rfl)) pgs_nil))) (tr_tup (tr_cons tr_name (tr_cons tr_name tr_nil))) (ss_one (ss_if (st_not (st_tru (se_own (ok__law_equal T) hr tk (sa_cons (se_own (ok__law_read T) hr tk (sa_cons (se_of (pv 15)) (sa_cons (se_of (pv 2)) (sa_cons (se_of (pv 16)) sa_nil)))) (sa_cons (se_tup sa_nil) sa_nil))))) (ss_one (ss_ret se_bl)) ss_nil)))
def b_law_23 : SM :=
  (sRet (eC (.bl true)))
set_option maxHeartbeats 0 in
theorem st_law_23 {f : Addr} {cdv : Value} {A : Around} {outer : List Env} {s : Shared} {H : Hp} {E : XK} (T : Txt K mg) (hr : Room 10 (A.deeper (PyProof.Rows.envOfC "law" (defScope s_law) s.heap.objs.size f cdv))) (tk : Tk (cxOf (L2.CX P w) P w K mg base N_law "law" (defScope s_law) f cdv A outer s H E) (WD E)) : SS (cxOf (L2.CX P w) P w K mg base N_law "law" (defScope s_law) f cdv A outer s H E) (WD E) ((defBody s_law).getD 23 (.Pass ⟨0, 0, 0, 0⟩)) b_law_23 :=
  (ss_ret se_bl)
def q_law_23 : SM := b_law_23
theorem sq_law_23 {f : Addr} {cdv : Value} {A : Around} {outer : List Env} {s : Shared} {H : Hp} {E : XK} (T : Txt K mg) (hr : Room 10 (A.deeper (PyProof.Rows.envOfC "law" (defScope s_law) s.heap.objs.size f cdv))) (tk : Tk (cxOf (L2.CX P w) P w K mg base N_law "law" (defScope s_law) f cdv A outer s H E) (WD E)) : SSsT (cxOf (L2.CX P w) P w K mg base N_law "law" (defScope s_law) f cdv A outer s H E) (WD E) [(defBody s_law).getD 23 (.Pass ⟨0, 0, 0, 0⟩)] q_law_23 := (ssst_of (ss_one (st_law_23 T hr tk)))
def q_law_22 : SM := sSeq b_law_22 q_law_23
theorem sq_law_22 {f : Addr} {cdv : Value} {A : Around} {outer : List Env} {s : Shared} {H : Hp} {E : XK} (T : Txt K mg) (hr : Room 10 (A.deeper (PyProof.Rows.envOfC "law" (defScope s_law) s.heap.objs.size f cdv))) (tk : Tk (cxOf (L2.CX P w) P w K mg base N_law "law" (defScope s_law) f cdv A outer s H E) (WD E)) : SSsT (cxOf (L2.CX P w) P w K mg base N_law "law" (defScope s_law) f cdv A outer s H E) (WD E) [(defBody s_law).getD 22 (.Pass ⟨0, 0, 0, 0⟩), (defBody s_law).getD 23 (.Pass ⟨0, 0, 0, 0⟩)] q_law_22 := (ssst_cons (sst_of (st_law_22 T hr tk)) (sq_law_23 T hr tk))
def q_law_21 : SM := sSeq b_law_21 q_law_22
theorem sq_law_21 {f : Addr} {cdv : Value} {A : Around} {outer : List Env} {s : Shared} {H : Hp} {E : XK} (T : Txt K mg) (hr : Room 10 (A.deeper (PyProof.Rows.envOfC "law" (defScope s_law) s.heap.objs.size f cdv))) (tk : Tk (cxOf (L2.CX P w) P w K mg base N_law "law" (defScope s_law) f cdv A outer s H E) (WD E)) : SSsT (cxOf (L2.CX P w) P w K mg base N_law "law" (defScope s_law) f cdv A outer s H E) (WD E) [(defBody s_law).getD 21 (.Pass ⟨0, 0, 0, 0⟩), (defBody s_law).getD 22 (.Pass ⟨0, 0, 0, 0⟩), (defBody s_law).getD 23 (.Pass ⟨0, 0, 0, 0⟩)] q_law_21 := (ssst_cons (st_law_21 T hr tk) (sq_law_22 T hr tk))
def q_law_20 : SM := sSeq b_law_20 q_law_21
theorem sq_law_20 {f : Addr} {cdv : Value} {A : Around} {outer : List Env} {s : Shared} {H : Hp} {E : XK} (T : Txt K mg) (hr : Room 10 (A.deeper (PyProof.Rows.envOfC "law" (defScope s_law) s.heap.objs.size f cdv))) (tk : Tk (cxOf (L2.CX P w) P w K mg base N_law "law" (defScope s_law) f cdv A outer s H E) (WD E)) : SSsT (cxOf (L2.CX P w) P w K mg base N_law "law" (defScope s_law) f cdv A outer s H E) (WD E) [(defBody s_law).getD 20 (.Pass ⟨0, 0, 0, 0⟩), (defBody s_law).getD 21 (.Pass ⟨0, 0, 0, 0⟩), (defBody s_law).getD 22 (.Pass ⟨0, 0, 0, 0⟩), (defBody s_law).getD 23 (.Pass ⟨0, 0, 0, 0⟩)] q_law_20 := (ssst_cons (st_law_20 T hr tk) (sq_law_21 T hr tk))
def q_law_19 : SM := sSeq b_law_19 q_law_20
theorem sq_law_19 {f : Addr} {cdv : Value} {A : Around} {outer : List Env} {s : Shared} {H : Hp} {E : XK} (T : Txt K mg) (hr : Room 10 (A.deeper (PyProof.Rows.envOfC "law" (defScope s_law) s.heap.objs.size f cdv))) (tk : Tk (cxOf (L2.CX P w) P w K mg base N_law "law" (defScope s_law) f cdv A outer s H E) (WD E)) : SSsT (cxOf (L2.CX P w) P w K mg base N_law "law" (defScope s_law) f cdv A outer s H E) (WD E) [(defBody s_law).getD 19 (.Pass ⟨0, 0, 0, 0⟩), (defBody s_law).getD 20 (.Pass ⟨0, 0, 0, 0⟩), (defBody s_law).getD 21 (.Pass ⟨0, 0, 0, 0⟩), (defBody s_law).getD 22 (.Pass ⟨0, 0, 0, 0⟩), (defBody s_law).getD 23 (.Pass ⟨0, 0, 0, 0⟩)] q_law_19 := (ssst_cons (sst_of (st_law_19 T hr tk)) (sq_law_20 T hr tk))
def q_law_18 : SM := sSeq b_law_18 q_law_19
theorem sq_law_18 {f : Addr} {cdv : Value} {A : Around} {outer : List Env} {s : Shared} {H : Hp} {E : XK} (T : Txt K mg) (hr : Room 10 (A.deeper (PyProof.Rows.envOfC "law" (defScope s_law) s.heap.objs.size f cdv))) (tk : Tk (cxOf (L2.CX P w) P w K mg base N_law "law" (defScope s_law) f cdv A outer s H E) (WD E)) : SSsT (cxOf (L2.CX P w) P w K mg base N_law "law" (defScope s_law) f cdv A outer s H E) (WD E) [(defBody s_law).getD 18 (.Pass ⟨0, 0, 0, 0⟩), (defBody s_law).getD 19 (.Pass ⟨0, 0, 0, 0⟩), (defBody s_law).getD 20 (.Pass ⟨0, 0, 0, 0⟩), (defBody s_law).getD 21 (.Pass ⟨0, 0, 0, 0⟩), (defBody s_law).getD 22 (.Pass ⟨0, 0, 0, 0⟩), (defBody s_law).getD 23 (.Pass ⟨0, 0, 0, 0⟩)] q_law_18 := (ssst_cons (sst_of (st_law_18 T hr tk)) (sq_law_19 T hr tk))
def q_law_17 : SM := sSeq b_law_17 q_law_18
theorem sq_law_17 {f : Addr} {cdv : Value} {A : Around} {outer : List Env} {s : Shared} {H : Hp} {E : XK} (T : Txt K mg) (hr : Room 10 (A.deeper (PyProof.Rows.envOfC "law" (defScope s_law) s.heap.objs.size f cdv))) (tk : Tk (cxOf (L2.CX P w) P w K mg base N_law "law" (defScope s_law) f cdv A outer s H E) (WD E)) : SSsT (cxOf (L2.CX P w) P w K mg base N_law "law" (defScope s_law) f cdv A outer s H E) (WD E) [(defBody s_law).getD 17 (.Pass ⟨0, 0, 0, 0⟩), (defBody s_law).getD 18 (.Pass ⟨0, 0, 0, 0⟩), (defBody s_law).getD 19 (.Pass ⟨0, 0, 0, 0⟩), (defBody s_law).getD 20 (.Pass ⟨0, 0, 0, 0⟩), (defBody s_law).getD 21 (.Pass ⟨0, 0, 0, 0⟩), (defBody s_law).getD 22 (.Pass ⟨0, 0, 0, 0⟩), (defBody s_law).getD 23 (.Pass ⟨0, 0, 0, 0⟩)] q_law_17 := (ssst_cons (sst_of (st_law_17 T hr tk)) (sq_law_18 T hr tk))
def q_law_16 : SM := sSeq b_law_16 q_law_17
theorem sq_law_16 {f : Addr} {cdv : Value} {A : Around} {outer : List Env} {s : Shared} {H : Hp} {E : XK} (T : Txt K mg) (hr : Room 10 (A.deeper (PyProof.Rows.envOfC "law" (defScope s_law) s.heap.objs.size f cdv))) (tk : Tk (cxOf (L2.CX P w) P w K mg base N_law "law" (defScope s_law) f cdv A outer s H E) (WD E)) : SSsT (cxOf (L2.CX P w) P w K mg base N_law "law" (defScope s_law) f cdv A outer s H E) (WD E) [(defBody s_law).getD 16 (.Pass ⟨0, 0, 0, 0⟩), (defBody s_law).getD 17 (.Pass ⟨0, 0, 0, 0⟩), (defBody s_law).getD 18 (.Pass ⟨0, 0, 0, 0⟩), (defBody s_law).getD 19 (.Pass ⟨0, 0, 0, 0⟩), (defBody s_law).getD 20 (.Pass ⟨0, 0, 0, 0⟩), (defBody s_law).getD 21 (.Pass ⟨0, 0, 0, 0⟩), (defBody s_law).getD 22 (.Pass ⟨0, 0, 0, 0⟩), (defBody s_law).getD 23 (.Pass ⟨0, 0, 0, 0⟩)] q_law_16 := (ssst_cons (sst_of (st_law_16 T hr tk)) (sq_law_17 T hr tk))
def q_law_15 : SM := sSeq b_law_15 q_law_16
theorem sq_law_15 {f : Addr} {cdv : Value} {A : Around} {outer : List Env} {s : Shared} {H : Hp} {E : XK} (T : Txt K mg) (hr : Room 10 (A.deeper (PyProof.Rows.envOfC "law" (defScope s_law) s.heap.objs.size f cdv))) (tk : Tk (cxOf (L2.CX P w) P w K mg base N_law "law" (defScope s_law) f cdv A outer s H E) (WD E)) : SSsT (cxOf (L2.CX P w) P w K mg base N_law "law" (defScope s_law) f cdv A outer s H E) (WD E) [(defBody s_law).getD 15 (.Pass ⟨0, 0, 0, 0⟩), (defBody s_law).getD 16 (.Pass ⟨0, 0, 0, 0⟩), (defBody s_law).getD 17 (.Pass ⟨0, 0, 0, 0⟩), (defBody s_law).getD 18 (.Pass ⟨0, 0, 0, 0⟩), (defBody s_law).getD 19 (.Pass ⟨0, 0, 0, 0⟩), (defBody s_law).getD 20 (.Pass ⟨0, 0, 0, 0⟩), (defBody s_law).getD 21 (.Pass ⟨0, 0, 0, 0⟩), (defBody s_law).getD 22 (.Pass ⟨0, 0, 0, 0⟩), (defBody s_law).getD 23 (.Pass ⟨0, 0, 0, 0⟩)] q_law_15 := (ssst_cons (sst_of (st_law_15 T hr tk)) (sq_law_16 T hr tk))
def q_law_14 : SM := sSeq b_law_14 q_law_15
theorem sq_law_14 {f : Addr} {cdv : Value} {A : Around} {outer : List Env} {s : Shared} {H : Hp} {E : XK} (T : Txt K mg) (hr : Room 10 (A.deeper (PyProof.Rows.envOfC "law" (defScope s_law) s.heap.objs.size f cdv))) (tk : Tk (cxOf (L2.CX P w) P w K mg base N_law "law" (defScope s_law) f cdv A outer s H E) (WD E)) : SSsT (cxOf (L2.CX P w) P w K mg base N_law "law" (defScope s_law) f cdv A outer s H E) (WD E) [(defBody s_law).getD 14 (.Pass ⟨0, 0, 0, 0⟩), (defBody s_law).getD 15 (.Pass ⟨0, 0, 0, 0⟩), (defBody s_law).getD 16 (.Pass ⟨0, 0, 0, 0⟩), (defBody s_law).getD 17 (.Pass ⟨0, 0, 0, 0⟩), (defBody s_law).getD 18 (.Pass ⟨0, 0, 0, 0⟩), (defBody s_law).getD 19 (.Pass ⟨0, 0, 0, 0⟩), (defBody s_law).getD 20 (.Pass ⟨0, 0, 0, 0⟩), (defBody s_law).getD 21 (.Pass ⟨0, 0, 0, 0⟩), (defBody s_law).getD 22 (.Pass ⟨0, 0, 0, 0⟩), (defBody s_law).getD 23 (.Pass ⟨0, 0, 0, 0⟩)] q_law_14 := (ssst_cons (sst_of (st_law_14 T hr tk)) (sq_law_15 T hr tk))
def q_law_13 : SM := sSeq b_law_13 q_law_14
theorem sq_law_13 {f : Addr} {cdv : Value} {A : Around} {outer : List Env} {s : Shared} {H : Hp} {E : XK} (T : Txt K mg) (hr : Room 10 (A.deeper (PyProof.Rows.envOfC "law" (defScope s_law) s.heap.objs.size f cdv))) (tk : Tk (cxOf (L2.CX P w) P w K mg base N_law "law" (defScope s_law) f cdv A outer s H E) (WD E)) : SSsT (cxOf (L2.CX P w) P w K mg base N_law "law" (defScope s_law) f cdv A outer s H E) (WD E) [(defBody s_law).getD 13 (.Pass ⟨0, 0, 0, 0⟩), (defBody s_law).getD 14 (.Pass ⟨0, 0, 0, 0⟩), (defBody s_law).getD 15 (.Pass ⟨0, 0, 0, 0⟩), (defBody s_law).getD 16 (.Pass ⟨0, 0, 0, 0⟩), (defBody s_law).getD 17 (.Pass ⟨0, 0, 0, 0⟩), (defBody s_law).getD 18 (.Pass ⟨0, 0, 0, 0⟩), (defBody s_law).getD 19 (.Pass ⟨0, 0, 0, 0⟩), (defBody s_law).getD 20 (.Pass ⟨0, 0, 0, 0⟩), (defBody s_law).getD 21 (.Pass ⟨0, 0, 0, 0⟩), (defBody s_law).getD 22 (.Pass ⟨0, 0, 0, 0⟩), (defBody s_law).getD 23 (.Pass ⟨0, 0, 0, 0⟩)] q_law_13 := (ssst_cons (sst_of (st_law_13 T hr tk)) (sq_law_14 T hr tk))
def q_law_12 : SM := sSeq b_law_12 q_law_13
theorem sq_law_12 {f : Addr} {cdv : Value} {A : Around} {outer : List Env} {s : Shared} {H : Hp} {E : XK} (T : Txt K mg) (hr : Room 10 (A.deeper (PyProof.Rows.envOfC "law" (defScope s_law) s.heap.objs.size f cdv))) (tk : Tk (cxOf (L2.CX P w) P w K mg base N_law "law" (defScope s_law) f cdv A outer s H E) (WD E)) : SSsT (cxOf (L2.CX P w) P w K mg base N_law "law" (defScope s_law) f cdv A outer s H E) (WD E) [(defBody s_law).getD 12 (.Pass ⟨0, 0, 0, 0⟩), (defBody s_law).getD 13 (.Pass ⟨0, 0, 0, 0⟩), (defBody s_law).getD 14 (.Pass ⟨0, 0, 0, 0⟩), (defBody s_law).getD 15 (.Pass ⟨0, 0, 0, 0⟩), (defBody s_law).getD 16 (.Pass ⟨0, 0, 0, 0⟩), (defBody s_law).getD 17 (.Pass ⟨0, 0, 0, 0⟩), (defBody s_law).getD 18 (.Pass ⟨0, 0, 0, 0⟩), (defBody s_law).getD 19 (.Pass ⟨0, 0, 0, 0⟩), (defBody s_law).getD 20 (.Pass ⟨0, 0, 0, 0⟩), (defBody s_law).getD 21 (.Pass ⟨0, 0, 0, 0⟩), (defBody s_law).getD 22 (.Pass ⟨0, 0, 0, 0⟩), (defBody s_law).getD 23 (.Pass ⟨0, 0, 0, 0⟩)] q_law_12 := (ssst_cons (sst_of (st_law_12 T hr tk)) (sq_law_13 T hr tk))
def q_law_11 : SM := sSeq b_law_11 q_law_12
theorem sq_law_11 {f : Addr} {cdv : Value} {A : Around} {outer : List Env} {s : Shared} {H : Hp} {E : XK} (T : Txt K mg) (hr : Room 10 (A.deeper (PyProof.Rows.envOfC "law" (defScope s_law) s.heap.objs.size f cdv))) (tk : Tk (cxOf (L2.CX P w) P w K mg base N_law "law" (defScope s_law) f cdv A outer s H E) (WD E)) : SSsT (cxOf (L2.CX P w) P w K mg base N_law "law" (defScope s_law) f cdv A outer s H E) (WD E) [(defBody s_law).getD 11 (.Pass ⟨0, 0, 0, 0⟩), (defBody s_law).getD 12 (.Pass ⟨0, 0, 0, 0⟩), (defBody s_law).getD 13 (.Pass ⟨0, 0, 0, 0⟩), (defBody s_law).getD 14 (.Pass ⟨0, 0, 0, 0⟩), (defBody s_law).getD 15 (.Pass ⟨0, 0, 0, 0⟩), (defBody s_law).getD 16 (.Pass ⟨0, 0, 0, 0⟩), (defBody s_law).getD 17 (.Pass ⟨0, 0, 0, 0⟩), (defBody s_law).getD 18 (.Pass ⟨0, 0, 0, 0⟩), (defBody s_law).getD 19 (.Pass ⟨0, 0, 0, 0⟩), (defBody s_law).getD 20 (.Pass ⟨0, 0, 0, 0⟩), (defBody s_law).getD 21 (.Pass ⟨0, 0, 0, 0⟩), (defBody s_law).getD 22 (.Pass ⟨0, 0, 0, 0⟩), (defBody s_law).getD 23 (.Pass ⟨0, 0, 0, 0⟩)] q_law_11 := (ssst_cons (sst_of (st_law_11 T hr tk)) (sq_law_12 T hr tk))
def q_law_10 : SM := sSeq b_law_10 q_law_11
theorem sq_law_10 {f : Addr} {cdv : Value} {A : Around} {outer : List Env} {s : Shared} {H : Hp} {E : XK} (T : Txt K mg) (hr : Room 10 (A.deeper (PyProof.Rows.envOfC "law" (defScope s_law) s.heap.objs.size f cdv))) (tk : Tk (cxOf (L2.CX P w) P w K mg base N_law "law" (defScope s_law) f cdv A outer s H E) (WD E)) : SSsT (cxOf (L2.CX P w) P w K mg base N_law "law" (defScope s_law) f cdv A outer s H E) (WD E) [(defBody s_law).getD 10 (.Pass ⟨0, 0, 0, 0⟩), (defBody s_law).getD 11 (.Pass ⟨0, 0, 0, 0⟩), (defBody s_law).getD 12 (.Pass ⟨0, 0, 0, 0⟩), (defBody s_law).getD 13 (.Pass ⟨0, 0, 0, 0⟩), (defBody s_law).getD 14 (.Pass ⟨0, 0, 0, 0⟩), (defBody s_law).getD 15 (.Pass ⟨0, 0, 0, 0⟩), (defBody s_law).getD 16 (.Pass ⟨0, 0, 0, 0⟩), (defBody s_law).getD 17 (.Pass ⟨0, 0, 0, 0⟩), (defBody s_law).getD 18 (.Pass ⟨0, 0, 0, 0⟩), (defBody s_law).getD 19 (.Pass ⟨0, 0, 0, 0⟩), (defBody s_law).getD 20 (.Pass ⟨0, 0, 0, 0⟩), (defBody s_law).getD 21 (.Pass ⟨0, 0, 0, 0⟩), (defBody s_law).getD 22 (.Pass ⟨0, 0, 0, 0⟩), (defBody s_law).getD 23 (.Pass ⟨0, 0, 0, 0⟩)] q_law_10 := (ssst_cons (sst_of (st_law_10 T hr tk)) (sq_law_11 T hr tk))
def q_law_9 : SM := sSeq b_law_9 q_law_10
theorem sq_law_9 {f : Addr} {cdv : Value} {A : Around} {outer : List Env} {s : Shared} {H : Hp} {E : XK} (T : Txt K mg) (hr : Room 10 (A.deeper (PyProof.Rows.envOfC "law" (defScope s_law) s.heap.objs.size f cdv))) (tk : Tk (cxOf (L2.CX P w) P w K mg base N_law "law" (defScope s_law) f cdv A outer s H E) (WD E)) : SSsT (cxOf (L2.CX P w) P w K mg base N_law "law" (defScope s_law) f cdv A outer s H E) (WD E) [(defBody s_law).getD 9 (.Pass ⟨0, 0, 0, 0⟩), (defBody s_law).getD 10 (.Pass ⟨0, 0, 0, 0⟩), (defBody s_law).getD 11 (.Pass ⟨0, 0, 0, 0⟩), (defBody s_law).getD 12 (.Pass ⟨0, 0, 0, 0⟩), (defBody s_law).getD 13 (.Pass ⟨0, 0, 0, 0⟩), (defBody s_law).getD 14 (.Pass ⟨0, 0, 0, 0⟩), (defBody s_law).getD 15 (.Pass ⟨0, 0, 0, 0⟩), (defBody s_law).getD 16 (.Pass ⟨0, 0, 0, 0⟩), (defBody s_law).getD 17 (.Pass ⟨0, 0, 0, 0⟩), (defBody s_law).getD 18 (.Pass ⟨0, 0, 0, 0⟩), (defBody s_law).getD 19 (.Pass ⟨0, 0, 0, 0⟩), (defBody s_law).getD 20 (.Pass ⟨0, 0, 0, 0⟩), (defBody s_law).getD 21 (.Pass ⟨0, 0, 0, 0⟩), (defBody s_law).getD 22 (.Pass ⟨0, 0, 0, 0⟩), (defBody s_law).getD 23 (.Pass ⟨0, 0, 0, 0⟩)] q_law_9 := (ssst_cons (sst_of (st_law_9 T hr tk)) (sq_law_10 T hr tk))
def q_law_8 : SM := sSeq b_law_8 q_law_9
theorem sq_law_8 {f : Addr} {cdv : Value} {A : Around} {outer : List Env} {s : Shared} {H : Hp} {E : XK} (T : Txt K mg) (hr : Room 10 (A.deeper (PyProof.Rows.envOfC "law" (defScope s_law) s.heap.objs.size f cdv))) (tk : Tk (cxOf (L2.CX P w) P w K mg base N_law "law" (defScope s_law) f cdv A outer s H E) (WD E)) : SSsT (cxOf (L2.CX P w) P w K mg base N_law "law" (defScope s_law) f cdv A outer s H E) (WD E) [(defBody s_law).getD 8 (.Pass ⟨0, 0, 0, 0⟩), (defBody s_law).getD 9 (.Pass ⟨0, 0, 0, 0⟩), (defBody s_law).getD 10 (.Pass ⟨0, 0, 0, 0⟩), (defBody s_law).getD 11 (.Pass ⟨0, 0, 0, 0⟩), (defBody s_law).getD 12 (.Pass ⟨0, 0, 0, 0⟩), (defBody s_law).getD 13 (.Pass ⟨0, 0, 0, 0⟩), (defBody s_law).getD 14 (.Pass ⟨0, 0, 0, 0⟩), (defBody s_law).getD 15 (.Pass ⟨0, 0, 0, 0⟩), (defBody s_law).getD 16 (.Pass ⟨0, 0, 0, 0⟩), (defBody s_law).getD 17 (.Pass ⟨0, 0, 0, 0⟩), (defBody s_law).getD 18 (.Pass ⟨0, 0, 0, 0⟩), (defBody s_law).getD 19 (.Pass ⟨0, 0, 0, 0⟩), (defBody s_law).getD 20 (.Pass ⟨0, 0, 0, 0⟩), (defBody s_law).getD 21 (.Pass ⟨0, 0, 0, 0⟩), (defBody s_law).getD 22 (.Pass ⟨0, 0, 0, 0⟩), (defBody s_law).getD 23 (.Pass ⟨0, 0, 0, 0⟩)] q_law_8 := (ssst_cons (sst_of (st_law_8 T hr tk)) (sq_law_9 T hr tk))
def q_law_7 : SM := sSeq b_law_7 q_law_8
theorem sq_law_7 {f : Addr} {cdv : Value} {A : Around} {outer : List Env} {s : Shared} {H : Hp} {E : XK} (T : Txt K mg) (hr : Room 10 (A.deeper (PyProof.Rows.envOfC "law" (defScope s_law) s.heap.objs.size f cdv))) (tk : Tk (cxOf (L2.CX P w) P w K mg base N_law "law" (defScope s_law) f cdv A outer s H E) (WD E)) : SSsT (cxOf (L2.CX P w) P w K mg base N_law "law" (defScope s_law) f cdv A outer s H E) (WD E) [(defBody s_law).getD 7 (.Pass ⟨0, 0, 0, 0⟩), (defBody s_law).getD 8 (.Pass ⟨0, 0, 0, 0⟩), (defBody s_law).getD 9 (.Pass ⟨0, 0, 0, 0⟩), (defBody s_law).getD 10 (.Pass ⟨0, 0, 0, 0⟩), (defBody s_law).getD 11 (.Pass ⟨0, 0, 0, 0⟩), (defBody s_law).getD 12 (.Pass ⟨0, 0, 0, 0⟩), (defBody s_law).getD 13 (.Pass ⟨0, 0, 0, 0⟩), (defBody s_law).getD 14 (.Pass ⟨0, 0, 0, 0⟩), (defBody s_law).getD 15 (.Pass ⟨0, 0, 0, 0⟩), (defBody s_law).getD 16 (.Pass ⟨0, 0, 0, 0⟩), (defBody s_law).getD 17 (.Pass ⟨0, 0, 0, 0⟩), (defBody s_law).getD 18 (.Pass ⟨0, 0, 0, 0⟩), (defBody s_law).getD 19 (.Pass ⟨0, 0, 0, 0⟩), (defBody s_law).getD 20 (.Pass ⟨0, 0, 0, 0⟩), (defBody s_law).getD 21 (.Pass ⟨0, 0, 0, 0⟩), (defBody s_law).getD 22 (.Pass ⟨0, 0, 0, 0⟩), (defBody s_law).getD 23 (.Pass ⟨0, 0, 0, 0⟩)] q_law_7 := (ssst_cons (sst_of (st_law_7 T hr tk)) (sq_law_8 T hr tk))
def q_law_6 : SM := sSeq b_law_6 q_law_7
theorem sq_law_6 {f : Addr} {cdv : Value} {A : Around} {outer : List Env} {s : Shared} {H : Hp} {E : XK} (T : Txt K mg) (hr : Room 10 (A.deeper (PyProof.Rows.envOfC "law" (defScope s_law) s.heap.objs.size f cdv))) (tk : Tk (cxOf (L2.CX P w) P w K mg base N_law "law" (defScope s_law) f cdv A outer s H E) (WD E)) : SSsT (cxOf (L2.CX P w) P w K mg base N_law "law" (defScope s_law) f cdv A outer s H E) (WD E) [(defBody s_law).getD 6 (.Pass ⟨0, 0, 0, 0⟩), (defBody s_law).getD 7 (.Pass ⟨0, 0, 0, 0⟩), (defBody s_law).getD 8 (.Pass ⟨0, 0, 0, 0⟩), (defBody s_law).getD 9 (.Pass ⟨0, 0, 0, 0⟩), (defBody s_law).getD 10 (.Pass ⟨0, 0, 0, 0⟩), (defBody s_law).getD 11 (.Pass ⟨0, 0, 0, 0⟩), (defBody s_law).getD 12 (.Pass ⟨0, 0, 0, 0⟩), (defBody s_law).getD 13 (.Pass ⟨0, 0, 0, 0⟩), (defBody s_law).getD 14 (.Pass ⟨0, 0, 0, 0⟩), (defBody s_law).getD 15 (.Pass ⟨0, 0, 0, 0⟩), (defBody s_law).getD 16 (.Pass ⟨0, 0, 0, 0⟩), (defBody s_law).getD 17 (.Pass ⟨0, 0, 0, 0⟩), (defBody s_law).getD 18 (.Pass ⟨0, 0, 0, 0⟩), (defBody s_law).getD 19 (.Pass ⟨0, 0, 0, 0⟩), (defBody s_law).getD 20 (.Pass ⟨0, 0, 0, 0⟩), (defBody s_law).getD 21 (.Pass ⟨0, 0, 0, 0⟩), (defBody s_law).getD 22 (.Pass ⟨0, 0, 0, 0⟩), (defBody s_law).getD 23 (.Pass ⟨0, 0, 0, 0⟩)] q_law_6 := (ssst_cons (sst_of (st_law_6 T hr tk)) (sq_law_7 T hr tk))
def q_law_5 : SM := sSeq b_law_5 q_law_6
theorem sq_law_5 {f : Addr} {cdv : Value} {A : Around} {outer : List Env} {s : Shared} {H : Hp} {E : XK} (T : Txt K mg) (hr : Room 10 (A.deeper (PyProof.Rows.envOfC "law" (defScope s_law) s.heap.objs.size f cdv))) (tk : Tk (cxOf (L2.CX P w) P w K mg base N_law "law" (defScope s_law) f cdv A outer s H E) (WD E)) : SSsT (cxOf (L2.CX P w) P w K mg base N_law "law" (defScope s_law) f cdv A outer s H E) (WD E) [(defBody s_law).getD 5 (.Pass ⟨0, 0, 0, 0⟩), (defBody s_law).getD 6 (.Pass ⟨0, 0, 0, 0⟩), (defBody s_law).getD 7 (.Pass ⟨0, 0, 0, 0⟩), (defBody s_law).getD 8 (.Pass ⟨0, 0, 0, 0⟩), (defBody s_law).getD 9 (.Pass ⟨0, 0, 0, 0⟩), (defBody s_law).getD 10 (.Pass ⟨0, 0, 0, 0⟩), (defBody s_law).getD 11 (.Pass ⟨0, 0, 0, 0⟩), (defBody s_law).getD 12 (.Pass ⟨0, 0, 0, 0⟩), (defBody s_law).getD 13 (.Pass ⟨0, 0, 0, 0⟩), (defBody s_law).getD 14 (.Pass ⟨0, 0, 0, 0⟩), (defBody s_law).getD 15 (.Pass ⟨0, 0, 0, 0⟩), (defBody s_law).getD 16 (.Pass ⟨0, 0, 0, 0⟩), (defBody s_law).getD 17 (.Pass ⟨0, 0, 0, 0⟩), (defBody s_law).getD 18 (.Pass ⟨0, 0, 0, 0⟩), (defBody s_law).getD 19 (.Pass ⟨0, 0, 0, 0⟩), (defBody s_law).getD 20 (.Pass ⟨0, 0, 0, 0⟩), (defBody s_law).getD 21 (.Pass ⟨0, 0, 0, 0⟩), (defBody s_law).getD 22 (.Pass ⟨0, 0, 0, 0⟩), (defBody s_law).getD 23 (.Pass ⟨0, 0, 0, 0⟩)] q_law_5 := (ssst_cons (sst_of (st_law_5 T hr tk)) (sq_law_6 T hr tk))
def q_law_4 : SM := sSeq b_law_4 q_law_5
theorem sq_law_4 {f : Addr} {cdv : Value} {A : Around} {outer : List Env} {s : Shared} {H : Hp} {E : XK} (T : Txt K mg) (hr : Room 10 (A.deeper (PyProof.Rows.envOfC "law" (defScope s_law) s.heap.objs.size f cdv))) (tk : Tk (cxOf (L2.CX P w) P w K mg base N_law "law" (defScope s_law) f cdv A outer s H E) (WD E)) : SSsT (cxOf (L2.CX P w) P w K mg base N_law "law" (defScope s_law) f cdv A outer s H E) (WD E) [(defBody s_law).getD 4 (.Pass ⟨0, 0, 0, 0⟩), (defBody s_law).getD 5 (.Pass ⟨0, 0, 0, 0⟩), (defBody s_law).getD 6 (.Pass ⟨0, 0, 0, 0⟩), (defBody s_law).getD 7 (.Pass ⟨0, 0, 0, 0⟩), (defBody s_law).getD 8 (.Pass ⟨0, 0, 0, 0⟩), (defBody s_law).getD 9 (.Pass ⟨0, 0, 0, 0⟩), (defBody s_law).getD 10 (.Pass ⟨0, 0, 0, 0⟩), (defBody s_law).getD 11 (.Pass ⟨0, 0, 0, 0⟩), (defBody s_law).getD 12 (.Pass ⟨0, 0, 0, 0⟩), (defBody s_law).getD 13 (.Pass ⟨0, 0, 0, 0⟩), (defBody s_law).getD 14 (.Pass ⟨0, 0, 0, 0⟩), (defBody s_law).getD 15 (.Pass ⟨0, 0, 0, 0⟩), (defBody s_law).getD 16 (.Pass ⟨0, 0, 0, 0⟩), (defBody s_law).getD 17 (.Pass ⟨0, 0, 0, 0⟩), (defBody s_law).getD 18 (.Pass ⟨0, 0, 0, 0⟩), (defBody s_law).getD 19 (.Pass ⟨0, 0, 0, 0⟩), (defBody s_law).getD 20 (.Pass ⟨0, 0, 0, 0⟩), (defBody s_law).getD 21 (.Pass ⟨0, 0, 0, 0⟩), (defBody s_law).getD 22 (.Pass ⟨0, 0, 0, 0⟩), (defBody s_law).getD 23 (.Pass ⟨0, 0, 0, 0⟩)] q_law_4 := (ssst_cons (sst_of (st_law_4 T hr tk)) (sq_law_5 T hr tk))
def q_law_3 : SM := sSeq b_law_3 q_law_4
theorem sq_law_3 {f : Addr} {cdv : Value} {A : Around} {outer : List Env} {s : Shared} {H : Hp} {E : XK} (T : Txt K mg) (hr : Room 10 (A.deeper (PyProof.Rows.envOfC "law" (defScope s_law) s.heap.objs.size f cdv))) (tk : Tk (cxOf (L2.CX P w) P w K mg base N_law "law" (defScope s_law) f cdv A outer s H E) (WD E)) : SSsT (cxOf (L2.CX P w) P w K mg base N_law "law" (defScope s_law) f cdv A outer s H E) (WD E) [(defBody s_law).getD 3 (.Pass ⟨0, 0, 0, 0⟩), (defBody s_law).getD 4 (.Pass ⟨0, 0, 0, 0⟩), (defBody s_law).getD 5 (.Pass ⟨0, 0, 0, 0⟩), (defBody s_law).getD 6 (.Pass ⟨0, 0, 0, 0⟩), (defBody s_law).getD 7 (.Pass ⟨0, 0, 0, 0⟩), (defBody s_law).getD 8 (.Pass ⟨0, 0, 0, 0⟩), (defBody s_law).getD 9 (.Pass ⟨0, 0, 0, 0⟩), (defBody s_law).getD 10 (.Pass ⟨0, 0, 0, 0⟩), (defBody s_law).getD 11 (.Pass ⟨0, 0, 0, 0⟩), (defBody s_law).getD 12 (.Pass ⟨0, 0, 0, 0⟩), (defBody s_law).getD 13 (.Pass ⟨0, 0, 0, 0⟩), (defBody s_law).getD 14 (.Pass ⟨0, 0, 0, 0⟩), (defBody s_law).getD 15 (.Pass ⟨0, 0, 0, 0⟩), (defBody s_law).getD 16 (.Pass ⟨0, 0, 0, 0⟩), (defBody s_law).getD 17 (.Pass ⟨0, 0, 0, 0⟩), (defBody s_law).getD 18 (.Pass ⟨0, 0, 0, 0⟩), (defBody s_law).getD 19 (.Pass ⟨0, 0, 0, 0⟩), (defBody s_law).getD 20 (.Pass ⟨0, 0, 0, 0⟩), (defBody s_law).getD 21 (.Pass ⟨0, 0, 0, 0⟩), (defBody s_law).getD 22 (.Pass ⟨0, 0, 0, 0⟩), (defBody s_law).getD 23 (.Pass ⟨0, 0, 0, 0⟩)] q_law_3 := (ssst_cons (sst_of (st_law_3 T hr tk)) (sq_law_4 T hr tk))
def q_law_2 : SM := sSeq b_law_2 q_law_3
theorem sq_law_2 {f : Addr} {cdv : Value} {A : Around} {outer : List Env} {s : Shared} {H : Hp} {E : XK} (T : Txt K mg) (hr : Room 10 (A.deeper (PyProof.Rows.envOfC "law" (defScope s_law) s.heap.objs.size f cdv))) (tk : Tk (cxOf (L2.CX P w) P w K mg base N_law "law" (defScope s_law) f cdv A outer s H E) (WD E)) : SSsT (cxOf (L2.CX P w) P w K mg base N_law "law" (defScope s_law) f cdv A outer s H E) (WD E) [(defBody s_law).getD 2 (.Pass ⟨0, 0, 0, 0⟩), (defBody s_law).getD 3 (.Pass ⟨0, 0, 0, 0⟩), (defBody s_law).getD 4 (.Pass ⟨0, 0, 0, 0⟩), (defBody s_law).getD 5 (.Pass ⟨0, 0, 0, 0⟩), (defBody s_law).getD 6 (.Pass ⟨0, 0, 0, 0⟩), (defBody s_law).getD 7 (.Pass ⟨0, 0, 0, 0⟩), (defBody s_law).getD 8 (.Pass ⟨0, 0, 0, 0⟩), (defBody s_law).getD 9 (.Pass ⟨0, 0, 0, 0⟩), (defBody s_law).getD 10 (.Pass ⟨0, 0, 0, 0⟩), (defBody s_law).getD 11 (.Pass ⟨0, 0, 0, 0⟩), (defBody s_law).getD 12 (.Pass ⟨0, 0, 0, 0⟩), (defBody s_law).getD 13 (.Pass ⟨0, 0, 0, 0⟩), (defBody s_law).getD 14 (.Pass ⟨0, 0, 0, 0⟩), (defBody s_law).getD 15 (.Pass ⟨0, 0, 0, 0⟩), (defBody s_law).getD 16 (.Pass ⟨0, 0, 0, 0⟩), (defBody s_law).getD 17 (.Pass ⟨0, 0, 0, 0⟩), (defBody s_law).getD 18 (.Pass ⟨0, 0, 0, 0⟩), (defBody s_law).getD 19 (.Pass ⟨0, 0, 0, 0⟩), (defBody s_law).getD 20 (.Pass ⟨0, 0, 0, 0⟩), (defBody s_law).getD 21 (.Pass ⟨0, 0, 0, 0⟩), (defBody s_law).getD 22 (.Pass ⟨0, 0, 0, 0⟩), (defBody s_law).getD 23 (.Pass ⟨0, 0, 0, 0⟩)] q_law_2 := (ssst_cons (sst_of (st_law_2 T hr tk)) (sq_law_3 T hr tk))
def q_law_1 : SM := sSeq (sAsg (eBin gAdd (eC (.int 1)) (eCall (argc 2 m__law_draw) (aCons (eVar 1) (aCons (eC (.int 4)) aNil)))) 2) q_law_2
theorem sq_law_1 {f : Addr} {cdv : Value} {A : Around} {outer : List Env} {s : Shared} {H : Hp} {E : XK} (T : Txt K mg) (hr : Room 10 (A.deeper (PyProof.Rows.envOfC "law" (defScope s_law) s.heap.objs.size f cdv))) (tk : Tk (cxOf (L2.CX P w) P w K mg base N_law "law" (defScope s_law) f cdv A outer s H E) (WD E)) : SSs (cxOf (L2.CX P w) P w K mg base N_law "law" (defScope s_law) f cdv A outer s H E) (WD E) [(defBody s_law).getD 1 (.Pass ⟨0, 0, 0, 0⟩), (defBody s_law).getD 2 (.Pass ⟨0, 0, 0, 0⟩), (defBody s_law).getD 3 (.Pass ⟨0, 0, 0, 0⟩), (defBody s_law).getD 4 (.Pass ⟨0, 0, 0, 0⟩), (defBody s_law).getD 5 (.Pass ⟨0, 0, 0, 0⟩), (defBody s_law).getD 6 (.Pass ⟨0, 0, 0, 0⟩), (defBody s_law).getD 7 (.Pass ⟨0, 0, 0, 0⟩), (defBody s_law).getD 8 (.Pass ⟨0, 0, 0, 0⟩), (defBody s_law).getD 9 (.Pass ⟨0, 0, 0, 0⟩), (defBody s_law).getD 10 (.Pass ⟨0, 0, 0, 0⟩), (defBody s_law).getD 11 (.Pass ⟨0, 0, 0, 0⟩), (defBody s_law).getD 12 (.Pass ⟨0, 0, 0, 0⟩), (defBody s_law).getD 13 (.Pass ⟨0, 0, 0, 0⟩), (defBody s_law).getD 14 (.Pass ⟨0, 0, 0, 0⟩), (defBody s_law).getD 15 (.Pass ⟨0, 0, 0, 0⟩), (defBody s_law).getD 16 (.Pass ⟨0, 0, 0, 0⟩), (defBody s_law).getD 17 (.Pass ⟨0, 0, 0, 0⟩), (defBody s_law).getD 18 (.Pass ⟨0, 0, 0, 0⟩), (defBody s_law).getD 19 (.Pass ⟨0, 0, 0, 0⟩), (defBody s_law).getD 20 (.Pass ⟨0, 0, 0, 0⟩), (defBody s_law).getD 21 (.Pass ⟨0, 0, 0, 0⟩), (defBody s_law).getD 22 (.Pass ⟨0, 0, 0, 0⟩), (defBody s_law).getD 23 (.Pass ⟨0, 0, 0, 0⟩)] q_law_1 := (st_law_1 T hr tk (sq_law_2 T hr tk))
def q_law_0 : SM := sSeq b_law_0 q_law_1
theorem sq_law_0 {f : Addr} {cdv : Value} {A : Around} {outer : List Env} {s : Shared} {H : Hp} {E : XK} (T : Txt K mg) (hr : Room 10 (A.deeper (PyProof.Rows.envOfC "law" (defScope s_law) s.heap.objs.size f cdv))) (tk : Tk (cxOf (L2.CX P w) P w K mg base N_law "law" (defScope s_law) f cdv A outer s H E) (WD E)) : SSs (cxOf (L2.CX P w) P w K mg base N_law "law" (defScope s_law) f cdv A outer s H E) (WD E) [(defBody s_law).getD 0 (.Pass ⟨0, 0, 0, 0⟩), (defBody s_law).getD 1 (.Pass ⟨0, 0, 0, 0⟩), (defBody s_law).getD 2 (.Pass ⟨0, 0, 0, 0⟩), (defBody s_law).getD 3 (.Pass ⟨0, 0, 0, 0⟩), (defBody s_law).getD 4 (.Pass ⟨0, 0, 0, 0⟩), (defBody s_law).getD 5 (.Pass ⟨0, 0, 0, 0⟩), (defBody s_law).getD 6 (.Pass ⟨0, 0, 0, 0⟩), (defBody s_law).getD 7 (.Pass ⟨0, 0, 0, 0⟩), (defBody s_law).getD 8 (.Pass ⟨0, 0, 0, 0⟩), (defBody s_law).getD 9 (.Pass ⟨0, 0, 0, 0⟩), (defBody s_law).getD 10 (.Pass ⟨0, 0, 0, 0⟩), (defBody s_law).getD 11 (.Pass ⟨0, 0, 0, 0⟩), (defBody s_law).getD 12 (.Pass ⟨0, 0, 0, 0⟩), (defBody s_law).getD 13 (.Pass ⟨0, 0, 0, 0⟩), (defBody s_law).getD 14 (.Pass ⟨0, 0, 0, 0⟩), (defBody s_law).getD 15 (.Pass ⟨0, 0, 0, 0⟩), (defBody s_law).getD 16 (.Pass ⟨0, 0, 0, 0⟩), (defBody s_law).getD 17 (.Pass ⟨0, 0, 0, 0⟩), (defBody s_law).getD 18 (.Pass ⟨0, 0, 0, 0⟩), (defBody s_law).getD 19 (.Pass ⟨0, 0, 0, 0⟩), (defBody s_law).getD 20 (.Pass ⟨0, 0, 0, 0⟩), (defBody s_law).getD 21 (.Pass ⟨0, 0, 0, 0⟩), (defBody s_law).getD 22 (.Pass ⟨0, 0, 0, 0⟩), (defBody s_law).getD 23 (.Pass ⟨0, 0, 0, 0⟩)] q_law_0 := (ss_cons (st_law_0 T hr tk) (sq_law_1 T hr tk))
theorem body_law : defBody s_law = [(defBody s_law).getD 0 (.Pass ⟨0, 0, 0, 0⟩), (defBody s_law).getD 1 (.Pass ⟨0, 0, 0, 0⟩), (defBody s_law).getD 2 (.Pass ⟨0, 0, 0, 0⟩), (defBody s_law).getD 3 (.Pass ⟨0, 0, 0, 0⟩), (defBody s_law).getD 4 (.Pass ⟨0, 0, 0, 0⟩), (defBody s_law).getD 5 (.Pass ⟨0, 0, 0, 0⟩), (defBody s_law).getD 6 (.Pass ⟨0, 0, 0, 0⟩), (defBody s_law).getD 7 (.Pass ⟨0, 0, 0, 0⟩), (defBody s_law).getD 8 (.Pass ⟨0, 0, 0, 0⟩), (defBody s_law).getD 9 (.Pass ⟨0, 0, 0, 0⟩), (defBody s_law).getD 10 (.Pass ⟨0, 0, 0, 0⟩), (defBody s_law).getD 11 (.Pass ⟨0, 0, 0, 0⟩), (defBody s_law).getD 12 (.Pass ⟨0, 0, 0, 0⟩), (defBody s_law).getD 13 (.Pass ⟨0, 0, 0, 0⟩), (defBody s_law).getD 14 (.Pass ⟨0, 0, 0, 0⟩), (defBody s_law).getD 15 (.Pass ⟨0, 0, 0, 0⟩), (defBody s_law).getD 16 (.Pass ⟨0, 0, 0, 0⟩), (defBody s_law).getD 17 (.Pass ⟨0, 0, 0, 0⟩), (defBody s_law).getD 18 (.Pass ⟨0, 0, 0, 0⟩), (defBody s_law).getD 19 (.Pass ⟨0, 0, 0, 0⟩), (defBody s_law).getD 20 (.Pass ⟨0, 0, 0, 0⟩), (defBody s_law).getD 21 (.Pass ⟨0, 0, 0, 0⟩), (defBody s_law).getD 22 (.Pass ⟨0, 0, 0, 0⟩), (defBody s_law).getD 23 (.Pass ⟨0, 0, 0, 0⟩)] := by kernel_rfl
def b_law : SM :=
  q_law_0
def m_law : Fn := fnOf 1 22 b_law
theorem ok_law (T : Txt K mg) : Ok P w K mg base 11 "law" s_law ["script"] 1 m_law := ok_fn T.d_law sc_law rfl fun f cdv A outer s H E hr => (fun (tk : Tk (cxOf (L2.CX P w) P w K mg base N_law "law" (defScope s_law) f cdv A outer s H E) (WD E)) => (body_cast body_law (sq_law_0 T hr tk))) (Tk.of (takes_of rfl rfl rfl rfl) rfl rfl)
end
end G80

namespace G80
open PySem L2 Ms

/-- the body of the numbers' loop -/
def nbody : SM := (sIf (mAnd (mT (eBin gGe (eVar 0) (eBin gPow (eC (.int 10)) (eC (.int 18))))) (mT (eBin gGt (eVar 3) (eC (.int 0))))) (sSeq (sDrop (eAppend (eVar 2) (eBin gMod (eCall gInt (aCons (eVar 3) aNil)) (eC (.int 4099)))))
    (sAsg (eBin gDiv (eVar 3) (eC (.int 4099))) 3)) (sSeq (sAsg (eBin gMod (eCall gInt (aCons (eBin gAdd (eBin gMul (eVar 0) (eC (.int 69621))) (eBin gMul (eBin gAdd (eVar 4) (eC (.int 1))) (eC (.int 48271)))) aNil)) (eC (.int 2147483647))) 5)
    (sSeq (sAsg (eBin gMod (eCall gInt (aCons (eBin gAdd (eBin gAdd (eBin gMul (eVar 5) (eVar 5)) (eBin gMul (eVar 5) (eC (.int 16807)))) (eBin gMul (eVar 4) (eC (.int 7919)))) aNil)) (eC (.int 2147483629))) 5)
    (sSeq (sAsg (eBin gMod (eCall gInt (aCons (eBin gAdd (eBin gAdd (eBin gMul (eVar 5) (eVar 5)) (eVar 0)) (eBin gMul (eC (.int 17)) (eVar 4))) aNil)) (eC (.int 2147483587))) 5)
    (sDrop (eAppend (eVar 2) (eBin gMod (eBin gDiv (eVar 5) (eC (.int 5))) (eC (.int 4099)))))))))
theorem cmul_r {i j : Int} (h1 : -1000000 < j) (h2 : j < 1000000000) : CMul i j := .inr ⟨by omega, by omega⟩
theorem cmul_l {i j : Int} (h1 : -1000000 < i) (h2 : i < 10000000000) : CMul i j := .inl ⟨by omega, by omega⟩
theorem mod_in {x m : Int} (h : 0 < m) : 0 ≤ x % m ∧ x % m < m := ⟨Int.emod_nonneg _ (by omega), Int.emod_lt_of_pos _ h⟩
theorem nturn (c left k : Int) (acc : List Int) (l5 : Option D) (hl : acc.length < 1000) (hk : 0 ≤ k) (hk2 : k < 1000) : ∃ v left' l', nbody [some (.int c), some (.int 24), some (.ref 0), some (.int left), some (.int k), l5] [.lst (acc.map .int)] =
    .nx [some (.int c), some (.int 24), some (.ref 0), some (.int left'), some (.int k), l'] [.lst ((acc ++ [v]).map .int)] := by
  have hb : acc.length < 1000000 := by omega
  by_cases h : 1000000000000000000 ≤ c ∧ 0 < left
  · refine ⟨left % 4099, left / 4099, l5, ?_⟩
    simp [nbody, sIf, mAnd, mOr, mNot, mT, mTru, eBin, gGe, gI0, gPow, gI, CPow, eC, eVar, O.bind, sE, gGt, gLt, gLe, gEq, gNe, eqS, sSeq, sDrop, eAppend, eCall, argc, aCons, aNil, gInt, gOne, gMod, gDiv, CDiv, sAsg, gAdd, Ms.gSub, gMul, sRet, sNext, sSub, setD, gIx, eTup, eLst, eLstT, gLen, lstOf, seqOf, eIf, eNeg, h.1, h.2, hb]
  · obtain ⟨m1, hm1⟩ : ∃ m, (c * 69621 + (k + 1) * 48271) % 2147483647 = m := ⟨_, rfl⟩
    have b1 := mod_in (x := c * 69621 + (k + 1) * 48271) (m := 2147483647) (by decide)
    obtain ⟨m2, hm2⟩ : ∃ m, (m1 * m1 + m1 * 16807 + k * 7919) % 2147483629 = m := ⟨_, rfl⟩
    have b2 := mod_in (x := m1 * m1 + m1 * 16807 + k * 7919) (m := 2147483629) (by decide)
    obtain ⟨m3, hm3⟩ : ∃ m, (m2 * m2 + c + 17 * k) % 2147483587 = m := ⟨_, rfl⟩
    rw [hm1] at b1
    rw [hm2] at b2
    have c0 : CMul c 69621 := cmul_r (by decide) (by decide)
    have c1 : CMul (k + 1) 48271 := cmul_r (by decide) (by decide)
    have c2 : CMul m1 m1 := cmul_l (by omega) (by omega)
    have c3 : CMul m1 16807 := cmul_r (by decide) (by decide)
    have c4 : CMul k 7919 := cmul_r (by decide) (by decide)
    have c5 : CMul m2 m2 := cmul_l (by omega) (by omega)
    have c6 : CMul 17 k := cmul_l (by decide) (by decide)
    refine ⟨m3 / 5 % 4099, left, some (.int m3), ?_⟩
    have cond : mAnd (mT (eBin gGe (eVar 0) (eBin gPow (eC (.int 10)) (eC (.int 18))))) (mT (eBin gGt (eVar 3) (eC (.int 0)))) [some (.int c), some (.int 24), some (.ref 0), some (.int left), some (.int k), l5] [.lst (acc.map .int)] = .ok false [.lst (acc.map .int)] := by
      by_cases h1 : 1000000000000000000 ≤ c
      · have h2 : ¬ 0 < left := fun z => h ⟨h1, z⟩
        simp [sIf, mAnd, mOr, mNot, mT, mTru, eBin, gGe, gI0, gPow, gI, CPow, eC, eVar, O.bind, sE, gGt, gLt, gLe, gEq, gNe, eqS, sSeq, sDrop, eAppend, eCall, argc, aCons, aNil, gInt, gOne, gMod, gDiv, CDiv, sAsg, gAdd, Ms.gSub, gMul, sRet, sNext, sSub, setD, gIx, eTup, eLst, eLstT, gLen, lstOf, seqOf, eIf, eNeg, h1, h2]
      · simp [sIf, mAnd, mOr, mNot, mT, mTru, eBin, gGe, gI0, gPow, gI, CPow, eC, eVar, O.bind, sE, gGt, gLt, gLe, gEq, gNe, eqS, sSeq, sDrop, eAppend, eCall, argc, aCons, aNil, gInt, gOne, gMod, gDiv, CDiv, sAsg, gAdd, Ms.gSub, gMul, sRet, sNext, sSub, setD, gIx, eTup, eLst, eLstT, gLen, lstOf, seqOf, eIf, eNeg, h1]
    unfold nbody sIf
    rw [cond]
    simp [sIf, mAnd, mOr, mNot, mT, mTru, eBin, gGe, gI0, gPow, gI, CPow, eC, eVar, O.bind, sE, gGt, gLt, gLe, gEq, gNe, eqS, sSeq, sDrop, eAppend, eCall, argc, aCons, aNil, gInt, gOne, gMod, gDiv, CDiv, sAsg, gAdd, Ms.gSub, gMul, sRet, sNext, sSub, setD, gIx, eTup, eLst, eLstT, gLen, lstOf, seqOf, eIf, eNeg, hb, c0, c1, c2, c3, c4, c5, c6, hm1, hm2, hm3]
theorem nloop (c : Int) (it : Itm) (hi : it.src = none) : ∀ (ks : List Int) (acc : List Int) (left : Int) (l4 l5 : Option D), (∀ k ∈ ks, 0 ≤ k ∧ k < 1000) → acc.length + ks.length < 1000 → ∃ vs left' l4' l5', vs.length = ks.length ∧
    forGo it (tgName 4) nbody (ks.map .int) [some (.int c), some (.int 24), some (.ref 0), some (.int left), l4, l5] [.lst (acc.map .int)] = .nx [some (.int c), some (.int 24), some (.ref 0), some (.int left'), l4', l5'] [.lst ((acc ++ vs).map .int)]
  | [], acc, left, l4, l5, _, _ => ⟨[], left, l4, l5, rfl, by simp [forGo, Itm.chk, hi]⟩
  | k :: ks, acc, left, l4, l5, hk, hl => by
    simp only [List.length_cons] at hl
    obtain ⟨v, left', l', e⟩ := nturn c left k acc l5 (by omega) (hk k (by simp)).1 (hk k (by simp)).2
    obtain ⟨vs, left2, l42, l52, e1, e2⟩ := nloop c it hi ks (acc ++ [v]) left' (some (.int k)) l' (fun x hx => hk x (by simp [hx])) (by simp; omega)
    refine ⟨v :: vs, left2, l42, l52, by simp [e1], ?_⟩
    simp only [List.map_cons, forGo, Itm.chk, hi, tgName, List.set_cons_succ, List.set_cons_zero, if_true]
    rw [e]
    simp only
    rw [e2]
    simp
theorem numbers_ok (c : Int) : ∃ vs : List Int, vs.length = 24 ∧ m__law_numbers [.int c, .int 24] [] = .ok (.lst (vs.map .int)) [] := by
  have hr : rngD 0 24 = (([0,1,2,3,4,5,6,7,8,9,10,11,12,13,14,15,16,17,18,19,20,21,22,23] : List Int).map .int) := by rfl
  obtain ⟨vs, left', l4, l5, e1, e2⟩ := nloop c ⟨rngD 0 24, none⟩ rfl [0,1,2,3,4,5,6,7,8,9,10,11,12,13,14,15,16,17,18,19,20,21,22,23] [] c none none (by decide) (by decide)
  refine ⟨vs, e1, ?_⟩
  have okl : okL 0 (vs.map D.int) = true := by
    clear e1 e2
    induction vs with
    | nil => rfl
    | cons v vs ih => simpa [okL, okD] using ih
  have e3 : b__law_numbers [some (.int c), some (.int 24), none, none, none, none] [] = .rt (.ref 0) [.lst (vs.map .int)] := by
    show (sSeq (sAsg (eLstT aNil) 2) (sSeq (sAsg (eVar 0) 3) (sSeq (sFor (iRg1 (aCons (eVar 1) aNil)) (tgName 4) nbody) (sRet (eVar 2))))) [some (.int c), some (.int 24), none, none, none, none] [] = _
    rw [← hr] at e2
    simp [sIf, mAnd, mOr, mNot, mT, mTru, eBin, gGe, gI0, gPow, gI, CPow, eC, eVar, O.bind, sE, gGt, gLt, gLe, gEq, gNe, eqS, sSeq, sDrop, eAppend, eCall, argc, aCons, aNil, gInt, gOne, gMod, gDiv, CDiv, sAsg, gAdd, Ms.gSub, gMul, sRet, sNext, sSub, setD, gIx, eTup, eLst, eLstT, gLen, lstOf, seqOf, eIf, eNeg, sFor, iRg1, lim]
    simp only [List.map_nil] at e2
    rw [e2]
    simp
  simp [m__law_numbers, fnOf, e3, frz, okl]
end G80

namespace G80
open PySem hiding Loc
open L2 Ms

/-- the heap while the law runs: the pool's counter -/
abbrev HP (a : Int) : HM := [.lst [.int a]]
abbrev pl (rs : List Int) : D := .lst [.lst (rs.map .int), .ref 0]
theorem chk_none {it : Itm} (h : it.src = none) (hp : HM) : it.chk hp = true := by simp [Itm.chk, h]
theorem forI {it : Itm} {g : Tg} {body : SM} (hi : it.src = none) (ds : List D) (I : Nat → Loc → HM → Prop)
    (hs : ∀ j d, ds[j]? = some d → ∀ loc hp, I j loc hp → ∃ l1, g d loc = some l1 ∧ ∃ l h, body l1 hp = .nx l h ∧ I (j + 1) l h) :
    ∀ (r p : List D) (loc : Loc) (hp : HM), ds = p ++ r → I p.length loc hp → ∃ l h, forGo it g body r loc hp = .nx l h ∧ I ds.length l h
  | [], p, loc, hp, e, h => by
    rw [List.append_nil] at e
    subst e
    exact ⟨loc, hp, by simp [forGo, chk_none hi], h⟩
  | d :: r, p, loc, hp, e, h => by
    obtain ⟨l1, e1, l, h1, e2, h2⟩ := hs p.length d (by rw [e]; simp) loc hp h
    obtain ⟨l', h', e3, h3⟩ := forI hi ds I hs r (p ++ [d]) l h1 (by rw [e]; simp) (by simpa using h2)
    exact ⟨l', h', by simp only [forGo, chk_none hi, if_true, e1, e2]; exact e3, h3⟩
theorem compI {it : Itm} {g : Tg} {ft : TM} {fe : EM} {loc : Loc} (hi : it.src = none) (ds : List D) (I : Nat → HM → List D → Prop)
    (hs : ∀ j d, ds[j]? = some d → ∀ hp acc, I j hp acc → ∃ l, g d loc = some l ∧ ∃ b hp1, ft l hp = .ok b hp1 ∧ (b = false → I (j + 1) hp1 acc) ∧ (b = true → ∃ y hp2, fe l hp1 = .ok y hp2 ∧ acc.length < big ∧ I (j + 1) hp2 (acc ++ [y]))) :
    ∀ (r p : List D) (hp : HM) (acc : List D), ds = p ++ r → I p.length hp acc → ∃ acc' h, compGo it g ft fe loc r hp acc = .ok acc' h ∧ I ds.length h acc'
  | [], p, hp, acc, e, h => by
    rw [List.append_nil] at e
    subst e
    exact ⟨acc, hp, by simp [compGo, chk_none hi], h⟩
  | d :: r, p, hp, acc, e, h => by
    obtain ⟨l, e1, b, hp1, e2, h2, h3⟩ := hs p.length d (by rw [e]; simp) hp acc h
    cases b with
    | false =>
      obtain ⟨acc', h', e4, h4⟩ := compI hi ds I hs r (p ++ [d]) hp1 acc (by rw [e]; simp) (by simpa using h2 rfl)
      exact ⟨acc', h', by simp only [compGo, chk_none hi, if_true, e1, e2, O.bind]; simpa using e4, h4⟩
    | true =>
      obtain ⟨y, hp2, e5, hz, h5⟩ := h3 rfl
      obtain ⟨acc', h', e4, h4⟩ := compI hi ds I hs r (p ++ [d]) hp2 (acc ++ [y]) (by rw [e]; simp) (by simpa using h5)
      exact ⟨acc', h', by simp only [compGo, chk_none hi, if_true, e1, e2, O.bind, e5, hz]; exact e4, h4⟩
/-- a comprehension whose elements change nothing -/
theorem compP {it : Itm} {g : Tg} {ft : TM} {fe : EM} {loc : Loc} (hi : it.src = none) {α : Type} (dom f : α → D) {hp : HM} : ∀ (xs : List α) (acc : List D),
    (∀ x ∈ xs, ∃ l, g (dom x) loc = some l ∧ ft l hp = .ok true hp ∧ fe l hp = .ok (f x) hp) → acc.length + xs.length ≤ big → compGo it g ft fe loc (xs.map dom) hp acc = .ok (acc ++ xs.map f) hp
  | [], acc, _, _ => by simp [compGo, chk_none hi]
  | x :: xs, acc, h, hz => by
    obtain ⟨l, e1, e2, e3⟩ := h x (by simp)
    have hz1 : acc.length < big := by simp only [List.length_cons] at hz; omega
    simp only [List.map_cons, compGo, chk_none hi, if_true, e1, e2, O.bind, e3, hz1]
    rw [compP hi dom f xs (acc ++ [f x]) (fun y hy => h y (by simp [hy])) (by simp only [List.length_append, List.length_cons, List.length_nil] at hz ⊢; omega)]
    simp
/-- .. and one that raises -/
theorem compX {it : Itm} {g : Tg} {ft : TM} {fe : EM} {loc : Loc} (hi : it.src = none) {α : Type} (dom f : α → D) {hp : HM} {d : D} {ds : List D} {x : Exn} (hd : ∃ l, g d loc = some l ∧ ft l hp = .ok true hp ∧ fe l hp = .exc x hp) : ∀ (xs : List α) (acc : List D),
    (∀ x ∈ xs, ∃ l, g (dom x) loc = some l ∧ ft l hp = .ok true hp ∧ fe l hp = .ok (f x) hp) → acc.length + xs.length ≤ big → compGo it g ft fe loc (xs.map dom ++ d :: ds) hp acc = .exc x hp
  | [], acc, _, _ => by
    obtain ⟨l, e1, e2, e3⟩ := hd
    simp only [List.map_nil, List.nil_append, compGo, chk_none hi, if_true, e1, e2, O.bind, e3]
  | x :: xs, acc, h, hz => by
    obtain ⟨l, e1, e2, e3⟩ := h x (by simp)
    have hz1 : acc.length < big := by simp only [List.length_cons] at hz; omega
    simp only [List.map_cons, List.cons_append, compGo, chk_none hi, if_true, e1, e2, O.bind, e3, hz1]
    exact compX hi dom f hd xs (acc ++ [f x]) (fun y hy => h y (by simp [hy])) (by simp only [List.length_append, List.length_cons, List.length_nil] at hz ⊢; omega)
theorem rng_at {n j : Nat} {d : D} (h : (rngD 0 n)[j]? = some d) : d = .int j ∧ j < n := by
  simp only [rngD, List.getElem?_map] at h
  by_cases hj : j < n
  · rw [List.getElem?_range hj] at h
    simp only [Option.map_some, Option.some.injEq] at h
    exact ⟨by rw [← h]; simp, hj⟩
  · rw [List.getElem?_eq_none (by simpa using hj)] at h; cases h
theorem rng_len (n : Nat) : (rngD 0 n).length = n := by simp [rngD]
theorem at_ex {xs : List Int} {i : Int} (h0 : 0 ≤ i) (h1 : i < xs.length) : ∃ v, atI (xs.map D.int) i = some (.int v) := by
  obtain ⟨n, rfl⟩ := Int.eq_ofNat_of_zero_le h0
  have hn : n < xs.length := by omega
  exact ⟨xs[n], atI_nat (by simp [hn])⟩
theorem ok_ints (n : Nat) : ∀ vs : List Int, okL n (vs.map D.int) = true
  | [] => rfl
  | v :: vs => by simp [okL, okD, ok_ints n vs]

theorem fn_rt {n l : Nat} {body : SM} {ds : List D} {a b : Int} {d d' : D} (h : body (ds.map some ++ List.replicate (l - n) none) (HP a) = .rt d (HP b)) (hd : frz 1 (HP b) d = some d') : fnOf n l body ds (HP a) = .ok d' (HP b) := by
  simp [fnOf, h, okM, okL, okD, hd]
theorem fn_exc {n l : Nat} {body : SM} {ds : List D} {a b : Int} {x : Exn} {loc : Loc} (h : body (ds.map some ++ List.replicate (l - n) none) (HP a) = .exc x loc (HP b)) : fnOf n l body ds (HP a) = .exc x (HP b) := by
  simp [fnOf, h, okM, okL, okD]
theorem cell_ok (ns : List Int) (k : Nat) : ∃ c, m__law_cell [.scr ns, .int k] [] = .ok (.int c) [] := by
  by_cases h : k < ns.length
  · obtain ⟨v, e⟩ := at_ex (xs := ns) (i := k) (by omega) (by omega)
    refine ⟨v, ?_⟩
    simp [m__law_cell, fnOf, b__law_cell, sIf, mAnd, mOr, mNot, mT, mTru, eBin, gGe, gI0, gPow, gI, CPow, eC, eVar, O.bind, sE, gGt, gLt, gLe, gEq, gNe, eqS, sSeq, sDrop, eAppend, eCall, argc, aCons, aNil, gInt, gOne, gMod, gDiv, CDiv, sAsg, gAdd, Ms.gSub, gMul, sRet, sNext, sSub, setD, gIx, eTup, eLst, eLstT, gLen, lstOf, seqOf, eIf, eNeg, h, e, frz, okD]
  · refine ⟨0, ?_⟩
    simp [m__law_cell, fnOf, b__law_cell, sIf, mAnd, mOr, mNot, mT, mTru, eBin, gGe, gI0, gPow, gI, CPow, eC, eVar, O.bind, sE, gGt, gLt, gLe, gEq, gNe, eqS, sSeq, sDrop, eAppend, eCall, argc, aCons, aNil, gInt, gOne, gMod, gDiv, CDiv, sAsg, gAdd, Ms.gSub, gMul, sRet, sNext, sSub, setD, gIx, eTup, eLst, eLstT, gLen, lstOf, seqOf, eIf, eNeg, h, frz, okD]
def pbody : SM := (sAsg (eBin gAdd (eVar 1) (eCall (argc 2 m__law_numbers) (aCons (eBin gAdd (eCall (argc 2 m__law_cell) (aCons (eVar 0) (aCons (eVar 2) aNil))) (eBin gMul (eC (.int 11)) (eVar 2))) (aCons (eC (.int 24)) aNil)))) 1)
theorem pool_ok (ns : List Int) (hn : ns.length ≤ 63) : ∃ rs : List Int, 0 < rs.length ∧ rs.length ≤ 144 ∧ m__law_pool [.scr ns] [] = .ok (pl rs) (HP 0) := by
  obtain ⟨m, hm, h1, h6⟩ : ∃ m : Nat, (if (if (ns.length : Int) > 1 then (ns.length : Int) else 1) < 6 then (if (ns.length : Int) > 1 then (ns.length : Int) else 1) else 6) = (m : Int) ∧ 1 ≤ m ∧ m ≤ 6 := by
    refine ⟨(if (if (ns.length : Int) > 1 then (ns.length : Int) else 1) < 6 then (if (ns.length : Int) > 1 then (ns.length : Int) else 1) else 6).toNat, ?_, ?_, ?_⟩ <;> split <;> split <;> omega
  obtain ⟨l, h, e, rs, l2, hl, rfl, rfl⟩ := forI (it := ⟨rngD 0 m, none⟩) (g := tgName 2) (body := pbody) rfl (rngD 0 m)
    (fun j loc hp => ∃ (rs : List Int) (l2 : Option D), rs.length = 24 * j ∧ loc = [some (.scr ns), some (.lst (rs.map .int)), l2] ∧ hp = []) (by
      rintro j d hd loc hp ⟨rs, l2, hl, rfl, rfl⟩
      obtain ⟨rfl, hj⟩ := rng_at hd
      refine ⟨_, rfl, ?_⟩
      obtain ⟨c, ec⟩ := cell_ok ns j
      obtain ⟨vs, hv, ev⟩ := numbers_ok (c + 11 * j)
      have c1 : CMul 11 (j : Int) := cmul_l (by decide) (by decide)
      have hz : rs.length + vs.length ≤ 1000000 := by omega
      refine ⟨[some (.scr ns), some (.lst ((rs ++ vs).map .int)), some (.int j)], [], ?_, rs ++ vs, _, by simp; omega, rfl, rfl⟩
      simp [pbody, sIf, mAnd, mOr, mNot, mT, mTru, eBin, gGe, gI0, gPow, gI, CPow, eC, eVar, O.bind, sE, gGt, gLt, gLe, gEq, gNe, eqS, sSeq, sDrop, eAppend, eCall, argc, aCons, aNil, gInt, gOne, gMod, gDiv, CDiv, sAsg, gAdd, Ms.gSub, gMul, sRet, sNext, sSub, setD, gIx, eTup, eLst, eLstT, gLen, lstOf, seqOf, eIf, eNeg, tgName, ec, ev, c1, hz]) (rngD 0 m) [] [some (.scr ns), some (.lst []), none] [] rfl ⟨[], none, rfl, rfl, rfl⟩
  rw [rng_len] at hl
  refine ⟨rs, by omega, by omega, ?_⟩
  have hm2 : -1000000 ≤ (m : Int) ∧ (m : Int) ≤ 1000000 := by omega
  show fnKeep 1 3 (sSeq (sAsg (eLst aNil) 1) (sSeq (sFor (iRg1 (aCons (eCall gMin2 (aCons (eC (.int 6)) (aCons (eCall gMax2 (aCons (eC (.int 1)) (aCons (eCall gLen (aCons (eVar 0) aNil)) aNil))) aNil))) aNil)) (tgName 2) pbody) (sRet (eLst (aCons (eVar 1) (aCons (eLstT (aCons (eC (.int 0)) aNil)) aNil)))))) _ _ = _
  simp [fnKeep, sIf, mAnd, mOr, mNot, mT, mTru, eBin, gGe, gI0, gPow, gI, CPow, eC, eVar, O.bind, sE, gGt, gLt, gLe, gEq, gNe, eqS, sSeq, sDrop, eAppend, eCall, argc, aCons, aNil, gInt, gOne, gMod, gDiv, CDiv, sAsg, gAdd, Ms.gSub, gMul, sRet, sNext, sSub, setD, gIx, eTup, eLst, eLstT, gLen, lstOf, seqOf, eIf, eNeg, sFor, iRg1, gMin2, gMax2, hm, hm2, lim]
  rw [e]
  simp [big]
theorem draw_ok {rs : List Int} (hr : 0 < rs.length) (hr2 : rs.length ≤ 144) {a : Int} (h0 : 0 ≤ a) (h1 : a < 1000000) {many : Int} (hm : 0 < many) : ∃ v, 0 ≤ v ∧ v < many ∧ m__law_draw [pl rs, .int many] (HP a) = .ok (.int v) (HP (a + 1)) := by
  have hr' : (0 : Int) < rs.length := by omega
  have b1 := mod_in (x := a) hr'
  obtain ⟨v, ev⟩ := at_ex (xs := rs) b1.1 b1.2
  have q0 : 0 ≤ a / (rs.length : Int) := Int.ediv_nonneg h0 (by omega)
  have q1 : a / (rs.length : Int) ≤ a := Int.ediv_le_self _ h0
  have c1 : CMul (a / (rs.length : Int)) 1013 := cmul_r (by decide) (by decide)
  have c2 : CMul (a / (rs.length : Int)) a := cmul_l (by omega) (by omega)
  have c3 : CMul (a / (rs.length : Int) * a) 7 := cmul_r (by decide) (by decide)
  have i0 : atI [D.lst (rs.map .int), D.ref 0] 0 = some (D.lst (rs.map .int)) := rfl
  have i1 : atI [D.lst (rs.map .int), D.ref 0] 1 = some (D.ref 0) := rfl
  have i2 : atI [D.int a] 0 = some (D.int a) := rfl
  have b2 := mod_in (x := v + a / (rs.length : Int) * 1013 + a / (rs.length : Int) * a * 7) hm
  have st : setD (HP a) (.ref 0) (.int 0) (.int (a + 1)) = some (HP (a + 1)) := rfl
  have cd : CDiv a (rs.length : Int) := ⟨hr', by omega⟩
  refine ⟨_, b2.1, b2.2, fn_rt (d := .int ((v + a / (rs.length : Int) * 1013 + a / (rs.length : Int) * a * 7) % many)) (b := a + 1) ?_ (by simp [frz, okD])⟩
  simp only [b__law_draw, sSeq, sSub, sAsg, sRet, sE, eBin, eVar, eC, O.bind, gIx, pl, lstOf, seqOf, List.map_cons, List.map_nil, List.cons_append, List.nil_append, List.replicate, List.getElem?_cons_zero, List.getElem?_cons_succ, i0, i1, i2, gAdd, st, List.set_cons_zero, List.set_cons_succ,
    gDiv, gMod, gMul, gI, gI0, eCall, argc, aCons, aNil, gInt, gOne, gLen, List.length_cons, List.length_nil, List.length_map, if_true, hr', ev, c1, c2, c3, cd, hm, Nat.sub_self, reduceCtorEq]
end G80

namespace G80
open PySem hiding Loc
open L2 Ms
/-- at most k draws on -/
abbrev Up (k a b : Int) : Prop := a ≤ b ∧ b ≤ a + k
theorem comp_val {i : IM} {g : Tg} {ft : TM} {fe : EM} {own : List Nat} {loc : Loc} {hp h : HM} {it : Itm} {acc : List D} (e1 : i loc hp = .ok it hp) (e2 : compGo it g ft fe (wipeL loc own) it.ds hp [] = .ok acc h) (hz : acc.length ≤ 1000000) :
    eComp i g ft fe own loc hp = .ok (.lst acc) h := by simp [eComp, e1, e2, O.bind, big, hz]
theorem rg_val {e : EM} {loc : Loc} {hp : HM} {n : Nat} (hn : n ≤ 1000) (h : e loc hp = .ok (.int n) hp) : iRg1 (aCons e aNil) loc hp = .ok ⟨rngD 0 n, none⟩ hp := by
  have h2 : -1000000 ≤ (n : Int) ∧ (n : Int) ≤ 1000000 := by omega
  simp [iRg1, aCons, aNil, O.bind, h, lim, h2]
/-! _law_some -/
def someT : TM := mT (eBin gGt (eCall (argc 2 m__law_draw) (aCons (eVar 0) (aCons (eVar 2) aNil))) (eC (.int 0)))
def someC : EM := eComp (iRg1 (aCons (eVar 1) aNil)) (tgName 3) someT (eVar 3) [3]
theorem some_ok {rs : List Int} (hr : 0 < rs.length) (hr2 : rs.length ≤ 144) {a : Int} (h0 : 0 ≤ a) (h1 : a < 100000) {n : Nat} (hn : n ≤ 100) {lean : Int} (hl : 0 < lean) :
    ∃ (vs : List Int) (b : Int), Up 100 a b ∧ vs.Pairwise (· < ·) ∧ (∀ v ∈ vs, 0 ≤ v ∧ v < n) ∧ vs.length ≤ n ∧ m__law_some [pl rs, .int n, .int lean] (HP a) = .ok (.tup (vs.map .int)) (HP b) := by
  obtain ⟨acc, h, e, vs, b, ha, hb1, hb2, hb3, hb4, hb5, hb6⟩ := compI (it := ⟨rngD 0 n, none⟩) (g := tgName 3) (ft := someT) (fe := eVar 3) (loc := [some (pl rs), some (.int n), some (.int lean), none]) rfl (rngD 0 n)
    (fun j hp acc => ∃ (vs : List Int) (b : Int), acc = vs.map .int ∧ hp = HP b ∧ a ≤ b ∧ b ≤ a + j ∧ vs.Pairwise (· < ·) ∧ (∀ v ∈ vs, 0 ≤ v ∧ v < j) ∧ vs.length ≤ j) (by
      rintro j d hd hp acc ⟨vs, b, rfl, rfl, q1, q2, q3, q4, q5⟩
      obtain ⟨rfl, hj⟩ := rng_at hd
      obtain ⟨v, v0, v1, ev⟩ := draw_ok hr hr2 (a := b) (by omega) (by omega) hl
      refine ⟨_, rfl, decide (0 < v), HP (b + 1), ?_, fun _ => ⟨vs, b + 1, rfl, rfl, by omega, by omega, q3, fun x hx => ?_, by omega⟩, fun _ => ⟨.int j, HP (b + 1), ?_, ?_, vs ++ [(j : Int)], b + 1, by simp, rfl, by omega, by omega, ?_, fun x hx => ?_, by simp; omega⟩⟩
      · simp [someT, sIf, mAnd, mOr, mNot, mT, mTru, eBin, gGe, gI0, gPow, gI, CPow, eC, eVar, O.bind, sE, gGt, gLt, gLe, gEq, gNe, eqS, sSeq, sDrop, eAppend, eCall, argc, aCons, aNil, gInt, gOne, gMod, gDiv, CDiv, sAsg, gAdd, Ms.gSub, gMul, sRet, sNext, sSub, setD, gIx, eTup, eLst, eLstT, gLen, lstOf, seqOf, eIf, eNeg, ev]
      · have := q4 x hx; omega
      · simp [eVar]
      · simp [big]; omega
      · rw [List.pairwise_append]
        refine ⟨q3, by simp, fun x hx y hy => ?_⟩
        have := q4 x hx
        simp at hy; omega
      · rw [List.mem_append] at hx
        rcases hx with hx | hx
        · have := q4 x hx; omega
        · simp at hx; omega)
    (rngD 0 n) [] (HP a) [] rfl ⟨[], a, rfl, rfl, by omega, by simp, by simp, by simp, by simp⟩
  subst ha hb1
  rw [rng_len] at hb3 hb5 hb6
  refine ⟨vs, b, ⟨hb2, by omega⟩, hb4, hb5, hb6, ?_⟩
  have ec : someC [some (pl rs), some (.int n), some (.int lean), none] (HP a) = .ok (.lst (vs.map .int)) (HP b) := comp_val (rg_val (n := n) (by omega) (by simp [eVar])) (by simpa [wipeL] using e) (by simp; omega)
  refine fn_rt (l := 4) (body := sRet (eCall gTuple (aCons someC aNil))) (d := .tup (vs.map .int)) ?_ (by simp [frz, okD, ok_ints])
  have ec2 : someC (List.map some [pl rs, .int n, .int lean] ++ List.replicate (4 - 3) none) (HP a) = .ok (.lst (vs.map .int)) (HP b) := ec
  simp only [sRet, eCall, aCons, aNil, ec2, O.bind, gTuple, gOne, sE, seqOf, lstOf]
/-! _law_row -/
def rbody : SM := (sAsg (eBin gAdd (eVar 3) (eTup (aCons (eCall (argc 2 m__law_draw) (aCons (eVar 0) (aCons (eVar 1) aNil))) aNil))) 3)
theorem row_ok {rs : List Int} (hr : 0 < rs.length) (hr2 : rs.length ≤ 144) {a : Int} (h0 : 0 ≤ a) (h1 : a < 100000) {n : Int} (hn : 0 < n) {most : Nat} (hm : most ≤ 100) :
    ∃ (vs : List Int) (b : Int), Up 102 a b ∧ (∀ v ∈ vs, 0 ≤ v ∧ v < n) ∧ vs.length ≤ most ∧ m__law_row [pl rs, .int n, .int most] (HP a) = .ok (.tup (vs.map .int)) (HP b) := by
  obtain ⟨m, m0, m1, em⟩ := draw_ok hr hr2 h0 (by omega) (many := (most : Int) + 1) (by omega)
  obtain ⟨k, rfl⟩ := Int.eq_ofNat_of_zero_le m0
  obtain ⟨l, h, e, vs, b, l4, q1, q2, q3, q4, q5, q6⟩ := forI (it := ⟨rngD 0 k, none⟩) (g := tgName 4) (body := rbody) rfl (rngD 0 k)
    (fun j loc hp => ∃ (vs : List Int) (b : Int) (l4 : Option D), loc = [some (pl rs), some (.int n), some (.int most), some (.tup (vs.map .int)), l4] ∧ hp = HP b ∧ a ≤ b ∧ b ≤ a + 1 + j ∧ (∀ v ∈ vs, 0 ≤ v ∧ v < n) ∧ vs.length ≤ j) (by
      rintro j d hd loc hp ⟨vs, b, l4, rfl, rfl, q1, q2, q3, q4⟩
      obtain ⟨rfl, hj⟩ := rng_at hd
      obtain ⟨v, v0, v1, ev⟩ := draw_ok hr hr2 (a := b) (by omega) (by omega) hn
      have hz : vs.length + 1 ≤ 1000000 := by omega
      refine ⟨_, rfl, _, HP (b + 1), ?_, vs ++ [v], b + 1, some (.int j), rfl, rfl, by omega, by omega, fun x hx => ?_, by simp; omega⟩
      · simp [rbody, sIf, mAnd, mOr, mNot, mT, mTru, eBin, gGe, gI0, gPow, gI, CPow, eC, eVar, O.bind, sE, gGt, gLt, gLe, gEq, gNe, eqS, sSeq, sDrop, eAppend, eCall, argc, aCons, aNil, gInt, gOne, gMod, gDiv, CDiv, sAsg, gAdd, Ms.gSub, gMul, sRet, sNext, sSub, setD, gIx, eTup, eLst, eLstT, gLen, lstOf, seqOf, eIf, eNeg, ev, big, hz]
      · rw [List.mem_append] at hx
        rcases hx with hx | hx
        · exact q3 x hx
        · simp at hx; omega)
    (rngD 0 k) [] [some (pl rs), some (.int n), some (.int most), some (.tup []), none] (HP (a + 1)) rfl ⟨[], a + 1, none, rfl, rfl, by omega, by simp, by simp, by simp⟩
  subst q1 q2
  rw [rng_len] at q4 q6
  refine ⟨vs, b, ⟨q3, by omega⟩, q5, by omega, ?_⟩
  refine fn_rt (l := 5) (body := (sSeq (sAsg (eTup aNil) 3) (sSeq (sFor (iRg1 (aCons (eCall (argc 2 m__law_draw) (aCons (eVar 0) (aCons (eBin gAdd (eVar 2) (eC (.int 1))) aNil))) aNil)) (tgName 4) rbody) (sRet (eVar 3))))) (d := .tup (vs.map .int)) ?_ (by simp [frz, okD, ok_ints])
  have hk : -1000000 ≤ (k : Int) ∧ (k : Int) ≤ 1000000 := by omega
  simp [sIf, mAnd, mOr, mNot, mT, mTru, eBin, gGe, gI0, gPow, gI, CPow, eC, eVar, O.bind, sE, gGt, gLt, gLe, gEq, gNe, eqS, sSeq, sDrop, eAppend, eCall, argc, aCons, aNil, gInt, gOne, gMod, gDiv, CDiv, sAsg, gAdd, Ms.gSub, gMul, sRet, sNext, sSub, setD, gIx, eTup, eLst, eLstT, gLen, lstOf, seqOf, eIf, eNeg, sFor, iRg1, em, hk, lim, big]
  rw [e]
  simp
theorem ok_map {α : Type} (n : Nat) (f : α → List Int) : ∀ xs : List α, okL n (xs.map fun x => D.tup ((f x).map .int)) = true
  | [] => rfl
  | x :: xs => by simp [okL, okD, ok_ints, ok_map n f xs]
theorem ok_tups (n : Nat) (es : List (List Int)) : okL n (es.map fun e => D.tup (e.map .int)) = true := ok_map n (fun e => e) es
/-! _law_eyes -/
structure Eye (e : List Int) : Prop where
  ne : 0 < e.length
  le : e.length ≤ 5
  up : e.Pairwise (· < ·)
  lo : ∀ v ∈ e, -1 ≤ v ∧ v ≤ 3
abbrev tD (e : List Int) : D := .tup (e.map .int)
theorem eye1 {v : Int} (h : -1 ≤ v ∧ v ≤ 3) : Eye [v] := ⟨by simp, by simp, by simp, by simpa using h⟩
def eyT : TM := mT (eBin gEq (eCall (argc 2 m__law_draw) (aCons (eVar 0) (aCons (eC (.int 3)) aNil))) (eC (.int 0)))
def eyC : EM := eComp (iSeq (eTup (aCons (eNeg (eC (.int 1))) (aCons (eC (.int 0)) (aCons (eC (.int 1)) (aCons (eC (.int 2)) (aCons (eC (.int 3)) aNil))))))) (tgName 6) eyT (eVar 6) [6]
def ey1 : SM := sIf (mAnd (mT (eBin gLt (eVar 2) (eC (.int 2)))) (mT (eBin gEq (eCall (argc 2 m__law_draw) (aCons (eVar 0) (aCons (eC (.int 2)) aNil))) (eC (.int 0))))) (sAsg (eTup (aCons (eNeg (eC (.int 1))) aNil)) 5) sNext
def ey2 : SM := sIf (mT (eBin gEq (eVar 2) (eC (.int 2)))) (sAsg (eTup (aCons (eBin gSub (eCall (argc 2 m__law_draw) (aCons (eVar 0) (aCons (eC (.int 4)) aNil))) (eC (.int 1))) aNil)) 5) sNext
def ey3 : SM := sIf (mT (eBin gEq (eVar 2) (eC (.int 3)))) (sSeq (sAsg (eCall gTuple (aCons eyC aNil)) 5)
    (sIf (mT (eBin gEq (eCall gLen (aCons (eVar 5) aNil)) (eC (.int 0)))) (sAsg (eTup (aCons (eBin gSub (eCall (argc 2 m__law_draw) (aCons (eVar 0) (aCons (eC (.int 5)) aNil))) (eC (.int 1))) aNil)) 5) sNext)) sNext
def eyB : SM := (sSeq (sAsg (eTup (aCons (eVar 4) aNil)) 5) (sSeq ey1 (sSeq ey2 (sSeq ey3 (sAsg (eBin gAdd (eVar 3) (eTup (aCons (eVar 5) aNil))) 3)))))
section
variable {rs : List Int} (hr : 0 < rs.length) (hr2 : rs.length ≤ 144) {a : Int} (h0 : 0 ≤ a) (h1 : a < 100000) {n : Int} {way : Int} (hw : 0 ≤ way) (hw2 : way < 4) {x3 : D} {x4 x6 : Option D} {e : List Int} (he : Eye e)
include hr hr2 h0 h1
include hw he in
theorem ey1_ok : ∃ (e' : List Int) (b : Int), Up 1 a b ∧ Eye e' ∧ ey1 [some (pl rs), some (.int n), some (.int way), some x3, x4, some (tD e), x6] (HP a) = .nx [some (pl rs), some (.int n), some (.int way), some x3, x4, some (tD e'), x6] (HP b) := by
  by_cases h : way < 2
  · obtain ⟨v, v0, v1, ev⟩ := draw_ok hr hr2 (a := a) h0 (by omega) (many := 2) (by omega)
    by_cases hv : v = 0
    · refine ⟨[-1], a + 1, ⟨by omega, by omega⟩, eye1 (by omega), ?_⟩
      simp [ey1, sIf, mAnd, mOr, mNot, mT, mTru, eBin, gGe, gI0, gPow, gI, CPow, eC, eVar, O.bind, sE, gGt, gLt, gLe, gEq, gNe, eqS, sSeq, sDrop, eAppend, eCall, argc, aCons, aNil, gInt, gOne, gMod, gDiv, CDiv, sAsg, gAdd, Ms.gSub, gMul, sRet, sNext, sSub, setD, gIx, eTup, eLst, eLstT, gLen, lstOf, seqOf, eIf, eNeg, h, ev, hv, big]
    · refine ⟨e, a + 1, ⟨by omega, by omega⟩, he, ?_⟩
      simp [ey1, sIf, mAnd, mOr, mNot, mT, mTru, eBin, gGe, gI0, gPow, gI, CPow, eC, eVar, O.bind, sE, gGt, gLt, gLe, gEq, gNe, eqS, sSeq, sDrop, eAppend, eCall, argc, aCons, aNil, gInt, gOne, gMod, gDiv, CDiv, sAsg, gAdd, Ms.gSub, gMul, sRet, sNext, sSub, setD, gIx, eTup, eLst, eLstT, gLen, lstOf, seqOf, eIf, eNeg, h, ev, hv, big]
  · refine ⟨e, a, ⟨by omega, by omega⟩, he, ?_⟩
    simp [ey1, sIf, mAnd, mOr, mNot, mT, mTru, eBin, gGe, gI0, gPow, gI, CPow, eC, eVar, O.bind, sE, gGt, gLt, gLe, gEq, gNe, eqS, sSeq, sDrop, eAppend, eCall, argc, aCons, aNil, gInt, gOne, gMod, gDiv, CDiv, sAsg, gAdd, Ms.gSub, gMul, sRet, sNext, sSub, setD, gIx, eTup, eLst, eLstT, gLen, lstOf, seqOf, eIf, eNeg, h, big]
include he in
theorem ey2_ok : ∃ (e' : List Int) (b : Int), Up 1 a b ∧ Eye e' ∧ ey2 [some (pl rs), some (.int n), some (.int way), some x3, x4, some (tD e), x6] (HP a) = .nx [some (pl rs), some (.int n), some (.int way), some x3, x4, some (tD e'), x6] (HP b) := by
  by_cases h : way = 2
  · obtain ⟨v, v0, v1, ev⟩ := draw_ok hr hr2 (a := a) h0 (by omega) (many := 4) (by omega)
    refine ⟨[v - 1], a + 1, ⟨by omega, by omega⟩, eye1 (by omega), ?_⟩
    simp [ey2, sIf, mAnd, mOr, mNot, mT, mTru, eBin, gGe, gI0, gPow, gI, CPow, eC, eVar, O.bind, sE, gGt, gLt, gLe, gEq, gNe, eqS, sSeq, sDrop, eAppend, eCall, argc, aCons, aNil, gInt, gOne, gMod, gDiv, CDiv, sAsg, gAdd, Ms.gSub, gMul, sRet, sNext, sSub, setD, gIx, eTup, eLst, eLstT, gLen, lstOf, seqOf, eIf, eNeg, h, ev, big]
  · refine ⟨e, a, ⟨by omega, by omega⟩, he, ?_⟩
    simp [ey2, sIf, mAnd, mOr, mNot, mT, mTru, eBin, gGe, gI0, gPow, gI, CPow, eC, eVar, O.bind, sE, gGt, gLt, gLe, gEq, gNe, eqS, sSeq, sDrop, eAppend, eCall, argc, aCons, aNil, gInt, gOne, gMod, gDiv, CDiv, sAsg, gAdd, Ms.gSub, gMul, sRet, sNext, sSub, setD, gIx, eTup, eLst, eLstT, gLen, lstOf, seqOf, eIf, eNeg, h, big]
theorem eyC_ok : ∃ (e' : List Int) (b : Int), Up 5 a b ∧ e'.length ≤ 5 ∧ e'.Pairwise (· < ·) ∧ (∀ v ∈ e', -1 ≤ v ∧ v ≤ 3) ∧ eyC [some (pl rs), some (.int n), some (.int way), some x3, x4, some (tD e), x6] (HP a) = .ok (.lst (e'.map .int)) (HP b) := by
  obtain ⟨acc, h, e1, vs, b, ha, hb1, hb2, hb3, hb4, hb5, hb6⟩ := compI (it := ⟨rngD (-1) 5, none⟩) (g := tgName 6) (ft := eyT) (fe := eVar 6) (loc := [some (pl rs), some (.int n), some (.int way), some x3, x4, some (tD e), none]) rfl (rngD (-1) 5)
    (fun j hp acc => ∃ (vs : List Int) (b : Int), acc = vs.map .int ∧ hp = HP b ∧ a ≤ b ∧ b ≤ a + j ∧ vs.Pairwise (· < ·) ∧ (∀ v ∈ vs, -1 ≤ v ∧ v < (j : Int) - 1) ∧ vs.length ≤ j) (by
      rintro j d hd hp acc ⟨vs, b, rfl, rfl, q1, q2, q3, q4, q5⟩
      have hj : j < 5 := by
        have := (List.getElem?_eq_some_iff.mp hd).1
        simpa [rngD] using this
      have hd2 : d = .int ((j : Int) - 1) := by
        simp only [rngD, List.getElem?_map, List.getElem?_range hj, Option.map_some, Option.some.injEq] at hd
        rw [← hd, show (-1 : Int) + (j : Int) = (j : Int) - 1 by omega]
      subst hd2
      obtain ⟨v, v0, v1, ev⟩ := draw_ok hr hr2 (a := b) (by omega) (by omega) (many := 3) (by omega)
      refine ⟨_, rfl, decide (v = 0), HP (b + 1), ?_, fun _ => ⟨vs, b + 1, rfl, rfl, by omega, by omega, q3, fun x hx => ?_, by omega⟩, fun _ => ⟨.int ((j : Int) - 1), HP (b + 1), ?_, ?_, vs ++ [(j : Int) - 1], b + 1, by simp, rfl, by omega, by omega, ?_, fun x hx => ?_, by simp; omega⟩⟩
      · simp [eyT, sIf, mAnd, mOr, mNot, mT, mTru, eBin, gGe, gI0, gPow, gI, CPow, eC, eVar, O.bind, sE, gGt, gLt, gLe, gEq, gNe, eqS, sSeq, sDrop, eAppend, eCall, argc, aCons, aNil, gInt, gOne, gMod, gDiv, CDiv, sAsg, gAdd, Ms.gSub, gMul, sRet, sNext, sSub, setD, gIx, eTup, eLst, eLstT, gLen, lstOf, seqOf, eIf, eNeg, ev]
      · have := q4 x hx; omega
      · simp [eVar]
      · simp [big]; omega
      · rw [List.pairwise_append]
        refine ⟨q3, by simp, fun x hx y hy => ?_⟩
        have := q4 x hx
        simp at hy; omega
      · rw [List.mem_append] at hx
        rcases hx with hx | hx
        · have := q4 x hx; omega
        · simp at hx; omega)
    (rngD (-1) 5) [] (HP a) [] rfl ⟨[], a, rfl, rfl, by omega, by simp, by simp, by simp, by simp⟩
  subst ha hb1
  have hl5 : (rngD (-1) 5).length = 5 := by simp [rngD]
  rw [hl5] at hb3 hb5 hb6
  refine ⟨vs, b, ⟨hb2, by omega⟩, hb6, hb4, fun v hv => by have := hb5 v hv; omega, ?_⟩
  exact comp_val (it := ⟨rngD (-1) 5, none⟩) (by simp [sIf, mAnd, mOr, mNot, mT, mTru, eBin, gGe, gI0, gPow, gI, CPow, eC, eVar, O.bind, sE, gGt, gLt, gLe, gEq, gNe, eqS, sSeq, sDrop, eAppend, eCall, argc, aCons, aNil, gInt, gOne, gMod, gDiv, CDiv, sAsg, gAdd, Ms.gSub, gMul, sRet, sNext, sSub, setD, gIx, eTup, eLst, eLstT, gLen, lstOf, seqOf, eIf, eNeg, iSeq, big] <;> rfl) (by simpa [wipeL] using e1) (by simp; omega)
include he in
theorem ey3_ok : ∃ (e' : List Int) (b : Int), Up 6 a b ∧ Eye e' ∧ ey3 [some (pl rs), some (.int n), some (.int way), some x3, x4, some (tD e), x6] (HP a) = .nx [some (pl rs), some (.int n), some (.int way), some x3, x4, some (tD e'), x6] (HP b) := by
  by_cases h : way = 3
  · obtain ⟨c, b, hb, c1, c2, c3, ec⟩ := eyC_ok hr hr2 h0 h1 (n := n) (way := way) (x3 := x3) (x4 := x4) (x6 := x6) (e := e)
    obtain ⟨v, v0, v1, ev⟩ := draw_ok hr hr2 (a := b) (by omega) (by omega) (many := 5) (by omega)
    subst h
    by_cases hv : c.length = 0
    · refine ⟨[v - 1], b + 1, ⟨by omega, by omega⟩, eye1 (by omega), ?_⟩
      have hv2 : c = [] := List.length_eq_zero_iff.mp hv
      subst hv2
      simp [ey3, sIf, mAnd, mOr, mNot, mT, mTru, eBin, gGe, gI0, gPow, gI, CPow, eC, eVar, O.bind, sE, gGt, gLt, gLe, gEq, gNe, eqS, sSeq, sDrop, eAppend, eCall, argc, aCons, aNil, gInt, gOne, gMod, gDiv, CDiv, sAsg, gAdd, Ms.gSub, gMul, sRet, sNext, sSub, setD, gIx, eTup, eLst, eLstT, gLen, lstOf, seqOf, eIf, eNeg, ec, ev, big, gTuple]
    · refine ⟨c, b, ⟨by omega, by omega⟩, ⟨by omega, c1, c2, c3⟩, ?_⟩
      simp [ey3, sIf, mAnd, mOr, mNot, mT, mTru, eBin, gGe, gI0, gPow, gI, CPow, eC, eVar, O.bind, sE, gGt, gLt, gLe, gEq, gNe, eqS, sSeq, sDrop, eAppend, eCall, argc, aCons, aNil, gInt, gOne, gMod, gDiv, CDiv, sAsg, gAdd, Ms.gSub, gMul, sRet, sNext, sSub, setD, gIx, eTup, eLst, eLstT, gLen, lstOf, seqOf, eIf, eNeg, ec, ev, big, gTuple, hv]
  · refine ⟨e, a, ⟨by omega, by omega⟩, he, ?_⟩
    simp [ey3, sIf, mAnd, mOr, mNot, mT, mTru, eBin, gGe, gI0, gPow, gI, CPow, eC, eVar, O.bind, sE, gGt, gLt, gLe, gEq, gNe, eqS, sSeq, sDrop, eAppend, eCall, argc, aCons, aNil, gInt, gOne, gMod, gDiv, CDiv, sAsg, gAdd, Ms.gSub, gMul, sRet, sNext, sSub, setD, gIx, eTup, eLst, eLstT, gLen, lstOf, seqOf, eIf, eNeg, h, big]
end
theorem eyes_ok {rs : List Int} (hr : 0 < rs.length) (hr2 : rs.length ≤ 144) {a : Int} (h0 : 0 ≤ a) (h1 : a < 10000) {n : Nat} (hn : n ≤ 4) :
    ∃ (es : List (List Int)) (b : Int), Up 100 a b ∧ es.length = n ∧ (∀ e ∈ es, Eye e) ∧ m__law_eyes [pl rs, .int n] (HP a) = .ok (.tup (es.map tD)) (HP b) := by
  obtain ⟨way, w0, w1, ew⟩ := draw_ok hr hr2 h0 (by omega) (many := 4) (by omega)
  obtain ⟨l, h, e, es, b, l4, l5, q1, q2, q3, q4, q5, q6⟩ := forI (it := ⟨rngD 0 n, none⟩) (g := tgName 4) (body := eyB) rfl (rngD 0 n)
    (fun j loc hp => ∃ (es : List (List Int)) (b : Int) (l4 l5 : Option D), loc = [some (pl rs), some (.int n), some (.int way), some (.tup (es.map tD)), l4, l5, none] ∧ hp = HP b ∧ a ≤ b ∧ b ≤ a + 1 + 8 * j ∧ es.length = j ∧ (∀ e ∈ es, Eye e)) (by
      rintro j d hd loc hp ⟨es, b, l4, l5, rfl, rfl, q1, q2, q3, q4⟩
      obtain ⟨rfl, hj⟩ := rng_at hd
      have hz : es.length + 1 ≤ 1000000 := by omega
      obtain ⟨e1, b1, u1, g1, r1⟩ := ey1_ok hr hr2 (a := b) (by omega) (by omega) (n := n) w0 (x3 := .tup (es.map tD)) (x4 := some (.int j)) (x6 := none) (eye1 (v := j) (by omega))
      obtain ⟨e2, b2, u2, g2, r2⟩ := ey2_ok hr hr2 (a := b1) (by omega) (by omega) (n := n) (way := way) (x3 := .tup (es.map tD)) (x4 := some (.int j)) (x6 := none) g1
      obtain ⟨e3, b3, u3, g3, r3⟩ := ey3_ok hr hr2 (a := b2) (by omega) (by omega) (n := n) (way := way) (x3 := .tup (es.map tD)) (x4 := some (.int j)) (x6 := none) g2
      refine ⟨_, rfl, _, HP b3, ?_, es ++ [e3], b3, some (.int j), some (tD e3), rfl, rfl, by omega, by omega, by simp [q3], fun x hx => ?_⟩
      · have r0 : sAsg (eTup (aCons (eVar 4) aNil)) 5 [some (pl rs), some (.int n), some (.int way), some (.tup (es.map tD)), some (.int j), l5, none] (HP b) = .nx [some (pl rs), some (.int n), some (.int way), some (.tup (es.map tD)), some (.int j), some (tD [(j : Int)]), none] (HP b) := by
          simp [sIf, mAnd, mOr, mNot, mT, mTru, eBin, gGe, gI0, gPow, gI, CPow, eC, eVar, O.bind, sE, gGt, gLt, gLe, gEq, gNe, eqS, sSeq, sDrop, eAppend, eCall, argc, aCons, aNil, gInt, gOne, gMod, gDiv, CDiv, sAsg, gAdd, Ms.gSub, gMul, sRet, sNext, sSub, setD, gIx, eTup, eLst, eLstT, gLen, lstOf, seqOf, eIf, eNeg, big]
        have r4 : sAsg (eBin gAdd (eVar 3) (eTup (aCons (eVar 5) aNil))) 3 [some (pl rs), some (.int n), some (.int way), some (.tup (es.map tD)), some (.int j), some (tD e3), none] (HP b3) = .nx [some (pl rs), some (.int n), some (.int way), some (.tup ((es ++ [e3]).map tD)), some (.int j), some (tD e3), none] (HP b3) := by
          simp [sIf, mAnd, mOr, mNot, mT, mTru, eBin, gGe, gI0, gPow, gI, CPow, eC, eVar, O.bind, sE, gGt, gLt, gLe, gEq, gNe, eqS, sSeq, sDrop, eAppend, eCall, argc, aCons, aNil, gInt, gOne, gMod, gDiv, CDiv, sAsg, gAdd, Ms.gSub, gMul, sRet, sNext, sSub, setD, gIx, eTup, eLst, eLstT, gLen, lstOf, seqOf, eIf, eNeg, big, hz]
        simp only [List.set_cons_succ, List.set_cons_zero]
        unfold eyB sSeq
        rw [r0]
        simp only
        rw [r1]
        simp only
        rw [r2]
        simp only
        rw [r3]
        exact r4
      · rw [List.mem_append] at hx
        rcases hx with hx | hx
        · exact q4 x hx
        · simp at hx; subst hx; exact g3)
    (rngD 0 n) [] [some (pl rs), some (.int n), some (.int way), some (.tup []), none, none, none] (HP (a + 1)) rfl ⟨[], a + 1, none, none, rfl, rfl, by omega, by simp, by simp, by simp⟩
  subst q1 q2
  rw [rng_len] at q4 q5
  refine ⟨es, b, ⟨q3, by omega⟩, q5, q6, ?_⟩
  refine fn_rt (l := 7) (body := (sSeq (sAsg (eCall (argc 2 m__law_draw) (aCons (eVar 0) (aCons (eC (.int 4)) aNil))) 2) (sSeq (sAsg (eTup aNil) 3) (sSeq (sFor (iRg1 (aCons (eVar 1) aNil)) (tgName 4) eyB) (sRet (eVar 3)))))) (d := .tup (es.map tD)) ?_ (by simp [frz, okD, ok_tups])
  have hk : -1000000 ≤ (n : Int) ∧ (n : Int) ≤ 1000000 := by omega
  simp [sIf, mAnd, mOr, mNot, mT, mTru, eBin, gGe, gI0, gPow, gI, CPow, eC, eVar, O.bind, sE, gGt, gLt, gLe, gEq, gNe, eqS, sSeq, sDrop, eAppend, eCall, argc, aCons, aNil, gInt, gOne, gMod, gDiv, CDiv, sAsg, gAdd, Ms.gSub, gMul, sRet, sNext, sSub, setD, gIx, eTup, eLst, eLstT, gLen, lstOf, seqOf, eIf, eNeg, sFor, iRg1, ew, hk, lim, big]
  rw [e]
  simp
/-! _law_guard -/
structure Row (n : Nat) (r : List Int) : Prop where
  four : r.length = 4
  lo : ∀ v ∈ r, 0 ≤ v ∧ v < n
structure Bar (n : Nat) (r : List Int) : Prop where
  le : r.length ≤ n
  up : r.Pairwise (· < ·)
  lo : ∀ v ∈ r, 0 ≤ v ∧ v < n
def gdI : SM := (sAsg (eBin gAdd (eVar 7) (eTup (aCons (eCall (argc 2 m__law_draw) (aCons (eVar 0) (aCons (eVar 3) aNil))) aNil))) 7)
def gdF : SM := sFor (iRg1 (aCons (eC (.int 4)) aNil)) (tgName 8) gdI
def gdB : SM := (sSeq (sAsg (eTup aNil) 7) (sSeq gdF (sSeq (sAsg (eBin gAdd (eVar 4) (eTup (aCons (eVar 7) aNil))) 4)
    (sAsg (eBin gAdd (eVar 5) (eTup (aCons (eCall (argc 3 m__law_some) (aCons (eVar 0) (aCons (eVar 1) (aCons (eC (.int 2)) aNil)))) aNil))) 5))))
theorem gdF_ok {rs : List Int} (hr : 0 < rs.length) (hr2 : rs.length ≤ 144) {a : Int} (h0 : 0 ≤ a) (h1 : a < 10000) {n : Nat} (hn : 0 < n) {x1 x2 : D} {x4 x5 x6 x8 : Option D} :
    ∃ (r : List Int) (b : Int) (y8 : Option D), Up 4 a b ∧ Row n r ∧ gdF [some (pl rs), some x1, some x2, some (.int n), x4, x5, x6, some (.tup []), x8] (HP a) = .nx [some (pl rs), some x1, some x2, some (.int n), x4, x5, x6, some (tD r), y8] (HP b) := by
  obtain ⟨l, h, e, r, b, l8, q1, q2, q3, q4, q5, q6⟩ := forI (it := ⟨rngD 0 4, none⟩) (g := tgName 8) (body := gdI) rfl (rngD 0 4)
    (fun j loc hp => ∃ (r : List Int) (b : Int) (l8 : Option D), loc = [some (pl rs), some x1, some x2, some (.int n), x4, x5, x6, some (tD r), l8] ∧ hp = HP b ∧ a ≤ b ∧ b ≤ a + j ∧ r.length = j ∧ (∀ v ∈ r, 0 ≤ v ∧ v < n)) (by
      rintro j d hd loc hp ⟨r, b, l8, rfl, rfl, q1, q2, q3, q4⟩
      obtain ⟨rfl, hj⟩ := rng_at hd
      obtain ⟨v, v0, v1, ev⟩ := draw_ok hr hr2 (a := b) (by omega) (by omega) (many := n) (by omega)
      have hz : r.length + 1 ≤ 1000000 := by omega
      refine ⟨_, rfl, _, HP (b + 1), ?_, r ++ [v], b + 1, some (.int j), rfl, rfl, by omega, by omega, by simp [q3], fun x hx => ?_⟩
      · simp [gdI, sIf, mAnd, mOr, mNot, mT, mTru, eBin, gGe, gI0, gPow, gI, CPow, eC, eVar, O.bind, sE, gGt, gLt, gLe, gEq, gNe, eqS, sSeq, sDrop, eAppend, eCall, argc, aCons, aNil, gInt, gOne, gMod, gDiv, CDiv, sAsg, gAdd, Ms.gSub, gMul, sRet, sNext, sSub, setD, gIx, eTup, eLst, eLstT, gLen, lstOf, seqOf, eIf, eNeg, ev, big, hz]
      · rw [List.mem_append] at hx
        rcases hx with hx | hx
        · exact q4 x hx
        · simp at hx; omega)
    (rngD 0 4) [] [some (pl rs), some x1, some x2, some (.int n), x4, x5, x6, some (tD []), x8] (HP a) rfl ⟨[], a, x8, rfl, rfl, by omega, by simp, by simp, by simp⟩
  subst q1 q2
  rw [rng_len] at q4 q5
  refine ⟨r, b, l8, ⟨q3, by omega⟩, ⟨q5, q6⟩, ?_⟩
  simp only [gdF, sFor, iRg1, aCons, aNil, eC, O.bind, sE]
  exact e
abbrev rowsD (gs : List (List Int × List Int)) : D := .tup (gs.map fun g => tD g.1)
abbrev barsD (gs : List (List Int × List Int)) : D := .tup (gs.map fun g => tD g.2)
theorem gdB_ok {rs : List Int} (hr : 0 < rs.length) (hr2 : rs.length ≤ 144) {a : Int} (h0 : 0 ≤ a) (h1 : a < 10000) {n k : Nat} (hn : 0 < n) (hk : k ≤ 4) {x2 : D} {x6 x7 x8 : Option D} {gs : List (List Int × List Int)} (hg : gs.length ≤ 10) :
    ∃ (g : List Int × List Int) (b : Int) (y7 y8 : Option D), Up 104 a b ∧ Row n g.1 ∧ Bar k g.2 ∧ gdB [some (pl rs), some (.int k), some x2, some (.int n), some (rowsD gs), some (barsD gs), x6, x7, x8] (HP a) = .nx [some (pl rs), some (.int k), some x2, some (.int n), some (rowsD (gs ++ [g])), some (barsD (gs ++ [g])), x6, y7, y8] (HP b) := by
  obtain ⟨r, b, y8, u, hrow, e⟩ := gdF_ok hr hr2 h0 h1 hn (x1 := .int k) (x2 := x2) (x4 := some (rowsD gs)) (x5 := some (barsD gs)) (x6 := x6) (x8 := x8)
  obtain ⟨vs, b2, u2, p1, p2, p3, e2⟩ := some_ok hr hr2 (a := b) (by omega) (by omega) (n := k) (by omega) (lean := 2) (by omega)
  refine ⟨(r, vs), b2, some (tD r), y8, ⟨by omega, by omega⟩, hrow, ⟨p3, p1, p2⟩, ?_⟩
  have r0 : sAsg (eTup aNil) 7 [some (pl rs), some (.int k), some x2, some (.int n), some (rowsD gs), some (barsD gs), x6, x7, x8] (HP a) = .nx [some (pl rs), some (.int k), some x2, some (.int n), some (rowsD gs), some (barsD gs), x6, some (.tup []), x8] (HP a) := by
    simp [sIf, mAnd, mOr, mNot, mT, mTru, eBin, gGe, gI0, gPow, gI, CPow, eC, eVar, O.bind, sE, gGt, gLt, gLe, gEq, gNe, eqS, sSeq, sDrop, eAppend, eCall, argc, aCons, aNil, gInt, gOne, gMod, gDiv, CDiv, sAsg, gAdd, Ms.gSub, gMul, sRet, sNext, sSub, setD, gIx, eTup, eLst, eLstT, gLen, lstOf, seqOf, eIf, eNeg, big]
  have hz : gs.length + 1 ≤ 1000000 := by omega
  unfold gdB sSeq
  rw [r0]
  simp only
  rw [e]
  simp [sIf, mAnd, mOr, mNot, mT, mTru, eBin, gGe, gI0, gPow, gI, CPow, eC, eVar, O.bind, sE, gGt, gLt, gLe, gEq, gNe, eqS, sSeq, sDrop, eAppend, eCall, argc, aCons, aNil, gInt, gOne, gMod, gDiv, CDiv, sAsg, gAdd, Ms.gSub, gMul, sRet, sNext, sSub, setD, gIx, eTup, eLst, eLstT, gLen, lstOf, seqOf, eIf, eNeg, big, e2, hz]
theorem guard_ok {rs : List Int} (hr : 0 < rs.length) (hr2 : rs.length ≤ 144) {a : Int} (h0 : 0 ≤ a) (h1 : a < 1000) {k : Nat} (hk : k ≤ 4) :
    ∃ (gs : List (List Int × List Int)) (b : Int), Up 1000 a b ∧ 1 ≤ gs.length ∧ gs.length ≤ 4 ∧ (∀ g ∈ gs, Row gs.length g.1 ∧ Bar k g.2) ∧ m__law_guard [pl rs, .int k, .int 4] (HP a) = .ok (.tup [rowsD gs, barsD gs]) (HP b) := by
  obtain ⟨m, m0, m1, em⟩ := draw_ok hr hr2 h0 (by omega) (many := 4) (by omega)
  obtain ⟨w, hw⟩ : ∃ w : Nat, 1 + m = (w : Int) := Int.eq_ofNat_of_zero_le (by omega)
  obtain ⟨l, h, e, gs, b, l6, l7, l8, q1, q2, q3, q4, q5, q6⟩ := forI (it := ⟨rngD 0 w, none⟩) (g := tgName 6) (body := gdB) rfl (rngD 0 w)
    (fun j loc hp => ∃ (gs : List (List Int × List Int)) (b : Int) (l6 l7 l8 : Option D), loc = [some (pl rs), some (.int k), some (.int 4), some (.int w), some (rowsD gs), some (barsD gs), l6, l7, l8] ∧ hp = HP b ∧ a ≤ b ∧ b ≤ a + 1 + 104 * j ∧ gs.length = j ∧ (∀ g ∈ gs, Row w g.1 ∧ Bar k g.2)) (by
      rintro j d hd loc hp ⟨gs, b, l6, l7, l8, rfl, rfl, q1, q2, q3, q4⟩
      obtain ⟨rfl, hj⟩ := rng_at hd
      obtain ⟨g, b1, y7, y8, u, g1, g2, eg⟩ := gdB_ok hr hr2 (a := b) (by omega) (by omega) (n := w) (k := k) (by omega) hk (x2 := .int 4) (x6 := some (.int j)) (x7 := l7) (x8 := l8) (gs := gs) (by omega)
      refine ⟨_, rfl, _, HP b1, eg, gs ++ [g], b1, some (.int j), y7, y8, rfl, rfl, by omega, by omega, by simp [q3], fun x hx => ?_⟩
      rw [List.mem_append] at hx
      rcases hx with hx | hx
      · exact q4 x hx
      · simp at hx; subst hx; exact ⟨g1, g2⟩)
    (rngD 0 w) [] [some (pl rs), some (.int k), some (.int 4), some (.int w), some (rowsD []), some (barsD []), none, none, none] (HP (a + 1)) rfl ⟨[], a + 1, none, none, none, rfl, rfl, by omega, by simp, by simp, by simp⟩
  subst q1 q2
  rw [rng_len] at q4 q5
  refine ⟨gs, b, ⟨by omega, by omega⟩, by omega, by omega, by rw [q5]; exact q6, ?_⟩
  refine fn_rt (l := 9) (body := (sSeq (sAsg (eBin gAdd (eC (.int 1)) (eCall (argc 2 m__law_draw) (aCons (eVar 0) (aCons (eVar 2) aNil)))) 3)
    (sSeq (sAsg (eTup aNil) 4) (sSeq (sAsg (eTup aNil) 5) (sSeq (sFor (iRg1 (aCons (eVar 3) aNil)) (tgName 6) gdB) (sRet (eTup (aCons (eVar 4) (aCons (eVar 5) aNil))))))))) (d := .tup [rowsD gs, barsD gs]) ?_ (by simp [frz, okD, okL, ok_map, ok_ints])
  have hk : -1000000 ≤ (w : Int) ∧ (w : Int) ≤ 1000000 := by omega
  simp [sIf, mAnd, mOr, mNot, mT, mTru, eBin, gGe, gI0, gPow, gI, CPow, eC, eVar, O.bind, sE, gGt, gLt, gLe, gEq, gNe, eqS, sSeq, sDrop, eAppend, eCall, argc, aCons, aNil, gInt, gOne, gMod, gDiv, CDiv, sAsg, gAdd, Ms.gSub, gMul, sRet, sNext, sSub, setD, gIx, eTup, eLst, eLstT, gLen, lstOf, seqOf, eIf, eNeg, sFor, iRg1, em, hw, hk, lim, big]
  simp only [rowsD, barsD, List.map_nil] at e
  rw [e]
  simp
end G80

namespace G80
open PySem hiding Loc
open L2 Ms
/-- the text of a number -/
def tx (i : Int) : Str := Str.ofString (toString i)
abbrev Sm (i : Int) : Prop := (0 ≤ i ∧ i ≤ 15) ∨ i = 999999999
theorem Sm.cases {i : Int} (h : Sm i) : i = 0 ∨ i = 1 ∨ i = 2 ∨ i = 3 ∨ i = 4 ∨ i = 5 ∨ i = 6 ∨ i = 7 ∨ i = 8 ∨ i = 9 ∨ i = 10 ∨ i = 11 ∨ i = 12 ∨ i = 13 ∨ i = 14 ∨ i = 15 ∨ i = 999999999 := by unfold Sm at h; omega
theorem str_ok {i : Int} (h : Sm i) (hp : HM) : gStrI [.int i] hp = .ok (.str (tx i)) hp := by
  have : i.natAbs.log2 < 1920 := by rcases h.cases with rfl | rfl | rfl | rfl | rfl | rfl | rfl | rfl | rfl | rfl | rfl | rfl | rfl | rfl | rfl | rfl | rfl <;> decide +kernel
  simp [gStrI, gOne, this, tx]
theorem num_ok {a i : Int} (h : Sm i) : m_number_of [.str (tx i)] (HP a) = .ok (.int i) (HP a) := by
  rcases h.cases with rfl | rfl | rfl | rfl | rfl | rfl | rfl | rfl | rfl | rfl | rfl | rfl | rfl | rfl | rfl | rfl | rfl <;> kernel_rfl
theorem tx_len {i : Int} (h : Sm i) : (tx i).length ≤ 9 := by
  rcases h.cases with rfl | rfl | rfl | rfl | rfl | rfl | rfl | rfl | rfl | rfl | rfl | rfl | rfl | rfl | rfl | rfl | rfl <;> decide +kernel
theorem tx_free {i : Int} (h : Sm i) {s : Nat} (hs : s < 48 ∨ 57 < s) : s ∉ TL.tl (tx i) := by
  obtain ⟨n, rfl⟩ := Int.eq_ofNat_of_zero_le (a := i) (by rcases h with h | h <;> omega)
  show s ∉ TL.tl (Str.ofString (toString ((n : Nat) : Int)))
  rw [TL.tl_num]
  exact TL.numL_free hs
/-- the text of a sign -/
def sg (i : Int) : Str := if i = -1 then "-" else tx i
abbrev Sg (i : Int) : Prop := i = -1 ∨ Sm i
theorem sg_neg : sg (-1) = "-" := rfl
theorem sg_num {i : Int} (h : Sm i) : sg i = tx i := by
  unfold sg
  rw [if_neg (by rcases h with h | h <;> omega)]
theorem sg_len {i : Int} (h : Sg i) : (sg i).length ≤ 9 := by
  rcases h with rfl | h
  · decide +kernel
  · rw [sg_num h]; exact tx_len h
theorem sg_free {i : Int} (h : Sg i) {s : Nat} (hs : s < 45 ∨ 57 < s) : s ∉ TL.tl (sg i) := by
  rcases h with rfl | h
  · rw [sg_neg]
    show s ∉ [45]
    simp; omega
  · rw [sg_num h]; exact tx_free h (by omega)
theorem rsign_ok {a i : Int} (h : Sg i) : m_read_sign [.str (sg i)] (HP a) = .ok (.int i) (HP a) := by
  rcases h with rfl | h
  · kernel_rfl
  · rcases h.cases with rfl | rfl | rfl | rfl | rfl | rfl | rfl | rfl | rfl | rfl | rfl | rfl | rfl | rfl | rfl | rfl | rfl <;> kernel_rfl
theorem wsign_ok {a i : Int} (h : Sg i) : m_sign_of [.int i] (HP a) = .ok (.str (sg i)) (HP a) := by
  rcases h with rfl | h
  · kernel_rfl
  · rcases h.cases with rfl | rfl | rfl | rfl | rfl | rfl | rfl | rfl | rfl | rfl | rfl | rfl | rfl | rfl | rfl | rfl | rfl <;> kernel_rfl
theorem lsign_ok {a i : Int} (h : Sg i) : m__law_sign [.int i] (HP a) = .ok (.str (sg i)) (HP a) := by
  rcases h with rfl | h
  · kernel_rfl
  · rcases h.cases with rfl | rfl | rfl | rfl | rfl | rfl | rfl | rfl | rfl | rfl | rfl | rfl | rfl | rfl | rfl | rfl | rfl <;> kernel_rfl
theorem req_ok (a : Int) : m_require [.bl true] (HP a) = .ok .non (HP a) := by kernel_rfl
abbrev bt : Exn := ⟨"BadText", none⟩
theorem req_bad (a : Int) : m_require [.bl false] (HP a) = .exc bt (HP a) := by kernel_rfl
/-! joins -/
theorem len_app (x y : Str) : (x ++ y).length = x.length + y.length := by
  rw [TL.len_tl (x ++ y), TL.tl_append, List.length_append, ← TL.len_tl, ← TL.len_tl]
theorem joinL_snoc (S : List Nat) (w : List Nat) : ∀ l : List (List Nat), l ≠ [] → TL.joinL S (l ++ [w]) = TL.joinL S l ++ (S ++ w)
  | [], h => absurd rfl h
  | [p], _ => rfl
  | p :: q :: r, _ => by
    show p ++ (S ++ TL.joinL S (q :: r ++ [w])) = (p ++ (S ++ TL.joinL S (q :: r))) ++ (S ++ w)
    rw [joinL_snoc S w (q :: r) (by simp)]
    simp
theorem joinL_len (S : List Nat) (L : Nat) : ∀ l : List (List Nat), (∀ w ∈ l, w.length ≤ L) → (TL.joinL S l).length ≤ l.length * (L + S.length)
  | [], _ => by simp [TL.joinL]
  | [p], h => by
    have := h p (by simp)
    simp [TL.joinL]; omega
  | p :: q :: r, h => by
    have h1 := h p (by simp)
    have h2 := joinL_len S L (q :: r) (fun w hw => h w (by simp at hw ⊢; right; exact hw))
    show (p ++ (S ++ TL.joinL S (q :: r))).length ≤ (q :: r).length.succ * (L + S.length)
    rw [Nat.succ_mul, List.length_append, List.length_append]
    omega
theorem joinL_free {S : List Nat} {s : Nat} (hS : s ∉ S) : ∀ l : List (List Nat), (∀ w ∈ l, s ∉ w) → s ∉ TL.joinL S l
  | [], _ => by simp [TL.joinL]
  | [p], h => h p (by simp)
  | p :: q :: r, h => by
    have h2 := joinL_free hS (q :: r) (fun w hw => h w (by simp at hw ⊢; right; exact hw))
    show s ∉ p ++ (S ++ TL.joinL S (q :: r))
    simp only [List.mem_append, not_or]
    exact ⟨h p (by simp), hS, h2⟩
theorem tl_j (y : Str) (ws : List Str) : TL.tl (Txt.join y ws) = TL.joinL (TL.tl y) (ws.map TL.tl) := by rw [TL.join_eq, TL.tl_join]
theorem join_len {y : Str} {ws : List Str} {L : Nat} (h : ∀ w ∈ ws, w.length ≤ L) : (Txt.join y ws).length ≤ ws.length * (L + y.length) := by
  rw [TL.len_tl, tl_j, TL.len_tl y]
  have := joinL_len (TL.tl y) L (ws.map TL.tl) (by
    intro w hw
    obtain ⟨z, hz, rfl⟩ := List.mem_map.mp hw
    rw [← TL.len_tl]; exact h z hz)
  simpa using this
theorem join_free {y : Str} {s : Nat} (hy : s ∉ TL.tl y) {ws : List Str} (h : ∀ w ∈ ws, s ∉ TL.tl w) : s ∉ TL.tl (Txt.join y ws) := by
  rw [tl_j]
  refine joinL_free hy _ fun w hw => ?_
  obtain ⟨z, hz, rfl⟩ := List.mem_map.mp hw
  exact h z hz
theorem join_snoc (y w : Str) {l : List Str} (h : l ≠ []) : Txt.join y (l ++ [w]) = Txt.join y l ++ y ++ w := by
  refine TL.ext_tl ?_
  rw [TL.tl_append, TL.tl_append, tl_j, tl_j, List.map_append, List.map_cons, List.map_nil, joinL_snoc _ _ _ (by simpa using h), List.append_assoc]
theorem join_one (y w : Str) : Txt.join y [w] = w := by
  refine TL.ext_tl ?_
  rw [tl_j]; rfl
/-- few and short -/
structure Few (ws : List Str) : Prop where
  few : ws.length ≤ 12
  sh : ∀ w ∈ ws, w.length ≤ 1000
theorem Few.len {ws : List Str} (h : Few ws) {y : Str} (hy : y.length ≤ 1) : (Txt.join y ws).length ≤ 13000 := by
  have h1 := join_len (y := y) h.sh
  have h2 : ws.length * (1000 + y.length) ≤ 12 * 1001 := Nat.mul_le_mul h.few (by omega)
  omega
theorem Few.take {ws : List Str} (h : Few ws) (j : Nat) : Few (ws.take j) := ⟨by rw [List.length_take]; have := h.few; omega, fun w hw => h.sh w (List.mem_of_mem_take hw)⟩
def jB : SM := (sSeq (sIf (mT (eBin gGt (eVar 3) (eC (.int 0)))) (sAsg (eBin gAdd (eVar 2) (eVar 0)) 2) sNext) (sAsg (eBin gAdd (eVar 2) (eBin gIx (eVar 1) (eVar 3))) 2))
theorem ljoin_ok {y : Str} (hy : y.length ≤ 1) {ws : List Str} (hw : Few ws) (a : Int) : m__law_join [.str y, .lst (ws.map .str)] (HP a) = .ok (.str (Txt.join y ws)) (HP a) := by
  obtain ⟨l, h, e, l3, q1, q2⟩ := forI (it := ⟨rngD 0 ws.length, none⟩) (g := tgName 3) (body := jB) rfl (rngD 0 ws.length)
    (fun j loc hp => ∃ l3, loc = [some (.str y), some (.lst (ws.map .str)), some (.str (Txt.join y (ws.take j))), l3] ∧ hp = HP a) (by
      rintro j d hd loc hp ⟨l3, rfl, rfl⟩
      obtain ⟨rfl, hj⟩ := rng_at hd
      refine ⟨_, rfl, _, HP a, ?_, some (.int j), rfl, rfl⟩
      have ex : atI (ws.map D.str) (j : Int) = some (.str ws[j]) := atI_nat (by simp [hj])
      have l1 := (hw.take j).len hy
      have l2 := hw.sh ws[j] (by simp)
      rw [List.take_succ_eq_append_getElem hj]
      by_cases h0 : 0 < j
      · have h0' : (0 : Int) < j := by omega
        have hz1 : (Txt.join y (ws.take j)).length + y.length ≤ 1000000 := by omega
        have hz2 : (Txt.join y (ws.take j) ++ y).length + ws[j].length ≤ 1000000 := by
          rw [len_app]; omega
        rw [join_snoc y ws[j] (by intro hh; have := congrArg List.length hh; rw [List.length_take, List.length_nil] at this; omega)]
        simp only [jB, sSeq, sIf, sAsg, sE, mT, eBin, eVar, eC, O.bind, gGt, gI0, gIx, gAdd, seqOf, lstOf, List.set_cons_succ, List.set_cons_zero, List.getElem?_cons_succ, List.getElem?_cons_zero, h0', decide_true, if_true, big, hz1, hz2, ex]
      · have hj0 : j = 0 := by omega
        subst hj0
        rw [List.take_zero, List.nil_append, join_one]
        have je : Txt.join y [] = "" := rfl
        have hz2 : ("" : Str).length + ws[0].length ≤ 1000000 := by
          have : ("" : Str).length = 0 := rfl
          omega
        have ea : ("" : Str) ++ ws[0] = ws[0] := TL.ext_tl (by rw [TL.tl_append]; rfl)
        have ex0 : atI (ws.map D.str) 0 = some (.str ws[0]) := ex
        simp [jB, sIf, mAnd, mOr, mNot, mT, mTru, eBin, gGe, gI0, gPow, gI, CPow, eC, eVar, O.bind, sE, gGt, gLt, gLe, gEq, gNe, eqS, sSeq, sDrop, eAppend, eCall, argc, aCons, aNil, gInt, gOne, gMod, gDiv, CDiv, sAsg, gAdd, Ms.gSub, gMul, sRet, sNext, sSub, setD, gIx, eTup, eLst, eLstT, gLen, lstOf, seqOf, eIf, eNeg, je, hz2, ex0, big, ea])
    (rngD 0 ws.length) [] [some (.str y), some (.lst (ws.map .str)), some (.str ""), none] (HP a) rfl ⟨none, rfl, rfl⟩
  subst q1 q2
  refine fn_rt (l := 4) (body := (sSeq (sAsg (eC (.str "")) 2) (sSeq (sFor (iRg1 (aCons (eCall gLen (aCons (eVar 1) aNil)) aNil)) (tgName 3) jB) (sRet (eVar 2))))) (d := .str (Txt.join y ws)) ?_ (by simp [frz, okD])
  have hk : -1000000 ≤ (ws.length : Int) ∧ (ws.length : Int) ≤ 1000000 := by have := hw.few; omega
  simp [sIf, mAnd, mOr, mNot, mT, mTru, eBin, gGe, gI0, gPow, gI, CPow, eC, eVar, O.bind, sE, gGt, gLt, gLe, gEq, gNe, eqS, sSeq, sDrop, eAppend, eCall, argc, aCons, aNil, gInt, gOne, gMod, gDiv, CDiv, sAsg, gAdd, Ms.gSub, gMul, sRet, sNext, sSub, setD, gIx, eTup, eLst, eLstT, gLen, lstOf, seqOf, eIf, eNeg, sFor, iRg1, hk, lim, big]
  rw [e, rng_len]
  simp
theorem strsOf_map : ∀ ws : List Str, strsOf (ws.map D.str) = some ws
  | [] => rfl
  | w :: ws => by simp [strsOf, strsOf_map ws]
theorem sum_le : ∀ {ws : List Str}, (∀ w ∈ ws, w.length ≤ 1000) → (ws.map (·.length)).sum ≤ ws.length * 1000
  | [], _ => by simp
  | w :: ws, h => by
    have h1 := h w (by simp)
    have h2 := sum_le (ws := ws) (fun x hx => h x (by simp [hx]))
    simp only [List.map_cons, List.sum_cons, List.length_cons, Nat.succ_mul]
    omega
theorem join_ok {y : Str} (hy : y.length ≤ 1) {ws : List Str} (hw : Few ws) (hp : HM) : gJoin (.str y) (.lst (ws.map .str)) hp = .ok (.str (Txt.join y ws)) hp := by
  have h1 := sum_le hw.sh
  have h2 : ws.length * y.length ≤ 12 * 1 := Nat.mul_le_mul hw.few hy
  have h3 := hw.few
  have h4 : (ws.map (·.length)).sum + ws.length * y.length ≤ 1000000 := by omega
  simp only [gJoin, seqOf, lstOf, strsOf_map, big, h4, if_true]
/-! comprehensions over tuples and lists -/
theorem seq_tup {f : EM} {loc : Loc} {hp : HM} {ds : List D} (h : f loc hp = .ok (.tup ds) hp) : iSeq f loc hp = .ok ⟨ds, none⟩ hp := by simp [iSeq, h, O.bind]
theorem seq_lst {f : EM} {loc : Loc} {hp : HM} {ds : List D} (h : f loc hp = .ok (.lst ds) hp) : iSeq f loc hp = .ok ⟨ds, none⟩ hp := by simp [iSeq, h, O.bind]
theorem comp_ok {i : IM} {g : Tg} {fe : EM} {own : List Nat} {loc : Loc} {hp : HM} {α : Type} {xs : List α} {dom out : α → D} (hi : i loc hp = .ok ⟨xs.map dom, none⟩ hp)
    (he : ∀ x ∈ xs, ∃ l, g (dom x) (wipeL loc own) = some l ∧ fe l hp = .ok (out x) hp) (hz : xs.length ≤ 1000) : eComp i g mYes fe own loc hp = .ok (.lst (xs.map out)) hp :=
  comp_val hi (by
    have := compP (it := ⟨xs.map dom, none⟩) (g := g) (ft := mYes) (fe := fe) (loc := wipeL loc own) rfl dom out (hp := hp) xs [] (fun x hx => by
      obtain ⟨l, e1, e2⟩ := he x hx
      exact ⟨l, e1, rfl, e2⟩) (by simp [big]; omega)
    simpa using this) (by simp; omega)
theorem comp_exc {i : IM} {g : Tg} {fe : EM} {own : List Nat} {loc : Loc} {hp : HM} {α : Type} {xs : List α} {dom out : α → D} {d : D} {ds : List D} {x : Exn} (hi : i loc hp = .ok ⟨xs.map dom ++ d :: ds, none⟩ hp)
    (hd : ∃ l, g d (wipeL loc own) = some l ∧ fe l hp = .exc x hp)
    (he : ∀ x ∈ xs, ∃ l, g (dom x) (wipeL loc own) = some l ∧ fe l hp = .ok (out x) hp) (hz : xs.length ≤ 1000) : eComp i g mYes fe own loc hp = .exc x hp := by
  have := compX (it := ⟨xs.map dom ++ d :: ds, none⟩) (g := g) (ft := mYes) (fe := fe) (loc := wipeL loc own) rfl dom out (hp := hp) (d := d) (ds := ds) (x := x) (by
      obtain ⟨l, e1, e2⟩ := hd
      exact ⟨l, e1, rfl, e2⟩) xs [] (fun x hx => by
      obtain ⟨l, e1, e2⟩ := he x hx
      exact ⟨l, e1, rfl, e2⟩) (by simp [big]; omega)
  simp only [eComp, hi, O.bind, this]
end G80

namespace G80
open PySem hiding Loc
open L2 Ms
/-! sets and rows -/
def joinTx (y : Str) (vs : List Int) : Str := if vs = [] then "-" else Txt.join y (vs.map tx)
structure Sv (vs : List Int) : Prop where
  few : vs.length ≤ 12
  sm : ∀ v ∈ vs, Sm v
theorem Sv.tx {vs : List Int} (h : Sv vs) : Few (vs.map G80.tx) := ⟨by simpa using h.few, fun w hw => by
  obtain ⟨v, hv, rfl⟩ := List.mem_map.mp hw
  have := tx_len (h.sm v hv); omega⟩
def strC : EM := eComp (iSeq (eVar 0)) (tgName 1) mYes (eCall gStrI (aCons (eVar 1) aNil)) [1]
theorem strC_ok {vs : List Int} (h : Sv vs) (hp : HM) : strC [some (tD vs), none] hp = .ok (.lst ((vs.map tx).map .str)) hp := by
  have := comp_ok (i := iSeq (eVar 0)) (g := tgName 1) (fe := eCall gStrI (aCons (eVar 1) aNil)) (own := [1]) (loc := [some (tD vs), none]) (hp := hp) (xs := vs) (dom := .int) (out := fun v => .str (tx v)) (seq_tup rfl)
    (fun v hv => ⟨_, rfl, by simp [eCall, aCons, aNil, eVar, O.bind, wipeL, str_ok (h.sm v hv)]⟩) (by have := h.few; omega)
  rw [List.map_map]
  exact this
theorem wr_ok {y : Str} (hy : y.length ≤ 1) {vs : List Int} (h : Sv vs) (a : Int) : fnOf 1 2 (sRet (eIf (mT (eBin gGt (eCall gLen (aCons (eVar 0) aNil)) (eC (.int 0)))) (eM1 gJoin (eC (.str y)) strC) (eC (.str "-")))) [tD vs] (HP a) = .ok (.str (joinTx y vs)) (HP a) := by
  refine fn_rt (d := .str (joinTx y vs)) ?_ (by simp [frz, okD])
  have hl : ([tD vs].map some ++ List.replicate (2 - 1) (none : Option D)) = [some (tD vs), none] := rfl
  rw [hl]
  by_cases h0 : vs = []
  · subst h0; rfl
  · have h1 : 0 < vs.length := List.length_pos_iff.mpr h0
    have j := join_ok hy h.tx (HP a)
    rw [joinTx, if_neg h0]
    simp [sIf, mAnd, mOr, mNot, mT, mTru, eBin, gGe, gI0, gPow, gI, CPow, eC, eVar, O.bind, sE, gGt, gLt, gLe, gEq, gNe, eqS, sSeq, sDrop, eAppend, eCall, argc, aCons, aNil, gInt, gOne, gMod, gDiv, CDiv, sAsg, gAdd, Ms.gSub, gMul, sRet, sNext, sSub, setD, gIx, eTup, eLst, eLstT, gLen, lstOf, seqOf, eIf, eNeg, h1, eM1, strC_ok h, -List.map_map, j]
theorem wset_ok {vs : List Int} (h : Sv vs) (a : Int) : m_write_set [tD vs] (HP a) = .ok (.str (joinTx "," vs)) (HP a) := wr_ok (y := ",") (by decide +kernel) h a
theorem wrow_ok {vs : List Int} (h : Sv vs) (a : Int) : m_write_row [tD vs] (HP a) = .ok (.str (joinTx " " vs)) (HP a) := wr_ok (y := " ") (by decide +kernel) h a
theorem lt_ok {y : Str} (hy : y.length ≤ 1) {vs : List Int} (h : Sv vs) (a : Int) : fnOf 1 2 (sSeq (sIf (mT (eBin gEq (eCall gLen (aCons (eVar 0) aNil)) (eC (.int 0)))) (sRet (eC (.str "-"))) sNext) (sRet (eCall (argc 2 m__law_join) (aCons (eC (.str y)) (aCons strC aNil))))) [tD vs] (HP a) = .ok (.str (joinTx y vs)) (HP a) := by
  refine fn_rt (d := .str (joinTx y vs)) ?_ (by simp [frz, okD])
  have hl : ([tD vs].map some ++ List.replicate (2 - 1) (none : Option D)) = [some (tD vs), none] := rfl
  rw [hl]
  by_cases h0 : vs = []
  · subst h0; rfl
  · have j := ljoin_ok hy h.tx a
    rw [joinTx, if_neg h0]
    simp [sIf, mAnd, mOr, mNot, mT, mTru, eBin, gGe, gI0, gPow, gI, CPow, eC, eVar, O.bind, sE, gGt, gLt, gLe, gEq, gNe, eqS, sSeq, sDrop, eAppend, eCall, argc, aCons, aNil, gInt, gOne, gMod, gDiv, CDiv, sAsg, gAdd, Ms.gSub, gMul, sRet, sNext, sSub, setD, gIx, eTup, eLst, eLstT, gLen, lstOf, seqOf, eIf, eNeg, h0, strC_ok h, -List.map_map, j]
theorem lset_ok {vs : List Int} (h : Sv vs) (a : Int) : m__law_set_text [tD vs] (HP a) = .ok (.str (joinTx "," vs)) (HP a) := lt_ok (y := ",") (by decide +kernel) h a
theorem lrow_ok {vs : List Int} (h : Sv vs) (a : Int) : m__law_row_text [tD vs] (HP a) = .ok (.str (joinTx " " vs)) (HP a) := lt_ok (y := " ") (by decide +kernel) h a
/-! reading -/
def rdC (y : Str) (v : Nat) : EM := eComp (iSeq (eM1 gSplit (eVar 0) (eC (.str y)))) (tgName v) mYes (eCall (argc 1 m_number_of) (aCons (eVar v) aNil)) [v]
theorem split_ok {y t : Str} {ws : List Str} (hy : (y.length == 0) = false) (ht : t.length ≤ 1000000) (hs : Txt.split t y = ws) {f : EM} {loc : Loc} {hp : HM} (hf : f loc hp = .ok (.str t) hp) : eM1 gSplit f (eC (.str y)) loc hp = .ok (.lst (ws.map .str)) hp := by
  simp [eM1, hf, eC, O.bind, gSplit, hy, ht, hs, big]
theorem join_ne {y : Str} {s : Nat} {S : List Nat} (ey : TL.tl y = s :: S) (hne : 45 ∉ TL.tl y) {vs : List Int} (h : Sv vs) : joinTx y vs = "-" ↔ vs = [] := by
  constructor
  · intro e
    by_cases h0 : vs = []
    · exact h0
    · exfalso
      rw [joinTx, if_neg h0] at e
      have f := join_free (y := y) (s := 45) hne (ws := vs.map tx) (by
        intro w hw
        obtain ⟨v, hv, rfl⟩ := List.mem_map.mp hw
        exact tx_free (h.sm v hv) (by omega))
      rw [e] at f
      exact f (by show 45 ∈ [45]; simp)
  · rintro rfl; rfl
theorem split_tx {y : Str} {s : Nat} (ey : TL.tl y = [s]) (hs : s < 48 ∨ 57 < s) (hk : y.cps.all (· < 256) = true) {vs : List Int} (h : Sv vs) (h0 : vs ≠ []) : Txt.split (joinTx y vs) y = vs.map tx := by
  rw [joinTx, if_neg h0]
  refine TL.split_join ey hk (by simpa using h0) fun p hp => ?_
  obtain ⟨v, hv, rfl⟩ := List.mem_map.mp hp
  exact tx_free (h.sm v hv) hs
theorem nums_comp {f : EM} {v : Nat} {loc : Loc} {a : Int} {vs : List Int} (hv : v < loc.length) (h : Sv vs) (hf : f loc (HP a) = .ok (.lst ((vs.map tx).map .str)) (HP a)) : eComp (iSeq f) (tgName v) mYes (eCall (argc 1 m_number_of) (aCons (eVar v) aNil)) [v] loc (HP a) = .ok (.lst (vs.map .int)) (HP a) :=
  comp_ok (xs := vs) (dom := fun x => .str (tx x)) (out := .int) (by rw [List.map_map] at hf; exact seq_lst hf) (fun x hx => ⟨_, rfl, by simp [eCall, argc, aCons, aNil, eVar, O.bind, wipeL, hv, num_ok (h.sm x hx)]⟩) (by have := h.few; omega)
theorem joinTx_len {y : Str} (hy : y.length ≤ 1) {vs : List Int} (h : Sv vs) : (joinTx y vs).length ≤ 13000 := by
  unfold joinTx
  split
  · decide +kernel
  · exact h.tx.len hy
def ascC : EM := eComp (iRange2 (aCons (eC (.int 1)) (aCons (eCall gLen (aCons (eVar 0) aNil)) aNil))) (tgName 1) mYes (eBin gLt (eBin gIx (eVar 0) (eBin gSub (eVar 1) (eC (.int 1)))) (eBin gIx (eVar 0) (eVar 1))) [1]
theorem asc_ok {vs : List Int} (h : vs.length ≤ 1000) (hp : vs.Pairwise (· < ·)) (a : Int) : m_is_ascending [tD vs] (HP a) = .ok (.bl true) (HP a) := by
  have hl : ([tD vs].map some ++ List.replicate (2 - 1) (none : Option D)) = [some (tD vs), none] := rfl
  have e : ascC [some (tD vs), none] (HP a) = _ := comp_ok (i := iRange2 (aCons (eC (.int 1)) (aCons (eCall gLen (aCons (eVar 0) aNil)) aNil))) (g := tgName 1) (fe := eBin gLt (eBin gIx (eVar 0) (eBin gSub (eVar 1) (eC (.int 1)))) (eBin gIx (eVar 0) (eVar 1))) (own := [1]) (loc := [some (tD vs), none]) (hp := HP a) (xs := List.range (vs.length - 1)) (dom := fun k => .int (1 + (k : Int))) (out := fun _ => .bl true) (by
      have h1 : (-1000000 : Int) ≤ 1 ∧ (1 : Int) ≤ 1000000 ∧ (-1000000 : Int) ≤ vs.length ∧ (vs.length : Int) ≤ 1000000 := by omega
      have h2 : ((vs.length : Int) - 1).toNat = vs.length - 1 := by omega
      simp [iRange2, aCons, aNil, eC, eCall, gLen, gOne, O.bind, eVar, seqOf, lim, h1, rngD, h2])
    (fun k hk => by
      have hk2 : k + 1 < vs.length := by have := List.mem_range.mp hk; omega
      refine ⟨_, rfl, ?_⟩
      have e1 : atI (vs.map D.int) (k : Int) = some (.int vs[k]) := atI_nat (by simp <;> omega)
      have e2 : atI (vs.map D.int) (1 + (k : Int)) = some (.int vs[k + 1]) := by
        rw [show (1 : Int) + (k : Int) = ((k + 1 : Nat) : Int) by omega]
        exact atI_nat (by simp <;> omega)
      have e3 : vs[k] < vs[k + 1] := List.pairwise_iff_getElem.mp hp k (k + 1) (by omega) hk2 (by omega)
      have e4 : (1 : Int) + (k : Int) - 1 = (k : Int) := by omega
      simp [eBin, eVar, eC, O.bind, gIx, Ms.gSub, gI0, gLt, seqOf, e1, e2, e3, e4, wipeL]) (by simp; omega)
  refine fn_rt (l := 2) (d := .bl true) (body := sRet (eCall (gBls fun bs => bs.all id) (aCons ascC aNil))) ?_ rfl
  rw [hl]
  have hb : ∀ l : List Nat, blsOf (l.map fun _ => D.bl true) = some (l.map fun _ => true) := by
    intro l; induction l with
    | nil => rfl
    | cons x l ih => simp [blsOf, ih]
  simp [sRet, eCall, aCons, aNil, e, O.bind, gBls, gOne, lstOf, hb, sE, -List.map_const']
theorem rset_ok {vs : List Int} (h : Sv vs) (hp : vs.Pairwise (· < ·)) (a : Int) : m_read_set [.str (joinTx "," vs)] (HP a) = .ok (tD vs) (HP a) := by
  have hl : ([D.str (joinTx "," vs)].map some ++ List.replicate (3 - 1) (none : Option D)) = [some (.str (joinTx "," vs)), none, none] := rfl
  by_cases h0 : vs = []
  · subst h0; kernel_rfl
  refine fn_rt (l := 3) (d := tD vs) (body := (sSeq (sAsg (eIf (mT (eBin gEq (eVar 0) (eC (.str "-")))) (eTup aNil) (eCall gTuple (aCons (rdC "," 2) aNil))) 1)
    (sSeq (sDrop (eCall (argc 1 m_require) (aCons (eCall (argc 1 m_is_ascending) (aCons (eVar 1) aNil)) aNil))) (sRet (eVar 1))))) ?_ (by simp [frz, okD, ok_ints])
  rw [hl]
  have e0 : joinTx "," vs ≠ "-" := fun e => h0 ((join_ne (y := ",") (s := 44) (S := []) rfl (by decide +kernel) h).mp e)
  have e1 : rdC "," 2 [some (.str (joinTx "," vs)), none, none] (HP a) = .ok (.lst (vs.map .int)) (HP a) :=
    nums_comp (by simp) h (split_ok (t := joinTx "," vs) (by decide +kernel) (by have := joinTx_len (y := ",") (by decide +kernel) h; omega) (split_tx (s := 44) rfl (by omega) (by decide +kernel) h h0) rfl)
  have e2 := asc_ok (by have := h.few; omega) hp a
  simp [sIf, mAnd, mOr, mNot, mT, mTru, eBin, gGe, gI0, gPow, gI, CPow, eC, eVar, O.bind, sE, gGt, gLt, gLe, gEq, gNe, eqS, sSeq, sDrop, eAppend, eCall, argc, aCons, aNil, gInt, gOne, gMod, gDiv, CDiv, sAsg, gAdd, Ms.gSub, gMul, sRet, sNext, sSub, setD, gIx, eTup, eLst, eLstT, gLen, lstOf, seqOf, eIf, eNeg, e0, e1, gTuple, e2, req_ok]
theorem rrow_ok {vs : List Int} (h : Sv vs) (a : Int) : m_read_row [.str (joinTx " " vs)] (HP a) = .ok (tD vs) (HP a) := by
  have hl : ([D.str (joinTx " " vs)].map some ++ List.replicate (2 - 1) (none : Option D)) = [some (.str (joinTx " " vs)), none] := rfl
  by_cases h0 : vs = []
  · subst h0; kernel_rfl
  refine fn_rt (l := 2) (d := tD vs) (body := (sRet (eIf (mT (eBin gEq (eVar 0) (eC (.str "-")))) (eTup aNil) (eCall gTuple (aCons (rdC " " 1) aNil))))) ?_ (by simp [frz, okD, ok_ints])
  rw [hl]
  have e0 : joinTx " " vs ≠ "-" := fun e => h0 ((join_ne (y := " ") (s := 32) (S := []) rfl (by decide +kernel) h).mp e)
  have e1 : rdC " " 1 [some (.str (joinTx " " vs)), none] (HP a) = .ok (.lst (vs.map .int)) (HP a) :=
    nums_comp (by simp) h (split_ok (t := joinTx " " vs) (by decide +kernel) (by have := joinTx_len (y := " ") (by decide +kernel) h; omega) (split_tx (s := 32) rfl (by omega) (by decide +kernel) h h0) rfl)
  simp [sIf, mAnd, mOr, mNot, mT, mTru, eBin, gGe, gI0, gPow, gI, CPow, eC, eVar, O.bind, sE, gGt, gLt, gLe, gEq, gNe, eqS, sSeq, sDrop, eAppend, eCall, argc, aCons, aNil, gInt, gOne, gMod, gDiv, CDiv, sAsg, gAdd, Ms.gSub, gMul, sRet, sNext, sSub, setD, gIx, eTup, eLst, eLstT, gLen, lstOf, seqOf, eIf, eNeg, e0, e1, gTuple]
/-! _law_read -/
section
variable {x d : D} {t : Str} {a : Int}
theorem read0 (h : m_read_set [.str t] (HP a) = .ok d (HP a)) (hd : okD 1 d = true) : m__law_read [.int 0, x, .str t] (HP a) = .ok (.tup [d]) (HP a) :=
  fn_rt (l := 4) (d := .tup [d]) (body := b__law_read) (by simp [b__law_read, sTryIs, sIf, mAnd, mOr, mNot, mT, mTru, eBin, gGe, gI0, gPow, gI, CPow, eC, eVar, O.bind, sE, gGt, gLt, gLe, gEq, gNe, eqS, sSeq, sDrop, eAppend, eCall, argc, aCons, aNil, gInt, gOne, gMod, gDiv, CDiv, sAsg, gAdd, Ms.gSub, gMul, sRet, sNext, sSub, setD, gIx, eTup, eLst, eLstT, gLen, lstOf, seqOf, eIf, eNeg, h, big]) (by simp [frz, okD, okL, hd])
theorem read1 (h : m_read_row [.str t] (HP a) = .ok d (HP a)) (hd : okD 1 d = true) : m__law_read [.int 1, x, .str t] (HP a) = .ok (.tup [d]) (HP a) :=
  fn_rt (l := 4) (d := .tup [d]) (body := b__law_read) (by simp [b__law_read, sTryIs, sIf, mAnd, mOr, mNot, mT, mTru, eBin, gGe, gI0, gPow, gI, CPow, eC, eVar, O.bind, sE, gGt, gLt, gLe, gEq, gNe, eqS, sSeq, sDrop, eAppend, eCall, argc, aCons, aNil, gInt, gOne, gMod, gDiv, CDiv, sAsg, gAdd, Ms.gSub, gMul, sRet, sNext, sSub, setD, gIx, eTup, eLst, eLstT, gLen, lstOf, seqOf, eIf, eNeg, h, big]) (by simp [frz, okD, okL, hd])
theorem read2 (h : m_read_steps [.str t] (HP a) = .ok d (HP a)) (hd : okD 1 d = true) : m__law_read [.int 2, x, .str t] (HP a) = .ok (.tup [d]) (HP a) :=
  fn_rt (l := 4) (d := .tup [d]) (body := b__law_read) (by simp [b__law_read, sTryIs, sIf, mAnd, mOr, mNot, mT, mTru, eBin, gGe, gI0, gPow, gI, CPow, eC, eVar, O.bind, sE, gGt, gLt, gLe, gEq, gNe, eqS, sSeq, sDrop, eAppend, eCall, argc, aCons, aNil, gInt, gOne, gMod, gDiv, CDiv, sAsg, gAdd, Ms.gSub, gMul, sRet, sNext, sSub, setD, gIx, eTup, eLst, eLstT, gLen, lstOf, seqOf, eIf, eNeg, h, big]) (by simp [frz, okD, okL, hd])
theorem read3 (h : m_read_eyes [x, .str t] (HP a) = .ok d (HP a)) (hd : okD 1 d = true) : m__law_read [.int 3, x, .str t] (HP a) = .ok (.tup [d]) (HP a) :=
  fn_rt (l := 4) (d := .tup [d]) (body := b__law_read) (by simp [b__law_read, sTryIs, sIf, mAnd, mOr, mNot, mT, mTru, eBin, gGe, gI0, gPow, gI, CPow, eC, eVar, O.bind, sE, gGt, gLt, gLe, gEq, gNe, eqS, sSeq, sDrop, eAppend, eCall, argc, aCons, aNil, gInt, gOne, gMod, gDiv, CDiv, sAsg, gAdd, Ms.gSub, gMul, sRet, sNext, sSub, setD, gIx, eTup, eLst, eLstT, gLen, lstOf, seqOf, eIf, eNeg, h, big]) (by simp [frz, okD, okL, hd])
theorem read4 (h : m_read_guard [x, .str t] (HP a) = .ok d (HP a)) (hd : okD 1 d = true) : m__law_read [.int 4, x, .str t] (HP a) = .ok (.tup [d]) (HP a) :=
  fn_rt (l := 4) (d := .tup [d]) (body := b__law_read) (by simp [b__law_read, sTryIs, sIf, mAnd, mOr, mNot, mT, mTru, eBin, gGe, gI0, gPow, gI, CPow, eC, eVar, O.bind, sE, gGt, gLt, gLe, gEq, gNe, eqS, sSeq, sDrop, eAppend, eCall, argc, aCons, aNil, gInt, gOne, gMod, gDiv, CDiv, sAsg, gAdd, Ms.gSub, gMul, sRet, sNext, sSub, setD, gIx, eTup, eLst, eLstT, gLen, lstOf, seqOf, eIf, eNeg, h, big]) (by simp [frz, okD, okL, hd])
theorem bad3 (h : m_read_eyes [x, .str t] (HP a) = .exc bt (HP a)) : m__law_read [.int 3, x, .str t] (HP a) = .ok (.tup []) (HP a) :=
  fn_rt (l := 4) (d := .tup []) (body := b__law_read) (by simp [b__law_read, sTryIs, sIf, mAnd, mOr, mNot, mT, mTru, eBin, gGe, gI0, gPow, gI, CPow, eC, eVar, O.bind, sE, gGt, gLt, gLe, gEq, gNe, eqS, sSeq, sDrop, eAppend, eCall, argc, aCons, aNil, gInt, gOne, gMod, gDiv, CDiv, sAsg, gAdd, Ms.gSub, gMul, sRet, sNext, sSub, setD, gIx, eTup, eLst, eLstT, gLen, lstOf, seqOf, eIf, eNeg, h, big]) (by simp [frz, okD, okL])
theorem bad4 (h : m_read_guard [x, .str t] (HP a) = .exc bt (HP a)) : m__law_read [.int 4, x, .str t] (HP a) = .ok (.tup []) (HP a) :=
  fn_rt (l := 4) (d := .tup []) (body := b__law_read) (by simp [b__law_read, sTryIs, sIf, mAnd, mOr, mNot, mT, mTru, eBin, gGe, gI0, gPow, gI, CPow, eC, eVar, O.bind, sE, gGt, gLt, gLe, gEq, gNe, eqS, sSeq, sDrop, eAppend, eCall, argc, aCons, aNil, gInt, gOne, gMod, gDiv, CDiv, sAsg, gAdd, Ms.gSub, gMul, sRet, sNext, sSub, setD, gIx, eTup, eLst, eLstT, gLen, lstOf, seqOf, eIf, eNeg, h, big]) (by simp [frz, okD, okL])
end
/-! _law_equal -/
inductive Pl : Nat → D → Prop where
  | int (k : Nat) (i : Int) : Pl k (.int i)
  | str (k : Nat) (x : Str) : Pl k (.str x)
  | tup {k : Nat} {ds : List D} (hz : ds.length ≤ 1000) (h : ∀ d ∈ ds, Pl k d) : Pl (k + 1) (.tup ds)
theorem kind_int (i a : Int) : m__law_kind [.int i] (HP a) = .ok (.int 2) (HP a) := by kernel_rfl
theorem kind_str (x : Str) (a : Int) : m__law_kind [.str x] (HP a) = .ok (.int 3) (HP a) := by kernel_rfl
theorem kind_tup (ds : List D) (a : Int) : m__law_kind [.tup ds] (HP a) = .ok (.int 4) (HP a) := by kernel_rfl
def eqB (m : Fn) : SM := sIf (mNot (mTru (eCall (argc 2 m) (aCons (eBin gIx (eVar 0) (eVar 2)) (aCons (eBin gIx (eVar 1) (eVar 2)) aNil))))) (sRet (eC (.bl false))) sNext
theorem eq_ok {k : Nat} {d : D} (h : Pl k d) (a : Int) : m__law_equal (k + 1) [d, d] (HP a) = .ok (.bl true) (HP a) := by
  induction h with
  | int k i =>
    refine fn_rt (l := 3) (d := .bl true) (body := b__law_equal (m__law_equal k)) ?_ rfl
    simp [b__law_equal, sIf, mAnd, mOr, mNot, mT, mTru, eBin, gGe, gI0, gPow, gI, CPow, eC, eVar, O.bind, sE, gGt, gLt, gLe, gEq, gNe, eqS, sSeq, sDrop, eAppend, eCall, argc, aCons, aNil, gInt, gOne, gMod, gDiv, CDiv, sAsg, gAdd, Ms.gSub, gMul, sRet, sNext, sSub, setD, gIx, eTup, eLst, eLstT, gLen, lstOf, seqOf, eIf, eNeg, kind_int, eIsi, isT, truD]
  | str k x =>
    refine fn_rt (l := 3) (d := .bl true) (body := b__law_equal (m__law_equal k)) ?_ rfl
    simp [b__law_equal, sIf, mAnd, mOr, mNot, mT, mTru, eBin, gGe, gI0, gPow, gI, CPow, eC, eVar, O.bind, sE, gGt, gLt, gLe, gEq, gNe, eqS, sSeq, sDrop, eAppend, eCall, argc, aCons, aNil, gInt, gOne, gMod, gDiv, CDiv, sAsg, gAdd, Ms.gSub, gMul, sRet, sNext, sSub, setD, gIx, eTup, eLst, eLstT, gLen, lstOf, seqOf, eIf, eNeg, kind_str, eIsi, isT, truD]
  | @tup k ds hz h ih =>
    obtain ⟨l, h', e, l2, q1, q2⟩ := forI (it := ⟨rngD 0 ds.length, none⟩) (g := tgName 2) (body := eqB (m__law_equal (k + 1))) rfl (rngD 0 ds.length)
      (fun j loc hp => ∃ l2, loc = [some (.tup ds), some (.tup ds), l2] ∧ hp = HP a) (by
        rintro j d hd loc hp ⟨l2, rfl, rfl⟩
        obtain ⟨rfl, hj⟩ := rng_at hd
        refine ⟨_, rfl, _, HP a, ?_, some (.int j), rfl, rfl⟩
        have ex : atI ds (j : Int) = some ds[j] := atI_nat (by simp)
        have e2 := ih ds[j] (by simp)
        have gx : gIx (.tup ds) (.int j) (HP a) = .ok ds[j] (HP a) := by simp [gIx, seqOf, ex]
        simp [eqB, sIf, mNot, mTru, eCall, argc, aCons, aNil, eBin, eVar, O.bind, gx, e2, truD, sNext, sE])
      (rngD 0 ds.length) [] [some (.tup ds), some (.tup ds), none] (HP a) rfl ⟨none, rfl, rfl⟩
    subst q1 q2
    refine fn_rt (l := 3) (d := .bl true) (body := (sSeq (sIf (mOr (mT (eBin gNe (eCall (argc 1 m__law_kind) (aCons (eVar 0) aNil)) (eCall (argc 1 m__law_kind) (aCons (eVar 1) aNil)))) (mT (eBin gEq (eCall (argc 1 m__law_kind) (aCons (eVar 0) aNil)) (eC (.int 0))))) (sRet (eC (.bl false))) sNext)
    (sSeq (sIf (mOr (mTru (eIsi .tuple (eVar 1))) (mTru (eIsi .list (eVar 1)))) (sSeq (sIf (mT (eBin gNe (eCall gLen (aCons (eVar 0) aNil)) (eCall gLen (aCons (eVar 1) aNil)))) (sRet (eC (.bl false))) sNext)
    (sSeq (sFor (iRg1 (aCons (eCall gLen (aCons (eVar 1) aNil)) aNil)) (tgName 2) (eqB (m__law_equal (k + 1))))
    (sRet (eC (.bl true))))) sNext)
    (sRet (eBin gEq (eVar 0) (eVar 1)))))) ?_ rfl
    have hk : -1000000 ≤ (ds.length : Int) ∧ (ds.length : Int) ≤ 1000000 := by omega
    simp [sIf, mAnd, mOr, mNot, mT, mTru, eBin, gGe, gI0, gPow, gI, CPow, eC, eVar, O.bind, sE, gGt, gLt, gLe, gEq, gNe, eqS, sSeq, sDrop, eAppend, eCall, argc, aCons, aNil, gInt, gOne, gMod, gDiv, CDiv, sAsg, gAdd, Ms.gSub, gMul, sRet, sNext, sSub, setD, gIx, eTup, eLst, eLstT, gLen, lstOf, seqOf, eIf, eNeg, kind_tup, eIsi, isT, truD, sFor, iRg1, hk, lim]
    rw [e]
theorem Pl.ints (k : Nat) {vs : List Int} (h : vs.length ≤ 1000) : Pl (k + 1) (tD vs) := .tup (by simpa using h) fun d hd => by
  obtain ⟨v, hv, rfl⟩ := List.mem_map.mp hd
  exact .int _ _
theorem Pl.up {k : Nat} {d : D} (h : Pl k d) : Pl (k + 1) d := by
  induction h with
  | int => exact .int _ _
  | str => exact .str _ _
  | tup hz _ ih => exact .tup hz ih
theorem Pl.one {k : Nat} {d : D} (h : Pl k d) : Pl (k + 1) (.tup [d]) := .tup (by simp) (by simpa using h)
theorem eq8 {d : D} {a : Int} (h : Pl 7 d) : m__law_equal 8 [d, d] (HP a) = .ok (.bl true) (HP a) := eq_ok h a
theorem eqS8 (x : Str) (a : Int) : m__law_equal 8 [.str x, .str x] (HP a) = .ok (.bl true) (HP a) := eq8 (.str _ _)
end G80

namespace G80
open PySem hiding Loc
open L2 Ms
/-! steps -/
structure St2 (p : Int × Int) : Prop where
  k : 0 ≤ p.1 ∧ p.1 ≤ 3
  s : -1 ≤ p.2 ∧ p.2 ≤ 3
abbrev stD (p : Int × Int) : D := .tup [.int p.1, .int p.2]
def stTx (p : Int × Int) : Str := tx p.1 ++ ":" ++ sg p.2
theorem St2.cases {p : Int × Int} (h : St2 p) {Q : Int × Int → Prop} (q : ∀ k ∈ ([0, 1, 2, 3] : List Int), ∀ s ∈ ([-1, 0, 1, 2, 3] : List Int), Q (k, s)) : Q p := by
  obtain ⟨k, s⟩ := p
  obtain ⟨⟨h1, h2⟩, h3, h4⟩ := h
  simp only at h1 h2 h3 h4
  exact q k (by simp; omega) s (by simp; omega)
theorem rstep_ok {p : Int × Int} (h : St2 p) (a : Int) : m_read_step [.str (stTx p)] (HP a) = .ok (stD p) (HP a) := by
  refine h.cases (Q := fun p => m_read_step [.str (stTx p)] (HP a) = .ok (stD p) (HP a)) fun k hk s hs => ?_
  simp only [List.mem_cons, List.not_mem_nil, or_false] at hk hs
  rcases hk with rfl | rfl | rfl | rfl <;> rcases hs with rfl | rfl | rfl | rfl | rfl <;> kernel_rfl
def wsE : EM := (eJoined [(eFmt (eVar 1)), (eC (.str ":")), (eFmt (eCall (argc 1 m_sign_of) (aCons (eVar 2) aNil)))])
theorem wstep_ok {p : Int × Int} (h : St2 p) (a : Int) (l0 : Option D) : wsE [l0, some (.int p.1), some (.int p.2)] (HP a) = .ok (.str (stTx p)) (HP a) := by
  refine h.cases (Q := fun p => wsE [l0, some (.int p.1), some (.int p.2)] (HP a) = .ok (.str (stTx p)) (HP a)) fun k hk s hs => ?_
  simp only [List.mem_cons, List.not_mem_nil, or_false] at hk hs
  rcases hk with rfl | rfl | rfl | rfl <;> rcases hs with rfl | rfl | rfl | rfl | rfl <;> kernel_rfl
theorem St2.sm {p : Int × Int} (h : St2 p) : Sm p.1 := by have := h.k; exact .inl (by omega)
theorem St2.sg {p : Int × Int} (h : St2 p) : Sg p.2 := by
  have := h.s
  by_cases h1 : p.2 = -1
  · exact .inl h1
  · exact .inr (.inl (by omega))
theorem st_len {p : Int × Int} (h : St2 p) : (stTx p).length ≤ 1000 := by
  have h1 := tx_len h.sm
  have h2 := sg_len h.sg
  have h3 : (":" : Str).length = 1 := by decide +kernel
  rw [stTx, len_app, len_app]; omega
theorem st_tl (p : Int × Int) : TL.tl (stTx p) = TL.tl (tx p.1) ++ [58] ++ TL.tl (sg p.2) := by
  rw [stTx, TL.tl_append, TL.tl_append]; rfl
theorem st_free {p : Int × Int} (h : St2 p) : 32 ∉ TL.tl (stTx p) := by
  rw [st_tl]
  simp only [List.mem_append, not_or]
  exact ⟨⟨tx_free h.sm (by omega), by decide⟩, sg_free h.sg (by omega)⟩
structure Stv (st : List (Int × Int)) : Prop where
  few : st.length ≤ 12
  ok : ∀ p ∈ st, St2 p
def stsTx (st : List (Int × Int)) : Str := if st = [] then "-" else Txt.join " " (st.map stTx)
theorem Stv.tx {st : List (Int × Int)} (h : Stv st) : Few (st.map stTx) := ⟨by simpa using h.few, fun w hw => by
  obtain ⟨v, hv, rfl⟩ := List.mem_map.mp hw
  exact st_len (h.ok v hv)⟩
theorem sts_split {st : List (Int × Int)} (h : Stv st) (h0 : st ≠ []) : Txt.split (stsTx st) " " = st.map stTx := by
  rw [stsTx, if_neg h0]
  refine TL.split_join (s := 32) (S := []) rfl (by decide +kernel) (by simpa using h0) fun p hp => ?_
  obtain ⟨v, hv, rfl⟩ := List.mem_map.mp hp
  exact st_free (h.ok v hv)
theorem sts_ne {st : List (Int × Int)} (h : Stv st) (h0 : st ≠ []) : stsTx st ≠ "-" := fun e => by
  have := sts_split h h0
  rw [e, show Txt.split "-" " " = [("-" : Str)] by kernel_rfl] at this
  cases st with
  | nil => exact h0 rfl
  | cons p r =>
    simp only [List.map_cons, List.cons.injEq] at this
    have e2 := st_tl p
    rw [← this.1] at e2
    have : (58 : Nat) ∈ TL.tl ("-" : Str) := by rw [e2]; simp
    exact absurd this (by decide +kernel)
theorem sts_len {st : List (Int × Int)} (h : Stv st) : (stsTx st).length ≤ 13000 := by
  unfold stsTx
  split
  · decide +kernel
  · exact h.tx.len (by decide +kernel)
abbrev stsD (st : List (Int × Int)) : D := .tup (st.map stD)
abbrev tg12 (i j : Nat) : Tg := tgTup 2 (tgsCons (tgName i) (tgsCons (tgName j) tgsNil))
def wsC : EM := eComp (iSeq (eVar 0)) (tg12 1 2) mYes wsE [1, 2]
theorem wsteps_ok {st : List (Int × Int)} (h : Stv st) (a : Int) : m_write_steps [stsD st] (HP a) = .ok (.str (stsTx st)) (HP a) := by
  by_cases h0 : st = []
  · subst h0; kernel_rfl
  have hl : ([stsD st].map some ++ List.replicate (3 - 1) (none : Option D)) = [some (stsD st), none, none] := rfl
  refine fn_rt (l := 3) (d := .str (stsTx st)) (body := (sRet (eIf (mT (eBin gGt (eCall gLen (aCons (eVar 0) aNil)) (eC (.int 0)))) (eM1 gJoin (eC (.str " ")) wsC) (eC (.str "-"))))) ?_ (by simp [frz, okD])
  rw [hl]
  have h1 : 0 < st.length := List.length_pos_iff.mpr h0
  have e : wsC [some (stsD st), none, none] (HP a) = .ok (.lst ((st.map stTx).map .str)) (HP a) := by
    rw [List.map_map]
    exact comp_ok (xs := st) (dom := stD) (out := fun p => .str (stTx p)) (seq_tup rfl) (fun p hp => ⟨_, rfl, wstep_ok (h.ok p hp) a _⟩) (by have := h.few; omega)
  have j := join_ok (y := " ") (by decide +kernel) h.tx (HP a)
  rw [stsTx, if_neg h0]
  simp [sIf, mAnd, mOr, mNot, mT, mTru, eBin, gGe, gI0, gPow, gI, CPow, eC, eVar, O.bind, sE, gGt, gLt, gLe, gEq, gNe, eqS, sSeq, sDrop, eAppend, eCall, argc, aCons, aNil, gInt, gOne, gMod, gDiv, CDiv, sAsg, gAdd, Ms.gSub, gMul, sRet, sNext, sSub, setD, gIx, eTup, eLst, eLstT, gLen, lstOf, seqOf, eIf, eNeg, h1, eM1, e, -List.map_map, j]
def rsC : EM := eComp (iSeq (eM1 gSplit (eVar 0) (eC (.str " ")))) (tgName 1) mYes (eCall (argc 1 m_read_step) (aCons (eVar 1) aNil)) [1]
theorem rsteps_ok {st : List (Int × Int)} (h : Stv st) (a : Int) : m_read_steps [.str (stsTx st)] (HP a) = .ok (stsD st) (HP a) := by
  by_cases h0 : st = []
  · subst h0; kernel_rfl
  have hl : ([D.str (stsTx st)].map some ++ List.replicate (2 - 1) (none : Option D)) = [some (.str (stsTx st)), none] := rfl
  refine fn_rt (l := 2) (d := stsD st) (body := (sRet (eIf (mT (eBin gEq (eVar 0) (eC (.str "-")))) (eTup aNil) (eCall gTuple (aCons rsC aNil))))) ?_ ?_
  · rw [hl]
    have sp := split_ok (y := " ") (f := eVar 0) (t := stsTx st) (loc := [some (.str (stsTx st)), none]) (hp := HP a) (by decide +kernel) (by have := sts_len h; omega) (sts_split h h0) rfl
    rw [List.map_map] at sp
    have e : rsC [some (.str (stsTx st)), none] (HP a) = .ok (.lst (st.map stD)) (HP a) :=
      comp_ok (xs := st) (dom := fun p => .str (stTx p)) (out := stD) (seq_lst sp) (fun p hp => ⟨_, rfl, by simp [eCall, argc, aCons, aNil, eVar, O.bind, wipeL, rstep_ok (h.ok p hp)]⟩) (by have := h.few; omega)
    simp [sIf, mAnd, mOr, mNot, mT, mTru, eBin, gGe, gI0, gPow, gI, CPow, eC, eVar, O.bind, sE, gGt, gLt, gLe, gEq, gNe, eqS, sSeq, sDrop, eAppend, eCall, argc, aCons, aNil, gInt, gOne, gMod, gDiv, CDiv, sAsg, gAdd, Ms.gSub, gMul, sRet, sNext, sSub, setD, gIx, eTup, eLst, eLstT, gLen, lstOf, seqOf, eIf, eNeg, sts_ne h h0, e, gTuple]
  · have : ∀ st : List (Int × Int), okL 1 (st.map stD) = true := by
      intro st; induction st with
      | nil => rfl
      | cons p r ih => simp [okL, okD] at ih ⊢; exact ih
    simp only [frz, okD, this, if_true]
/-! are_integers, are_numbers -/
abbrev inr (lo hi v : Int) : Bool := decide (lo ≤ v) && decide (v ≤ hi)
theorem isnum_ok (v lo hi a : Int) : m_is_number [.int v, .int lo, .int hi] (HP a) = .ok (.bl (inr lo hi v)) (HP a) := by
  have e : m_is_integer [.int v] (HP a) = .ok (.bl true) (HP a) := by kernel_rfl
  refine fn_rt (l := 3) (d := .bl (inr lo hi v)) (body := b_is_number) ?_ (by simp [frz, okD])
  by_cases h : lo ≤ v
  · simp [b_is_number, sIf, mAnd, mOr, mNot, mT, mTru, eBin, gGe, gI0, gPow, gI, CPow, eC, eVar, O.bind, sE, gGt, gLt, gLe, gEq, gNe, eqS, sSeq, sDrop, eAppend, eCall, argc, aCons, aNil, gInt, gOne, gMod, gDiv, CDiv, sAsg, gAdd, Ms.gSub, gMul, sRet, sNext, sSub, setD, gIx, eTup, eLst, eLstT, gLen, lstOf, seqOf, eIf, eNeg, eAnd, e, eChain, h, inr]
  · simp [b_is_number, sIf, mAnd, mOr, mNot, mT, mTru, eBin, gGe, gI0, gPow, gI, CPow, eC, eVar, O.bind, sE, gGt, gLt, gLe, gEq, gNe, eqS, sSeq, sDrop, eAppend, eCall, argc, aCons, aNil, gInt, gOne, gMod, gDiv, CDiv, sAsg, gAdd, Ms.gSub, gMul, sRet, sNext, sSub, setD, gIx, eTup, eLst, eLstT, gLen, lstOf, seqOf, eIf, eNeg, eAnd, e, eChain, h, inr]
theorem bls_map {α : Type} (f : α → Bool) : ∀ l : List α, blsOf (l.map fun x => D.bl (f x)) = some (l.map f)
  | [] => rfl
  | x :: l => by simp [blsOf, bls_map f l]
def arC : EM := eComp (iSeq (eVar 0)) (tgName 3) mYes (eCall (argc 3 m_is_number) (aCons (eVar 3) (aCons (eVar 1) (aCons (eVar 2) aNil)))) [3]
theorem all_val {α : Type} {f : α → Bool} {xs : List α} {e : EM} {loc : Loc} {hp : HM} (h : e loc hp = .ok (.lst (xs.map fun x => D.bl (f x))) hp) : eCall (gBls fun bs => bs.all id) (aCons e aNil) loc hp = .ok (.bl (xs.all f)) hp := by
  simp only [eCall, aCons, aNil, h, O.bind, gBls, gOne, lstOf, bls_map]
  rw [List.all_map]; rfl
theorem aint_ok {vs : List Int} (h : vs.length ≤ 1000) (lo hi a : Int) : m_are_integers [tD vs, .int lo, .int hi] (HP a) = .ok (.bl (vs.all (inr lo hi))) (HP a) := by
  refine fn_rt (l := 4) (d := .bl (vs.all (inr lo hi))) (body := (sRet (eAnd (eIsi .tuple (eVar 0)) (eCall (gBls fun bs => bs.all id) (aCons arC aNil))))) ?_ (by simp [frz, okD])
  have e : arC [some (tD vs), some (.int lo), some (.int hi), none] (HP a) = .ok (.lst (vs.map fun v => .bl (inr lo hi v))) (HP a) :=
    comp_ok (xs := vs) (dom := .int) (out := fun v => .bl (inr lo hi v)) (seq_tup rfl) (fun v hv => ⟨_, rfl, by simp [eCall, argc, aCons, aNil, eVar, O.bind, wipeL, isnum_ok]⟩) h
  have e2 := all_val e
  show sRet (eAnd (eIsi .tuple (eVar 0)) (eCall (gBls fun bs => bs.all id) (aCons arC aNil))) [some (tD vs), some (.int lo), some (.int hi), none] (HP a) = _
  simp only [sRet, eAnd, eIsi, eVar, O.bind, List.getElem?_cons_zero, isT, e2, sE]
theorem anum_ok {vs : List Int} (h : vs.length ≤ 1000) (lo hi a : Int) (hp : vs.all (inr lo hi) = true → vs.Pairwise (· < ·)) : m_are_numbers [tD vs, .int lo, .int hi] (HP a) = .ok (.bl (vs.all (inr lo hi))) (HP a) := by
  refine fn_rt (l := 3) (d := .bl (vs.all (inr lo hi))) (body := b_are_numbers) ?_ (by simp [frz, okD])
  have e := aint_ok h lo hi a
  cases hq : vs.all (inr lo hi) with
  | false =>
    rw [hq] at e
    simp [b_are_numbers, sRet, eAnd, eCall, argc, aCons, aNil, eVar, O.bind, e, sE]
  | true =>
    rw [hq] at e
    simp [b_are_numbers, sRet, eAnd, eCall, argc, aCons, aNil, eVar, O.bind, e, asc_ok h (hp hq), sE]
theorem istup_ok (ds : List D) (n a : Int) : m_is_tuple [.tup ds, .int n] (HP a) = .ok (.bl (decide ((ds.length : Int) = n))) (HP a) := by
  refine fn_rt (l := 2) (d := .bl (decide ((ds.length : Int) = n))) (body := b_is_tuple) ?_ (by simp [frz, okD])
  simp [b_is_tuple, sIf, mAnd, mOr, mNot, mT, mTru, eBin, gGe, gI0, gPow, gI, CPow, eC, eVar, O.bind, sE, gGt, gLt, gLe, gEq, gNe, eqS, sSeq, sDrop, eAppend, eCall, argc, aCons, aNil, gInt, gOne, gMod, gDiv, CDiv, sAsg, gAdd, Ms.gSub, gMul, sRet, sNext, sSub, setD, gIx, eTup, eLst, eLstT, gLen, lstOf, seqOf, eIf, eNeg, eAnd, eIsi, isT]
end G80

namespace G80
open PySem hiding Loc
open L2 Ms
/-! eyes -/
def eyTx (e : List Int) : Str := Txt.join "," (e.map sg)
/-- an eye that can be written -/
structure Ew (e : List Int) : Prop where
  ne : e ≠ []
  few : e.length ≤ 12
  ok : ∀ v ∈ e, Sg v
theorem Ew.tx {e : List Int} (h : Ew e) : Few (e.map sg) := ⟨by simpa using h.few, fun w hw => by
  obtain ⟨v, hv, rfl⟩ := List.mem_map.mp hw
  have := sg_len (h.ok v hv); omega⟩
theorem ey_len {e : List Int} (h : Ew e) : (eyTx e).length ≤ 200 := by
  have h1 := join_len (y := ",") (ws := e.map sg) (L := 9) (by
    intro w hw
    obtain ⟨v, hv, rfl⟩ := List.mem_map.mp hw
    exact sg_len (h.ok v hv))
  have h3 : ("," : Str).length = 1 := by decide +kernel
  rw [h3, List.length_map] at h1
  have h2 := h.few
  unfold eyTx
  omega
theorem ey_free {e : List Int} (h : Ew e) : 32 ∉ TL.tl (eyTx e) := join_free (by decide +kernel) fun w hw => by
  obtain ⟨v, hv, rfl⟩ := List.mem_map.mp hw
  exact sg_free (h.ok v hv) (by omega)
theorem ey_split {e : List Int} (h : Ew e) : Txt.split (eyTx e) "," = e.map sg := TL.split_join (s := 44) (S := []) rfl (by decide +kernel) (by simpa using h.ne) fun p hp => by
  obtain ⟨v, hv, rfl⟩ := List.mem_map.mp hp
  exact sg_free (h.ok v hv) (by omega)
structure Ews (es : List (List Int)) : Prop where
  ne : es ≠ []
  few : es.length ≤ 12
  ok : ∀ e ∈ es, Ew e
def eysTx (es : List (List Int)) : Str := Txt.join " " (es.map eyTx)
theorem Ews.tx {es : List (List Int)} (h : Ews es) : Few (es.map eyTx) := ⟨by simpa using h.few, fun w hw => by
  obtain ⟨v, hv, rfl⟩ := List.mem_map.mp hw
  have := ey_len (h.ok v hv); omega⟩
theorem eys_split {es : List (List Int)} (h : Ews es) : Txt.split (eysTx es) " " = es.map eyTx := TL.split_join (s := 32) (S := []) rfl (by decide +kernel) (by simpa using h.ne) fun p hp => by
  obtain ⟨v, hv, rfl⟩ := List.mem_map.mp hp
  exact ey_free (h.ok v hv)
theorem eys_len {es : List (List Int)} (h : Ews es) : (eysTx es).length ≤ 13000 := h.tx.len (by decide +kernel)
abbrev eysD (es : List (List Int)) : D := .tup (es.map tD)
def weI : EM := eComp (iSeq (eVar 1)) (tgName 2) mYes (eCall (argc 1 m_sign_of) (aCons (eVar 2) aNil)) [2]
def weO : EM := eComp (iSeq (eVar 0)) (tgName 1) mYes (eM1 gJoin (eC (.str ",")) weI) [1]
theorem weyes_ok {es : List (List Int)} (h : Ews es) (a : Int) : m_write_eyes [eysD es] (HP a) = .ok (.str (eysTx es)) (HP a) := by
  refine fn_rt (l := 3) (d := .str (eysTx es)) (body := (sRet (eM1 gJoin (eC (.str " ")) weO))) ?_ (by simp [frz, okD])
  have e : weO [some (eysD es), none, none] (HP a) = .ok (.lst ((es.map eyTx).map .str)) (HP a) := by
    rw [List.map_map]
    refine comp_ok (xs := es) (dom := tD) (out := fun e => .str (eyTx e)) (seq_tup rfl) (fun e he => ⟨_, rfl, ?_⟩) (by have := h.few; omega)
    have ei : weI [some (eysD es), some (tD e), none] (HP a) = .ok (.lst ((e.map sg).map .str)) (HP a) := by
      rw [List.map_map]
      exact comp_ok (xs := e) (dom := .int) (out := fun v => .str (sg v)) (seq_tup rfl) (fun v hv => ⟨_, rfl, by simp [eCall, argc, aCons, aNil, eVar, O.bind, wipeL, wsign_ok ((h.ok e he).ok v hv)]⟩) (by have := (h.ok e he).few; omega)
    have j := join_ok (y := ",") (by decide +kernel) (h.ok e he).tx (HP a)
    show eM1 gJoin (eC (.str ",")) weI [some (eysD es), some (tD e), none] (HP a) = _
    simp only [eM1, eC, O.bind, ei, j, eyTx]
  have j := join_ok (y := " ") (by decide +kernel) h.tx (HP a)
  show sRet (eM1 gJoin (eC (.str " ")) weO) [some (eysD es), none, none] (HP a) = _
  simp only [sRet, eM1, eC, O.bind, e, j, eysTx, sE]
def reI : EM := eComp (iSeq (eM1 gSplit (eVar 4) (eC (.str ",")))) (tgName 5) mYes (eCall (argc 1 m_read_sign) (aCons (eVar 5) aNil)) [5]
def reE : EM := eCall gTuple (aCons reI aNil)
def reO : EM := eComp (iSeq (eVar 2)) (tgName 4) mYes reE [4]
theorem reE_ok {e : List Int} (h : Ew e) (a : Int) {x0 x1 x2 x3 : Option D} : reE [x0, x1, x2, x3, some (.str (eyTx e)), none] (HP a) = .ok (tD e) (HP a) := by
  have sp := split_ok (y := ",") (f := eVar 4) (t := eyTx e) (loc := [x0, x1, x2, x3, some (.str (eyTx e)), none]) (hp := HP a) (by decide +kernel) (by have := ey_len h; omega) (ey_split h) rfl
  rw [List.map_map] at sp
  have ei : reI [x0, x1, x2, x3, some (.str (eyTx e)), none] (HP a) = .ok (.lst (e.map .int)) (HP a) :=
    comp_ok (xs := e) (dom := fun v => .str (sg v)) (out := .int) (seq_lst sp) (fun v hv => ⟨_, rfl, by simp [eCall, argc, aCons, aNil, eVar, O.bind, wipeL, rsign_ok (h.ok v hv)]⟩) (by have := h.few; omega)
  simp only [reE, eCall, aCons, aNil, ei, O.bind, gTuple, gOne, seqOf, lstOf]
theorem reE_bad (a : Int) {x0 x1 x2 x3 : Option D} : reE [x0, x1, x2, x3, some (.str ""), none] (HP a) = .exc bt (HP a) := by kernel_rfl
theorem reO_ok {es : List (List Int)} (h : Ews es) (a : Int) {x0 x1 x3 : Option D} : reO [x0, x1, some (.lst ((es.map eyTx).map .str)), x3, none, none] (HP a) = .ok (.lst (es.map tD)) (HP a) := by
  rw [List.map_map]
  exact comp_ok (xs := es) (dom := fun e => .str (eyTx e)) (out := tD) (seq_lst rfl) (fun e he => ⟨_, rfl, reE_ok (h.ok e he) a⟩) (by have := h.few; omega)
theorem reO_bad {es : List (List Int)} (h : Ews es) (a : Int) {x0 x1 x3 : Option D} : reO [x0, x1, some (.lst ((es.map eyTx ++ [("" : Str)]).map .str)), x3, none, none] (HP a) = .exc bt (HP a) := by
  rw [List.map_append, List.map_map]
  exact comp_exc (xs := es) (dom := fun e => .str (eyTx e)) (out := tD) (d := .str "") (ds := []) (seq_lst rfl) ⟨_, rfl, reE_bad a⟩ (fun e he => ⟨_, rfl, reE_ok (h.ok e he) a⟩) (by have := h.few; omega)
/-! is_eyes -/
def iyA : EM := eComp (iSeq (eVar 1)) (tgName 2) mYes (eCall (argc 3 m_are_numbers) (aCons (eVar 2) (aCons (eC (.int (-1))) (aCons (eC (.int (3))) aNil)))) [2]
def iyB : EM := eComp (iSeq (eVar 1)) (tgName 2) mYes (eBin gGt (eCall gLen (aCons (eVar 2) aNil)) (eC (.int 0))) [2]
abbrev eyIn (es : List (List Int)) : Bool := es.all fun e => e.all (inr (-1) 3)
theorem two_tests {f g h : EM} {loc : Loc} {hp : HM} {b1 b2 b3 : Bool} (e1 : f loc hp = .ok (.bl b1) hp) (e2 : g loc hp = .ok (.bl b2) hp) (e3 : h loc hp = .ok (.bl b3) hp) :
    sSeq (sIf (mOr (mNot (mTru f)) (mNot (mTru g))) (sRet (eC (.bl false))) sNext) (sRet h) loc hp = .rt (.bl (b1 && b2 && b3)) hp := by
  cases b1 <;> cases b2 <;> simp [sSeq, sIf, mOr, mNot, mTru, sRet, e1, e2, e3, O.bind, truD, sE, sNext, eC]
theorem iseyes_ok {es : List (List Int)} (hz : es.length ≤ 12) (h : ∀ e ∈ es, e ≠ [] ∧ e.length ≤ 1000 ∧ (e.all (inr (-1) 3) = true → e.Pairwise (· < ·))) (n a : Int) :
    m_is_eyes [.int n, eysD es] (HP a) = .ok (.bl (decide ((es.length : Int) = n) && eyIn es)) (HP a) := by
  refine fn_rt (l := 3) (d := .bl (decide ((es.length : Int) = n) && eyIn es)) (body := (sSeq (sIf (mOr (mNot (mTru (eCall (argc 2 m_is_tuple) (aCons (eVar 1) (aCons (eVar 0) aNil))))) (mNot (mTru (eCall (gBls fun bs => bs.all id) (aCons iyA aNil))))) (sRet (eC (.bl false))) sNext)
    (sRet (eCall (gBls fun bs => bs.all id) (aCons iyB aNil))))) ?_ (by simp [frz, okD])
  have e1 : iyA [some (.int n), some (eysD es), none] (HP a) = .ok (.lst (es.map fun e => .bl (e.all (inr (-1) 3)))) (HP a) :=
    comp_ok (xs := es) (dom := tD) (out := fun e => .bl (e.all (inr (-1) 3))) (seq_tup rfl) (fun e he => ⟨_, rfl, by
      have := anum_ok (h e he).2.1 (-1) 3 a (h e he).2.2
      simp only [eCall, argc, aCons, aNil, eVar, eC, O.bind, wipeL, List.set_cons_succ, List.set_cons_zero, List.getElem?_cons_succ, List.getElem?_cons_zero, List.length_cons, List.length_nil, if_true, this]⟩) (by omega)
  have e2 : iyB [some (.int n), some (eysD es), none] (HP a) = .ok (.lst (es.map fun e => .bl (decide (0 < e.length)))) (HP a) :=
    comp_ok (xs := es) (dom := tD) (out := fun e => .bl (decide (0 < e.length))) (seq_tup rfl) (fun e he => ⟨_, rfl, by
      simp [eBin, gGt, gI0, gLen, gOne, seqOf, eCall, argc, aCons, aNil, eVar, eC, O.bind, wipeL]⟩) (by omega)
  have e3 := all_val e1
  have e4 := all_val e2
  have e5 : es.all (fun e => decide (0 < e.length)) = true := by
    rw [List.all_eq_true]
    intro e he
    simpa using List.length_pos_iff.mpr (h e he).1
  have e6 := istup_ok (es.map tD) n a
  rw [List.length_map] at e6
  rw [e5] at e4
  show (sSeq (sIf (mOr (mNot (mTru (eCall (argc 2 m_is_tuple) (aCons (eVar 1) (aCons (eVar 0) aNil))))) (mNot (mTru (eCall (gBls fun bs => bs.all id) (aCons iyA aNil))))) (sRet (eC (.bl false))) sNext)
    (sRet (eCall (gBls fun bs => bs.all id) (aCons iyB aNil)))) [some (.int n), some (eysD es), none] (HP a) = _
  have e7 : eCall (argc 2 m_is_tuple) (aCons (eVar 1) (aCons (eVar 0) aNil)) [some (.int n), some (eysD es), none] (HP a) = .ok (.bl (decide ((es.length : Int) = n))) (HP a) := by
    simp only [eCall, argc, aCons, aNil, eVar, O.bind, List.getElem?_cons_succ, List.getElem?_cons_zero, List.length_cons, List.length_nil, if_true, e6]
  have key := two_tests e7 e3 e4
  rw [Bool.and_true] at key
  exact key
theorem reyes_ok {t : Str} {es : List (List Int)} (h : Ews es) (ht : t.length ≤ 1000000) (hs : Txt.split t " " = es.map eyTx) (hp : ∀ e ∈ es, e.all (inr (-1) 3) = true → e.Pairwise (· < ·)) (n a : Int) :
    m_read_eyes [.int n, .str t] (HP a) = if (decide ((es.length : Int) = n) && eyIn es) = true then .ok (eysD es) (HP a) else .exc bt (HP a) := by
  have sp := split_ok (y := " ") (f := eVar 1) (t := t) (loc := [some (.int n), some (.str t), none, none, none, none]) (hp := HP a) (by decide +kernel) ht hs rfl
  have e1 := reO_ok h a (x0 := some (.int n)) (x1 := some (.str t)) (x3 := none)
  have e2 := iseyes_ok h.few (fun e he => ⟨(h.ok e he).ne, by have := (h.ok e he).few; omega, hp e he⟩) n a
  have hb : (sSeq (sAsg (eM1 gSplit (eVar 1) (eC (.str " "))) 2) (sSeq (sAsg (eCall gTuple (aCons reO aNil)) 3)
    (sSeq (sDrop (eCall (argc 1 m_require) (aCons (eCall (argc 2 m_is_eyes) (aCons (eVar 0) (aCons (eVar 3) aNil))) aNil))) (sRet (eVar 3))))) [some (.int n), some (.str t), none, none, none, none] (HP a) =
      if (decide ((es.length : Int) = n) && eyIn es) = true then .rt (eysD es) (HP a) else .exc bt [some (.int n), some (.str t), some (.lst ((es.map eyTx).map .str)), some (eysD es), none, none] (HP a) := by
    have e3 : eCall gTuple (aCons reO aNil) [some (.int n), some (.str t), some (.lst ((es.map eyTx).map .str)), none, none, none] (HP a) = .ok (eysD es) (HP a) := by
      simp only [eCall, aCons, aNil, e1, O.bind, gTuple, gOne, seqOf, lstOf]
    simp only [sSeq, sAsg, sp, sE, List.set_cons_succ, List.set_cons_zero, e3]
    simp only [sDrop, eCall, argc, aCons, aNil, eVar, O.bind, List.getElem?_cons_succ, List.getElem?_cons_zero, List.length_cons, List.length_nil, if_true, e2]
    cases hq : (decide ((es.length : Int) = n) && eyIn es) with
    | true => simp [req_ok, sRet, sE, O.bind, eVar]
    | false => simp [req_bad, sE, O.bind]
  cases hq : (decide ((es.length : Int) = n) && eyIn es) with
  | true =>
    rw [hq] at hb
    exact fn_rt (l := 6) (d := eysD es) hb (by simp [frz, okD, ok_tups])
  | false =>
    rw [hq] at hb
    exact fn_exc (l := 6) hb
theorem reyes_sp {t : Str} {es : List (List Int)} (h : Ews es) (ht : t.length ≤ 1000000) (hs : Txt.split t " " = es.map eyTx ++ [("" : Str)]) (n a : Int) : m_read_eyes [.int n, .str t] (HP a) = .exc bt (HP a) := by
  have sp := split_ok (y := " ") (f := eVar 1) (t := t) (loc := [some (.int n), some (.str t), none, none, none, none]) (hp := HP a) (by decide +kernel) ht hs rfl
  have e1 := reO_bad h a (x0 := some (.int n)) (x1 := some (.str t)) (x3 := none)
  refine fn_exc (l := 6) (loc := [some (.int n), some (.str t), some (.lst ((es.map eyTx ++ [("" : Str)]).map .str)), none, none, none]) (body := (sSeq (sAsg (eM1 gSplit (eVar 1) (eC (.str " "))) 2) (sSeq (sAsg (eCall gTuple (aCons reO aNil)) 3)
    (sSeq (sDrop (eCall (argc 1 m_require) (aCons (eCall (argc 2 m_is_eyes) (aCons (eVar 0) (aCons (eVar 3) aNil))) aNil))) (sRet (eVar 3)))))) ?_
  show (sSeq (sAsg (eM1 gSplit (eVar 1) (eC (.str " "))) 2) (sSeq (sAsg (eCall gTuple (aCons reO aNil)) 3)
    (sSeq (sDrop (eCall (argc 1 m_require) (aCons (eCall (argc 2 m_is_eyes) (aCons (eVar 0) (aCons (eVar 3) aNil))) aNil))) (sRet (eVar 3))))) [some (.int n), some (.str t), none, none, none, none] (HP a) = _
  simp only [sSeq, sAsg, sp, sE, List.set_cons_succ, List.set_cons_zero]
  simp only [eCall, aCons, e1, O.bind]
end G80

namespace G80
open PySem hiding Loc
open L2 Ms
/-! guards -/
abbrev Gp := List Int × List Int
def line (g : Gp) : Str := "guard " ++ Txt.join " " (g.1.map tx) ++ " bars " ++ joinTx "," g.2
def lineW (g : Gp) : List Str := ("guard" : Str) :: (g.1.map tx ++ [("bars" : Str), joinTx "," g.2])
structure Gd (k n : Nat) (g : Gp) : Prop where
  row : Row n g.1
  bar : Bar k g.2
structure Gds (k : Nat) (gs : List Gp) : Prop where
  k4 : k ≤ 4
  lo : 1 ≤ gs.length
  hi : gs.length ≤ 4
  ok : ∀ g ∈ gs, Gd k gs.length g
section
variable {k n : Nat} {g : Gp} (h : Gd k n g) (hk : k ≤ 4) (hn : n ≤ 4)
include h
theorem Gd.four : ∃ a b c d, g.1 = [a, b, c, d] := by
  have := h.row.four
  match q : g.1, this with
  | [a, b, c, d], _ => exact ⟨a, b, c, d, rfl⟩
include hk in
theorem Gd.sv : Sv g.2 := ⟨by have := h.bar.le; omega, fun v hv => .inl (by have := h.bar.lo v hv; omega)⟩
include hn in
theorem Gd.rv : Sv g.1 := ⟨by have := h.row.four; omega, fun v hv => .inl (by have := h.row.lo v hv; omega)⟩
theorem line_eq : line g = Txt.join " " (lineW g) := by
  obtain ⟨a, b, c, d, e⟩ := h.four
  refine TL.ext_tl ?_
  have e1 : TL.tl ("guard " : Str) = TL.tl ("guard" : Str) ++ TL.tl (" " : Str) := by decide +kernel
  have e2 : TL.tl (" bars " : Str) = TL.tl (" " : Str) ++ TL.tl ("bars" : Str) ++ TL.tl (" " : Str) := by decide +kernel
  simp only [line, lineW, e, TL.tl_append, tl_j, List.map_cons, List.map_nil, List.cons_append, List.nil_append, TL.joinL, e1, e2, List.append_assoc]
end
theorem set_free {vs : List Int} (h : Sv vs) {s : Nat} (hs : s < 44 ∨ 57 < s) : s ∉ TL.tl (joinTx "," vs) := by
  unfold joinTx
  split
  · show s ∉ [45]
    simp; omega
  · exact join_free (y := ",") (s := s) (by show s ∉ [44]; simp; omega) fun w hw => by
      obtain ⟨v, hv, rfl⟩ := List.mem_map.mp hw
      exact tx_free (h.sm v hv) (by omega)
theorem set_len {vs : List Int} (h : Sv vs) (h4 : vs.length ≤ 4) : (joinTx "," vs).length ≤ 40 := by
  unfold joinTx
  split
  · decide +kernel
  · have h1 := join_len (y := ",") (ws := vs.map tx) (L := 9) (by
      intro w hw
      obtain ⟨v, hv, rfl⟩ := List.mem_map.mp hw
      exact tx_len (h.sm v hv))
    have h3 : ("," : Str).length = 1 := by decide +kernel
    rw [h3, List.length_map] at h1
    omega
section
variable {k n : Nat} {g : Gp} (h : Gd k n g) (hk : k ≤ 4) (hn : n ≤ 4)
include h hk hn
theorem w_free {s : Nat} (hs : s = 10 ∨ s = 32) : ∀ w ∈ lineW g, s ∉ TL.tl w := by
  intro w hw
  simp only [lineW, List.mem_cons, List.mem_append, List.mem_map, List.not_mem_nil, or_false] at hw
  rcases hw with rfl | ⟨v, hv, rfl⟩ | rfl | rfl
  · rcases hs with rfl | rfl <;> decide +kernel
  · exact tx_free ((h.rv hn).sm v hv) (by omega)
  · rcases hs with rfl | rfl <;> decide +kernel
  · exact set_free (h.sv hk) (by omega)
theorem line_split : Txt.split (line g) " " = lineW g := by
  rw [line_eq h]
  exact TL.split_join (s := 32) (S := []) rfl (by decide +kernel) (by simp [lineW]) (w_free h hk hn (.inr rfl))
theorem line_free : 10 ∉ TL.tl (line g) := by
  rw [line_eq h]
  exact join_free (by decide +kernel) (w_free h hk hn (.inl rfl))
theorem line_len : (line g).length ≤ 400 := by
  rw [line_eq h]
  have h1 := join_len (y := " ") (ws := lineW g) (L := 40) (by
    intro w hw
    simp only [lineW, List.mem_cons, List.mem_append, List.mem_map, List.not_mem_nil, or_false] at hw
    rcases hw with rfl | ⟨v, hv, rfl⟩ | rfl | rfl
    · decide +kernel
    · have := tx_len ((h.rv hn).sm v hv); omega
    · decide +kernel
    · exact set_len (h.sv hk) (by have := h.bar.le; omega))
  have h3 : (" " : Str).length = 1 := by decide +kernel
  have h4 : (lineW g).length = 7 := by simp [lineW, h.row.four]
  rw [h3, h4] at h1
  omega
end
/-! read_guard_line -/
def glC : EM := eComp (iSeq (eCut (eVar 1) (pSome (eC (.int 1))) (pSome (eNeg (eC (.int 2)))))) (tgName 2) mYes (eCall (argc 1 m_number_of) (aCons (eVar 2) aNil)) [2]
def glR : EM := (eAnd (eBin gEq (eCall gLen (aCons (eVar 1) aNil)) (eBin gAdd (eCall gLen (aCons (eC (.tup (([0, 1, 2, 3] : List Int).map .int))) aNil)) (eC (.int 3)))) (eAnd (eBin gEq (eBin gIx (eVar 1) (eC (.int 0))) (eC (.str "guard"))) (eBin gEq (eBin gIx (eVar 1) (eNeg (eC (.int 2)))) (eC (.str "bars")))))
def glB : SM := (sSeq (sAsg (eM1 gSplit (eVar 0) (eC (.str " "))) 1)
    (sSeq (sDrop (eCall (argc 1 m_require) (aCons glR aNil)))
    (sRet (eTup (aCons (eCall gTuple (aCons glC aNil)) (aCons (eCall (argc 1 m_read_set) (aCons (eBin gIx (eVar 1) (eNeg (eC (.int 1)))) aNil)) aNil))))))
theorem glR_ok (x0 x2 : Option D) (w0 w1 w2 w3 w4 w5 w6 : Str) (hp : HM) : glR [x0, some (.lst [.str w0, .str w1, .str w2, .str w3, .str w4, .str w5, .str w6]), x2] hp = .ok (.bl (decide (w0 = "guard") && decide (w5 = "bars"))) hp := by
  have i0 : gIx (.lst [.str w0, .str w1, .str w2, .str w3, .str w4, .str w5, .str w6]) (.int 0) hp = .ok (.str w0) hp := rfl
  have i2 : gIx (.lst [.str w0, .str w1, .str w2, .str w3, .str w4, .str w5, .str w6]) (.int (-2)) hp = .ok (.str w5) hp := rfl
  by_cases h : w0 = "guard"
  · subst h
    simp [glR, eAnd, eBin, eCall, aCons, aNil, eVar, eC, O.bind, gLen, gOne, seqOf, lstOf, gAdd, gEq, eqS, eNeg, i0, i2]
  · simp [glR, eAnd, eBin, eCall, aCons, aNil, eVar, eC, O.bind, gLen, gOne, seqOf, lstOf, gAdd, gEq, eqS, eNeg, i0, i2, h]
abbrev gdD (g : Gp) : D := .tup [tD g.1, tD g.2]
theorem rline_ok {k n : Nat} {g : Gp} (h : Gd k n g) (hk : k ≤ 4) (hn : n ≤ 4) (a : Int) : m_read_guard_line [.str (line g)] (HP a) = .ok (gdD g) (HP a) := by
  refine fn_rt (l := 3) (d := gdD g) (body := glB) ?_ (by simp [frz, okD, okL, ok_ints])
  have sp := split_ok (y := " ") (f := eVar 0) (t := line g) (loc := [some (.str (line g)), none, none]) (hp := HP a) (by decide +kernel) (by have := line_len h hk hn; omega) (line_split h hk hn) rfl
  obtain ⟨w, x, y, z, e⟩ := h.four
  have hr := h.rv hn
  have er : m_read_set [.str (joinTx "," g.2)] (HP a) = .ok (tD g.2) (HP a) := rset_ok (h.sv hk) h.bar.up a
  generalize hs : joinTx "," g.2 = S at *
  have ew : (lineW g).map D.str = [.str "guard", .str (tx w), .str (tx x), .str (tx y), .str (tx z), .str "bars", .str S] := by simp [lineW, e, hs]
  rw [ew] at sp
  have eg := glR_ok (some (.str (line g))) none "guard" (tx w) (tx x) (tx y) (tx z) "bars" S (HP a)
  have ec : glC [some (.str (line g)), some (.lst [.str "guard", .str (tx w), .str (tx x), .str (tx y), .str (tx z), .str "bars", .str S]), none] (HP a) = .ok (.lst (g.1.map .int)) (HP a) :=
    nums_comp (by simp) hr (by rw [e]; rfl)
  have ix : gIx (.lst [.str "guard", .str (tx w), .str (tx x), .str (tx y), .str (tx z), .str "bars", .str S]) (.int (-1)) (HP a) = .ok (.str S) (HP a) := rfl
  show glB [some (.str (line g)), none, none] (HP a) = _
  simp only [glB, sSeq, sAsg, sp, sE, List.set_cons_succ, List.set_cons_zero]
  simp only [sDrop, sRet, eTup, eCall, argc, aCons, aNil, O.bind, List.length_cons, List.length_nil, if_true, eg, decide_true, Bool.and_self, req_ok, sE, ec, gTuple, gOne, seqOf, lstOf, eBin, eVar, eC, eNeg, List.getElem?_cons_succ, List.getElem?_cons_zero, ix, er, big, gdD]
  simp
theorem rline_bad {t w0 w1 w2 w3 w4 w5 w6 : Str} (ht : t.length ≤ 1000000) (hs : Txt.split t " " = [w0, w1, w2, w3, w4, w5, w6]) (hb : (decide (w0 = "guard") && decide (w5 = "bars")) = false) (a : Int) : m_read_guard_line [.str t] (HP a) = .exc bt (HP a) := by
  have sp := split_ok (y := " ") (f := eVar 0) (t := t) (loc := [some (.str t), none, none]) (hp := HP a) (by decide +kernel) ht hs rfl
  have eg := glR_ok (some (.str t)) none w0 w1 w2 w3 w4 w5 w6 (HP a)
  rw [hb] at eg
  refine fn_exc (l := 3) (body := glB) (loc := [some (.str t), some (.lst [.str w0, .str w1, .str w2, .str w3, .str w4, .str w5, .str w6]), none]) ?_
  show glB [some (.str t), none, none] (HP a) = _
  simp only [glB, sSeq, sAsg, sp, sE, List.set_cons_succ, List.set_cons_zero, List.map_cons, List.map_nil]
  simp only [sDrop, eCall, argc, aCons, aNil, O.bind, List.length_cons, List.length_nil, if_true, eg, req_bad, sE]
theorem rline_nil (a : Int) : m_read_guard_line [.str ""] (HP a) = .exc bt (HP a) := by kernel_rfl
end G80

namespace G80
open PySem hiding Loc
open L2 Ms
def whole (gs : List Gp) : Str := Txt.join "\n" (gs.map line)
abbrev gdsD (gs : List Gp) : D := .tup [rowsD gs, barsD gs]
section
variable {k : Nat} {gs : List Gp} (h : Gds k gs)
include h
theorem Gds.tx : Few (gs.map line) := ⟨by have := h.hi; simpa using (by omega : gs.length ≤ 12), fun w hw => by
  obtain ⟨g, hg, rfl⟩ := List.mem_map.mp hw
  have := line_len (h.ok g hg) h.k4 h.hi; omega⟩
theorem whole_len : (whole gs).length ≤ 13000 := h.tx.len (by decide +kernel)
theorem Gds.ne : gs ≠ [] := fun e => by have := h.lo; rw [e] at this; simp at this
theorem whole_split : Txt.split (whole gs) "\n" = gs.map line := TL.split_join (s := 10) (S := []) rfl (by decide +kernel) (by simpa using h.ne) fun p hp => by
  obtain ⟨g, hg, rfl⟩ := List.mem_map.mp hp
  exact line_free (h.ok g hg) h.k4 h.hi
/-! is_guard -/
end
def igA : EM := eComp (iSeq (eVar 2)) (tgName 5) mYes (eAnd (eCall (argc 2 m_is_tuple) (aCons (eVar 5) (aCons (eCall gLen (aCons (eC (.tup (([0, 1, 2, 3] : List Int).map .int))) aNil)) aNil))) (eCall (argc 3 m_are_integers) (aCons (eVar 5) (aCons (eC (.int 0)) (aCons (eBin gSub (eCall gLen (aCons (eVar 2) aNil)) (eC (.int 1))) aNil))))) [5]
def igB : EM := eComp (iSeq (eVar 3)) (tgName 4) mYes (eCall (argc 3 m_are_numbers) (aCons (eVar 4) (aCons (eC (.int 0)) (aCons (eBin gSub (eVar 0) (eC (.int 1))) aNil)))) [4]
def igT : TM := (mOr (mNot (mTru (eCall (argc 2 m_is_tuple) (aCons (eVar 1) (aCons (eC (.int 2)) aNil))))) (mOr (mNot (mTru (eCall (argc 3 m_is_between) (aCons (eBin gIx (eVar 1) (eC (.int 0))) (aCons (eC (.int 1)) (aCons (eC (.int (5000))) aNil)))))) (mNot (mTru (eCall (argc 2 m_is_tuple) (aCons (eBin gIx (eVar 1) (eC (.int 1))) (aCons (eCall gLen (aCons (eBin gIx (eVar 1) (eC (.int 0))) aNil)) aNil)))))))
def igS : SM := (sSeq (sIf igT (sRet (eC (.bl false))) sNext)
    (sSeq (sAsgT (eVar 1) (tgTup 2 (tgsCons (tgName 2) (tgsCons (tgName 3) tgsNil))))
    (sSeq (sIf (mNot (mTru (eCall (gBls fun bs => bs.all id) (aCons igA aNil)))) (sRet (eC (.bl false))) sNext)
    (sRet (eCall (gBls fun bs => bs.all id) (aCons igB aNil))))))
theorem isbetween_ok {ds : List D} {lo hi : Int} (h : lo ≤ ds.length ∧ ds.length ≤ hi) (a : Int) : m_is_between [.tup ds, .int lo, .int hi] (HP a) = .ok (.bl true) (HP a) := by
  refine fn_rt (l := 3) (d := .bl true) (body := b_is_between) ?_ rfl
  simp [b_is_between, sIf, mAnd, mOr, mNot, mT, mTru, eBin, gGe, gI0, gPow, gI, CPow, eC, eVar, O.bind, sE, gGt, gLt, gLe, gEq, gNe, eqS, sSeq, sDrop, eAppend, eCall, argc, aCons, aNil, gInt, gOne, gMod, gDiv, CDiv, sAsg, gAdd, Ms.gSub, gMul, sRet, sNext, sSub, setD, gIx, eTup, eLst, eLstT, gLen, lstOf, seqOf, eIf, eNeg, eAnd, eIsi, isT, eChain, h]
theorem isguard_ok {k : Nat} {gs : List Gp} (h : Gds k gs) (a : Int) : m_is_guard [.int k, gdsD gs] (HP a) = .ok (.bl true) (HP a) := by
  refine fn_rt (l := 6) (d := .bl true) (body := igS) ?_ rfl
  show igS [some (.int k), some (gdsD gs), none, none, none, none] (HP a) = _
  have hlo := h.lo
  have hhi := h.hi
  have t1 := istup_ok [rowsD gs, barsD gs] 2 a
  have t2 := isbetween_ok (ds := gs.map fun g => tD g.1) (lo := 1) (hi := 5000) (by simp; omega) a
  have t3 := istup_ok (gs.map fun g => tD g.2) gs.length a
  rw [List.length_map, decide_eq_true rfl] at t3
  rw [show decide ((([rowsD gs, barsD gs] : List D).length : Int) = 2) = true from rfl] at t1
  have i0 : gIx (gdsD gs) (.int 0) (HP a) = .ok (rowsD gs) (HP a) := rfl
  have i1 : gIx (gdsD gs) (.int 1) (HP a) = .ok (barsD gs) (HP a) := rfl
  have hT : igT [some (.int k), some (gdsD gs), none, none, none, none] (HP a) = .ok false (HP a) := by
    simp only [igT, mOr, mNot, mTru, eCall, argc, aCons, aNil, eBin, eVar, eC, O.bind, List.getElem?_cons_succ, List.getElem?_cons_zero, List.length_cons, List.length_nil, if_true, t1, i0, t2, i1, gLen, gOne, seqOf, List.length_map, t3, truD]
    simp
  have eA : igA [some (.int k), some (gdsD gs), some (rowsD gs), some (barsD gs), none, none] (HP a) = .ok (.lst (gs.map fun _ => .bl true)) (HP a) :=
    comp_ok (xs := gs) (dom := fun g => tD g.1) (out := fun _ => .bl true) (seq_tup rfl) (fun g hg => ⟨_, rfl, by
      have r := (h.ok g hg).row
      have u1 := istup_ok (g.1.map D.int) 4 a
      rw [List.length_map, r.four, show decide (((4 : Nat) : Int) = 4) = true from rfl] at u1
      have u2 := aint_ok (vs := g.1) (by have := r.four; omega) 0 ((gs.length : Int) - 1) a
      rw [show g.1.all (inr 0 ((gs.length : Int) - 1)) = true from by
        rw [List.all_eq_true]
        intro v hv
        have := r.lo v hv
        simp [inr]; omega] at u2
      simp [wipeL, eAnd, eCall, argc, aCons, aNil, eBin, eVar, eC, O.bind, u1, gLen, gOne, seqOf, Ms.gSub, gI0, u2]⟩) (by omega)
  have eB : igB [some (.int k), some (gdsD gs), some (rowsD gs), some (barsD gs), none, none] (HP a) = .ok (.lst (gs.map fun _ => .bl true)) (HP a) :=
    comp_ok (xs := gs) (dom := fun g => tD g.2) (out := fun _ => .bl true) (seq_tup rfl) (fun g hg => ⟨_, rfl, by
      have r := (h.ok g hg).bar
      have u2 := anum_ok (vs := g.2) (by have := r.le; have := h.k4; omega) 0 ((k : Int) - 1) a (fun _ => r.up)
      rw [show g.2.all (inr 0 ((k : Int) - 1)) = true from by
        rw [List.all_eq_true]
        intro v hv
        have := r.lo v hv
        simp [inr]; omega] at u2
      simp [wipeL, eCall, argc, aCons, aNil, eBin, eVar, eC, O.bind, Ms.gSub, gI0, u2]⟩) (by omega)
  have fA := all_val eA
  have fB := all_val eB
  rw [show (gs.all fun _ => true) = true by simp] at fA fB
  have hA : sAsgT (eVar 1) (tgTup 2 (tgsCons (tgName 2) (tgsCons (tgName 3) tgsNil))) [some (.int k), some (gdsD gs), none, none, none, none] (HP a) = .nx [some (.int k), some (gdsD gs), some (rowsD gs), some (barsD gs), none, none] (HP a) := rfl
  simp only [igS, sSeq, sIf, hT, sE, Bool.false_eq_true, if_false, sNext, hA]
  simp only [mNot, mTru, fA, O.bind, truD, Bool.not_true, sE, Bool.false_eq_true, if_false, sRet, fB]
/-! read_guard -/
def rgA : EM := eComp (iSeq (eM1 gSplit (eVar 1) (eC (.str "\n")))) (tgName 4) mYes (eCall (argc 1 m_read_guard_line) (aCons (eVar 4) aNil)) [4]
def rgR : EM := eComp (iSeq (eVar 2)) (tgTup 2 (tgsCons (tgName 5) (tgsCons (tgName 6) tgsNil))) mYes (eVar 5) [5, 6]
def rgS : EM := eComp (iSeq (eVar 2)) (tgTup 2 (tgsCons (tgName 6) (tgsCons (tgName 7) tgsNil))) mYes (eVar 7) [6, 7]
def rgB : SM := (sSeq (sAsg rgA 2)
    (sSeq (sAsg (eTup (aCons (eCall gTuple (aCons rgR aNil)) (aCons (eCall gTuple (aCons rgS aNil)) aNil))) 3)
    (sSeq (sDrop (eCall (argc 1 m_require) (aCons (eCall (argc 2 m_is_guard) (aCons (eVar 0) (aCons (eVar 3) aNil))) aNil)))
    (sRet (eVar 3)))))
theorem ok_gd {β : Type} (f : β → List Int) (xs : List β) : okL 1 (xs.map fun g => tD (f g)) = true := ok_map 1 f xs
theorem rguard_ok {k : Nat} {gs : List Gp} (h : Gds k gs) (a : Int) : m_read_guard [.int k, .str (whole gs)] (HP a) = .ok (gdsD gs) (HP a) := by
  refine fn_rt (l := 8) (d := gdsD gs) (body := rgB) ?_ (by simp [frz, okD, okL, ok_map])
  show rgB [some (.int k), some (.str (whole gs)), none, none, none, none, none, none] (HP a) = _
  have sp := split_ok (y := "\n") (f := eVar 1) (t := whole gs) (loc := [some (.int k), some (.str (whole gs)), none, none, none, none, none, none]) (hp := HP a) (by decide +kernel) (by have := whole_len h; omega) (whole_split h) rfl
  rw [List.map_map] at sp
  have hz : gs.length ≤ 1000 := by have := h.hi; omega
  have e1 : rgA [some (.int k), some (.str (whole gs)), none, none, none, none, none, none] (HP a) = .ok (.lst (gs.map gdD)) (HP a) :=
    comp_ok (xs := gs) (dom := fun g => .str (line g)) (out := gdD) (seq_lst sp) (fun g hg => ⟨_, rfl, by
      have := rline_ok (h.ok g hg) h.k4 h.hi a
      simp only [wipeL, eCall, argc, aCons, aNil, eVar, O.bind, List.set_cons_succ, List.set_cons_zero, List.getElem?_cons_succ, List.getElem?_cons_zero, List.length_cons, List.length_nil, if_true, this]⟩) hz
  have e2 : rgR [some (.int k), some (.str (whole gs)), some (.lst (gs.map gdD)), none, none, none, none, none] (HP a) = .ok (.lst (gs.map fun g => tD g.1)) (HP a) :=
    comp_ok (xs := gs) (dom := gdD) (out := fun g => tD g.1) (seq_lst rfl) (fun g hg => ⟨_, rfl, rfl⟩) hz
  have e3 : rgS [some (.int k), some (.str (whole gs)), some (.lst (gs.map gdD)), none, none, none, none, none] (HP a) = .ok (.lst (gs.map fun g => tD g.2)) (HP a) :=
    comp_ok (xs := gs) (dom := gdD) (out := fun g => tD g.2) (seq_lst rfl) (fun g hg => ⟨_, rfl, rfl⟩) hz
  have e4 := isguard_ok h a
  simp only [rgB, sSeq, sAsg, e1, sE, List.set_cons_succ, List.set_cons_zero]
  simp only [eTup, aCons, aNil, eCall, e2, e3, O.bind, gTuple, gOne, seqOf, lstOf, List.length_cons, List.length_nil, big]
  simp only [Nat.reduceAdd, Nat.reduceLeDiff, if_true, sE, List.set_cons_succ, List.set_cons_zero, sDrop, eCall, aCons, aNil, argc, eVar, O.bind, List.getElem?_cons_succ, List.getElem?_cons_zero, List.length_cons, List.length_nil, Nat.reduceAdd, e4, req_ok, sRet]
/-- the first bad line -/
theorem rguard_bad {k : Nat} {gs : List Gp} (h4 : gs.length ≤ 4) {n : Nat} (hn : n ≤ 4) (hk : k ≤ 4) (h : ∀ g ∈ gs, Gd k n g) {t w : Str} {ws : List Str} (ht : t.length ≤ 1000000) (hs : Txt.split t "\n" = gs.map line ++ w :: ws) (a : Int) (hw : m_read_guard_line [.str w] (HP a) = .exc bt (HP a)) :
    m_read_guard [.int k, .str t] (HP a) = .exc bt (HP a) := by
  refine fn_exc (l := 8) (body := rgB) (loc := [some (.int k), some (.str t), none, none, none, none, none, none]) ?_
  show rgB [some (.int k), some (.str t), none, none, none, none, none, none] (HP a) = _
  have sp := split_ok (y := "\n") (f := eVar 1) (t := t) (loc := [some (.int k), some (.str t), none, none, none, none, none, none]) (hp := HP a) (by decide +kernel) ht hs rfl
  rw [List.map_append, List.map_map, List.map_cons] at sp
  have e1 : rgA [some (.int k), some (.str t), none, none, none, none, none, none] (HP a) = .exc bt (HP a) :=
    comp_exc (xs := gs) (dom := fun g => .str (line g)) (out := gdD) (seq_lst sp) ⟨_, rfl, by
      simp only [wipeL, eCall, argc, aCons, aNil, eVar, O.bind, List.set_cons_succ, List.set_cons_zero, List.getElem?_cons_succ, List.getElem?_cons_zero, List.length_cons, List.length_nil, if_true, hw]⟩ (fun g hg => ⟨_, rfl, by
      have := rline_ok (h g hg) hk hn a
      simp only [wipeL, eCall, argc, aCons, aNil, eVar, O.bind, List.set_cons_succ, List.set_cons_zero, List.getElem?_cons_succ, List.getElem?_cons_zero, List.length_cons, List.length_nil, if_true, this]⟩) (by omega)
  simp only [rgB, sSeq, sAsg, e1, sE]
end G80

namespace G80
open PySem hiding Loc
open L2 Ms PySem.StrLaws
/-! replace -/
theorem rp_free {s : Nat} {S z r : List Nat} : ∀ {p : List Nat}, s ∉ p → replL (s :: S) z (p ++ r) = p ++ replL (s :: S) z r
  | [], _ => rfl
  | c :: p, h => by
    simp only [List.mem_cons, not_or] at h
    rw [List.cons_append, replL_miss (by
      intro e
      rw [List.length_cons, List.take_succ_cons] at e
      injection e with e1 _
      exact h.1 e1.symm), rp_free h.2]; rfl
theorem rp_hit {s : Nat} {S z r : List Nat} : replL (s :: S) z (s :: S ++ r) = z ++ replL (s :: S) z r := by
  rw [List.cons_append, replL_hit (by simp) (by simp)]
  simp
theorem rp_one (c d : Nat) : ∀ l : List Nat, replL [c] [d] l = l.map fun x => if x = c then d else x
  | [] => replL_nil
  | x :: l => by
    by_cases h : x = c
    · subst h
      have := rp_hit (s := x) (S := []) (z := [d]) (r := l)
      simp only [List.singleton_append] at this
      rw [this, rp_one x d l]; simp
    · have := rp_free (s := c) (S := []) (z := [d]) (r := l) (p := [x]) (by simp; exact fun e => h e.symm)
      simp only [List.singleton_append] at this
      rw [this, rp_one c d l]; simp [h]
theorem rp_len (y z : List Nat) : ∀ (l : List Nat) (s : Nat), (replS y z s l).length ≤ l.length * (z.length + 1)
  | [], s => by cases s <;> simp [replS]
  | c :: r, 0 => by
    rw [replS, List.length_cons, Nat.succ_mul]
    split
    · have := rp_len y z r (y.length - 1)
      rw [List.length_append]; omega
    · have := rp_len y z r 0
      rw [List.length_cons]; omega
  | c :: r, s + 1 => by
    have := rp_len y z r s
    rw [replS, List.length_cons, Nat.succ_mul]; omega
theorem repl_tl {x y z : Str} (hy : 1 ≤ y.length) : TL.tl (Txt.replace x y z) = replL (TL.tl y) (TL.tl z) (TL.tl x) := replace_list hy
theorem repl_len {x y z : Str} (hy : 1 ≤ y.length) : (Txt.replace x y z).length ≤ x.length * (z.length + 1) := by
  rw [TL.len_tl, repl_tl hy, TL.len_tl x, TL.len_tl z]
  exact rp_len _ _ _ _
/-! bad eyes -/
theorem eys_sp0 {es : List (List Int)} (h : Ews es) : eysTx es ++ " 0" = eysTx (es ++ [[0]]) := by
  have e0 : eyTx [0] = "0" := by kernel_rfl
  have e1 : TL.tl (" 0" : Str) = TL.tl (" " : Str) ++ TL.tl ("0" : Str) := by decide +kernel
  rw [eysTx, eysTx, List.map_append, List.map_cons, List.map_nil, join_snoc _ _ (by simpa using h.ne), e0]
  exact TL.ext_tl (by rw [TL.tl_append, TL.tl_append, TL.tl_append, e1, List.append_assoc])
theorem Ews.snoc {es : List (List Int)} (h : Ews es) (h4 : es.length ≤ 10) {e : List Int} (he : Ew e) : Ews (es ++ [e]) := ⟨by simp, by simp; omega, fun x hx => by
  rw [List.mem_append] at hx
  rcases hx with hx | hx
  · exact h.ok x hx
  · simp at hx; subst hx; exact he⟩
theorem bad_a {es : List (List Int)} (h : Ews es) (h4 : es.length ≤ 4) (hp : ∀ e ∈ es, e.Pairwise (· < ·)) (a : Int) : m_read_eyes [.int es.length, .str (eysTx es ++ " 0")] (HP a) = .exc bt (HP a) := by
  have h2 : Ews (es ++ [[0]]) := h.snoc (by omega) ⟨by simp, by simp, by intro v hv; simp at hv; subst hv; exact .inr (.inl (by omega))⟩
  rw [eys_sp0 h, reyes_ok h2 (by have := eys_len h2; omega) (eys_split h2) (fun e he _ => by
    rw [List.mem_append] at he
    rcases he with he | he
    · exact hp e he
    · simp at he; subst he; simp)]
  rw [if_neg]
  have : ¬ (((es ++ [[0]]).length : Int) = es.length) := by simp <;> omega
  rw [decide_eq_false this]; simp
theorem bad_b {es : List (List Int)} (h : Ews es) (h4 : es.length ≤ 4) (n a : Int) : m_read_eyes [.int n, .str (eysTx es ++ " ")] (HP a) = .exc bt (HP a) := by
  have e : eysTx es ++ " " = Txt.join " " (es.map eyTx ++ [("" : Str)]) := by
    rw [eysTx, join_snoc _ _ (by simpa using h.ne)]
    exact TL.ext_tl (by rw [TL.tl_append _ ("" : Str)]; exact (List.append_nil _).symm)
  have hl : (eysTx es ++ " ").length ≤ 1000000 := by
    have := eys_len h
    have h1 : (" " : Str).length = 1 := by decide +kernel
    rw [len_app]; omega
  refine reyes_sp h hl ?_ n a
  rw [e]
  refine TL.split_join (s := 32) (S := []) rfl (by decide +kernel) (by simp) fun p hp => ?_
  rw [List.mem_append] at hp
  rcases hp with hp | hp
  · obtain ⟨v, hv, rfl⟩ := List.mem_map.mp hp
    exact ey_free (h.ok v hv)
  · simp at hp; subst hp; decide +kernel
def f4 (v : Int) : Int := if v = -1 then 4 else v
theorem joinL_map (f : Nat → Nat) (S : List Nat) : ∀ ps : List (List Nat), (TL.joinL S ps).map f = TL.joinL (S.map f) (ps.map (List.map f))
  | [] => rfl
  | [p] => rfl
  | p :: q :: r => by
    show (p ++ (S ++ TL.joinL S (q :: r))).map f = p.map f ++ (S.map f ++ TL.joinL (S.map f) ((q :: r).map (List.map f)))
    rw [List.map_append, List.map_append, joinL_map f S (q :: r)]
theorem sg_f4 {v : Int} (h : -1 ≤ v ∧ v ≤ 3) : (TL.tl (sg v)).map (fun x => if x = 45 then 52 else x) = TL.tl (sg (f4 v)) := by
  have : v = -1 ∨ v = 0 ∨ v = 1 ∨ v = 2 ∨ v = 3 := by omega
  rcases this with rfl | rfl | rfl | rfl | rfl <;> decide +kernel
theorem eys_f4 {es : List (List Int)} (h : ∀ e ∈ es, ∀ v ∈ e, -1 ≤ v ∧ v ≤ 3) : Txt.replace (eysTx es) "-" "4" = eysTx (es.map (List.map f4)) := by
  refine TL.ext_tl ?_
  rw [repl_tl (by decide +kernel)]
  show replL [45] [52] _ = _
  rw [rp_one, eysTx, eysTx, tl_j, tl_j, joinL_map]
  have e1 : (TL.tl (" " : Str)).map (fun x => if x = 45 then 52 else x) = TL.tl (" " : Str) := by decide +kernel
  rw [e1, List.map_map, List.map_map, List.map_map, List.map_map]
  congr 1
  refine List.map_congr_left fun e he => ?_
  simp only [Function.comp]
  rw [eyTx, eyTx, tl_j, tl_j, joinL_map]
  have e2 : (TL.tl ("," : Str)).map (fun x => if x = 45 then 52 else x) = TL.tl ("," : Str) := by decide +kernel
  rw [e2, List.map_map, List.map_map, List.map_map, List.map_map]
  congr 1
  refine List.map_congr_left fun v hv => ?_
  exact sg_f4 (h e he v hv)
theorem eys_9 {E : List (List Int)} {e : List Int} (he : e ≠ []) : eysTx (E ++ [e]) ++ ",9" = eysTx (E ++ [e ++ [9]]) := by
  have e0 : TL.tl (",9" : Str) = TL.tl ("," : Str) ++ TL.tl (sg 9) := by decide +kernel
  have e1 : eyTx (e ++ [9]) = eyTx e ++ "," ++ sg 9 := by
    rw [eyTx, List.map_append, List.map_cons, List.map_nil, join_snoc _ _ (by simpa using he)]; rfl
  rw [eysTx, eysTx, List.map_append, List.map_append, List.map_cons, List.map_nil, List.map_cons, List.map_nil, e1]
  by_cases hE : E = []
  · subst hE
    rw [List.map_nil, List.nil_append, List.nil_append, join_one, join_one]
    exact TL.ext_tl (by simp only [TL.tl_append, e0, List.append_assoc])
  · rw [join_snoc _ _ (by simpa using hE), join_snoc _ _ (by simpa using hE)]
    exact TL.ext_tl (by simp only [TL.tl_append, e0, List.append_assoc])
theorem bad_c {es : List (List Int)} (h0 : es ≠ []) (h4 : es.length ≤ 4) (h : ∀ e ∈ es, Eye e) (n a : Int) : m_read_eyes [.int n, .str (Txt.replace (eysTx es) "-" "4" ++ ",9")] (HP a) = .exc bt (HP a) := by
  have key : ∀ e ∈ es, Ew (e.map f4) ∧ (e.map f4).length ≤ 5 ∧ ((e.map f4).all (inr (-1) 3) = true → (e.map f4).Pairwise (· < ·)) := by
    intro e he
    have y := h e he
    refine ⟨⟨?_, by have := y.le; simp; omega, fun v hv => ?_⟩, by have := y.le; simpa using this, fun hi => ?_⟩
    · intro q
      have := congrArg List.length q
      have := y.ne
      simp at *; simp_all
    · obtain ⟨u, hu, rfl⟩ := List.mem_map.mp hv
      have := y.lo u hu
      unfold f4
      split
      · exact .inr (.inl (by omega))
      · exact .inr (.inl (by omega))
    · have : e.map f4 = e := by
        rw [List.all_eq_true] at hi
        conv => rhs; rw [← List.map_id e]
        refine List.map_congr_left fun v hv => ?_
        have q := hi (f4 v) (List.mem_map_of_mem hv)
        unfold f4 at q ⊢
        by_cases h1 : v = -1
        · simp [h1, inr] at q
        · rw [if_neg h1]; rfl
      rw [this]; exact y.up
  rw [eys_f4 (fun e he => (h e he).lo)]
  obtain ⟨E, e, rfl⟩ : ∃ E e, es = E ++ [e] := ⟨es.dropLast, es.getLast h0, (List.dropLast_concat_getLast h0).symm⟩
  have ke := key e (by simp)
  rw [List.map_append, List.map_cons, List.map_nil, eys_9 ke.1.ne]
  have hz : E.length ≤ 4 := by simp at h4; omega
  have h2 : Ews (E.map (List.map f4) ++ [e.map f4 ++ [9]]) := by
    refine ⟨by simp, by simp; omega, fun x hx => ?_⟩
    rw [List.mem_append] at hx
    rcases hx with hx | hx
    · obtain ⟨u, hu, rfl⟩ := List.mem_map.mp hx
      exact (key u (by simp [hu])).1
    · simp only [List.mem_singleton] at hx
      subst hx
      refine ⟨by simp, by have := ke.2.1; simp at this ⊢; omega, fun v hv => ?_⟩
      rw [List.mem_append] at hv
      rcases hv with hv | hv
      · exact ke.1.ok v hv
      · simp at hv; subst hv; exact .inr (.inl (by omega))
  rw [reyes_ok h2 (by have := eys_len h2; omega) (eys_split h2) (fun x hx hi => by
    rw [List.mem_append] at hx
    rcases hx with hx | hx
    · obtain ⟨u, hu, rfl⟩ := List.mem_map.mp hx
      exact (key u (by simp [hu])).2.2 hi
    · simp only [List.mem_singleton] at hx
      subst hx
      rw [List.all_append] at hi
      simp [inr] at hi)]
  rw [if_neg]
  simp [eyIn, inr]
end G80

namespace G80
open PySem hiding Loc
open L2 Ms PySem.StrLaws
/-! bad guards -/
theorem bad_e {k : Nat} {gs : List Gp} (h : Gds k gs) (a : Int) : m_read_guard [.int k, .str (whole gs ++ "\n")] (HP a) = .exc bt (HP a) := by
  have e : whole gs ++ "\n" = Txt.join "\n" (gs.map line ++ [("" : Str)]) := by
    rw [whole, join_snoc _ _ (by simpa using h.ne)]
    exact TL.ext_tl (by rw [TL.tl_append _ ("" : Str)]; exact (List.append_nil _).symm)
  have hl : (whole gs ++ "\n").length ≤ 1000000 := by
    have := whole_len h
    have h1 : ("\n" : Str).length = 1 := by decide +kernel
    rw [len_app]; omega
  refine rguard_bad h.hi h.hi h.k4 h.ok (w := "") (ws := []) hl ?_ a (rline_nil a)
  rw [e]
  refine TL.split_join (s := 10) (S := []) rfl (by decide +kernel) (by simp) fun p hp => ?_
  rw [List.mem_append] at hp
  rcases hp with hp | hp
  · obtain ⟨v, hv, rfl⟩ := List.mem_map.mp hp
    exact line_free (h.ok v hv) h.k4 h.hi
  · simp at hp; subst hp; decide +kernel
theorem first_split {t w : Str} (hw : 10 ∉ TL.tl w) (ht : TL.tl t = TL.tl w ∨ ∃ q, TL.tl t = TL.tl w ++ 10 :: q) : ∃ ws, Txt.split t "\n" = w :: ws := by
  have sp := TL.split_spl t "\n" (by decide +kernel) (TL.kind_ok (by decide +kernel))
  have ey : TL.tl ("\n" : Str) = [10] := by decide +kernel
  rw [ey] at sp
  rcases ht with ht | ⟨q, ht⟩
  · rw [ht, TL.spl_last1 hw, List.nil_append] at sp
    exact ⟨[], TL.map_tl_inj (by rw [sp]; rfl)⟩
  · rw [ht] at sp
    have := TL.spl_part1 (s := 10) (S := []) (p := TL.tl w) (rest := q) (acc := []) hw
    simp only [List.singleton_append, List.nil_append, List.cons_append] at this
    rw [this] at sp
    cases hs : Txt.split t "\n" with
    | nil => rw [hs] at sp; cases sp
    | cons x xs =>
      rw [hs, List.map_cons] at sp
      injection sp with s1 s2
      exact ⟨xs, by rw [TL.ext_tl s1]⟩
theorem repl_first {g : Gp} {gs : List Gp} {y z : Str} {s : Nat} {S P Q : List Nat} (hy : TL.tl y = s :: S) (hl : TL.tl (line g) = P ++ (s :: S ++ Q)) (hP : s ∉ P) (hQ : s ∉ Q) (hs : s ≠ 10) :
    TL.tl (Txt.replace (whole (g :: gs)) y z) = P ++ (TL.tl z ++ Q) ∨ ∃ q, TL.tl (Txt.replace (whole (g :: gs)) y z) = (P ++ (TL.tl z ++ Q)) ++ 10 :: q := by
  have hy1 : 1 ≤ y.length := by rw [TL.len_tl, hy]; simp
  rw [repl_tl hy1, hy]
  cases gs with
  | nil =>
    left
    rw [whole, List.map_cons, List.map_nil, join_one, hl, rp_free hP, rp_hit]
    have := rp_free (s := s) (S := S) (z := TL.tl z) (r := []) hQ
    rw [List.append_nil, replL_nil, List.append_nil] at this
    rw [this]
  | cons g1 gs =>
    right
    have e : TL.tl (whole (g :: g1 :: gs)) = P ++ (s :: S ++ (Q ++ ([10] ++ TL.tl (whole (g1 :: gs))))) := by
      rw [whole, tl_j]
      show TL.tl (line g) ++ (TL.tl ("\n" : Str) ++ TL.joinL (TL.tl ("\n" : Str)) (((g1 :: gs).map line).map TL.tl)) = _
      rw [← tl_j, hl, show TL.tl ("\n" : Str) = [10] by decide +kernel]
      simp only [List.append_assoc]; rfl
    rw [e, rp_free hP, rp_hit, rp_free hQ, rp_free (p := [10]) (by simp; exact hs)]
    exact ⟨replL (s :: S) (TL.tl z) (TL.tl (whole (g1 :: gs))), by simp⟩
theorem bad_fg {k : Nat} {gs : List Gp} (h : Gds k gs) {y z w0 w5 : Str} (hy : y.length ≤ 5) (hz : z.length ≤ 5) {s : Nat} {S : List Nat} (ey : TL.tl y = s :: S) (hs : s ≠ 10)
    (hl : ∀ g, Gd k gs.length g → ∃ P Q, TL.tl (line g) = P ++ (s :: S ++ Q) ∧ s ∉ P ∧ s ∉ Q ∧ ∃ w1 w2 w3 w4 w6 : Str, P ++ (TL.tl z ++ Q) = TL.tl (Txt.join " " [w0, w1, w2, w3, w4, w5, w6]) ∧ ∀ w ∈ ([w0, w1, w2, w3, w4, w5, w6] : List Str), 10 ∉ TL.tl w ∧ 32 ∉ TL.tl w)
    (hb : (decide (w0 = "guard") && decide (w5 = "bars")) = false) (a : Int) : m_read_guard [.int k, .str (Txt.replace (whole gs) y z)] (HP a) = .exc bt (HP a) := by
  have hy1 : 1 ≤ y.length := by rw [TL.len_tl, ey]; simp
  have hlen : (Txt.replace (whole gs) y z).length ≤ 78000 := by
    have h1 := repl_len (x := whole gs) (z := z) hy1
    have h2 := whole_len h
    have h3 : (whole gs).length * (z.length + 1) ≤ 13000 * 6 := Nat.mul_le_mul h2 (by omega)
    omega
  obtain ⟨g, r, e⟩ : ∃ g r, gs = g :: r := by
    cases q : gs with
    | nil => exact absurd q h.ne
    | cons g r => exact ⟨g, r, rfl⟩
  have hg : Gd k gs.length g := h.ok g (by rw [e]; simp)
  obtain ⟨P, Q, l1, l2, l3, w1, w2, w3, w4, w6, l4, l5⟩ := hl g hg
  have rf := repl_first (gs := r) (z := z) ey l1 l2 l3 hs
  rw [← e, l4] at rf
  have w10 : 10 ∉ TL.tl (Txt.join " " [w0, w1, w2, w3, w4, w5, w6]) := join_free (by decide +kernel) fun w hw => (l5 w hw).1
  obtain ⟨ws, sp⟩ := first_split w10 rf
  have wsp : Txt.split (Txt.join " " [w0, w1, w2, w3, w4, w5, w6]) " " = [w0, w1, w2, w3, w4, w5, w6] := TL.split_join (s := 32) (S := []) rfl (by decide +kernel) (by simp) fun w hw => (l5 w hw).2
  have wl : (Txt.join " " [w0, w1, w2, w3, w4, w5, w6]).length ≤ 1000000 := by
    have e1 : (Txt.join " " [w0, w1, w2, w3, w4, w5, w6]).length ≤ (Txt.replace (whole gs) y z).length := by
      rw [TL.len_tl, TL.len_tl]
      rcases rf with rf | ⟨q, rf⟩
      · rw [rf]; exact Nat.le_refl _
      · rw [rf, List.length_append]; omega
    omega
  exact rguard_bad (gs := []) (by simp) (n := 0) (by omega) h.k4 (by simp) (w := Txt.join " " [w0, w1, w2, w3, w4, w5, w6]) (ws := ws) (by omega) (by rw [sp]; rfl) a (rline_bad wl wsp hb a)
theorem line_tl {k n : Nat} {g : Gp} (h : Gd k n g) : ∃ a b c d, g.1 = [a, b, c, d] ∧ TL.tl (line g) = [103, 117, 97, 114, 100] ++ ([32] ++ (TL.tl (tx a) ++ ([32] ++ (TL.tl (tx b) ++ ([32] ++ (TL.tl (tx c) ++ ([32] ++ (TL.tl (tx d) ++ ([32] ++ ([98, 97, 114, 115] ++ ([32] ++ TL.tl (joinTx "," g.2)))))))))))) := by
  obtain ⟨a, b, c, d, e⟩ := h.four
  refine ⟨a, b, c, d, e, ?_⟩
  have e1 : TL.tl ("guard" : Str) = [103, 117, 97, 114, 100] := by decide +kernel
  have e2 : TL.tl ("bars" : Str) = [98, 97, 114, 115] := by decide +kernel
  have e3 : TL.tl (" " : Str) = [32] := by decide +kernel
  rw [line_eq h, tl_j]
  simp only [lineW, e, List.map_cons, List.map_nil, List.cons_append, List.nil_append, TL.joinL, e1, e2, e3]
theorem bad_f {k : Nat} {gs : List Gp} (h : Gds k gs) (a : Int) : m_read_guard [.int k, .str (Txt.replace (whole gs) "guard" "gard")] (HP a) = .exc bt (HP a) := by
  refine bad_fg h (s := 103) (S := [117, 97, 114, 100]) (w0 := "gard") (w5 := "bars") (by decide +kernel) (by decide +kernel) (by decide +kernel) (by omega) (fun g hg => ?_) (by decide +kernel) a
  obtain ⟨x, y, z, w, e, et⟩ := line_tl hg
  have rv := hg.rv h.hi
  rw [e] at rv
  have sv := hg.sv h.k4
  have f : ∀ s : Nat, s < 44 ∨ 57 < s → s ∉ TL.tl (tx x) ∧ s ∉ TL.tl (tx y) ∧ s ∉ TL.tl (tx z) ∧ s ∉ TL.tl (tx w) ∧ s ∉ TL.tl (joinTx "," g.2) := fun s hs =>
    ⟨tx_free (rv.sm x (by simp)) (by omega), tx_free (rv.sm y (by simp)) (by omega), tx_free (rv.sm z (by simp)) (by omega), tx_free (rv.sm w (by simp)) (by omega), set_free sv hs⟩
  refine ⟨[], _, et, by simp, ?_, tx x, tx y, tx z, tx w, joinTx "," g.2, ?_, ?_⟩
  · have := f 103 (by omega)
    simp only [List.mem_append, List.mem_cons, List.not_mem_nil, or_false, not_or]
    simp [this]
  · have e1 : TL.tl ("gard" : Str) = [103, 97, 114, 100] := by decide +kernel
    have e2 : TL.tl ("bars" : Str) = [98, 97, 114, 115] := by decide +kernel
    have e3 : TL.tl (" " : Str) = [32] := by decide +kernel
    rw [tl_j]
    simp only [List.map_cons, List.map_nil, TL.joinL, e1, e2, e3, List.nil_append]
  · intro u hu
    simp only [List.mem_cons, List.not_mem_nil, or_false] at hu
    have f1 := f 10 (by omega)
    have f2 := f 32 (by omega)
    rcases hu with rfl | rfl | rfl | rfl | rfl | rfl | rfl
    · exact ⟨by decide +kernel, by decide +kernel⟩
    · exact ⟨f1.1, f2.1⟩
    · exact ⟨f1.2.1, f2.2.1⟩
    · exact ⟨f1.2.2.1, f2.2.2.1⟩
    · exact ⟨f1.2.2.2.1, f2.2.2.2.1⟩
    · exact ⟨by decide +kernel, by decide +kernel⟩
    · exact ⟨f1.2.2.2.2, f2.2.2.2.2⟩
theorem bad_g {k : Nat} {gs : List Gp} (h : Gds k gs) (a : Int) : m_read_guard [.int k, .str (Txt.replace (whole gs) "bars" "bar")] (HP a) = .exc bt (HP a) := by
  refine bad_fg h (s := 98) (S := [97, 114, 115]) (w0 := "guard") (w5 := "bar") (by decide +kernel) (by decide +kernel) (by decide +kernel) (by omega) (fun g hg => ?_) (by decide +kernel) a
  obtain ⟨x, y, z, w, e, et⟩ := line_tl hg
  have rv := hg.rv h.hi
  rw [e] at rv
  have sv := hg.sv h.k4
  have f : ∀ s : Nat, s < 44 ∨ 57 < s → s ∉ TL.tl (tx x) ∧ s ∉ TL.tl (tx y) ∧ s ∉ TL.tl (tx z) ∧ s ∉ TL.tl (tx w) ∧ s ∉ TL.tl (joinTx "," g.2) := fun s hs =>
    ⟨tx_free (rv.sm x (by simp)) (by omega), tx_free (rv.sm y (by simp)) (by omega), tx_free (rv.sm z (by simp)) (by omega), tx_free (rv.sm w (by simp)) (by omega), set_free sv hs⟩
  refine ⟨[103, 117, 97, 114, 100] ++ ([32] ++ (TL.tl (tx x) ++ ([32] ++ (TL.tl (tx y) ++ ([32] ++ (TL.tl (tx z) ++ ([32] ++ (TL.tl (tx w) ++ [32])))))))), [32] ++ TL.tl (joinTx "," g.2), ?_, ?_, ?_, tx x, tx y, tx z, tx w, joinTx "," g.2, ?_, ?_⟩
  · rw [et]; simp only [List.append_assoc]
  · have := f 98 (by omega)
    simp only [List.mem_append, List.mem_cons, List.not_mem_nil, or_false, not_or]
    simp [this]
  · have := f 98 (by omega)
    simp only [List.mem_append, List.mem_cons, List.not_mem_nil, or_false, not_or]
    simp [this]
  · have e1 : TL.tl ("guard" : Str) = [103, 117, 97, 114, 100] := by decide +kernel
    have e2 : TL.tl ("bar" : Str) = [98, 97, 114] := by decide +kernel
    have e3 : TL.tl (" " : Str) = [32] := by decide +kernel
    rw [tl_j]
    simp only [List.map_cons, List.map_nil, TL.joinL, e1, e2, e3, List.append_assoc]
  · intro u hu
    simp only [List.mem_cons, List.not_mem_nil, or_false] at hu
    have f1 := f 10 (by omega)
    have f2 := f 32 (by omega)
    rcases hu with rfl | rfl | rfl | rfl | rfl | rfl | rfl
    · exact ⟨by decide +kernel, by decide +kernel⟩
    · exact ⟨f1.1, f2.1⟩
    · exact ⟨f1.2.1, f2.2.1⟩
    · exact ⟨f1.2.2.1, f2.2.2.1⟩
    · exact ⟨f1.2.2.2.1, f2.2.2.2.1⟩
    · exact ⟨by decide +kernel, by decide +kernel⟩
    · exact ⟨f1.2.2.2.2, f2.2.2.2.2⟩
/-! write_guard -/
theorem fn_rtG {n l : Nat} {body : SM} {ds : List D} {hp : HM} {d d' : D} (hk : (hp.all fun m => okM hp.length m) = true) (h : body (ds.map some ++ List.replicate (l - n) none) hp = .rt d hp) (hd : frz hp.length hp d = some d') : fnOf n l body ds hp = .ok d' hp := by
  simp only [fnOf, h, List.take_length, hk, if_true, hd]
theorem wsetG {hp : HM} (hk : (hp.all fun m => okM hp.length m) = true) {vs : List Int} (h : Sv vs) : m_write_set [tD vs] hp = .ok (.str (joinTx "," vs)) hp := by
  refine fn_rtG (l := 2) (d := .str (joinTx "," vs)) (body := (sRet (eIf (mT (eBin gGt (eCall gLen (aCons (eVar 0) aNil)) (eC (.int 0)))) (eM1 gJoin (eC (.str ",")) strC) (eC (.str "-"))))) hk ?_ (by simp [frz, okD])
  have hl : ([tD vs].map some ++ List.replicate (2 - 1) (none : Option D)) = [some (tD vs), none] := rfl
  rw [hl]
  by_cases h0 : vs = []
  · subst h0; rfl
  · have h1 : 0 < vs.length := List.length_pos_iff.mpr h0
    have j := join_ok (y := ",") (by decide +kernel) h.tx hp
    rw [joinTx, if_neg h0]
    simp [sIf, mAnd, mOr, mNot, mT, mTru, eBin, gGe, gI0, gPow, gI, CPow, eC, eVar, O.bind, sE, gGt, gLt, gLe, gEq, gNe, eqS, sSeq, sDrop, eAppend, eCall, argc, aCons, aNil, gInt, gOne, gMod, gDiv, CDiv, sAsg, gAdd, Ms.gSub, gMul, sRet, sNext, sSub, setD, gIx, eTup, eLst, eLstT, gLen, lstOf, seqOf, eIf, eNeg, h1, eM1, strC_ok h, -List.map_map, j]
def wgC : EM := eComp (iSeq (eVar 2)) (tgName 4) mYes (eCall gStrI (aCons (eVar 4) aNil)) [4]
def wgE : EM := (eBin gAdd (eBin gAdd (eBin gAdd (eC (.str "guard ")) (eM1 gJoin (eC (.str " ")) wgC)) (eC (.str " bars "))) (eCall (argc 1 m_write_set) (aCons (eVar 3) aNil)))
def wgB : SM := (sDrop (eAppend (eVar 1) wgE))
theorem line_part {k n : Nat} {g : Gp} (h : Gd k n g) (hk : k ≤ 4) (hn : n ≤ 4) : ("guard " : Str).length + (Txt.join " " (g.1.map tx)).length ≤ 1000000 ∧ (("guard " : Str) ++ Txt.join " " (g.1.map tx)).length + (" bars " : Str).length ≤ 1000000 ∧ (("guard " : Str) ++ Txt.join " " (g.1.map tx) ++ " bars ").length + (joinTx "," g.2).length ≤ 1000000 := by
  have h1 := (h.rv hn).tx.len (y := " ") (by decide +kernel)
  have h2 := joinTx_len (y := ",") (by decide +kernel) (h.sv hk)
  have h3 : ("guard " : Str).length = 6 := by decide +kernel
  have h4 : (" bars " : Str).length = 6 := by decide +kernel
  simp only [len_app]
  omega
theorem wguard_ok {k : Nat} {gs : List Gp} (h : Gds k gs) (a : Int) : m_write_guard [gdsD gs] (HP a) = .ok (.str (whole gs)) (HP a) := by
  have hzip : ∀ gs : List Gp, zipD (gs.map fun g => tD g.1) (gs.map fun g => tD g.2) = gs.map gdD := by
    intro gs; induction gs with
    | nil => rfl
    | cons g r ih => simp [zipD, ih]
  have hok : ∀ l : List Str, okL 2 (l.map D.str) = true := by
    intro l; induction l with
    | nil => rfl
    | cons x l ih => simp [okL, okD, ih]
  have hhi := h.hi
  obtain ⟨l, hp, e, l2, l3, q1, q2⟩ := forI (it := ⟨gs.map gdD, none⟩) (g := tgTup 2 (tgsCons (tgName 2) (tgsCons (tgName 3) tgsNil))) (body := wgB) rfl (gs.map gdD)
    (fun j loc hp => ∃ l2 l3, loc = [some (gdsD gs), some (.ref 1), l2, l3, none] ∧ hp = [.lst [.int a], .lst (((gs.take j).map line).map .str)]) (by
      rintro j d hd loc hp ⟨l2, l3, rfl, rfl⟩
      rw [List.getElem?_map] at hd
      have hj : j < gs.length := by
        rcases Nat.lt_or_ge j gs.length with hj | hj
        · exact hj
        · rw [List.getElem?_eq_none hj] at hd; cases hd
      rw [List.getElem?_eq_getElem hj] at hd
      simp only [Option.map_some, Option.some.injEq] at hd
      subst hd
      have hg : Gd k gs.length gs[j] := h.ok gs[j] (by simp)
      refine ⟨_, rfl, _, _, ?_, some (tD gs[j].1), some (tD gs[j].2), rfl, rfl⟩
      obtain ⟨z1, z2, z3⟩ := line_part hg h.k4 h.hi
      have ec : wgC [some (gdsD gs), some (.ref 1), some (tD gs[j].1), some (tD gs[j].2), none] [.lst [.int a], .lst (((gs.take j).map line).map .str)] = .ok (.lst ((gs[j].1.map tx).map .str)) [.lst [.int a], .lst (((gs.take j).map line).map .str)] := by
        rw [List.map_map (f := tx)]
        exact comp_ok (xs := gs[j].1) (dom := .int) (out := fun v => .str (tx v)) (seq_tup rfl) (fun v hv => ⟨_, rfl, by simp [eCall, aCons, aNil, eVar, O.bind, wipeL, str_ok ((hg.rv h.hi).sm v hv)]⟩) (by have := (hg.rv h.hi).few; omega)
      have j1 := join_ok (y := " ") (by decide +kernel) (hg.rv h.hi).tx [.lst [.int a], .lst (((gs.take j).map line).map .str)]
      have ew := wsetG (hp := [.lst [.int a], .lst (((gs.take j).map line).map .str)]) (by simp only [List.all_cons, List.all_nil, okM, List.length_cons, List.length_nil]; rw [hok]; rfl) (hg.sv h.k4)
      have ee : wgE [some (gdsD gs), some (.ref 1), some (tD gs[j].1), some (tD gs[j].2), none] [.lst [.int a], .lst (((gs.take j).map line).map .str)] = .ok (.str (line gs[j])) [.lst [.int a], .lst (((gs.take j).map line).map .str)] := by
        simp only [wgE, eBin, eC, eM1, O.bind, ec, j1, gAdd, big, z1, z2, z3, if_true, eCall, argc, aCons, aNil, eVar, List.getElem?_cons_succ, List.getElem?_cons_zero, List.length_cons, List.length_nil, ew, line]
      have hz : (gs.take j).length < 1000000 := by rw [List.length_take]; omega
      rw [List.take_succ_eq_append_getElem hj]
      show wgB [some (gdsD gs), some (.ref 1), some (tD gs[j].1), some (tD gs[j].2), none] _ = _
      simp only [wgB, sDrop, eAppend, eVar, O.bind, List.getElem?_cons_succ, List.getElem?_cons_zero, ee, List.length_map, big, hz, if_true, sE, List.set_cons_succ, List.set_cons_zero, List.map_append, List.map_cons, List.map_nil])
    (gs.map gdD) [] [some (gdsD gs), some (.ref 1), none, none, none] [.lst [.int a], .lst []] rfl ⟨none, none, rfl, rfl⟩
  subst q1 q2
  rw [List.length_map, List.take_length] at e
  have hb : (sSeq (sAsg (eLstT aNil) 1) (sSeq (sFor (iZipM (aCons (eBin gIx (eVar 0) (eC (.int 0))) (aCons (eBin gIx (eVar 0) (eC (.int 1))) aNil))) (tgTup 2 (tgsCons (tgName 2) (tgsCons (tgName 3) tgsNil))) wgB)
    (sRet (eM1 gJoin (eC (.str "\n")) (eVar 1))))) [some (gdsD gs), none, none, none, none] (HP a) = .rt (.str (whole gs)) [.lst [.int a], .lst ((gs.map line).map .str)] := by
    have i0 : gIx (gdsD gs) (.int 0) (HP a ++ [.lst []]) = .ok (rowsD gs) (HP a ++ [.lst []]) := rfl
    have i1 : gIx (gdsD gs) (.int 1) (HP a ++ [.lst []]) = .ok (barsD gs) (HP a ++ [.lst []]) := rfl
    have j1 : gJoin (.str "\n") (.ref 1) [.lst [.int a], .lst ((gs.map line).map .str)] = .ok (.str (whole gs)) [.lst [.int a], .lst ((gs.map line).map .str)] := by
      have := join_ok (y := "\n") (by decide +kernel) h.tx [.lst [.int a], .lst ((gs.map line).map .str)]
      exact this
    simp only [sSeq, sAsg, eLstT, aNil, O.bind, List.length_nil, big, Nat.zero_le, if_true, sE, List.set_cons_succ, List.set_cons_zero, sFor, iZipM, aCons, eBin, eVar, eC, List.getElem?_cons_zero, i0, i1, hzip, List.length_cons]
    have e' : forGo ⟨gs.map gdD, none⟩ (tgTup 2 (tgsCons (tgName 2) (tgsCons (tgName 3) tgsNil))) wgB (gs.map gdD) [some (gdsD gs), some (.ref (0 + 1)), none, none, none] (HP a ++ [.lst []]) = _ := e
    rw [e']
    simp only [sRet, eM1, eC, eVar, O.bind, List.getElem?_cons_succ, List.getElem?_cons_zero, j1, sE]
  show fnOf 1 5 (sSeq (sAsg (eLstT aNil) 1) (sSeq (sFor (iZipM (aCons (eBin gIx (eVar 0) (eC (.int 0))) (aCons (eBin gIx (eVar 0) (eC (.int 1))) aNil))) (tgTup 2 (tgsCons (tgName 2) (tgsCons (tgName 3) tgsNil))) wgB)
    (sRet (eM1 gJoin (eC (.str "\n")) (eVar 1))))) [gdsD gs] (HP a) = _
  have hl : ([gdsD gs].map some ++ List.replicate (5 - 1) (none : Option D)) = [some (gdsD gs), none, none, none, none] := rfl
  simp only [fnOf, hl, hb]
  simp [frz, okM, okL, okD]
end G80

namespace G80
open PySem hiding Loc
open L2 Ms PySem.StrLaws
/-! the law, statement by statement -/
theorem call1 {m : Fn} {f : EM} {loc : Loc} {hp hp' : HM} {d r : D} (h : f loc hp = .ok d hp) (hm : m [d] hp = .ok r hp') : eCall (argc 1 m) (aCons f aNil) loc hp = .ok r hp' := by
  simp only [eCall, argc, aCons, aNil, h, O.bind, List.length_cons, List.length_nil, if_true, hm]
theorem call2 {m : Fn} {f g : EM} {loc : Loc} {hp hp' : HM} {d e r : D} (h : f loc hp = .ok d hp) (h2 : g loc hp = .ok e hp) (hm : m [d, e] hp = .ok r hp') : eCall (argc 2 m) (aCons f (aCons g aNil)) loc hp = .ok r hp' := by
  simp only [eCall, argc, aCons, aNil, h, h2, O.bind, List.length_cons, List.length_nil, if_true, hm]
theorem call3 {m : Fn} {f g k : EM} {loc : Loc} {hp hp' : HM} {d e c r : D} (h : f loc hp = .ok d hp) (h2 : g loc hp = .ok e hp) (h3 : k loc hp = .ok c hp) (hm : m [d, e, c] hp = .ok r hp') : eCall (argc 3 m) (aCons f (aCons g (aCons k aNil))) loc hp = .ok r hp' := by
  simp only [eCall, argc, aCons, aNil, h, h2, h3, O.bind, List.length_cons, List.length_nil, if_true, hm]
theorem var_ok {i : Nat} {loc : Loc} {d : D} (h : loc[i]? = some (some d)) (hp : HM) : eVar i loc hp = .ok d hp := by simp only [eVar, h]
theorem asg_ok {f : EM} {i : Nat} {loc : Loc} {hp hp' : HM} {d : D} (h : f loc hp = .ok d hp') : sAsg f i loc hp = .nx (loc.set i (some d)) hp' := by simp only [sAsg, h, sE]
theorem seq_nx {f g : SM} {loc l : Loc} {hp h : HM} {r : SO} (e : f loc hp = .nx l h) (e2 : g l h = r) : sSeq f g loc hp = r := by simp only [sSeq, e, e2]
def b_law_1 : SM := (sAsg (eBin gAdd (eC (.int 1)) (eCall (argc 2 m__law_draw) (aCons (eVar 1) (aCons (eC (.int 4)) aNil)))) 2)
/-- if not equal(X, Y) or not equal(R, (V,)): return False -/
def chkS (X Y R V : EM) : SM := (sIf (mOr (mNot (mTru (eCall (argc 2 (m__law_equal 8)) (aCons X (aCons Y aNil))))) (mNot (mTru (eCall (argc 2 (m__law_equal 8)) (aCons R (aCons (eTup (aCons V aNil)) aNil)))))) (sRet (eC (.bl false))) sNext)
theorem chk_ok {X Y R V : EM} {loc : Loc} {a : Int} {t : Str} {d : D} (x : X loc (HP a) = .ok (.str t) (HP a)) (y : Y loc (HP a) = .ok (.str t) (HP a)) (r : R loc (HP a) = .ok (.tup [d]) (HP a)) (v : V loc (HP a) = .ok d (HP a)) (hp : Pl 6 d) : chkS X Y R V loc (HP a) = .nx loc (HP a) := by
  have e1 := call2 x y (eqS8 t a)
  have ev : eTup (aCons V aNil) loc (HP a) = .ok (.tup [d]) (HP a) := by simp [eTup, aCons, aNil, v, O.bind, big]
  have e2 := call2 r ev (eq8 (a := a) hp.one)
  simp only [chkS, sIf, mOr, mNot, mTru, e1, e2, O.bind, truD, Bool.not_true, Bool.false_eq_true, if_false, sE, sNext]
/-- a loop of checks over a tuple -/
theorem loop_ok {i : IM} {v : Nat} {body : SM} {loc : Loc} {hp : HM} {ds : List D} (hi : i loc hp = .ok ⟨ds, none⟩ hp) (hv : v < loc.length) (hb : ∀ d ∈ ds, body (loc.set v (some d)) hp = .nx (loc.set v (some d)) hp) : ∃ x, sFor i (tgName v) body loc hp = .nx (loc.set v x) hp := by
  obtain ⟨l, h, e, x, q1, q2⟩ := forI (it := ⟨ds, none⟩) (g := tgName v) (body := body) rfl ds (fun _ l h => ∃ x, l = loc.set v x ∧ h = hp) (by
    rintro j d hd l h ⟨x, rfl, rfl⟩
    refine ⟨_, rfl, _, _, ?_, some d, rfl, rfl⟩
    rw [List.set_set]
    exact hb d (List.mem_of_getElem? hd)) ds [] loc hp rfl ⟨loc[v], by rw [List.set_getElem_self], rfl⟩
  subst q1 q2
  exact ⟨x, by simp only [sFor, hi, sE, e]⟩
section
variable {loc : Loc} (hl : loc.length = 22) {rs : List Int} (hr : 0 < rs.length) (hr2 : rs.length ≤ 144) (h1 : loc[1]? = some (some (pl rs))) {a : Int} (a0 : 0 ≤ a)
include hl
theorem gset {i j : Nat} {x : Option D} (h : i ≠ j) : (loc.set i x)[j]? = loc[j]? := List.getElem?_set_ne h
theorem gsame {i : Nat} {x : Option D} (h : i < 22) : (loc.set i x)[i]? = some x := by rw [List.getElem?_set_self (by omega)]
section
include hr hr2 h1 a0
theorem s1_ok (a1 : a < 10) : ∃ (k : Nat) (b : Int), 1 ≤ k ∧ k ≤ 4 ∧ Up 1 a b ∧ b_law_1 loc (HP a) = .nx (loc.set 2 (some (.int k))) (HP b) := by
  obtain ⟨v, v0, v1, ev⟩ := draw_ok hr hr2 a0 (by omega) (many := 4) (by omega)
  obtain ⟨k, hk⟩ : ∃ k : Nat, 1 + v = (k : Int) := Int.eq_ofNat_of_zero_le (by omega)
  refine ⟨k, a + 1, by omega, by omega, ⟨by omega, by omega⟩, ?_⟩
  have e := call2 (m := m__law_draw) (var_ok h1 (HP a)) (g := eC (.int 4)) rfl ev
  refine asg_ok ?_
  simp only [eBin, eC, O.bind, e, gAdd, hk]
theorem s2_ok (a1 : a < 100) : ∃ (vs : List Int) (b : Int), Sv vs ∧ vs.Pairwise (· < ·) ∧ Up 100 a b ∧ b_law_2 loc (HP a) = .nx (loc.set 3 (some (tD vs))) (HP b) := by
  obtain ⟨vs, b, u, p1, p2, p3, e⟩ := some_ok hr hr2 a0 (by omega) (n := 12) (by omega) (lean := 3) (by omega)
  exact ⟨vs, b, ⟨p3, fun v hv => .inl (by have := p2 v hv; omega)⟩, p1, u, asg_ok (call3 (var_ok h1 (HP a)) (g := eC (.int 12)) rfl (k := eC (.int 3)) rfl e)⟩
theorem s5_ok (a1 : a < 1000) : ∃ (vs : List Int) (b : Int), Sv vs ∧ Up 102 a b ∧ b_law_5 loc (HP a) = .nx (loc.set 5 (some (tD vs))) (HP b) := by
  obtain ⟨vs, b, u, p2, p3, e⟩ := row_ok hr hr2 a0 (by omega) (n := 4) (by omega) (most := 5) (by omega)
  exact ⟨vs, b, ⟨by omega, fun v hv => .inl (by have := p2 v hv; omega)⟩, u, asg_ok (call3 (var_ok h1 (HP a)) (g := eC (.int 4)) rfl (k := eC (.int 5)) rfl e)⟩
end
theorem s3_ok : b_law_3 loc (HP a) = .nx (loc.set 4 (some (tD [0, 7, 999999999]))) (HP a) := rfl
theorem sv0 : Sv [0, 7, 999999999] := ⟨by decide, by intro v hv; simp at hv; rcases hv with rfl | rfl | rfl <;> simp [Sm]⟩
theorem s4_ok {x2 : D} {vs : List Int} (hv : Sv vs) (hp : vs.Pairwise (· < ·)) (h2 : loc[2]? = some (some x2)) (h3 : loc[3]? = some (some (tD vs))) (h4 : loc[4]? = some (some (tD [0, 7, 999999999]))) : ∃ x, b_law_4 loc (HP a) = .nx (loc.set 5 x) (HP a) := by
  refine loop_ok (ds := [tD vs, tD [0, 7, 999999999], tD []]) (seq_tup (by simp [eTup, aCons, aNil, var_ok h3, var_ok h4, O.bind, big])) (by omega) ?_
  have key : ∀ ws : List Int, Sv ws → ws.Pairwise (· < ·) → chkS (eCall (argc 1 m_write_set) (aCons (eVar 5) aNil)) (eCall (argc 1 m__law_set_text) (aCons (eVar 5) aNil)) (eCall (argc 3 m__law_read) (aCons (eC (.int 0)) (aCons (eVar 2) (aCons (eCall (argc 1 m__law_set_text) (aCons (eVar 5) aNil)) aNil)))) (eVar 5) (loc.set 5 (some (tD ws))) (HP a) = .nx (loc.set 5 (some (tD ws))) (HP a) := by
    intro ws hw hpw
    have v5 := var_ok (gsame hl (i := 5) (x := some (tD ws)) (by omega)) (HP a)
    have v2 : eVar 2 (loc.set 5 (some (tD ws))) (HP a) = .ok x2 (HP a) := var_ok (by rw [gset hl (by omega)]; exact h2) (HP a)
    have t := call1 v5 (lset_ok hw a)
    exact chk_ok (call1 v5 (wset_ok hw a)) t (call3 (f := eC (.int 0)) rfl v2 t (read0 (rset_ok hw hpw a) (by simp [okD, ok_ints]))) v5 (.ints _ (by have := hw.few; omega))
  intro d hd
  simp only [List.mem_cons, List.not_mem_nil, or_false] at hd
  rcases hd with rfl | rfl | rfl
  · exact key vs hv hp
  · exact key _ (sv0 hl) (by simp)
  · exact key [] ⟨by simp, by simp⟩ (by simp)
theorem s6_ok {x2 : D} {vs : List Int} (hv : Sv vs) (h2 : loc[2]? = some (some x2)) (h5 : loc[5]? = some (some (tD vs))) (h4 : loc[4]? = some (some (tD [0, 7, 999999999]))) : ∃ x, b_law_6 loc (HP a) = .nx (loc.set 6 x) (HP a) := by
  refine loop_ok (ds := [tD vs, tD [0, 7, 999999999], tD [], tD [5, 5]]) (seq_tup (by simp [eTup, aCons, aNil, var_ok h5, var_ok h4, O.bind, big, eC])) (by omega) ?_
  have key : ∀ ws : List Int, Sv ws → chkS (eCall (argc 1 m_write_row) (aCons (eVar 6) aNil)) (eCall (argc 1 m__law_row_text) (aCons (eVar 6) aNil)) (eCall (argc 3 m__law_read) (aCons (eC (.int 1)) (aCons (eVar 2) (aCons (eCall (argc 1 m__law_row_text) (aCons (eVar 6) aNil)) aNil)))) (eVar 6) (loc.set 6 (some (tD ws))) (HP a) = .nx (loc.set 6 (some (tD ws))) (HP a) := by
    intro ws hw
    have v5 := var_ok (gsame hl (i := 6) (x := some (tD ws)) (by omega)) (HP a)
    have v2 : eVar 2 (loc.set 6 (some (tD ws))) (HP a) = .ok x2 (HP a) := var_ok (by rw [gset hl (by omega)]; exact h2) (HP a)
    have t := call1 v5 (lrow_ok hw a)
    exact chk_ok (call1 v5 (wrow_ok hw a)) t (call3 (f := eC (.int 1)) rfl v2 t (read1 (rrow_ok hw a) (by simp [okD, ok_ints]))) v5 (.ints _ (by have := hw.few; omega))
  intro d hd
  simp only [List.mem_cons, List.not_mem_nil, or_false] at hd
  rcases hd with rfl | rfl | rfl | rfl
  · exact key vs hv
  · exact key _ (sv0 hl)
  · exact key [] ⟨by simp, by simp⟩
  · exact key [5, 5] ⟨by simp, by intro v hv; simp at hv; subst hv; simp [Sm]⟩
/-! steps -/
def c7E : EM := (eTup (aCons (eVar 18) (aCons (eBin gSub (eCall (argc 2 m__law_draw) (aCons (eVar 1) (aCons (eC (.int 5)) aNil))) (eC (.int 1))) aNil)))
theorem s7_ok (hr : 0 < rs.length) (hr2 : rs.length ≤ 144) (h1 : loc[1]? = some (some (pl rs))) (a0 : 0 ≤ a) (a1 : a < 1000) : ∃ (st : List (Int × Int)) (b : Int), Stv st ∧ Up 110 a b ∧ b_law_7 loc (HP a) = .nx (loc.set 7 (some (stsD st))) (HP b) := by
  obtain ⟨vs, b, u, p2, p3, e⟩ := row_ok hr hr2 a0 (by omega) (n := 4) (by omega) (most := 4) (by omega)
  have ee := call3 (m := m__law_row) (var_ok h1 (HP a)) (g := eC (.int 4)) rfl (k := eC (.int 4)) rfl e
  obtain ⟨acc, h, ec, st, b2, q1, q2, q3, q4, q5, q6⟩ := compI (it := ⟨vs.map .int, none⟩) (g := tgName 18) (ft := mYes) (fe := c7E) (loc := wipeL loc [18]) rfl (vs.map .int)
    (fun j hp acc => ∃ (st : List (Int × Int)) (b2 : Int), acc = st.map stD ∧ hp = HP b2 ∧ b ≤ b2 ∧ b2 ≤ b + j ∧ st.length = j ∧ ∀ p ∈ st, St2 p) (by
      rintro j d hd hp acc ⟨st, b2, rfl, rfl, q1, q2, q3, q4⟩
      rw [List.getElem?_map] at hd
      have hj : j < vs.length := by
        rcases Nat.lt_or_ge j vs.length with hj | hj
        · exact hj
        · rw [List.getElem?_eq_none hj] at hd; cases hd
      rw [List.getElem?_eq_getElem hj] at hd
      simp only [Option.map_some, Option.some.injEq] at hd
      subst hd
      have pv := p2 vs[j] (by simp)
      obtain ⟨v, v0, v1, ev⟩ := draw_ok hr hr2 (a := b2) (by omega) (by omega) (many := 5) (by omega)
      refine ⟨_, rfl, true, _, rfl, fun hh => by simp at hh, fun _ => ⟨stD (vs[j], v - 1), HP (b2 + 1), ?_, by simp [big]; omega, st ++ [(vs[j], v - 1)], b2 + 1, by simp, rfl, by omega, by omega, by simp [q3], fun p hp => ?_⟩⟩
      · have e18 : eVar 18 (((loc.set 18 none)).set 18 (some (.int vs[j]))) (HP b2) = .ok (.int vs[j]) (HP b2) := var_ok (by rw [List.set_set]; exact gsame hl (by omega)) _
        have e1 : eVar 1 (((loc.set 18 none)).set 18 (some (.int vs[j]))) (HP b2) = .ok (pl rs) (HP b2) := var_ok (by rw [List.set_set, gset hl (by omega)]; exact h1) _
        have ed := call2 (m := m__law_draw) e1 (g := eC (.int 5)) rfl ev
        show c7E (((loc.set 18 none)).set 18 (some (.int vs[j]))) (HP b2) = _
        simp only [c7E, eTup, aCons, aNil, e18, eBin, ed, eC, O.bind, Ms.gSub, gI0, List.length_cons, List.length_nil, big]
        simp
      · rw [List.mem_append] at hp
        rcases hp with hp | hp
        · exact q4 p hp
        · simp at hp; subst hp; exact ⟨by simp; omega, by simp; omega⟩)
    (vs.map .int) [] (HP b) [] rfl ⟨[], b, rfl, rfl, by omega, by simp, rfl, by simp⟩
  subst q1 q2
  rw [List.length_map] at q4 q5
  refine ⟨st, b2, ⟨by omega, q6⟩, ⟨by omega, by omega⟩, asg_ok (d := stsD st) ?_⟩
  have ei : iSeq (eCall (argc 3 m__law_row) (aCons (eVar 1) (aCons (eC (.int 4)) (aCons (eC (.int 4)) aNil)))) loc (HP a) = .ok ⟨vs.map .int, none⟩ (HP b) := by simp only [iSeq, ee, O.bind]
  have ev : eComp (iSeq (eCall (argc 3 m__law_row) (aCons (eVar 1) (aCons (eC (.int 4)) (aCons (eC (.int 4)) aNil))))) (tgName 18) mYes c7E [18] loc (HP a) = .ok (.lst (st.map stD)) (HP b2) := by
    have hz : (st.map stD).length ≤ 1000000 := by simp; omega
    simp only [eComp, ei, O.bind, ec, big, hz, if_true]
  show eCall gTuple (aCons (eComp (iSeq (eCall (argc 3 m__law_row) (aCons (eVar 1) (aCons (eC (.int 4)) (aCons (eC (.int 4)) aNil))))) (tgName 18) mYes c7E [18]) aNil) loc (HP a) = _
  simp only [eCall, aCons, aNil, ev, O.bind, gTuple, gOne, seqOf, lstOf]
theorem s8_ok : b_law_8 loc (HP a) = .nx (loc.set 8 (some (.str "-"))) (HP a) := rfl
def c9E : EM := (eBin gAdd (eBin gAdd (eCall gStrI (aCons (eVar 18) aNil)) (eC (.str ":"))) (eCall (argc 1 m__law_sign) (aCons (eVar 20) aNil)))
theorem s9_ok {st : List (Int × Int)} (hs : Stv st) (h7 : loc[7]? = some (some (stsD st))) (h8 : loc[8]? = some (some (.str "-"))) : b_law_9 loc (HP a) = .nx (loc.set 8 (some (.str (stsTx st)))) (HP a) := by
  have hc : mT (eBin gGt (eCall gLen (aCons (eVar 7) aNil)) (eC (.int 0))) loc (HP a) = .ok (decide ((0 : Int) < st.length)) (HP a) := by
    simp only [mT, eBin, eCall, aCons, aNil, var_ok h7, O.bind, gLen, gOne, seqOf, List.length_map, eC, gGt, gI0]
  by_cases h0 : st = []
  · subst h0
    show sE _ _ _ = _
    rw [hc]
    simp only [sE, List.length_nil, sNext]
    rw [if_neg (by simp)]
    have : stsTx [] = "-" := rfl
    rw [this]
    obtain ⟨hz, q⟩ := List.getElem?_eq_some_iff.mp h8
    rw [← q, List.set_getElem_self]
  · have hpos : (0 : Int) < st.length := by have := List.length_pos_iff.mpr h0; omega
    have ec : eComp (iSeq (eVar 7)) (tg12 18 20) mYes c9E [18, 20] loc (HP a) = .ok (.lst ((st.map stTx).map .str)) (HP a) := by
      rw [List.map_map]
      refine comp_ok (xs := st) (dom := stD) (out := fun p => .str (stTx p)) (seq_tup (var_ok h7 _)) (fun p hp => ⟨_, rfl, ?_⟩) (by have := hs.few; omega)
      have hp2 := hs.ok p hp
      show c9E ((((loc.set 20 none).set 18 none).set 18 (some (.int p.1))).set 20 (some (.int p.2))) (HP a) = _
      have l1 : (((loc.set 20 none).set 18 none).set 18 (some (.int p.1))).length = 22 := by simp [hl]
      have l0 : (loc.set 20 none).length = 22 := by simp [hl]
      have e18 : eVar 18 ((((loc.set 20 none).set 18 none).set 18 (some (.int p.1))).set 20 (some (.int p.2))) (HP a) = .ok (.int p.1) (HP a) := var_ok (by rw [gset l1 (by omega), List.set_set]; exact gsame l0 (by omega)) _
      have e20 : eVar 20 ((((loc.set 20 none).set 18 none).set 18 (some (.int p.1))).set 20 (some (.int p.2))) (HP a) = .ok (.int p.2) (HP a) := var_ok (gsame l1 (by omega)) _
      have es : eCall gStrI (aCons (eVar 18) aNil) ((((loc.set 20 none).set 18 none).set 18 (some (.int p.1))).set 20 (some (.int p.2))) (HP a) = .ok (.str (tx p.1)) (HP a) := by
        simp only [eCall, aCons, aNil, e18, O.bind, str_ok hp2.sm]
      have el := call1 e20 (lsign_ok (a := a) hp2.sg)
      have z1 := tx_len hp2.sm
      have z2 := sg_len hp2.sg
      have z3 : (":" : Str).length = 1 := by decide +kernel
      have z4 : (tx p.1).length + (":" : Str).length ≤ 1000000 := by omega
      have z5 : (tx p.1 ++ ":").length + (sg p.2).length ≤ 1000000 := by rw [len_app]; omega
      simp only [c9E, eBin, es, el, O.bind, eC, gAdd, big, z4, z5, if_true, stTx]
    have ej := call2 (m := m__law_join) (f := eC (.str " ")) (loc := loc) (hp := HP a) rfl ec (ljoin_ok (y := " ") (by decide +kernel) hs.tx a)
    have e2 : sAsg (eCall (argc 2 m__law_join) (aCons (eC (.str " ")) (aCons (eComp (iSeq (eVar 7)) (tg12 18 20) mYes c9E [18, 20]) aNil))) 8 loc (HP a) = _ := asg_ok ej
    show sE _ _ _ = _
    rw [hc]
    simp only [sE]
    rw [if_pos (by simpa using hpos), stsTx, if_neg h0]
    exact e2
theorem s10_ok {x2 : D} {st : List (Int × Int)} (hs : Stv st) (h2 : loc[2]? = some (some x2)) (h7 : loc[7]? = some (some (stsD st))) (h8 : loc[8]? = some (some (.str (stsTx st)))) : b_law_10 loc (HP a) = .nx loc (HP a) := by
  have v7 := var_ok h7 (HP a)
  have v8 := var_ok h8 (HP a)
  have okst : okD 1 (stsD st) = true := by
    have : ∀ st : List (Int × Int), okL 1 (st.map stD) = true := by
      intro st; induction st with
      | nil => rfl
      | cons p r ih => simp [okL, okD] at ih ⊢; exact ih
    simp only [okD, this]
  refine chk_ok (call1 v7 (wsteps_ok hs a)) v8 (call3 (f := eC (.int 2)) rfl (var_ok h2 _) v8 (read2 (rsteps_ok hs a) okst)) v7 ?_
  refine .tup (k := 5) (by have := hs.few; simp; omega) fun d hd => ?_
  obtain ⟨p, hp, rfl⟩ := List.mem_map.mp hd
  exact .tup (k := 4) (by simp) (by intro d hd; simp at hd; rcases hd with rfl | rfl <;> exact .int _ _)
end
end G80

namespace G80
open PySem hiding Loc
open L2 Ms PySem.StrLaws
theorem Eye.ew {e : List Int} (h : Eye e) : Ew e := ⟨fun q => by have := h.ne; rw [q] at this; simp at this, by have := h.le; omega, fun v hv => by
  have := h.lo v hv
  by_cases h1 : v = -1
  · exact .inl h1
  · exact .inr (.inl (by omega))⟩
theorem eyes_ews {es : List (List Int)} {k : Nat} (hk : 1 ≤ k) (hk4 : k ≤ 4) (hn : es.length = k) (h : ∀ e ∈ es, Eye e) : Ews es := ⟨fun q => by rw [q] at hn; simp at hn; omega, by omega, fun e he => (h e he).ew⟩
theorem eyIn_ok {es : List (List Int)} (h : ∀ e ∈ es, Eye e) : eyIn es = true := by
  rw [List.all_eq_true]
  intro e he
  rw [List.all_eq_true]
  intro v hv
  have := (h e he).lo v hv
  simp [inr]; omega
/-- a bad text -/
def BadD (k : Nat) (a : Int) (d : D) : Prop := ∃ (w : Int) (t : Str), d = .tup [.int w, .str t] ∧ m__law_read [.int w, .int k, .str t] (HP a) = .ok (.tup []) (HP a)
section
variable {loc : Loc} (hl : loc.length = 22) {rs : List Int} {a : Int} {k : Nat}
include hl
theorem s11_ok (hr : 0 < rs.length) (hr2 : rs.length ≤ 144) (h1 : loc[1]? = some (some (pl rs))) (h2 : loc[2]? = some (some (.int k))) (a0 : 0 ≤ a) (a1 : a < 900) (hk : k ≤ 4) : ∃ (es : List (List Int)) (b : Int), es.length = k ∧ (∀ e ∈ es, Eye e) ∧ Up 100 a b ∧ b_law_11 loc (HP a) = .nx (loc.set 9 (some (eysD es))) (HP b) := by
  obtain ⟨es, b, u, p1, p2, e⟩ := eyes_ok hr hr2 a0 (by omega) hk
  exact ⟨es, b, p1, p2, u, asg_ok (call2 (var_ok h1 _) (var_ok h2 _) e)⟩
def c12I : EM := eComp (iSeq (eVar 19)) (tgName 20) mYes (eCall (argc 1 m__law_sign) (aCons (eVar 20) aNil)) [20]
def c12E : EM := (eCall (argc 2 m__law_join) (aCons (eC (.str ",")) (aCons c12I aNil)))
theorem s12_ok {es : List (List Int)} (h : Ews es) (h9 : loc[9]? = some (some (eysD es))) : b_law_12 loc (HP a) = .nx (loc.set 10 (some (.str (eysTx es)))) (HP a) := by
  have ec : eComp (iSeq (eVar 9)) (tgName 19) mYes c12E [19] loc (HP a) = .ok (.lst ((es.map eyTx).map .str)) (HP a) := by
    rw [List.map_map]
    refine comp_ok (xs := es) (dom := tD) (out := fun e => .str (eyTx e)) (seq_tup (var_ok h9 _)) (fun e he => ⟨_, rfl, ?_⟩) (by have := h.few; omega)
    show c12E ((loc.set 19 none).set 19 (some (tD e))) (HP a) = _
    rw [List.set_set]
    have he2 := h.ok e he
    have l1 : (loc.set 19 (some (tD e))).length = 22 := by simp [hl]
    have ei : c12I (loc.set 19 (some (tD e))) (HP a) = .ok (.lst ((e.map sg).map .str)) (HP a) := by
      rw [List.map_map]
      refine comp_ok (xs := e) (dom := .int) (out := fun v => .str (sg v)) (seq_tup (var_ok (gsame hl (by omega)) _)) (fun v hv => ⟨_, rfl, ?_⟩) (by have := he2.few; omega)
      show eCall (argc 1 m__law_sign) (aCons (eVar 20) aNil) (((loc.set 19 (some (tD e))).set 20 none).set 20 (some (.int v))) (HP a) = _
      rw [List.set_set]
      exact call1 (var_ok (gsame l1 (by omega)) _) (lsign_ok (he2.ok v hv))
    exact call2 (f := eC (.str ",")) rfl ei (ljoin_ok (y := ",") (by decide +kernel) he2.tx a)
  exact asg_ok (call2 (f := eC (.str " ")) rfl ec (ljoin_ok (y := " ") (by decide +kernel) h.tx a))
theorem s13_ok {es : List (List Int)} (hk : 1 ≤ k) (hk4 : k ≤ 4) (hn : es.length = k) (he : ∀ e ∈ es, Eye e) (h2 : loc[2]? = some (some (.int k))) (h9 : loc[9]? = some (some (eysD es))) (h10 : loc[10]? = some (some (.str (eysTx es)))) : b_law_13 loc (HP a) = .nx loc (HP a) := by
  have h := eyes_ews hk hk4 hn he
  have v9 := var_ok h9 (HP a)
  have v10 := var_ok h10 (HP a)
  have er := reyes_ok h (t := eysTx es) (by have := eys_len h; omega) (eys_split h) (fun e q _ => (he e q).up) k a
  rw [hn, decide_eq_true rfl, eyIn_ok he] at er
  refine chk_ok (call1 v9 (weyes_ok h a)) v10 (call3 (f := eC (.int 3)) rfl (var_ok h2 _) v10 (read3 er (by simp [okD, ok_tups]))) v9 ?_
  refine .tup (k := 5) (by simp; omega) fun d hd => ?_
  obtain ⟨e, q, rfl⟩ := List.mem_map.mp hd
  exact .ints 4 (by have := (he e q).le; omega)
theorem s14_ok (hr : 0 < rs.length) (hr2 : rs.length ≤ 144) (h1 : loc[1]? = some (some (pl rs))) (h2 : loc[2]? = some (some (.int k))) (a0 : 0 ≤ a) (a1 : a < 1000) (hk : k ≤ 4) : ∃ (gs : List Gp) (b : Int), Gds k gs ∧ b_law_14 loc (HP a) = .nx (loc.set 11 (some (gdsD gs))) (HP b) := by
  obtain ⟨gs, b, u, p1, p2, p3, e⟩ := guard_ok hr hr2 a0 a1 hk
  exact ⟨gs, b, ⟨hk, p1, p2, fun g hg => ⟨(p3 g hg).1, (p3 g hg).2⟩⟩, asg_ok (call3 (var_ok h1 _) (var_ok h2 _) (k := eC (.int 4)) rfl e)⟩
def c15I : EM := eComp (iSeq (eBin gIx (eBin gIx (eVar 11) (eC (.int 0))) (eVar 17))) (tgName 21) mYes (eCall gStrI (aCons (eVar 21) aNil)) [21]
def c15E : EM := (eBin gAdd (eBin gAdd (eBin gAdd (eC (.str "guard ")) (eCall (argc 2 m__law_join) (aCons (eC (.str " ")) (aCons c15I aNil)))) (eC (.str " bars "))) (eCall (argc 1 m__law_set_text) (aCons (eBin gIx (eBin gIx (eVar 11) (eC (.int 1))) (eVar 17)) aNil)))
def c15R : IM := (iRg1 (aCons (eCall gLen (aCons (eBin gIx (eVar 11) (eC (.int 0))) aNil)) aNil))
theorem s15_ok {gs : List Gp} (h : Gds k gs) (h11 : loc[11]? = some (some (gdsD gs))) : b_law_15 loc (HP a) = .nx (loc.set 12 (some (.lst ((gs.map line).map .str)))) (HP a) := by
  have i0 : gIx (gdsD gs) (.int 0) (HP a) = .ok (rowsD gs) (HP a) := rfl
  have i1 : gIx (gdsD gs) (.int 1) (HP a) = .ok (barsD gs) (HP a) := rfl
  have v11 := var_ok h11 (HP a)
  have hhi := h.hi
  have er : c15R loc (HP a) = .ok ⟨(List.range gs.length).map (fun (j : Nat) => D.int (j : Int)), none⟩ (HP a) := by
    have := rg_val (e := eCall gLen (aCons (eBin gIx (eVar 11) (eC (.int 0))) aNil)) (loc := loc) (hp := HP a) (n := gs.length) (by omega) (by
      simp only [eCall, aCons, aNil, eBin, v11, eC, O.bind, i0, gLen, gOne, seqOf, List.length_map])
    rw [show rngD 0 gs.length = (List.range gs.length).map (fun (j : Nat) => D.int (j : Int)) by simp [rngD]] at this
    exact this
  have ec : eComp c15R (tgName 17) mYes c15E [17] loc (HP a) = .ok (.lst ((List.range gs.length).map fun j => .str (line (gs.getD j ([], []))))) (HP a) := by
    refine comp_ok (xs := List.range gs.length) (dom := fun (j : Nat) => D.int (j : Int)) (out := fun j => .str (line (gs.getD j ([], [])))) er (fun j hj => ⟨_, rfl, ?_⟩) (by simp; omega)
    have hj := List.mem_range.mp hj
    show c15E ((loc.set 17 none).set 17 (some (.int j))) (HP a) = _
    rw [List.set_set]
    have eg : gs.getD j ([], []) = gs[j] := by simp [List.getD, hj]
    rw [eg]
    have hg : Gd k gs.length gs[j] := h.ok gs[j] (by simp)
    have l1 : (loc.set 17 (some (D.int j))).length = 22 := by simp [hl]
    have w11 : eVar 11 (loc.set 17 (some (.int j))) (HP a) = .ok (gdsD gs) (HP a) := var_ok (by rw [gset hl (by omega)]; exact h11) _
    have w17 : eVar 17 (loc.set 17 (some (.int j))) (HP a) = .ok (.int j) (HP a) := var_ok (gsame hl (by omega)) _
    have x0 : gIx (rowsD gs) (.int j) (HP a) = .ok (tD gs[j].1) (HP a) := by
      have : atI (gs.map fun g => tD g.1) (j : Int) = some (tD gs[j].1) := atI_nat (by simp [hj])
      simp only [gIx, rowsD, seqOf, this]
    have x1 : gIx (barsD gs) (.int j) (HP a) = .ok (tD gs[j].2) (HP a) := by
      have : atI (gs.map fun g => tD g.2) (j : Int) = some (tD gs[j].2) := atI_nat (by simp [hj])
      simp only [gIx, barsD, seqOf, this]
    have rv := hg.rv h.hi
    have ei : c15I (loc.set 17 (some (.int j))) (HP a) = .ok (.lst ((gs[j].1.map tx).map .str)) (HP a) := by
      rw [List.map_map (f := tx)]
      refine comp_ok (xs := gs[j].1) (dom := .int) (out := fun v => .str (tx v)) (seq_tup (by simp only [eBin, w11, w17, eC, O.bind, i0, x0])) (fun v hv => ⟨_, rfl, ?_⟩) (by have := rv.few; omega)
      show eCall gStrI (aCons (eVar 21) aNil) (((loc.set 17 (some (.int j))).set 21 none).set 21 (some (.int v))) (HP a) = _
      rw [List.set_set]
      have w21 : eVar 21 ((loc.set 17 (some (D.int j))).set 21 (some (.int v))) (HP a) = .ok (.int v) (HP a) := var_ok (gsame l1 (by omega)) _
      simp only [eCall, aCons, aNil, w21, O.bind, str_ok (rv.sm v hv)]
    have ej := call2 (f := eC (.str " ")) rfl ei (ljoin_ok (y := " ") (by decide +kernel) rv.tx a)
    have eb : eBin gIx (eBin gIx (eVar 11) (eC (.int 1))) (eVar 17) (loc.set 17 (some (.int j))) (HP a) = .ok (tD gs[j].2) (HP a) := by simp only [eBin, w11, w17, eC, O.bind, i1, x1]
    have es := call1 eb (lset_ok (hg.sv h.k4) a)
    obtain ⟨z1, z2, z3⟩ := line_part hg h.k4 h.hi
    simp only [c15E]
    rw [eBin, eBin, eBin]
    simp only [eC, O.bind, ej, es, gAdd, big, z1, z2, z3, if_true, line]
  have em : ((List.range gs.length).map fun j => D.str (line (gs.getD j ([], [])))) = (gs.map line).map .str := by
    refine List.ext_getElem (by simp) fun i h1 h2 => ?_
    simp at h1
    simp [List.getD, h1]
  rw [em] at ec
  exact asg_ok ec
theorem s16_ok {gs : List Gp} (h : Gds k gs) (h12 : loc[12]? = some (some (.lst ((gs.map line).map .str)))) : b_law_16 loc (HP a) = .nx (loc.set 13 (some (.str (whole gs)))) (HP a) :=
  asg_ok (call2 (f := eC (.str "\n")) rfl (var_ok h12 _) (ljoin_ok (y := "\n") (by decide +kernel) h.tx a))
theorem s17_ok {gs : List Gp} (h : Gds k gs) (h2 : loc[2]? = some (some (.int k))) (h11 : loc[11]? = some (some (gdsD gs))) (h13 : loc[13]? = some (some (.str (whole gs)))) : b_law_17 loc (HP a) = .nx loc (HP a) := by
  have v11 := var_ok h11 (HP a)
  have v13 := var_ok h13 (HP a)
  refine chk_ok (call1 v11 (wguard_ok h a)) v13 (call3 (f := eC (.int 4)) rfl (var_ok h2 _) v13 (read4 (rguard_ok h a) (by simp [okD, okL, ok_map]))) v11 ?_
  refine .tup (k := 5) (by simp) fun d hd => ?_
  have hhi := h.hi
  simp only [List.mem_cons, List.not_mem_nil, or_false] at hd
  rcases hd with rfl | rfl
  · refine .tup (k := 4) (by simp; omega) fun d hd => ?_
    obtain ⟨g, q, rfl⟩ := List.mem_map.mp hd
    exact .ints 3 (by have := ((h.ok g q).rv h.hi).few; omega)
  · refine .tup (k := 4) (by simp; omega) fun d hd => ?_
    obtain ⟨g, q, rfl⟩ := List.mem_map.mp hd
    exact .ints 3 (by have := ((h.ok g q).sv h.k4).few; omega)
end
end G80

namespace G80
open PySem hiding Loc
open L2 Ms PySem.StrLaws
def L18 : List D := [.tup [.int 0, .str "1,0"], .tup [.int 0, .str "1,1"], .tup [.int 0, .str ""], .tup [.int 0, .str "1, 2"], .tup [.int 0, .str "01"], .tup [.int 0, .str "-1"], .tup [.int 0, .str "1000000000"], .tup [.int 0, .str "1,"], .tup [.int 0, .str "--"], .tup [.int 0, .str " "], .tup [.int 0, .str "x"]]
def L19 : List D := [.tup [.int 1, .str ""], .tup [.int 1, .str "1  2"], .tup [.int 1, .str "1 "], .tup [.int 1, .str "01"], .tup [.int 1, .str "1,2"], .tup [.int 1, .str "-1"], .tup [.int 1, .str "- -"], .tup [.int 2, .str ""], .tup [.int 2, .str "0"], .tup [.int 2, .str "0:"], .tup [.int 2, .str ":0"], .tup [.int 2, .str "4:0"], .tup [.int 2, .str "0:4"], .tup [.int 2, .str "0:-1"], .tup [.int 2, .str "0:0  0:0"], .tup [.int 2, .str "00:0"], .tup [.int 2, .str "-:0"]]
def L20 (k : Nat) (T : Str) : List D := [.tup [.int 3, .str ""], .tup [.int 3, .str (T ++ " 0")], .tup [.int 3, .str (T ++ " ")], .tup [.int 3, .str (Txt.replace T "-" "4" ++ ",9")], .tup [.int 3, .str ("0,0" ++ repS " 0" ((k : Int) - 1))], .tup [.int 3, .str ("0,-" ++ repS " 0" ((k : Int) - 1))], .tup [.int 3, .str ("4" ++ repS " 0" ((k : Int) - 1))]]
def L21 (k : Nat) (T : Str) : List D := [.tup [.int 4, .str ""], .tup [.int 4, .str (T ++ "\n")], .tup [.int 4, .str (Txt.replace T "guard" "gard")], .tup [.int 4, .str (Txt.replace T "bars" "bar")], .tup [.int 4, .str "guard 0 0 0 1 bars -"], .tup [.int 4, .str "guard 0 0 0 bars -"], .tup [.int 4, .str "guard 0 0 0 0 bars 0,0"], .tup [.int 4, .str ("guard 0 0 0 0 bars " ++ tx k)], .tup [.int 4, .str "guard 0 0 0 0 bars "], .tup [.int 4, .str "guard 0 0 0 - bars -"]]
theorem four {k : Nat} (h1 : 1 ≤ k) (h4 : k ≤ 4) : k = 1 ∨ k = 2 ∨ k = 3 ∨ k = 4 := by omega
theorem l18_bad (k : Nat) (a : Int) : ∀ d ∈ L18, BadD k a d := by
  intro d hd
  simp only [L18, List.mem_cons, List.not_mem_nil, or_false] at hd
  rcases hd with rfl | rfl | rfl | rfl | rfl | rfl | rfl | rfl | rfl | rfl | rfl
  all_goals exact ⟨_, _, rfl, by kernel_rfl⟩
theorem l19_bad (k : Nat) (a : Int) : ∀ d ∈ L19, BadD k a d := by
  intro d hd
  simp only [L19, List.mem_cons, List.not_mem_nil, or_false] at hd
  rcases hd with rfl | rfl | rfl | rfl | rfl | rfl | rfl | rfl | rfl | rfl | rfl | rfl | rfl | rfl | rfl | rfl | rfl
  all_goals exact ⟨_, _, rfl, by kernel_rfl⟩
theorem l20_bad {k : Nat} (h1 : 1 ≤ k) (h4 : k ≤ 4) {es : List (List Int)} (hn : es.length = k) (he : ∀ e ∈ es, Eye e) (a : Int) : ∀ d ∈ L20 k (eysTx es), BadD k a d := by
  have h := eyes_ews h1 h4 hn he
  intro d hd
  simp only [L20, List.mem_cons, List.not_mem_nil, or_false] at hd
  rcases hd with rfl | rfl | rfl | rfl | rfl | rfl | rfl
  · exact ⟨_, _, rfl, by kernel_rfl⟩
  · have := bad_a h (by omega) (fun e q => (he e q).up) a
    rw [hn] at this
    exact ⟨_, _, rfl, bad3 this⟩
  · exact ⟨_, _, rfl, bad3 (bad_b h (by omega) k a)⟩
  · exact ⟨_, _, rfl, bad3 (bad_c h.ne (by omega) he k a)⟩
  · refine ⟨_, _, rfl, ?_⟩
    rcases four h1 h4 with rfl | rfl | rfl | rfl <;> kernel_rfl
  · refine ⟨_, _, rfl, ?_⟩
    rcases four h1 h4 with rfl | rfl | rfl | rfl <;> kernel_rfl
  · refine ⟨_, _, rfl, ?_⟩
    rcases four h1 h4 with rfl | rfl | rfl | rfl <;> kernel_rfl
theorem l21_bad {k : Nat} (h1 : 1 ≤ k) {gs : List Gp} (h : Gds k gs) (a : Int) : ∀ d ∈ L21 k (whole gs), BadD k a d := by
  have h4 := h.k4
  intro d hd
  simp only [L21, List.mem_cons, List.not_mem_nil, or_false] at hd
  rcases hd with rfl | rfl | rfl | rfl | rfl | rfl | rfl | rfl | rfl | rfl
  · exact ⟨_, _, rfl, by kernel_rfl⟩
  · exact ⟨_, _, rfl, bad4 (bad_e h a)⟩
  · exact ⟨_, _, rfl, bad4 (bad_f h a)⟩
  · exact ⟨_, _, rfl, bad4 (bad_g h a)⟩
  · exact ⟨_, _, rfl, by kernel_rfl⟩
  · exact ⟨_, _, rfl, by kernel_rfl⟩
  · exact ⟨_, _, rfl, by kernel_rfl⟩
  · refine ⟨_, _, rfl, ?_⟩
    rcases four h1 h4 with rfl | rfl | rfl | rfl <;> kernel_rfl
  · exact ⟨_, _, rfl, by kernel_rfl⟩
  · exact ⟨_, _, rfl, by kernel_rfl⟩
theorem arg_cons {f : EM} {g : AM} {loc : Loc} {hp : HM} {d : D} {ds : List D} (h : f loc hp = .ok d hp) (h2 : g loc hp = .ok ds hp) : aCons f g loc hp = .ok (d :: ds) hp := by simp only [aCons, h, h2, O.bind]
theorem pair_ok {w : Int} {f : EM} {loc : Loc} {hp : HM} {t : Str} (h : f loc hp = .ok (.str t) hp) : eTup (aCons (eC (.int w)) (aCons f aNil)) loc hp = .ok (.tup [.int w, .str t]) hp := by
  simp [eTup, aCons, aNil, eC, h, O.bind, big]
theorem grow_ok {i : Nat} {fs : AM} {loc : Loc} {hp : HM} {ds es : List D} (h : loc[i]? = some (some (.lst ds))) (hf : fs loc hp = .ok es hp) (hz : ds.length ≤ 1000) (hz2 : es.length ≤ 1000) : sAsg (eBin gAdd (eVar i) (eLst fs)) i loc hp = .nx (loc.set i (some (.lst (ds ++ es)))) hp := by
  refine asg_ok ?_
  have z1 : es.length ≤ 1000000 := by omega
  have z2 : ds.length + es.length ≤ 1000000 := by omega
  simp only [eBin, var_ok h, eLst, hf, O.bind, big, z1, if_true, gAdd, lstOf, z2]
theorem cat_ok {f g : EM} {loc : Loc} {hp : HM} {x y : Str} (h : f loc hp = .ok (.str x) hp) (h2 : g loc hp = .ok (.str y) hp) (hz : x.length ≤ 400000) (hz2 : y.length ≤ 400000) : eBin gAdd f g loc hp = .ok (.str (x ++ y)) hp := by
  have z : x.length + y.length ≤ 1000000 := by omega
  simp only [eBin, h, h2, O.bind, gAdd, big, z, if_true]
theorem repl_okE {f : EM} {y z : Str} {loc : Loc} {hp : HM} {x : Str} (h : f loc hp = .ok (.str x) hp) (hx : x.length ≤ 13000) (hz : z.length ≤ 5) : eRepl f y z loc hp = .ok (.str (Txt.replace x y z)) hp := by
  have z1 : (x.length + 1) * z.length ≤ 13001 * 5 := Nat.mul_le_mul (by omega) hz
  have z2 : x.length + (x.length + 1) * z.length ≤ 1000000 := by omega
  simp only [eRepl, h, O.bind, big, z2, if_true]
section
variable {loc : Loc} {a : Int} {k : Nat}
theorem rep_ok (h1 : 1 ≤ k) (h4 : k ≤ 4) (h2 : loc[2]? = some (some (.int k))) : eBin gRepS (eC (.str " 0")) (eBin gSub (eVar 2) (eC (.int 1))) loc (HP a) = .ok (.str (repS " 0" ((k : Int) - 1))) (HP a) ∧ (repS " 0" ((k : Int) - 1)).length ≤ 100 := by
  constructor
  · simp only [eBin, eC, var_ok h2, O.bind, Ms.gSub, gI0]
    rcases four h1 h4 with rfl | rfl | rfl | rfl <;> kernel_rfl
  · rcases four h1 h4 with rfl | rfl | rfl | rfl <;> decide +kernel
theorem s18_ok : b_law_18 loc (HP a) = .nx (loc.set 14 (some (.lst L18))) (HP a) := by kernel_rfl
theorem s19_ok (h : loc[14]? = some (some (.lst L18))) : b_law_19 loc (HP a) = .nx (loc.set 14 (some (.lst (L18 ++ L19)))) (HP a) := grow_ok (es := L19) h (by kernel_rfl) (by decide +kernel) (by decide +kernel)
theorem s20_ok (h1 : 1 ≤ k) (h4 : k ≤ 4) {es : List (List Int)} (hes : Ews es) (h2 : loc[2]? = some (some (.int k))) (h10 : loc[10]? = some (some (.str (eysTx es)))) (hfour : es.length ≤ 4) (hsm : Txt.replace (eysTx es) "-" "4" = Txt.replace (eysTx es) "-" "4") (h : loc[14]? = some (some (.lst (L18 ++ L19)))) : b_law_20 loc (HP a) = .nx (loc.set 14 (some (.lst (L18 ++ L19 ++ L20 k (eysTx es))))) (HP a) := by
  have v10 := var_ok h10 (HP a)
  have zl := eys_len hes
  have zr : (Txt.replace (eysTx es) "-" "4").length ≤ 26000 := by
    have z1 := repl_len (x := eysTx es) (y := "-") (z := "4") (by decide +kernel)
    have z2 : (eysTx es).length * (("4" : Str).length + 1) ≤ 13000 * 2 := Nat.mul_le_mul zl (by decide +kernel)
    omega
  obtain ⟨r1, r2⟩ := rep_ok (a := a) h1 h4 h2
  refine grow_ok (es := L20 k (eysTx es)) h ?_ (by decide +kernel) (by simp [L20])
  refine arg_cons (pair_ok rfl) (arg_cons (pair_ok (cat_ok v10 (g := eC (.str " 0")) rfl (by omega) (by decide +kernel))) (arg_cons (pair_ok (cat_ok v10 (g := eC (.str " ")) rfl (by omega) (by decide +kernel))) (arg_cons (pair_ok (cat_ok (repl_okE v10 zl (by decide +kernel)) (g := eC (.str ",9")) rfl (by omega) (by decide +kernel))) ?_)))
  exact arg_cons (pair_ok (cat_ok (f := eC (.str "0,0")) rfl r1 (by decide +kernel) (by omega))) (arg_cons (pair_ok (cat_ok (f := eC (.str "0,-")) rfl r1 (by decide +kernel) (by omega))) (arg_cons (pair_ok (cat_ok (f := eC (.str "4")) rfl r1 (by decide +kernel) (by omega))) rfl))
theorem s21_ok {ds : List D} (hz : ds.length ≤ 100) (h1 : 1 ≤ k) {gs : List Gp} (hg : Gds k gs) (h2 : loc[2]? = some (some (.int k))) (h13 : loc[13]? = some (some (.str (whole gs)))) (h : loc[14]? = some (some (.lst ds))) : b_law_21 loc (HP a) = .nx (loc.set 14 (some (.lst (ds ++ L21 k (whole gs))))) (HP a) := by
  have h4 := hg.k4
  have v13 := var_ok h13 (HP a)
  have zl := whole_len hg
  have sm : Sm (k : Int) := .inl (by omega)
  have es : eCall gStrI (aCons (eVar 2) aNil) loc (HP a) = .ok (.str (tx k)) (HP a) := by simp only [eCall, aCons, aNil, var_ok h2, O.bind, str_ok sm]
  refine grow_ok (es := L21 k (whole gs)) h ?_ (by omega) (by simp [L21])
  refine arg_cons (pair_ok rfl) (arg_cons (pair_ok (cat_ok v13 (g := eC (.str "\n")) rfl (by omega) (by decide +kernel))) (arg_cons (pair_ok (repl_okE v13 zl (by decide +kernel))) (arg_cons (pair_ok (repl_okE v13 zl (by decide +kernel))) ?_)))
  refine arg_cons (pair_ok rfl) (arg_cons (pair_ok rfl) (arg_cons (pair_ok rfl) (arg_cons (pair_ok (cat_ok (f := eC (.str "guard 0 0 0 0 bars ")) rfl es (by decide +kernel) (by have := tx_len sm; omega))) ?_)))
  exact arg_cons (pair_ok rfl) (arg_cons (pair_ok rfl) rfl)
theorem s22_ok (hl : loc.length = 22) {ds : List D} (h : ∀ d ∈ ds, BadD k a d) (h2 : loc[2]? = some (some (.int k))) (h14 : loc[14]? = some (some (.lst ds))) : ∃ x y, b_law_22 loc (HP a) = .nx ((loc.set 15 x).set 16 y) (HP a) := by
  obtain ⟨l, hp, e, x, y, q1, q2⟩ := forI (it := ⟨ds, none⟩) (g := tg12 15 16) (body := (sIf (mNot (mTru (eCall (argc 2 (m__law_equal 8)) (aCons (eCall (argc 3 m__law_read) (aCons (eVar 15) (aCons (eVar 2) (aCons (eVar 16) aNil)))) (aCons (eTup aNil) aNil))))) (sRet (eC (.bl false))) sNext)) rfl ds
    (fun _ l h => ∃ x y, l = (loc.set 15 x).set 16 y ∧ h = HP a) (by
      rintro j d hd l hp ⟨x, y, rfl, rfl⟩
      obtain ⟨w, t, rfl, hb⟩ := h d (List.mem_of_getElem? hd)
      have hs : (((loc.set 15 x).set 16 y).set 15 (some (.int w))).set 16 (some (.str t)) = (loc.set 15 (some (.int w))).set 16 (some (.str t)) := by
        rw [List.set_comm _ _ (show (16 : Nat) ≠ 15 by omega), List.set_set, List.set_set]
      refine ⟨_, rfl, _, _, ?_, some (.int w), some (.str t), rfl, rfl⟩
      show (sIf _ _ _) ((((loc.set 15 x).set 16 y).set 15 (some (.int w))).set 16 (some (.str t))) (HP a) = _
      rw [hs]
      have l1 : (loc.set 15 (some (D.int w))).length = 22 := by simp [hl]
      have w15 : eVar 15 ((loc.set 15 (some (.int w))).set 16 (some (.str t))) (HP a) = .ok (.int w) (HP a) := var_ok (by rw [gset l1 (by omega)]; exact gsame hl (by omega)) _
      have w16 : eVar 16 ((loc.set 15 (some (.int w))).set 16 (some (.str t))) (HP a) = .ok (.str t) (HP a) := var_ok (gsame l1 (by omega)) _
      have w2 : eVar 2 ((loc.set 15 (some (.int w))).set 16 (some (.str t))) (HP a) = .ok (.int k) (HP a) := var_ok (by rw [gset l1 (by omega), gset hl (by omega)]; exact h2) _
      have er := call3 w15 w2 w16 hb
      have e2 := call2 er (g := eTup aNil) rfl (eq8 (a := a) (.tup (k := 6) (by simp) (by simp)))
      simp only [sIf, mNot, mTru, e2, O.bind, truD, Bool.not_true, Bool.false_eq_true, if_false, sE, sNext]) ds [] loc (HP a) rfl ⟨loc[15], loc[16], by
        rw [List.set_getElem_self]; simp, rfl⟩
  subst q1 q2
  have ei : iSeq (eVar 14) loc (HP a) = .ok ⟨ds, none⟩ (HP a) := seq_lst (var_ok h14 _)
  refine ⟨x, y, ?_⟩
  show sE _ _ _ = _
  rw [ei]
  simp only [sE]
  exact e
end
theorem law_true (ns : List Int) (hn : ns.length ≤ 63) : ∃ hp, m_law [.scr ns] [] = .ok (.bl true) hp := by
  obtain ⟨rs, hr, hr2, ep⟩ := pool_ok ns hn
  obtain ⟨l0, hl0⟩ : ∃ l0 : Loc, l0 = [some (.scr ns), none, none, none, none, none, none, none, none, none, none, none, none, none, none, none, none, none, none, none, none, none] := ⟨_, rfl⟩
  have e0 : b_law_0 l0 [] = .nx (l0.set 1 (some (pl rs))) (HP 0) := asg_ok (call1 (by rw [hl0]; rfl) ep)
  obtain ⟨l1, h1⟩ : ∃ l1, l1 = l0.set 1 (some (pl rs)) := ⟨_, rfl⟩
  have n1 : l1.length = 22 := by rw [h1, hl0]; rfl
  rw [← h1] at e0
  have p1 : l1[1]? = some (some (pl rs)) := by rw [h1, hl0]; rfl
  obtain ⟨k, a1, k1, k4, u1, e1⟩ := s1_ok n1 hr hr2 p1 (a := 0) (by omega) (by omega)
  obtain ⟨l2, h2⟩ : ∃ l, l = l1.set 2 (some (.int k)) := ⟨_, rfl⟩
  rw [← h2] at e1
  have n2 : l2.length = 22 := by rw [h2, List.length_set, n1]
  have p2 : l2[1]? = some (some (pl rs)) := by rw [h2, gset n1 (by omega)]; exact p1
  have k2 : l2[2]? = some (some (.int k)) := by rw [h2]; exact gsame n1 (by omega)
  obtain ⟨ss, a2, sv, sp, u2, e2⟩ := s2_ok n2 hr hr2 p2 (a := a1) (by omega) (by omega)
  obtain ⟨l3, h3⟩ : ∃ l, l = (l2.set 3 (some (tD ss))).set 4 (some (tD [0, 7, 999999999])) := ⟨_, rfl⟩
  have m3 : (l2.set 3 (some (tD ss))).length = 22 := by rw [List.length_set, n2]
  have e3 : b_law_3 (l2.set 3 (some (tD ss))) (HP a2) = .nx l3 (HP a2) := by rw [h3]; exact s3_ok m3
  have n3 : l3.length = 22 := by rw [h3, List.length_set, m3]
  have p3 : l3[1]? = some (some (pl rs)) := by rw [h3, gset m3 (by omega), gset n2 (by omega)]; exact p2
  have k3 : l3[2]? = some (some (.int k)) := by rw [h3, gset m3 (by omega), gset n2 (by omega)]; exact k2
  have s3 : l3[3]? = some (some (tD ss)) := by rw [h3, gset m3 (by omega)]; exact gsame n2 (by omega)
  have t3 : l3[4]? = some (some (tD [0, 7, 999999999])) := by rw [h3]; exact gsame m3 (by omega)
  obtain ⟨x4, e4⟩ := s4_ok n3 (a := a2) sv sp k3 s3 t3
  have m4 : (l3.set 5 x4).length = 22 := by rw [List.length_set, n3]
  have p4 : (l3.set 5 x4)[1]? = some (some (pl rs)) := by rw [gset n3 (by omega)]; exact p3
  obtain ⟨vs, a5, vv, u5, e5⟩ := s5_ok m4 hr hr2 p4 (a := a2) (by omega) (by omega)
  obtain ⟨l5, h5⟩ : ∃ l, l = (l3.set 5 x4).set 5 (some (tD vs)) := ⟨_, rfl⟩
  rw [← h5] at e5
  have n5 : l5.length = 22 := by rw [h5, List.length_set, m4]
  have p5 : l5[1]? = some (some (pl rs)) := by rw [h5, gset m4 (by omega)]; exact p4
  have k5 : l5[2]? = some (some (.int k)) := by rw [h5, gset m4 (by omega), gset n3 (by omega)]; exact k3
  have t5 : l5[4]? = some (some (tD [0, 7, 999999999])) := by rw [h5, gset m4 (by omega), gset n3 (by omega)]; exact t3
  have v5 : l5[5]? = some (some (tD vs)) := by rw [h5]; exact gsame m4 (by omega)
  obtain ⟨x6, e6⟩ := s6_ok n5 (a := a5) vv k5 v5 t5
  obtain ⟨l6, h6⟩ : ∃ l, l = l5.set 6 x6 := ⟨_, rfl⟩
  rw [← h6] at e6
  have n6 : l6.length = 22 := by rw [h6, List.length_set, n5]
  have p6 : l6[1]? = some (some (pl rs)) := by rw [h6, gset n5 (by omega)]; exact p5
  have k6 : l6[2]? = some (some (.int k)) := by rw [h6, gset n5 (by omega)]; exact k5
  obtain ⟨st, a7, sts, u7, e7⟩ := s7_ok n6 hr hr2 p6 (a := a5) (by omega) (by omega)
  obtain ⟨l7, h7⟩ : ∃ l, l = l6.set 7 (some (stsD st)) := ⟨_, rfl⟩
  rw [← h7] at e7
  have n7 : l7.length = 22 := by rw [h7, List.length_set, n6]
  have p7 : l7[1]? = some (some (pl rs)) := by rw [h7, gset n6 (by omega)]; exact p6
  have k7 : l7[2]? = some (some (.int k)) := by rw [h7, gset n6 (by omega)]; exact k6
  have st7 : l7[7]? = some (some (stsD st)) := by rw [h7]; exact gsame n6 (by omega)
  have e8 := s8_ok n7 (a := a7)
  have m8 : (l7.set 8 (some (.str "-"))).length = 22 := by rw [List.length_set, n7]
  have e9 := s9_ok m8 (a := a7) sts (by rw [gset n7 (by omega)]; exact st7) (gsame n7 (by omega))
  obtain ⟨l9, h9⟩ : ∃ l, l = (l7.set 8 (some (.str "-"))).set 8 (some (.str (stsTx st))) := ⟨_, rfl⟩
  rw [← h9] at e9
  have n9 : l9.length = 22 := by rw [h9, List.length_set, m8]
  have p9 : l9[1]? = some (some (pl rs)) := by rw [h9, gset m8 (by omega), gset n7 (by omega)]; exact p7
  have k9 : l9[2]? = some (some (.int k)) := by rw [h9, gset m8 (by omega), gset n7 (by omega)]; exact k7
  have st9 : l9[7]? = some (some (stsD st)) := by rw [h9, gset m8 (by omega), gset n7 (by omega)]; exact st7
  have e10 := s10_ok n9 (a := a7) sts k9 st9 (by rw [h9]; exact gsame m8 (by omega))
  obtain ⟨es, a11, en, ee, u11, e11⟩ := s11_ok n9 hr hr2 p9 k9 (a := a7) (by omega) (by omega) k4
  obtain ⟨l11, h11⟩ : ∃ l, l = l9.set 9 (some (eysD es)) := ⟨_, rfl⟩
  rw [← h11] at e11
  have n11 : l11.length = 22 := by rw [h11, List.length_set, n9]
  have p11 : l11[1]? = some (some (pl rs)) := by rw [h11, gset n9 (by omega)]; exact p9
  have k11 : l11[2]? = some (some (.int k)) := by rw [h11, gset n9 (by omega)]; exact k9
  have y11 : l11[9]? = some (some (eysD es)) := by rw [h11]; exact gsame n9 (by omega)
  have ews := eyes_ews k1 k4 en ee
  have e12 := s12_ok n11 (a := a11) ews y11
  obtain ⟨l12, h12⟩ : ∃ l, l = l11.set 10 (some (.str (eysTx es))) := ⟨_, rfl⟩
  rw [← h12] at e12
  have n12 : l12.length = 22 := by rw [h12, List.length_set, n11]
  have p12 : l12[1]? = some (some (pl rs)) := by rw [h12, gset n11 (by omega)]; exact p11
  have k12 : l12[2]? = some (some (.int k)) := by rw [h12, gset n11 (by omega)]; exact k11
  have y12 : l12[9]? = some (some (eysD es)) := by rw [h12, gset n11 (by omega)]; exact y11
  have z12 : l12[10]? = some (some (.str (eysTx es))) := by rw [h12]; exact gsame n11 (by omega)
  have e13 := s13_ok n12 (a := a11) k1 k4 en ee k12 y12 z12
  obtain ⟨gs, a14, gd, e14⟩ := s14_ok n12 hr hr2 p12 k12 (a := a11) (by omega) (by omega) k4
  obtain ⟨l14, h14⟩ : ∃ l, l = l12.set 11 (some (gdsD gs)) := ⟨_, rfl⟩
  rw [← h14] at e14
  have n14 : l14.length = 22 := by rw [h14, List.length_set, n12]
  have k14 : l14[2]? = some (some (.int k)) := by rw [h14, gset n12 (by omega)]; exact k12
  have z14 : l14[10]? = some (some (.str (eysTx es))) := by rw [h14, gset n12 (by omega)]; exact z12
  have g14 : l14[11]? = some (some (gdsD gs)) := by rw [h14]; exact gsame n12 (by omega)
  have e15 := s15_ok n14 (a := a14) gd g14
  obtain ⟨l15, h15⟩ : ∃ l, l = l14.set 12 (some (.lst ((gs.map line).map .str))) := ⟨_, rfl⟩
  rw [← h15] at e15
  have n15 : l15.length = 22 := by rw [h15, List.length_set, n14]
  have k15 : l15[2]? = some (some (.int k)) := by rw [h15, gset n14 (by omega)]; exact k14
  have z15 : l15[10]? = some (some (.str (eysTx es))) := by rw [h15, gset n14 (by omega)]; exact z14
  have g15 : l15[11]? = some (some (gdsD gs)) := by rw [h15, gset n14 (by omega)]; exact g14
  have e16 := s16_ok n15 (a := a14) gd (by rw [h15]; exact gsame n14 (by omega))
  obtain ⟨l16, h16⟩ : ∃ l, l = l15.set 13 (some (.str (whole gs))) := ⟨_, rfl⟩
  rw [← h16] at e16
  have n16 : l16.length = 22 := by rw [h16, List.length_set, n15]
  have k16 : l16[2]? = some (some (.int k)) := by rw [h16, gset n15 (by omega)]; exact k15
  have z16 : l16[10]? = some (some (.str (eysTx es))) := by rw [h16, gset n15 (by omega)]; exact z15
  have g16 : l16[11]? = some (some (gdsD gs)) := by rw [h16, gset n15 (by omega)]; exact g15
  have w16 : l16[13]? = some (some (.str (whole gs))) := by rw [h16]; exact gsame n15 (by omega)
  have e17 := s17_ok n16 (a := a14) gd k16 g16 w16
  have e18 := s18_ok (loc := l16) (a := a14)
  have m18 : (l16.set 14 (some (.lst L18))).length = 22 := by rw [List.length_set, n16]
  have e19 := s19_ok (loc := l16.set 14 (some (.lst L18))) (a := a14) (gsame n16 (by omega))
  obtain ⟨l19, h19⟩ : ∃ l, l = (l16.set 14 (some (.lst L18))).set 14 (some (.lst (L18 ++ L19))) := ⟨_, rfl⟩
  rw [← h19] at e19
  have n19 : l19.length = 22 := by rw [h19, List.length_set, m18]
  have k19 : l19[2]? = some (some (.int k)) := by rw [h19, gset m18 (by omega), gset n16 (by omega)]; exact k16
  have z19 : l19[10]? = some (some (.str (eysTx es))) := by rw [h19, gset m18 (by omega), gset n16 (by omega)]; exact z16
  have w19 : l19[13]? = some (some (.str (whole gs))) := by rw [h19, gset m18 (by omega), gset n16 (by omega)]; exact w16
  have e20 := s20_ok (a := a14) k1 k4 ews k19 z19 (by omega) rfl (by rw [h19]; exact gsame m18 (by omega))
  obtain ⟨l20, h20⟩ : ∃ l, l = l19.set 14 (some (.lst (L18 ++ L19 ++ L20 k (eysTx es)))) := ⟨_, rfl⟩
  rw [← h20] at e20
  have n20 : l20.length = 22 := by rw [h20, List.length_set, n19]
  have k20 : l20[2]? = some (some (.int k)) := by rw [h20, gset n19 (by omega)]; exact k19
  have w20 : l20[13]? = some (some (.str (whole gs))) := by rw [h20, gset n19 (by omega)]; exact w19
  have e21 := s21_ok (ds := L18 ++ L19 ++ L20 k (eysTx es)) (a := a14) (by simp [L18, L19, L20]) k1 gd k20 w20 (by rw [h20]; exact gsame n19 (by omega))
  obtain ⟨l21, h21⟩ : ∃ l, l = l20.set 14 (some (.lst (L18 ++ L19 ++ L20 k (eysTx es) ++ L21 k (whole gs)))) := ⟨_, rfl⟩
  rw [← h21] at e21
  have n21 : l21.length = 22 := by rw [h21, List.length_set, n20]
  have k21 : l21[2]? = some (some (.int k)) := by rw [h21, gset n20 (by omega)]; exact k20
  obtain ⟨x22, y22, e22⟩ := s22_ok n21 (ds := L18 ++ L19 ++ L20 k (eysTx es) ++ L21 k (whole gs)) (k := k) (a := a14) (fun d hd => by
    rw [List.mem_append, List.mem_append, List.mem_append] at hd
    rcases hd with ((hd | hd) | hd) | hd
    · exact l18_bad k a14 d hd
    · exact l19_bad k a14 d hd
    · exact l20_bad k1 k4 en ee a14 d hd
    · exact l21_bad k1 gd a14 d hd) k21 (by rw [h21]; exact gsame n20 (by omega))
  have key : b_law l0 [] = .rt (.bl true) (HP a14) :=
    seq_nx e0 (seq_nx e1 (seq_nx e2 (seq_nx e3 (seq_nx e4 (seq_nx e5 (seq_nx e6 (seq_nx e7 (seq_nx e8 (seq_nx e9 (seq_nx e10 (seq_nx e11 (seq_nx e12 (seq_nx e13 (seq_nx e14 (seq_nx e15 (seq_nx e16 (seq_nx e17 (seq_nx e18 (seq_nx e19 (seq_nx e20 (seq_nx e21 (seq_nx e22 rfl))))))))))))))))))))))
  rw [hl0] at key
  refine ⟨[], ?_⟩
  have hs : ([D.scr ns].map some ++ List.replicate (22 - 1) (none : Option D)) = [some (.scr ns), none, none, none, none, none, none, none, none, none, none, none, none, none, none, none, none, none, none, none, none, none] := rfl
  simp only [m_law, fnOf, hs, key]
  simp [frz, okD]
end G80

open PySem PySem.W PyProof.Rows in
set_option maxRecDepth 100000 in
set_option maxHeartbeats 0 in
theorem PySem.Challenge.cw_stewardsight_k80_texts_of_eyes_and_rows_holds : PySem.Challenge.rw_stewardsight_k80_texts_of_eyes_and_rows.Holds := by
  w_on; o_law; k_head; (case hw => w_witness2)
  k_fill
  refine Ms.walk_law (l := PySem.Challenge.rw_stewardsight_k80_texts_of_eyes_and_rows) (m := G80.m_law) (st := G80.s_law) (j := 11) rfl rfl ⟨rfl, by decide, by decide⟩ (fun _ _ _ _ _ _ _ => rfl) (fun w h Y => PySem.W.kIn_of Y) ?F G80.law_true
  case F =>
    intro w mg h KX G
    intro base
    refine' G80.ok_law ⟨?d__law_numbers, ?d__law_cell, ?d__law_pool, ?d__law_draw, ?d__law_some, ?d__law_row, ?d__law_eyes, ?d__law_join, ?d__law_guard, ?d__law_kind, ?d__law_equal, ?d__law_set_text, ?d_sign_of, ?d_write_steps, ?d_require, ?d_is_ascending, ?d_number_of, ?d_read_set, ?d_read_guard_line, ?d_is_tuple, ?d_is_between, ?d_is_integer, ?d_is_number, ?d_are_integers, ?d_are_numbers, ?d_is_guard, ?d_read_guard, ?d_read_row, ?d_read_sign, ?d_read_step, ?d_read_steps, ?d_is_eyes, ?d_read_eyes, ?d__law_read, ?d_write_eyes, ?d_write_set, ?d_write_guard, ?d_write_row, ?d__law_row_text, ?d__law_sign, ?d_law, ?b_all, ?b_bool, ?b_int, ?b_isinstance, ?b_len, ?b_list, ?b_max, ?b_min, ?b_range, ?b_str, ?b_tuple, ?b_zip, ?c_DASH, ?c_DIGITS, ?c_LAST_LOOK, ?c_LOOKS, ?c_MOST_DEEDS, ?c_MOST_DIGITS, ?c_MOST_GUARDS, ?c_NOTHING, ?c_NOWHERE, ?x_BadText, ?y_BadText⟩
    (case d__law_numbers => (refine' Ms.dfn_mk KX G ?a ?l ?c ?k (fun _ _ _ _ _ _ us hl => match us, hl with | [_, _], _ => rfl); (case a => k_is); (case l => k_is); (case c => k_is); (case k => k_is)))
    (case d__law_cell => (refine' Ms.dfn_mk KX G ?a ?l ?c ?k (fun _ _ _ _ _ _ us hl => match us, hl with | [_, _], _ => rfl); (case a => k_is); (case l => k_is); (case c => k_is); (case k => k_is)))
    (case d__law_pool => (refine' Ms.dfn_mk KX G ?a ?l ?c ?k (fun _ _ _ _ _ _ us hl => match us, hl with | [_], _ => rfl); (case a => k_is); (case l => k_is); (case c => k_is); (case k => k_is)))
    (case d__law_draw => (refine' Ms.dfn_mk KX G ?a ?l ?c ?k (fun _ _ _ _ _ _ us hl => match us, hl with | [_, _], _ => rfl); (case a => k_is); (case l => k_is); (case c => k_is); (case k => k_is)))
    (case d__law_some => (refine' Ms.dfn_mk KX G ?a ?l ?c ?k (fun _ _ _ _ _ _ us hl => match us, hl with | [_, _, _], _ => rfl); (case a => k_is); (case l => k_is); (case c => k_is); (case k => k_is)))
    (case d__law_row => (refine' Ms.dfn_mk KX G ?a ?l ?c ?k (fun _ _ _ _ _ _ us hl => match us, hl with | [_, _, _], _ => rfl); (case a => k_is); (case l => k_is); (case c => k_is); (case k => k_is)))
    (case d__law_eyes => (refine' Ms.dfn_mk KX G ?a ?l ?c ?k (fun _ _ _ _ _ _ us hl => match us, hl with | [_, _], _ => rfl); (case a => k_is); (case l => k_is); (case c => k_is); (case k => k_is)))
    (case d__law_join => (refine' Ms.dfn_mk KX G ?a ?l ?c ?k (fun _ _ _ _ _ _ us hl => match us, hl with | [_, _], _ => rfl); (case a => k_is); (case l => k_is); (case c => k_is); (case k => k_is)))
    (case d__law_guard => (refine' Ms.dfn_mk KX G ?a ?l ?c ?k (fun _ _ _ _ _ _ us hl => match us, hl with | [_, _, _], _ => rfl); (case a => k_is); (case l => k_is); (case c => k_is); (case k => k_is)))
    (case d__law_kind => (refine' Ms.dfn_mk KX G ?a ?l ?c ?k (fun _ _ _ _ _ _ us hl => match us, hl with | [_], _ => rfl); (case a => k_is); (case l => k_is); (case c => k_is); (case k => k_is)))
    (case d__law_equal => (refine' Ms.dfn_mk KX G ?a ?l ?c ?k (fun _ _ _ _ _ _ us hl => match us, hl with | [_, _], _ => rfl); (case a => k_is); (case l => k_is); (case c => k_is); (case k => k_is)))
    (case d__law_set_text => (refine' Ms.dfn_mk KX G ?a ?l ?c ?k (fun _ _ _ _ _ _ us hl => match us, hl with | [_], _ => rfl); (case a => k_is); (case l => k_is); (case c => k_is); (case k => k_is)))
    (case d_sign_of => (refine' Ms.dfn_mk KX G ?a ?l ?c ?k (fun _ _ _ _ _ _ us hl => match us, hl with | [_], _ => rfl); (case a => k_is); (case l => k_is); (case c => k_is); (case k => k_is)))
    (case d_write_steps => (refine' Ms.dfn_mk KX G ?a ?l ?c ?k (fun _ _ _ _ _ _ us hl => match us, hl with | [_], _ => rfl); (case a => k_is); (case l => k_is); (case c => k_is); (case k => k_is)))
    (case d_require => (refine' Ms.dfn_mk KX G ?a ?l ?c ?k (fun _ _ _ _ _ _ us hl => match us, hl with | [_], _ => rfl); (case a => k_is); (case l => k_is); (case c => k_is); (case k => k_is)))
    (case d_is_ascending => (refine' Ms.dfn_mk KX G ?a ?l ?c ?k (fun _ _ _ _ _ _ us hl => match us, hl with | [_], _ => rfl); (case a => k_is); (case l => k_is); (case c => k_is); (case k => k_is)))
    (case d_number_of => (refine' Ms.dfn_mk KX G ?a ?l ?c ?k (fun _ _ _ _ _ _ us hl => match us, hl with | [_], _ => rfl); (case a => k_is); (case l => k_is); (case c => k_is); (case k => k_is)))
    (case d_read_set => (refine' Ms.dfn_mk KX G ?a ?l ?c ?k (fun _ _ _ _ _ _ us hl => match us, hl with | [_], _ => rfl); (case a => k_is); (case l => k_is); (case c => k_is); (case k => k_is)))
    (case d_read_guard_line => (refine' Ms.dfn_mk KX G ?a ?l ?c ?k (fun _ _ _ _ _ _ us hl => match us, hl with | [_], _ => rfl); (case a => k_is); (case l => k_is); (case c => k_is); (case k => k_is)))
    (case d_is_tuple => (refine' Ms.dfn_mk KX G ?a ?l ?c ?k (fun _ _ _ _ _ _ us hl => match us, hl with | [_, _], _ => rfl); (case a => k_is); (case l => k_is); (case c => k_is); (case k => k_is)))
    (case d_is_between => (refine' Ms.dfn_mk KX G ?a ?l ?c ?k (fun _ _ _ _ _ _ us hl => match us, hl with | [_, _, _], _ => rfl); (case a => k_is); (case l => k_is); (case c => k_is); (case k => k_is)))
    (case d_is_integer => (refine' Ms.dfn_mk KX G ?a ?l ?c ?k (fun _ _ _ _ _ _ us hl => match us, hl with | [_], _ => rfl); (case a => k_is); (case l => k_is); (case c => k_is); (case k => k_is)))
    (case d_is_number => (refine' Ms.dfn_mk KX G ?a ?l ?c ?k (fun _ _ _ _ _ _ us hl => match us, hl with | [_, _, _], _ => rfl); (case a => k_is); (case l => k_is); (case c => k_is); (case k => k_is)))
    (case d_are_integers => (refine' Ms.dfn_mk KX G ?a ?l ?c ?k (fun _ _ _ _ _ _ us hl => match us, hl with | [_, _, _], _ => rfl); (case a => k_is); (case l => k_is); (case c => k_is); (case k => k_is)))
    (case d_are_numbers => (refine' Ms.dfn_mk KX G ?a ?l ?c ?k (fun _ _ _ _ _ _ us hl => match us, hl with | [_, _, _], _ => rfl); (case a => k_is); (case l => k_is); (case c => k_is); (case k => k_is)))
    (case d_is_guard => (refine' Ms.dfn_mk KX G ?a ?l ?c ?k (fun _ _ _ _ _ _ us hl => match us, hl with | [_, _], _ => rfl); (case a => k_is); (case l => k_is); (case c => k_is); (case k => k_is)))
    (case d_read_guard => (refine' Ms.dfn_mk KX G ?a ?l ?c ?k (fun _ _ _ _ _ _ us hl => match us, hl with | [_, _], _ => rfl); (case a => k_is); (case l => k_is); (case c => k_is); (case k => k_is)))
    (case d_read_row => (refine' Ms.dfn_mk KX G ?a ?l ?c ?k (fun _ _ _ _ _ _ us hl => match us, hl with | [_], _ => rfl); (case a => k_is); (case l => k_is); (case c => k_is); (case k => k_is)))
    (case d_read_sign => (refine' Ms.dfn_mk KX G ?a ?l ?c ?k (fun _ _ _ _ _ _ us hl => match us, hl with | [_], _ => rfl); (case a => k_is); (case l => k_is); (case c => k_is); (case k => k_is)))
    (case d_read_step => (refine' Ms.dfn_mk KX G ?a ?l ?c ?k (fun _ _ _ _ _ _ us hl => match us, hl with | [_], _ => rfl); (case a => k_is); (case l => k_is); (case c => k_is); (case k => k_is)))
    (case d_read_steps => (refine' Ms.dfn_mk KX G ?a ?l ?c ?k (fun _ _ _ _ _ _ us hl => match us, hl with | [_], _ => rfl); (case a => k_is); (case l => k_is); (case c => k_is); (case k => k_is)))
    (case d_is_eyes => (refine' Ms.dfn_mk KX G ?a ?l ?c ?k (fun _ _ _ _ _ _ us hl => match us, hl with | [_, _], _ => rfl); (case a => k_is); (case l => k_is); (case c => k_is); (case k => k_is)))
    (case d_read_eyes => (refine' Ms.dfn_mk KX G ?a ?l ?c ?k (fun _ _ _ _ _ _ us hl => match us, hl with | [_, _], _ => rfl); (case a => k_is); (case l => k_is); (case c => k_is); (case k => k_is)))
    (case d__law_read => (refine' Ms.dfn_mk KX G ?a ?l ?c ?k (fun _ _ _ _ _ _ us hl => match us, hl with | [_, _, _], _ => rfl); (case a => k_is); (case l => k_is); (case c => k_is); (case k => k_is)))
    (case d_write_eyes => (refine' Ms.dfn_mk KX G ?a ?l ?c ?k (fun _ _ _ _ _ _ us hl => match us, hl with | [_], _ => rfl); (case a => k_is); (case l => k_is); (case c => k_is); (case k => k_is)))
    (case d_write_set => (refine' Ms.dfn_mk KX G ?a ?l ?c ?k (fun _ _ _ _ _ _ us hl => match us, hl with | [_], _ => rfl); (case a => k_is); (case l => k_is); (case c => k_is); (case k => k_is)))
    (case d_write_guard => (refine' Ms.dfn_mk KX G ?a ?l ?c ?k (fun _ _ _ _ _ _ us hl => match us, hl with | [_], _ => rfl); (case a => k_is); (case l => k_is); (case c => k_is); (case k => k_is)))
    (case d_write_row => (refine' Ms.dfn_mk KX G ?a ?l ?c ?k (fun _ _ _ _ _ _ us hl => match us, hl with | [_], _ => rfl); (case a => k_is); (case l => k_is); (case c => k_is); (case k => k_is)))
    (case d__law_row_text => (refine' Ms.dfn_mk KX G ?a ?l ?c ?k (fun _ _ _ _ _ _ us hl => match us, hl with | [_], _ => rfl); (case a => k_is); (case l => k_is); (case c => k_is); (case k => k_is)))
    (case d__law_sign => (refine' Ms.dfn_mk KX G ?a ?l ?c ?k (fun _ _ _ _ _ _ us hl => match us, hl with | [_], _ => rfl); (case a => k_is); (case l => k_is); (case c => k_is); (case k => k_is)))
    (case d_law => (refine' Ms.dfn_mk KX G ?a ?l ?c ?k (fun _ _ _ _ _ _ us hl => match us, hl with | [_], _ => rfl); (case a => k_is); (case l => k_is); (case c => k_is); (case k => k_is)))
    (case b_all => (refine' PySem.W.mg_none_of KX G ?a; (case a => k_is)))
    (case b_bool => (refine' PySem.W.mg_none_of KX G ?a; (case a => k_is)))
    (case b_int => (refine' PySem.W.mg_none_of KX G ?a; (case a => k_is)))
    (case b_isinstance => (refine' PySem.W.mg_none_of KX G ?a; (case a => k_is)))
    (case b_len => (refine' PySem.W.mg_none_of KX G ?a; (case a => k_is)))
    (case b_list => (refine' PySem.W.mg_none_of KX G ?a; (case a => k_is)))
    (case b_max => (refine' PySem.W.mg_none_of KX G ?a; (case a => k_is)))
    (case b_min => (refine' PySem.W.mg_none_of KX G ?a; (case a => k_is)))
    (case b_range => (refine' PySem.W.mg_none_of KX G ?a; (case a => k_is)))
    (case b_str => (refine' PySem.W.mg_none_of KX G ?a; (case a => k_is)))
    (case b_tuple => (refine' PySem.W.mg_none_of KX G ?a; (case a => k_is)))
    (case b_zip => (refine' PySem.W.mg_none_of KX G ?a; (case a => k_is)))
    (case c_DASH => (refine' Ms.str_mk KX G ?a ?r; (case a => k_is); (case r => exact ⟨_, rfl⟩)))
    (case c_DIGITS => (refine' Ms.str_mk KX G ?a ?r; (case a => k_is); (case r => exact ⟨_, rfl⟩)))
    (case c_LAST_LOOK => (refine' Ms.int_mk KX G ?a ?r; (case a => k_is); (case r => exact ⟨_, rfl⟩)))
    (case c_LOOKS => (refine' Ms.tup_mk KX G ?a ?l ?z ?r; (case a => k_is); (case l => k_is); (case z => decide); (case r => repeat (first | exact Paired.nil | refine Paired.cons ⟨_, rfl⟩ ?_))))
    (case c_MOST_DEEDS => (refine' Ms.int_mk KX G ?a ?r; (case a => k_is); (case r => exact ⟨_, rfl⟩)))
    (case c_MOST_DIGITS => (refine' Ms.int_mk KX G ?a ?r; (case a => k_is); (case r => exact ⟨_, rfl⟩)))
    (case c_MOST_GUARDS => (refine' Ms.int_mk KX G ?a ?r; (case a => k_is); (case r => exact ⟨_, rfl⟩)))
    (case c_NOTHING => (refine' Ms.int_mk KX G ?a ?r; (case a => k_is); (case r => exact ⟨_, rfl⟩)))
    (case c_NOWHERE => (refine' Ms.int_mk KX G ?a ?r; (case a => k_is); (case r => exact ⟨_, rfl⟩)))
    (case x_BadText => (refine' Ms.exc_mk KX G ?a ?e ?k ?b ?t; (case a => k_is); (case e => k_exc); (case k => k_is); (case b => k_is); (case t => k_is)))
    (case y_BadText => (refine' Ms.caught_mk KX G ?a ?b ?g1 ?g2 ?g3 ?g4 ?g5 ?g6 ?g7 ?g8 ?x ?k; (case a => k_is); (case b => k_is); (case g1 => k_is); (case g2 => k_is); (case g3 => k_is); (case g4 => k_is); (case g5 => k_is); (case g6 => k_is); (case g7 => k_is); (case g8 => k_is); (case x => first | rfl | k_is); (case k => first | rfl | k_is)))
#print axioms PySem.Challenge.cw_stewardsight_k80_texts_of_eyes_and_rows_holds
