import PyProof.Rows.All
import PySem.Challenge.RW_onceforms_k02_programs_at_their_bounds
import Wide.All
import OpenK.AllK
import Wide.FinOn
import HandS.ForMost
import HandS.Walk
import HandS.Zip
import HandS.Flow
import HandS.Defaults
import HandS.MakeKwOnly
import KE.GoesZip
import KE.GoesMore
import HandS.Wide
import HandS.Strs
import HandS.TupAny
import HandS.More
import HandS.IsInst
import HandS.Deep
import HandS.Style
import HandS.Ends
import PyProof.ReprRoads
import HandS.RaiseMore
import PyProof.ReprBulk
import HandS.Conv
import HandS.DictComp
import PyProof.Rows.StrMeet
import HandS.NoneIn
import PyProof.NeData
import PyProof.Rows.IntBool
import HandS.SetKeys
import PyProof.StrBlock2
import KE.KRevSl
set_option Elab.async false
set_option linter.all false
set_option maxRecDepth 100000
set_option maxHeartbeats 4000000
set_option exponentiation.threshold 3000
namespace OF
open PySem PySem.Spec PyProof.Rows L2

/-! values without addresses, and the cells that may change -/
inductive U where
  | non
  | bl (b : Bool)
  | int (i : Int)
  | str (x : Str)
  | tup (us : List U)
  | lst (us : List U)
  | scr (us : List U)
  | dct (kvs : List (Key × U))
  | fn (x : Str)
  | ref (n : Nat)

inductive O where
  | lst (us : List U)
  | dct (kvs : List (Key × U))
  | dtt (kvs : List (List Key × U))
  | ins (c : Str) (fs : List (Str × U))

abbrev Sto := List O
abbrev Env' := List (Option U)

/-- where the classes and defs of the text stand -/
structure Gx where
  cls : Str → Option Addr
  fns : Str → Option Addr

/-- the cells' addresses; addresses that no value names -/
structure Mp where
  c : List Addr
  x : List Addr

section
variable (K : PySem.W.Frag) (G : Gx) (m : Mp) (H : Hp)
mutual
def RU : U → V → Prop
  | .non, v => v = .non
  | .bl b, v => v = .bl b
  | .int i, v => v = .int i
  | .str x, v => v = .str x
  | .tup us, v => ∃ a vs, v = .ref a ∧ (Rd H a (.tup vs) ∧ a ∉ m.c ∧ a ∉ m.x ∨
      ∃ (o : Obj) (its : Array Value) (n : Nat), K.lookup a = some o ∧ o.cls = .type "tuple" ∧ o.data = .seq its n ∧ its.size ≤ sizeLine ∧ Vals vs its.toList) ∧ RUs us vs
  | .lst us, v => ∃ a vs, v = .ref a ∧ Rd H a (.lst vs) ∧ a ∉ m.c ∧ a ∉ m.x ∧ RUs us vs
  | .scr us, v => ∃ a vs, v = .ref a ∧ (Rd H a (.lst vs) ∧ a ∉ m.c ∧ a ∉ m.x ∨
      ∃ (o : Obj) (its : Array Value) (n : Nat), K.lookup a = some o ∧ o.cls = .type "list" ∧ o.dict = none ∧ o.data = .seq its n ∧ its.size ≤ sizeLine ∧ Vals vs its.toList) ∧ RUs us vs
  | .dct kvs, v => ∃ a vs, v = .ref a ∧ Rd H a (.dK vs) ∧ a ∉ m.c ∧ a ∉ m.x ∧ RKs kvs vs
  | .fn x, v => ∃ a, v = .ref a ∧ G.fns x = some a
  | .ref n, v => ∃ a, v = .ref a ∧ m.c[n]? = some a
def RUs : List U → List V → Prop
  | [], vs => vs = []
  | u :: us, vs => ∃ v r, vs = v :: r ∧ RU u v ∧ RUs us r
def RKs : List (Key × U) → List (Key × V) → Prop
  | [], vs => vs = []
  | (k, u) :: us, vs => ∃ v r, vs = (k, v) :: r ∧ RU u v ∧ RKs us r
end
def RTs : List (List Key × U) → List (List Key × V) → Prop
  | [], vs => vs = []
  | (k, u) :: us, vs => ∃ v r, vs = (k, v) :: r ∧ RU K G m H u v ∧ RTs us r
def RFs : List (Str × U) → List (Str × V) → Prop
  | [], vs => vs = []
  | (k, u) :: us, vs => ∃ v r, vs = (k, v) :: r ∧ RU K G m H u v ∧ RFs us r
def RO : O → HO → Prop
  | .lst us, o => ∃ vs, o = .lst vs ∧ RUs K G m H us vs
  | .dct us, o => ∃ vs, o = .dK vs ∧ RKs K G m H us vs
  | .dtt us, o => ∃ vs, o = .dT vs ∧ RTs K G m H us vs
  | .ins c fs, o => ∃ C dx vs, o = .ins C dx vs ∧ G.cls c = some C ∧ RFs K G m H fs vs
structure Rst (S : Sto) : Prop where
  nd : m.c.Nodup
  len : m.c.length = S.length
  ob : ∀ (n : Nat) o a, S[n]? = some o → m.c[n]? = some a → ∃ ho, H a = some ho ∧ RO K G m H o ho
  xs : ∀ a ∈ m.x, (H a).isSome = true
  nx : ∀ a ∈ m.x, a ∉ m.c
def Renv (env : Env') (σ : L2.St) : Prop := env.length = σ.length ∧ ∀ (i : Nat) u, env[i]? = some (some u) → ∃ v, σ[i]? = some (some v) ∧ RU K G m H u v
end

/-- one state behind another one -/
structure Ext (m : Mp) (H : Hp) (m' : Mp) (H' : Hp) : Prop where
  pre : ∃ r, m'.c = m.c ++ r
  x : ∃ r, m'.x = r ++ m.x ∧ ∀ a ∈ r, H a = none
  keep : ∀ a o, H a = some o → a ∉ m.c → H' a = some o
  cells : ∀ a ∈ m.c, (H a).isSome = true → (H' a).isSome = true
  new : ∀ a ∈ m'.c, a ∉ m.c → H a = none

theorem Ext.refl (m : Mp) (H : Hp) : Ext m H m H := ⟨⟨[], by simp⟩, ⟨[], rfl, fun _ h => nomatch h⟩, fun _ _ h _ => h, fun _ _ h => h, fun _ h n => absurd h n⟩
theorem Ext.trans {m m1 m2 : Mp} {H H1 H2 : Hp} (a : Ext m H m1 H1) (b : Ext m1 H1 m2 H2) : Ext m H m2 H2 := by
  obtain ⟨r, hr⟩ := a.pre
  obtain ⟨r2, hr2⟩ := b.pre
  have sub : ∀ z, z ∈ m.c → z ∈ m1.c := fun z hz => by rw [hr]; exact List.mem_append_left _ hz
  have nin : ∀ z o, H z = some o → z ∉ m.c → z ∉ m1.c := fun z o h n h1 => by
    rw [a.new z h1 n] at h; cases h
  have back : ∀ z, H1 z = none → H z = none := fun z h => by
    cases q : H z with
    | none => rfl
    | some o =>
      by_cases hz : z ∈ m.c
      · have := a.cells z hz (by rw [q]; rfl)
        rw [h] at this; cases this
      · rw [a.keep z o q hz] at h; cases h
  obtain ⟨q1, hq1, n1⟩ := a.x
  obtain ⟨q2, hq2, n2⟩ := b.x
  refine ⟨⟨r ++ r2, by rw [hr2, hr, List.append_assoc]⟩, ⟨q2 ++ q1, by rw [hq2, hq1, List.append_assoc], fun z hz => ?_⟩, fun z o h n => b.keep z o (a.keep z o h n) (nin z o h n), fun z hz h => b.cells z (sub z hz) (a.cells z hz h), fun z hz n => ?_⟩
  · rcases List.mem_append.mp hz with hz | hz
    · exact back z (n2 z hz)
    · exact n1 z hz
  by_cases h1 : z ∈ m1.c
  · exact a.new z h1 n
  · have e := b.new z hz h1
    cases q : H z with
    | none => rfl
    | some o => rw [a.keep z o q n] at e; cases e
theorem Ext.nin {m m' : Mp} {H H' : Hp} (e : Ext m H m' H') {a : Addr} {o : HO} (h : H a = some o) (n : a ∉ m.c) : a ∉ m'.c := fun h1 => by
  rw [e.new a h1 n] at h; cases h
theorem Ext.rd {m m' : Mp} {H H' : Hp} (e : Ext m H m' H') {a : Addr} {u : HO} (h : Rd H a u) (n : a ∉ m.c) : Rd H' a u ∧ a ∉ m'.c := by
  rcases h with h | ⟨o, h⟩
  · exact ⟨.inl (e.keep a _ h n), e.nin h n⟩
  · exact ⟨.inr ⟨o, e.keep a _ h n⟩, e.nin h n⟩
theorem Ext.at {m m' : Mp} {H H' : Hp} (e : Ext m H m' H') {n : Nat} {a : Addr} (h : m.c[n]? = some a) : m'.c[n]? = some a := by
  obtain ⟨r, hr⟩ := e.pre
  rw [hr, List.getElem?_append_left (List.getElem?_eq_some_iff.mp h).1]
  exact h

section
variable {K : PySem.W.Frag} {G : Gx} {m m' : Mp} {H H' : Hp}
/-- what a step between two states must keep of what values name -/
structure Keeps (m : Mp) (H : Hp) (m' : Mp) (H' : Hp) : Prop where
  rd : ∀ a u, Rd H a u → a ∉ m.c → a ∉ m.x → Rd H' a u ∧ a ∉ m'.c ∧ a ∉ m'.x
  at' : ∀ (n : Nat) a, m.c[n]? = some a → m'.c[n]? = some a
theorem Ext.keeps (e : Ext m H m' H') : Keeps m H m' H' :=
  ⟨fun a u h n nx => ⟨(e.rd h n).1, (e.rd h n).2, by
    obtain ⟨r, hr, hn⟩ := e.x
    rw [hr]
    intro z
    rcases List.mem_append.mp z with z | z
    · have := hn a z
      rcases h with h | ⟨o, h⟩ <;> rw [this] at h <;> cases h
    · exact nx z⟩, fun _ _ h => e.at h⟩
mutual
theorem RU.keep (k : Keeps m H m' H') : ∀ (u : U) (v : V), RU K G m H u v → RU K G m' H' u v
  | .non, _, h => h
  | .bl _, _, h => h
  | .int _, _, h => h
  | .str _, _, h => h
  | .tup us, v, h => by
    unfold RU at h ⊢
    obtain ⟨a, vs, e, q, r⟩ := h
    refine ⟨a, vs, e, ?_, RUs.keep k us vs r⟩
    rcases q with ⟨q, n, nx⟩ | q
    · exact .inl (k.rd a _ q n nx)
    · exact .inr q
  | .lst us, v, h => by
    unfold RU at h ⊢
    obtain ⟨a, vs, e, q, n, nx, r⟩ := h
    obtain ⟨q', n', nx'⟩ := k.rd a _ q n nx
    exact ⟨a, vs, e, q', n', nx', RUs.keep k us vs r⟩
  | .scr us, v, h => by
    unfold RU at h ⊢
    obtain ⟨a, vs, e, q, r⟩ := h
    refine ⟨a, vs, e, ?_, RUs.keep k us vs r⟩
    rcases q with ⟨q, n, nx⟩ | q
    · exact .inl (k.rd a _ q n nx)
    · exact .inr q
  | .dct us, v, h => by
    unfold RU at h ⊢
    obtain ⟨a, vs, e, q, n, nx, r⟩ := h
    obtain ⟨q', n', nx'⟩ := k.rd a _ q n nx
    exact ⟨a, vs, e, q', n', nx', RKs.keep k us vs r⟩
  | .fn x, v, h => by
    unfold RU at h ⊢
    exact h
  | .ref n, v, h => by
    unfold RU at h ⊢
    obtain ⟨a, e, q⟩ := h
    exact ⟨a, e, k.at' n a q⟩
theorem RUs.keep (k : Keeps m H m' H') : ∀ (us : List U) (vs : List V), RUs K G m H us vs → RUs K G m' H' us vs
  | [], _, h => h
  | u :: us, vs, h => by
    unfold RUs at h ⊢
    obtain ⟨v, r, e, q, t⟩ := h
    exact ⟨v, r, e, RU.keep k u v q, RUs.keep k us r t⟩
theorem RKs.keep (k : Keeps m H m' H') : ∀ (us : List (Key × U)) (vs : List (Key × V)), RKs K G m H us vs → RKs K G m' H' us vs
  | [], _, h => h
  | (c, u) :: us, vs, h => by
    unfold RKs at h ⊢
    obtain ⟨v, r, e, q, t⟩ := h
    exact ⟨v, r, e, RU.keep k u v q, RKs.keep k us r t⟩
end
theorem RTs.keep (k : Keeps m H m' H') : ∀ (us : List (List Key × U)) (vs : List (List Key × V)), RTs K G m H us vs → RTs K G m' H' us vs
  | [], _, h => h
  | (c, u) :: us, vs, h => by
    unfold RTs at h ⊢
    obtain ⟨v, r, e, q, t⟩ := h
    exact ⟨v, r, e, RU.keep k u v q, RTs.keep k us r t⟩
theorem RFs.keep (k : Keeps m H m' H') : ∀ (us : List (Str × U)) (vs : List (Str × V)), RFs K G m H us vs → RFs K G m' H' us vs
  | [], _, h => h
  | (c, u) :: us, vs, h => by
    unfold RFs at h ⊢
    obtain ⟨v, r, e, q, t⟩ := h
    exact ⟨v, r, e, RU.keep k u v q, RFs.keep k us r t⟩
theorem RO.keep (k : Keeps m H m' H') : ∀ (o : O) (ho : HO), RO K G m H o ho → RO K G m' H' o ho
  | .lst us, _, ⟨vs, e, r⟩ => ⟨vs, e, RUs.keep k us vs r⟩
  | .dct us, _, ⟨vs, e, r⟩ => ⟨vs, e, RKs.keep k us vs r⟩
  | .dtt us, _, ⟨vs, e, r⟩ => ⟨vs, e, RTs.keep k us vs r⟩
  | .ins c fs, _, ⟨C, dx, vs, e, q, r⟩ => ⟨C, dx, vs, e, q, RFs.keep k fs vs r⟩
theorem Renv.keep (k : Keeps m H m' H') {env : Env'} {σ : L2.St} (r : Renv K G m H env σ) : Renv K G m' H' env σ :=
  ⟨r.1, fun i u h => let ⟨v, e, q⟩ := r.2 i u h; ⟨v, e, RU.keep k u v q⟩⟩
end
end OF

namespace OF
open PySem PySem.Spec PyProof.Rows L2

abbrev Cm (α : Type) := Env' → Sto → Option (α × Sto)
abbrev Op1 := U → Sto → Option (U × Sto)
abbrev Op2 := U → U → Sto → Option (U × Sto)
abbrev OpN := List U → Sto → Option (U × Sto)

def After (K : PySem.W.Frag) (G : Gx) (m : Mp) (H : Hp) (u : U) (S' : Sto) (Q : VK) : Prop := ∀ m' H' v, Ext m H m' H' → Rst K G m' H' S' → RU K G m' H' u v → Q v H'
def AfterB (K : PySem.W.Frag) (G : Gx) (m : Mp) (H : Hp) (b : Bool) (S' : Sto) (Q : Bool → Hp → Prop) : Prop := ∀ m' H', Ext m H m' H' → Rst K G m' H' S' → Q b H'
def AfterL (K : PySem.W.Frag) (G : Gx) (m : Mp) (H : Hp) (us : List U) (S' : Sto) (Q : List V → Hp → Prop) : Prop := ∀ m' H' vs, Ext m H m' H' → Rst K G m' H' S' → RUs K G m' H' us vs → Q vs H'

section
variable (K : PySem.W.Frag) (G : Gx)
/-- an expression's reading by what is computed -/
def RE (c : Cm U) : TE := fun σ H Q => ∃ m S env u S', Rst K G m H S ∧ Renv K G m H env σ ∧ c env S = some (u, S') ∧ After K G m H u S' Q
def RT (c : Cm Bool) : TT := fun σ H Q => ∃ m S env b S', Rst K G m H S ∧ Renv K G m H env σ ∧ c env S = some (b, S') ∧ AfterB K G m H b S' Q
def RA (c : Cm (List U)) : TA := fun σ H Q => ∃ m S env us S', Rst K G m H S ∧ Renv K G m H env σ ∧ c env S = some (us, S') ∧ AfterL K G m H us S' Q
def r1U (f : Op1) : V → Hp → VK → Prop := fun x H Q => ∃ m S u z S', Rst K G m H S ∧ RU K G m H u x ∧ f u S = some (z, S') ∧ After K G m H z S' Q
def r2U (f : Op2) : R2 := fun x y H Q => ∃ m S u1 u2 z S', Rst K G m H S ∧ RU K G m H u1 x ∧ RU K G m H u2 y ∧ f u1 u2 S = some (z, S') ∧ After K G m H z S' Q
def rNU (f : OpN) : List V → Hp → VK → Prop := fun xs H Q => ∃ m S us z S', Rst K G m H S ∧ RUs K G m H us xs ∧ f us S = some (z, S') ∧ After K G m H z S' Q
def rMU (f : U → OpN) : V → List V → Hp → VK → Prop := fun x xs H Q => ∃ m S u us z S', Rst K G m H S ∧ RU K G m H u x ∧ RUs K G m H us xs ∧ f u us S = some (z, S') ∧ After K G m H z S' Q
end

variable {X : Cx} {G : Gx}
abbrev EE (G : Gx) (X : Cx) (e : Expr) (c : Cm U) : Prop := PE X e (RE X.K G c)
abbrev ET (G : Gx) (X : Cx) (e : Expr) (c : Cm Bool) : Prop := PT X e (RT X.K G c)
abbrev EW (G : Gx) (X : Cx) (e : Expr) (c : Cm Bool) : Prop := PW X e (RT X.K G c)
abbrev EA (G : Gx) (X : Cx) (es : List Expr) (c : Cm (List U)) : Prop := PA X es (RA X.K G c)
abbrev UnU (G : Gx) (X : Cx) (f : Value → Sem Value) (op : Op1) : Prop := UnR X f (r1U X.K G op)
abbrev OpU (G : Gx) (X : Cx) (f : Value → Value → Sem Value) (op : Op2) : Prop := OpR X f (r2U X.K G op)
abbrev CallU (G : Gx) (X : Cx) (f : Value) (op : OpN) : Prop := CallR X f (rNU X.K G op)

theorem _root_.L2.PE.imp {e : Expr} {t t' : TE} (h : PE X e t) (i : ∀ σ H Q, t' σ H Q → t σ H Q) : PE X e t' := ⟨fun pins s σ H Q I hw => h.run pins s σ H Q I (i σ H Q hw)⟩
theorem _root_.L2.PT.imp {e : Expr} {t t' : TT} (h : PT X e t) (i : ∀ σ H Q, t' σ H Q → t σ H Q) : PT X e t' := ⟨fun pins s σ H Q I hw => h.run pins s σ H Q I (i σ H Q hw)⟩
theorem _root_.L2.PW.imp {e : Expr} {t t' : TT} (h : PW X e t) (i : ∀ σ H Q, t' σ H Q → t σ H Q) : PW X e t' := ⟨fun wh pins s σ H Q I hw => h.run wh pins s σ H Q I (i σ H Q hw)⟩
theorem _root_.L2.PA.imp {e : List Expr} {t t' : TA} (h : PA X e t) (i : ∀ σ H Q, t' σ H Q → t σ H Q) : PA X e t' := ⟨fun p pins s σ H Q I hw => h.run p pins s σ H Q I (i σ H Q hw)⟩
theorem OpR.imp {f : Value → Value → Sem Value} {r r' : R2} (h : OpR X f r) (i : ∀ x y H Q, r' x y H Q → r x y H Q) : OpR X f r' := fun pins s σ H x y v u Q I rx ry q => h pins s σ H x y v u Q I rx ry (i x y H Q q)
theorem UnR.imp {f : Value → Sem Value} {r r' : V → Hp → VK → Prop} (h : UnR X f r) (i : ∀ x H Q, r' x H Q → r x H Q) : UnR X f r' := fun pins s σ H x v Q I rx q => h pins s σ H x v Q I rx (i x H Q q)
theorem CallR.imp {f : Value} {r r' : List V → Hp → VK → Prop} (h : CallR X f r) (i : ∀ x H Q, r' x H Q → r x H Q) : CallR X f r' := fun pins s σ H x v Q I rx q => h pins s σ H x v Q I rx (i x H Q q)

/-! names, constants -/
def cVar (i : Nat) : Cm U := fun env S => match env[i]? with
  | some (some u) => some (u, S)
  | _ => none
def cCst (u : U) : Cm U := fun _ S => some (u, S)
theorem ee_var {i : Nat} {x : Str} {pos : Pos} (h : PE X (.Name x pos) (tVar i)) : EE G X (.Name x pos) (cVar i) := by
  refine PE.imp h fun σ H Q ⟨m, S, env, u, S', st, re, hc, q⟩ => ?_
  unfold cVar at hc
  split at hc
  · rename_i u' hu
    cases hc
    obtain ⟨v, e, r⟩ := re.2 i _ hu
    exact ⟨v, e, q m H v (Ext.refl m H) st r⟩
  · cases hc
theorem ee_cst {e : Expr} {v : V} (u : U) (h : PE X e (tC v)) (hr : ∀ m H, RU X.K G m H u v) : EE G X e (cCst u) := by
  refine PE.imp h fun σ H Q ⟨m, S, env, u', S', st, re, hc, q⟩ => ?_
  cases hc
  exact q m H v (Ext.refl m H) st (hr m H)
theorem ee_int {i j pos} : EE G X (.Constant (.int i) j pos) (cCst (.int i)) := ee_cst _ pe_int fun _ _ => rfl
theorem ee_bl {b j pos} : EE G X (.Constant (.bool b) j pos) (cCst (.bl b)) := ee_cst _ pe_bl fun _ _ => rfl
theorem ee_non {j pos} : EE G X (.Constant .none j pos) (cCst .non) := ee_cst _ pe_non fun _ _ => rfl
theorem ee_str {x j pos} : EE G X (.Constant (.str x) j pos) (cCst (.str x)) := ee_cst _ pe_str fun _ _ => rfl

/-! operators -/
def cBin (f : Op2) (a b : Cm U) : Cm U := fun env S => match a env S with
  | none => none
  | some (u, S1) => match b env S1 with
    | none => none
    | some (v, S2) => f u v S2
def cUn (f : Op1) (a : Cm U) : Cm U := fun env S => match a env S with
  | none => none
  | some (u, S1) => f u S1
theorem cUn_some {f : Op1} {a : Cm U} {env : Env'} {S : Sto} {r : U × Sto} (h : cUn f a env S = some r) : ∃ u S1, a env S = some (u, S1) ∧ f u S1 = some r := by
  unfold cUn at h
  split at h
  · cases h
  · rename_i u S1 e
    exact ⟨u, S1, e, h⟩
theorem cBin_some {f : Op2} {a b : Cm U} {env : Env'} {S : Sto} {r : U × Sto} (h : cBin f a b env S = some r) : ∃ u S1 v S2, a env S = some (u, S1) ∧ b env S1 = some (v, S2) ∧ f u v S2 = some r := by
  unfold cBin at h
  split at h
  · cases h
  · rename_i u S1 e
    split at h
    · cases h
    · rename_i v S2 e2
      exact ⟨u, S1, v, S2, e, e2, h⟩
theorem re_op {K : PySem.W.Frag} {f : Op2} {ca cb : Cm U} {σ : L2.St} {H : Hp} {Q : VK} (h : RE K G (cBin f ca cb) σ H Q) : tOp (r2U K G f) (RE K G ca) (RE K G cb) σ H Q := by
  obtain ⟨m, S, env, z, S', st, re, hc, q⟩ := h
  obtain ⟨u, S1, v, S2, e1, e2, e3⟩ := cBin_some hc
  refine ⟨m, S, env, u, S1, st, re, e1, fun m1 H1 x x1 st1 r1 => ⟨m1, S1, env, v, S2, st1, re.keep x1.keeps, e2, fun m2 H2 y x2 st2 r2 => ⟨m2, S2, u, v, z, S', st2, RU.keep x2.keeps _ _ r1, r2, e3, fun m3 H3 w x3 st3 r3 => q m3 H3 w (x1.trans (x2.trans x3)) st3 r3⟩⟩⟩
theorem re_un {K : PySem.W.Frag} {f : Op1} {ca : Cm U} {σ : L2.St} {H : Hp} {Q : VK} (h : RE K G (cUn f ca) σ H Q) : tUn (r1U K G f) (RE K G ca) σ H Q := by
  obtain ⟨m, S, env, z, S', st, re, hc, q⟩ := h
  obtain ⟨u, S1, e1, e3⟩ := cUn_some hc
  exact ⟨m, S, env, u, S1, st, re, e1, fun m1 H1 x x1 st1 r1 => ⟨m1, S1, u, z, S', st1, r1, e3, fun m3 H3 w x3 st3 r3 => q m3 H3 w (x1.trans x3) st3 r3⟩⟩
variable {a b c : Expr} {ca cb cc : Cm U} {pos : Pos}
theorem ee_op {op : Operator} {f : Op2} (ho : OpU G X (binaryOp op) f) (ha : EE G X a ca) (hb : EE G X b cb) : EE G X (.BinOp a op b pos) (cBin f ca cb) := (pe_op ho ha hb).imp fun _ _ _ => re_op
theorem ee_un {op : UnaryOp} {f : Op1} (ho : UnU G X (unaryOp op) f) (ha : EE G X a ca) : EE G X (.UnaryOp op a pos) (cUn f ca) := (pe_un ho ha).imp fun _ _ _ => re_un
theorem ee_cmp {op : CmpOp} {f : Op2} (ho : OpU G X (compareOp op) f) (ha : EE G X a ca) (hb : EE G X b cb) (hm : behindInMarks op b = false) : EE G X (.Compare a [op] [b] pos) (cBin f ca cb) := (pe_cmpR ho ha hb hm).imp fun _ _ _ => re_op
/-- two rules for one operation -/
def orO (f g : Op2) : Op2 := fun a b S => match f a b S with
  | some r => some r
  | none => g a b S
theorem opU_or {F : Value → Value → Sem Value} {f g : Op2} (hf : OpU G X F f) (hg : OpU G X F g) : OpU G X F (orO f g) := by
  intro pins s σ H x y v u Q I rx ry ⟨m, S, u1, u2, z, S', st, r1, r2, e, q⟩
  unfold orO at e
  split at e
  · rename_i r e'
    cases e
    exact hf pins s σ H x y v u Q I rx ry ⟨m, S, u1, u2, _, _, st, r1, r2, e', q⟩
  · exact hg pins s σ H x y v u Q I rx ry ⟨m, S, u1, u2, z, S', st, r1, r2, e, q⟩
/-! plain results -/
theorem After.here {K : PySem.W.Frag} {m : Mp} {H : Hp} {u : U} {v : V} {S : Sto} {Q : VK} (q : After K G m H u S Q) (st : Rst K G m H S) (r : RU K G m H u v) : Q v H := q m H v (Ext.refl m H) st r

/-! ints -/
def o2I (f : Int → Int → Option U) : Op2 := fun a b S => match a, b with
  | .int i, .int j => (f i j).map (·, S)
  | _, _ => none
theorem o2I_some {f : Int → Int → Option U} {a b : U} {S : Sto} {r : U × Sto} (h : o2I f a b S = some r) : ∃ i j u, a = .int i ∧ b = .int j ∧ f i j = some u ∧ r = (u, S) := by
  unfold o2I at h
  split at h
  · rename_i i j
    cases e : f i j with
    | none => rw [e] at h; cases h
    | some u => rw [e] at h; cases h; exact ⟨i, j, u, rfl, rfl, e, rfl⟩
  · cases h
/-- ints in, a plain value out -/
theorem opU_I {F : Value → Value → Sem Value} {C : Int → Int → Prop} {g : Int → Int → V} {f : Int → Int → Option U} (h : OpR X F (rI C g)) (hc : ∀ i j u, f i j = some u → C i j ∧ ∀ m H, RU X.K G m H u (g i j)) : OpU G X F (o2I f) := by
  refine OpR.imp h fun x y H Q ⟨m, S, u1, u2, z, S', st, r1, r2, e, q⟩ => ?_
  obtain ⟨i, j, u, rfl, rfl, e', er⟩ := o2I_some e
  cases er
  exact ⟨i, j, r1, r2, (hc i j _ e').1, q.here st ((hc i j _ e').2 m H)⟩
theorem opU_I0 {F : Value → Value → Sem Value} {g : Int → Int → V} {f : Int → Int → U} (h : OpR X F (rI0 g)) (hc : ∀ i j m H, RU X.K G m H (f i j) (g i j)) : OpU G X F (o2I fun i j => some (f i j)) := by
  refine OpR.imp h fun x y H Q ⟨m, S, u1, u2, z, S', st, r1, r2, e, q⟩ => ?_
  obtain ⟨i, j, u, rfl, rfl, e', er⟩ := o2I_some e
  cases er
  cases e'
  exact ⟨i, j, r1, r2, q.here st (hc i j m H)⟩
end OF

namespace OF
open PySem PySem.Spec PyProof.Rows L2
variable {X : Cx} {G : Gx}

/-! heaps: a new object, a cell that is changed -/
section
variable {K : PySem.W.Frag} {m : Mp} {H : Hp} {S : Sto}
theorem keeps_upd {p : Addr} {o : HO} (hp : H p = none) : Keeps m H m (upd H p o) := by
  have ne : ∀ a u, Rd H a u → a ≠ p := fun a u h e => by
    subst e
    rcases h with h | ⟨o, h⟩ <;> rw [hp] at h <;> cases h
  refine ⟨fun a u h n nx => ⟨?_, n, nx⟩, fun _ _ h => h⟩
  have := ne a u h
  rcases h with h | ⟨o, h⟩
  · exact .inl (by rw [upd_ne this]; exact h)
  · exact .inr ⟨o, by rw [upd_ne this]; exact h⟩
theorem Rst.at (st : Rst K G m H S) {n : Nat} {o : O} (h : S[n]? = some o) : ∃ a ho, m.c[n]? = some a ∧ H a = some ho ∧ RO K G m H o ho := by
  have hl : n < m.c.length := by rw [st.len]; exact (List.getElem?_eq_some_iff.mp h).1
  obtain ⟨ho, e, r⟩ := st.ob n o _ h (List.getElem?_eq_getElem hl)
  exact ⟨_, ho, List.getElem?_eq_getElem hl, e, r⟩
theorem Rst.cell (st : Rst K G m H S) {a : Addr} (h : a ∈ m.c) : ∃ ho, H a = some ho := by
  obtain ⟨n, hn⟩ := List.getElem?_of_mem h
  have hl : n < S.length := by rw [← st.len]; exact (List.getElem?_eq_some_iff.mp hn).1
  obtain ⟨ho, e, _⟩ := st.ob n _ a (List.getElem?_eq_getElem hl) hn
  exact ⟨ho, e⟩
theorem Rst.none_c (st : Rst K G m H S) {p : Addr} (hp : H p = none) : p ∉ m.c := fun h => by
  obtain ⟨ho, e⟩ := st.cell h
  rw [hp] at e; cases e
theorem Rst.none_x (st : Rst K G m H S) {p : Addr} (hp : H p = none) : p ∉ m.x := fun h => by
  have := st.xs p h
  rw [hp] at this; cases this
/-- a new object beside all that is named -/
theorem Rst.new (st : Rst K G m H S) {p : Addr} {o : HO} (hp : H p = none) : Rst K G m (upd H p o) S := by
  refine ⟨st.nd, st.len, fun n ob a h1 h2 => ?_, fun a ha => ?_, st.nx⟩
  · obtain ⟨ho, e, r⟩ := st.ob n ob a h1 h2
    exact ⟨ho, by rw [upd_ne (ne_of_none e hp)]; exact e, RO.keep (keeps_upd hp) _ _ r⟩
  · by_cases e : a = p
    · subst e; rw [upd_same]; rfl
    · rw [upd_ne e]; exact st.xs a ha
theorem Ext.upd {p : Addr} {o : HO} (hp : H p = none) : Ext m H m (upd H p o) := by
  refine ⟨⟨[], by simp⟩, ⟨[], rfl, fun _ h => nomatch h⟩, fun a u h _ => by rw [upd_ne (ne_of_none h hp)]; exact h, fun a _ h => ?_, fun a h n => absurd h n⟩
  by_cases e : a = p
  · subst e; rw [upd_same]; rfl
  · rw [upd_ne e]; exact h
/-- a new cell -/
theorem Ext.cell {p : Addr} {o : HO} (hp : H p = none) : Ext m H ⟨m.c ++ [p], m.x⟩ (L2.upd H p o) := by
  refine ⟨⟨[p], rfl⟩, ⟨[], rfl, fun _ h => nomatch h⟩, fun a u h _ => by rw [upd_ne (ne_of_none h hp)]; exact h, fun a _ h => ?_, fun a h n => ?_⟩
  · by_cases e : a = p
    · subst e; rw [upd_same]; rfl
    · rw [upd_ne e]; exact h
  · rcases List.mem_append.mp h with h | h
    · exact absurd h n
    · have : a = p := by simpa using h
      subst this; exact hp
theorem Rst.push (st : Rst K G m H S) {p : Addr} {o : O} {ho : HO} (hp : H p = none) (r : RO K G ⟨m.c ++ [p], m.x⟩ (L2.upd H p ho) o ho) : Rst K G ⟨m.c ++ [p], m.x⟩ (L2.upd H p ho) (S ++ [o]) := by
  have k := (Ext.cell (m := m) (o := ho) hp).keeps
  refine ⟨?_, by simp [st.len], fun n ob a h1 h2 => ?_, fun a ha => ?_, fun a ha => ?_⟩
  · refine List.nodup_append.mpr ⟨st.nd, by simp, fun a ha b hb => ?_⟩
    have : b = p := by simpa using hb
    subst this
    intro e; subst e
    exact st.none_c hp ha
  · by_cases hn : n < S.length
    · rw [List.getElem?_append_left hn] at h1
      rw [List.getElem?_append_left (by rw [st.len]; exact hn)] at h2
      obtain ⟨ho', e, r'⟩ := st.ob n ob a h1 h2
      exact ⟨ho', by rw [upd_ne (ne_of_none e hp)]; exact e, RO.keep k _ _ r'⟩
    · rw [List.getElem?_append_right (by omega)] at h1
      rw [List.getElem?_append_right (by rw [st.len]; omega)] at h2
      have e0 : n - S.length = 0 := by
        have := (List.getElem?_eq_some_iff.mp h1).1
        simp at this; omega
      rw [e0] at h1
      rw [st.len, e0] at h2
      cases h1; cases h2
      exact ⟨ho, upd_same, r⟩
  · by_cases e : a = p
    · subst e; rw [upd_same]; rfl
    · rw [upd_ne e]; exact st.xs a ha
  · intro h
    rcases List.mem_append.mp h with h | h
    · exact st.nx a ha h
    · have : a = p := by simpa using h
      subst this
      exact st.none_x hp ha
/-- a cell is changed -/
theorem keeps_set {p : Addr} {o : HO} (hp : p ∈ m.c) : Keeps m H m (L2.upd H p o) := by
  refine ⟨fun a u h n nx => ⟨?_, n, nx⟩, fun _ _ h => h⟩
  have : a ≠ p := fun e => n (e ▸ hp)
  rcases h with h | ⟨o, h⟩
  · exact .inl (by rw [upd_ne this]; exact h)
  · exact .inr ⟨o, by rw [upd_ne this]; exact h⟩
theorem Ext.set {p : Addr} {o : HO} (hp : p ∈ m.c) : Ext m H m (L2.upd H p o) := by
  refine ⟨⟨[], by simp⟩, ⟨[], rfl, fun _ h => nomatch h⟩, fun a u h n => by
    have ne : a ≠ p := fun e => n (e ▸ hp)
    rw [upd_ne ne]; exact h, fun a _ h => ?_, fun a h n => absurd h n⟩
  by_cases e : a = p
  · subst e; rw [upd_same]; rfl
  · rw [upd_ne e]; exact h
theorem Rst.set (st : Rst K G m H S) {n : Nat} {p : Addr} {o : O} {ho : HO} (hp : m.c[n]? = some p) (r : RO K G m (L2.upd H p ho) o ho) : Rst K G m (L2.upd H p ho) (S.set n o) := by
  have hm : p ∈ m.c := List.mem_of_getElem? hp
  refine ⟨st.nd, by simp [st.len], fun j ob a h1 h2 => ?_, fun a ha => ?_, st.nx⟩
  · by_cases hj : j = n
    · subst hj
      rw [hp] at h2; cases h2
      have hl : j < S.length := by rw [← st.len]; exact (List.getElem?_eq_some_iff.mp hp).1
      rw [List.getElem?_set_self hl] at h1
      cases h1
      exact ⟨ho, upd_same, r⟩
    · rw [List.getElem?_set_ne (Ne.symm hj)] at h1
      obtain ⟨ho', e, r'⟩ := st.ob j ob a h1 h2
      have ne : a ≠ p := fun e => by
        subst e
        exact hj (nd_ix st.nd h2 hp)
      exact ⟨ho', by rw [upd_ne ne]; exact e, RO.keep (keeps_set hm) _ _ r'⟩
  · by_cases e : a = p
    · subst e; rw [upd_same]; rfl
    · rw [upd_ne e]; exact st.xs a ha
theorem RUs.length : ∀ {us : List U} {vs : List V}, RUs K G m H us vs → vs.length = us.length
  | [], _, h => by unfold RUs at h; subst h; rfl
  | u :: us, vs, h => by
    unfold RUs at h
    obtain ⟨v, r, e, _, t⟩ := h
    subst e
    simp [RUs.length t]
theorem RUs.get : ∀ {us : List U} {vs : List V} {i : Nat} {u : U}, RUs K G m H us vs → us[i]? = some u → ∃ v, vs[i]? = some v ∧ RU K G m H u v
  | [], _, i, u, _, e => by simp at e
  | w :: us, vs, i, u, h, e => by
    unfold RUs at h
    obtain ⟨v, r, e1, q, t⟩ := h
    subst e1
    cases i with
    | zero => simp at e; subst e; exact ⟨v, rfl, q⟩
    | succ i =>
      simp at e
      obtain ⟨v', e', q'⟩ := RUs.get t e
      exact ⟨v', by simpa using e', q'⟩
theorem RUs.append : ∀ {us us' : List U} {vs vs' : List V}, RUs K G m H us vs → RUs K G m H us' vs' → RUs K G m H (us ++ us') (vs ++ vs')
  | [], _, _, _, h, h' => by unfold RUs at h; subst h; exact h'
  | u :: us, us', vs, vs', h, h' => by
    unfold RUs at h
    obtain ⟨v, r, e, q, t⟩ := h
    subst e
    show RUs K G m H (u :: (us ++ us')) (v :: (r ++ vs'))
    unfold RUs
    exact ⟨v, _, rfl, q, RUs.append t h'⟩
theorem RUs.one {u : U} {v : V} (r : RU K G m H u v) : RUs K G m H [u] [v] := by
  unfold RUs
  exact ⟨v, [], rfl, r, by unfold RUs; rfl⟩
theorem RUs.nil : RUs K G m H [] [] := by unfold RUs; rfl
theorem RUs.cons {u : U} {v : V} {us : List U} {vs : List V} (r : RU K G m H u v) (t : RUs K G m H us vs) : RUs K G m H (u :: us) (v :: vs) := by
  unfold RUs
  exact ⟨v, vs, rfl, r, t⟩
theorem RUs.uncons {u : U} {us : List U} {vs : List V} (t : RUs K G m H (u :: us) vs) : ∃ v r, vs = v :: r ∧ RU K G m H u v ∧ RUs K G m H us r := by
  unfold RUs at t
  exact t
theorem RUs.eqnil {vs : List V} (t : RUs K G m H [] vs) : vs = [] := by
  unfold RUs at t
  exact t
theorem RUs.take : ∀ {us : List U} {vs : List V} (n : Nat), RUs K G m H us vs → RUs K G m H (us.take n) (vs.take n)
  | us, vs, 0, _ => by simp; exact RUs.nil
  | [], _, n + 1, h => by unfold RUs at h; subst h; simp; exact RUs.nil
  | u :: us, vs, n + 1, h => by
    unfold RUs at h
    obtain ⟨v, r, e, q, t⟩ := h
    subst e
    exact RUs.cons q (RUs.take n t)
theorem RUs.drop : ∀ {us : List U} {vs : List V} (n : Nat), RUs K G m H us vs → RUs K G m H (us.drop n) (vs.drop n)
  | us, vs, 0, h => h
  | [], _, n + 1, h => by unfold RUs at h; subst h; exact RUs.nil
  | u :: us, vs, n + 1, h => by
    unfold RUs at h
    obtain ⟨v, r, e, q, t⟩ := h
    subst e
    exact RUs.drop n t
theorem RUs.set : ∀ {us : List U} {vs : List V} (i : Nat) {u : U} {v : V}, RU K G m H u v → RUs K G m H us vs → RUs K G m H (us.set i u) (vs.set i v)
  | [], _, i, u, v, _, h => by unfold RUs at h; subst h; exact RUs.nil
  | w :: us, vs, i, u, v, r, h => by
    unfold RUs at h
    obtain ⟨x, t, e, q, tl⟩ := h
    subst e
    cases i with
    | zero => exact RUs.cons r tl
    | succ i => exact RUs.cons q (RUs.set i r tl)
theorem RU.tupT {us : List U} {v : V} (h : RU K G m H (.tup us) v) : ∃ a vs, v = .ref a ∧ SqT K H a vs ∧ RUs K G m H us vs := by
  unfold RU at h
  obtain ⟨a, vs, e, q, r⟩ := h
  refine ⟨a, vs, e, ?_, r⟩
  rcases q with ⟨q, _⟩ | q
  · exact .inl q
  · exact .inr q
theorem RU.lstL {us : List U} {v : V} (h : RU K G m H (.lst us) v) : ∃ a vs, v = .ref a ∧ SqL K H a vs ∧ RUs K G m H us vs := by
  unfold RU at h
  obtain ⟨a, vs, e, q, n, nx, r⟩ := h
  exact ⟨a, vs, e, .inl q, r⟩
theorem RU.lstR {us : List U} {v : V} (h : RU K G m H (.lst us) v) : ∃ a vs, v = .ref a ∧ Rd H a (.lst vs) ∧ a ∉ m.c ∧ a ∉ m.x ∧ RUs K G m H us vs := by
  unfold RU at h
  exact h
theorem RU.scrL {us : List U} {v : V} (h : RU K G m H (.scr us) v) : ∃ a vs, v = .ref a ∧ SqL K H a vs ∧ RUs K G m H us vs := by
  unfold RU at h
  obtain ⟨a, vs, e, q, r⟩ := h
  refine ⟨a, vs, e, ?_, r⟩
  rcases q with ⟨q, _⟩ | q
  · exact .inl q
  · exact .inr q
theorem RU.newTup {us : List U} {vs : List V} {p : Addr} (st : Rst K G m H S) (hp : H p = none) (r : RUs K G m H us vs) : RU K G m (L2.upd H p (.tup vs)) (.tup us) (.ref p) := by
  unfold RU
  exact ⟨p, vs, rfl, .inl ⟨.inl upd_same, st.none_c hp, st.none_x hp⟩, RUs.keep (keeps_upd hp) _ _ r⟩
theorem RU.newLst {us : List U} {vs : List V} {p : Addr} (st : Rst K G m H S) (hp : H p = none) (r : RUs K G m H us vs) : RU K G m (L2.upd H p (.lst vs)) (.lst us) (.ref p) := by
  unfold RU
  exact ⟨p, vs, rfl, .inl upd_same, st.none_c hp, st.none_x hp, RUs.keep (keeps_upd hp) _ _ r⟩
theorem RU.cell {n : Nat} {a : Addr} (h : m.c[n]? = some a) : RU K G m H (.ref n) (.ref a) := by
  unfold RU
  exact ⟨a, rfl, h⟩
/-- ends of operations: a new tuple, a new list, a new cell, a changed cell -/
theorem After.tup {us : List U} {vs : List V} {Q : VK} (q : After K G m H (.tup us) S Q) (st : Rst K G m H S) (r : RUs K G m H us vs) : ∀ p, H p = none → Q (.ref p) (L2.upd H p (.tup vs)) := fun p hp =>
  q m _ _ (Ext.upd hp) (st.new hp) (RU.newTup st hp r)
theorem After.lst {us : List U} {vs : List V} {Q : VK} (q : After K G m H (.lst us) S Q) (st : Rst K G m H S) (r : RUs K G m H us vs) : ∀ p, H p = none → Q (.ref p) (L2.upd H p (.lst vs)) := fun p hp =>
  q m _ _ (Ext.upd hp) (st.new hp) (RU.newLst st hp r)
theorem After.cell {o : O} {ho : HO} {Q : VK} (q : After K G m H (.ref S.length) (S ++ [o]) Q) (st : Rst K G m H S) (r : RO K G m H o ho) : ∀ p, H p = none → Q (.ref p) (L2.upd H p ho) := fun p hp => by
  have r' := RO.keep (Ext.cell (m := m) (o := ho) hp).keeps _ _ r
  refine q _ _ _ (Ext.cell hp) (st.push hp r') (RU.cell ?_)
  rw [← st.len]
  simp
end

/-! argument lists -/
def cNil : Cm (List U) := fun _ S => some ([], S)
def cCons (a : Cm U) (r : Cm (List U)) : Cm (List U) := fun env S => match a env S with
  | none => none
  | some (u, S1) => match r env S1 with
    | none => none
    | some (us, S2) => some (u :: us, S2)
theorem cCons_some {a : Cm U} {r : Cm (List U)} {env : Env'} {S S' : Sto} {us : List U} (h : cCons a r env S = some (us, S')) : ∃ u S1 t, a env S = some (u, S1) ∧ r env S1 = some (t, S') ∧ us = u :: t := by
  unfold cCons at h
  split at h
  · cases h
  · rename_i u S1 e
    split at h
    · cases h
    · rename_i t S2 e2
      cases h
      exact ⟨u, S1, t, e, e2, rfl⟩
theorem re_cons {K : PySem.W.Frag} {ca : Cm U} {cr : Cm (List U)} {σ : L2.St} {H : Hp} {Q : List V → Hp → Prop} (h : RA K G (cCons ca cr) σ H Q) : tCons (RE K G ca) (RA K G cr) σ H Q := by
  obtain ⟨m, S, env, us, S', st, re, hc, q⟩ := h
  obtain ⟨u, S1, t, e1, e2, rfl⟩ := cCons_some hc
  refine ⟨m, S, env, u, S1, st, re, e1, fun m1 H1 x x1 st1 r1 => ⟨m1, S1, env, t, S', st1, re.keep x1.keeps, e2, fun m2 H2 xs x2 st2 r2 => ?_⟩⟩
  exact q m2 H2 (x :: xs) (x1.trans x2) st2 (RUs.cons (RU.keep x2.keeps _ _ r1) r2)
theorem ea_nil : EA G X [] cNil := pa_nil.imp fun σ H Q ⟨m, S, env, us, S', st, re, hc, q⟩ => by
  cases hc
  exact q m H [] (Ext.refl m H) st RUs.nil
theorem ea_cons {e : Expr} {es : List Expr} {ca : Cm U} {cr : Cm (List U)} (ha : EE G X e ca) (hr : EA G X es cr) (hs : starEach (e :: es) X.env = (false, eval e X.env) :: starEach es X.env := by rfl) : EA G X (e :: es) (cCons ca cr) := (pa_cons ha hr hs).imp fun _ _ _ => re_cons
/-- an operation upon arguments -/
def cArg (f : OpN) (a : Cm (List U)) : Cm U := fun env S => match a env S with
  | none => none
  | some (us, S1) => f us S1
theorem cArg_some {f : OpN} {a : Cm (List U)} {env : Env'} {S : Sto} {r : U × Sto} (h : cArg f a env S = some r) : ∃ us S1, a env S = some (us, S1) ∧ f us S1 = some r := by
  unfold cArg at h
  split at h
  · cases h
  · rename_i us S1 e
    exact ⟨us, S1, e, h⟩
theorem re_arg {K : PySem.W.Frag} {f : OpN} {ca : Cm (List U)} {σ : L2.St} {H : Hp} {Q : VK} (h : RE K G (cArg f ca) σ H Q) : RA K G ca σ H fun xs H1 => rNU K G f xs H1 Q := by
  obtain ⟨m, S, env, z, S', st, re, hc, q⟩ := h
  obtain ⟨us, S1, e1, e2⟩ := cArg_some hc
  exact ⟨m, S, env, us, S1, st, re, e1, fun m1 H1 xs x1 st1 r1 => ⟨m1, S1, us, z, S', st1, r1, e2, fun m2 H2 v x2 st2 r2 => q m2 H2 v (x1.trans x2) st2 r2⟩⟩
/-! displays -/
def oTup : OpN := fun us S => if us.length ≤ sizeLine then some (.tup us, S) else none
def oLst : OpN := fun us S => if us.length ≤ sizeLine then some (.lst us, S) else none
def oLstM : OpN := fun us S => if us.length ≤ sizeLine then some (.ref S.length, S ++ [.lst us]) else none
variable {es : List Expr} {ca : Cm (List U)} {pos : Pos}
theorem ee_tup {k : Nat} (h : EA G X es ca) : EE G X (.Tuple es k pos) (cArg oTup ca) := (pe_tup h).imp fun σ H Q h => by
  obtain ⟨m, S, env, us, S1, st, re, e1, q⟩ := re_arg h
  refine ⟨m, S, env, us, S1, st, re, e1, fun m1 H1 xs x1 st1 r1 => ?_⟩
  obtain ⟨m2, S2, us2, z, S', st2, r2, e2, q2⟩ := q m1 H1 xs x1 st1 r1
  unfold oTup at e2
  split at e2
  · cases e2
    exact ⟨by rw [r2.length]; assumption, q2.tup st2 r2⟩
  · cases e2
theorem ee_lst (h : EA G X es ca) : EE G X (.List es pos) (cArg oLst ca) := (pe_lst h).imp fun σ H Q h => by
  obtain ⟨m, S, env, us, S1, st, re, e1, q⟩ := re_arg h
  refine ⟨m, S, env, us, S1, st, re, e1, fun m1 H1 xs x1 st1 r1 => ?_⟩
  obtain ⟨m2, S2, us2, z, S', st2, r2, e2, q2⟩ := q m1 H1 xs x1 st1 r1
  unfold oLst at e2
  split at e2
  · cases e2
    exact ⟨by rw [r2.length]; assumption, q2.lst st2 r2⟩
  · cases e2
theorem ee_lstM (h : EA G X es ca) : EE G X (.List es pos) (cArg oLstM ca) := (pe_lst h).imp fun σ H Q h => by
  obtain ⟨m, S, env, us, S1, st, re, e1, q⟩ := re_arg h
  refine ⟨m, S, env, us, S1, st, re, e1, fun m1 H1 xs x1 st1 r1 => ?_⟩
  obtain ⟨m2, S2, us2, z, S', st2, r2, e2, q2⟩ := q m1 H1 xs x1 st1 r1
  unfold oLstM at e2
  split at e2
  · cases e2
    exact ⟨by rw [r2.length]; assumption, q2.cell st2 ⟨xs, rfl, r2⟩⟩
  · cases e2
end OF

namespace OF
open PySem PySem.Spec PyProof.Rows L2
variable {X : Cx} {G : Gx}

/-! statements -/
inductive Fl where
  | nx
  | ret (u : U)
  | brk
  | ct
abbrev Sm := Env' → Sto → Option (Fl × Env' × Sto)
def AfterE (K : PySem.W.Frag) (G : Gx) (m : Mp) (H : Hp) (env : Env') (S' : Sto) (Q : L2.St → Hp → Prop) : Prop := ∀ m' H' σ', Ext m H m' H' → Rst K G m' H' S' → Renv K G m' H' env σ' → Q σ' H'
def AfterS (K : PySem.W.Frag) (G : Gx) (m : Mp) (H : Hp) (fl : Fl) (env : Env') (S' : Sto) (D : Ends) : Prop := match fl with
  | .nx => AfterE K G m H env S' D.nx
  | .ret u => After K G m H u S' D.rt
  | .brk => AfterE K G m H env S' D.bk
  | .ct => AfterE K G m H env S' D.ct
def RS (K : PySem.W.Frag) (G : Gx) (c : Sm) : TS := fun D σ H => ∃ m S env fl env' S', Rst K G m H S ∧ Renv K G m H env σ ∧ c env S = some (fl, env', S') ∧ AfterS K G m H fl env' S' D
abbrev ES (G : Gx) (X : Cx) (st : Stmt) (c : Sm) : Prop := PS X st (RS X.K G c)
abbrev ESs (G : Gx) (X : Cx) (st : List Stmt) (c : Sm) : Prop := PSs X st (RS X.K G c)
theorem _root_.L2.PS.imp {st : Stmt} {t t' : TS} (h : PS X st t) (i : ∀ D σ H, t' D σ H → t D σ H) : PS X st t' := ⟨fun pins s σ H D I hw => h.run pins s σ H D I (i D σ H hw)⟩
theorem _root_.L2.PSs.imp {st : List Stmt} {t t' : TS} (h : PSs X st t) (i : ∀ D σ H, t' D σ H → t D σ H) : PSs X st t' := ⟨fun pins s σ H D I hw => h.run pins s σ H D I (i D σ H hw)⟩

theorem After.mono {K : PySem.W.Frag} {m m1 : Mp} {H H1 : Hp} {u : U} {S : Sto} {Q : VK} (q : After K G m H u S Q) (x : Ext m H m1 H1) : After K G m1 H1 u S Q := fun m' H' v x' st r => q m' H' v (x.trans x') st r
theorem AfterE.mono {K : PySem.W.Frag} {m m1 : Mp} {H H1 : Hp} {e : Env'} {S : Sto} {Q : L2.St → Hp → Prop} (q : AfterE K G m H e S Q) (x : Ext m H m1 H1) : AfterE K G m1 H1 e S Q := fun m' H' v x' st r => q m' H' v (x.trans x') st r
theorem AfterB.mono {K : PySem.W.Frag} {m m1 : Mp} {H H1 : Hp} {b : Bool} {S : Sto} {Q : Bool → Hp → Prop} (q : AfterB K G m H b S Q) (x : Ext m H m1 H1) : AfterB K G m1 H1 b S Q := fun m' H' x' st => q m' H' (x.trans x') st
theorem AfterL.mono {K : PySem.W.Frag} {m m1 : Mp} {H H1 : Hp} {u : List U} {S : Sto} {Q : List V → Hp → Prop} (q : AfterL K G m H u S Q) (x : Ext m H m1 H1) : AfterL K G m1 H1 u S Q := fun m' H' v x' st r => q m' H' v (x.trans x') st r
theorem AfterS.mono {K : PySem.W.Frag} {m m1 : Mp} {H H1 : Hp} {fl : Fl} {e : Env'} {S : Sto} {D : Ends} (q : AfterS K G m H fl e S D) (x : Ext m H m1 H1) : AfterS K G m1 H1 fl e S D := by
  cases fl with
  | nx => exact AfterE.mono q x
  | ret u => exact After.mono q x
  | brk => exact AfterE.mono q x
  | ct => exact AfterE.mono q x

/-! blocks -/
def sNil : Sm := fun env S => some (.nx, env, S)
def sSeq (a b : Sm) : Sm := fun env S => match a env S with
  | none => none
  | some (.nx, env1, S1) => b env1 S1
  | some r => some r
theorem ss_nil : ESs G X [] sNil := pss_nil.imp fun D σ H ⟨m, S, env, fl, env', S', st, re, hc, q⟩ => by
  cases hc
  exact q m H σ (Ext.refl m H) st re
theorem rs_seq {K : PySem.W.Frag} {a b : Sm} {D : Ends} {σ : L2.St} {H : Hp} (h : RS K G (sSeq a b) D σ H) : tSeq (RS K G a) (RS K G b) D σ H := by
  obtain ⟨m, S, env, fl, env', S', st, re, hc, q⟩ := h
  unfold sSeq at hc
  split at hc
  · cases hc
  · rename_i env1 S1 e
    exact ⟨m, S, env, .nx, env1, S1, st, re, e, fun m1 H1 σ1 x1 st1 re1 => ⟨m1, S1, env1, fl, env', S', st1, re1, hc, q.mono x1⟩⟩
  · rename_i r hne e
    cases hc
    refine ⟨m, S, env, fl, env', S', st, re, e, ?_⟩
    cases fl with
    | nx => exact absurd rfl (hne _ _)
    | ret u => exact q
    | brk => exact q
    | ct => exact q
theorem ss_cons {st : Stmt} {rest : List Stmt} {a b : Sm} (h1 : ES G X st a) (h2 : ESs G X rest b) : ESs G X (st :: rest) (sSeq a b) := (pss_cons h1 h2).imp fun _ _ _ => rs_seq
theorem ss_one {st : Stmt} {a : Sm} (h1 : ES G X st a) : ESs G X [st] a := pss_one h1
variable {e e' : Expr} {ca cb : Cm U} {pos : Pos}
def sPass : Sm := fun env S => some (.nx, env, S)
def sBrk : Sm := fun env S => some (.brk, env, S)
def sCt : Sm := fun env S => some (.ct, env, S)
def sStuck : Sm := fun _ _ => none
theorem es_pass : ES G X (.Pass pos) sPass := ps_pass.imp fun D σ H ⟨m, S, env, fl, env', S', st, re, hc, q⟩ => by
  cases hc
  exact q m H σ (Ext.refl m H) st re
theorem es_brk : ES G X (.Break pos) sBrk := ps_break.imp fun D σ H ⟨m, S, env, fl, env', S', st, re, hc, q⟩ => by
  cases hc
  exact q m H σ (Ext.refl m H) st re
theorem es_ct : ES G X (.Continue pos) sCt := ps_continue.imp fun D σ H ⟨m, S, env, fl, env', S', st, re, hc, q⟩ => by
  cases hc
  exact q m H σ (Ext.refl m H) st re
theorem es_doc {x j pos pos'} : ES G X (.Expr (.Constant (.str x) j pos) pos') sPass := ps_doc.imp fun D σ H ⟨m, S, env, fl, env', S', st, re, hc, q⟩ => by
  cases hc
  exact q m H σ (Ext.refl m H) st re
theorem es_stuck {st : Stmt} : ES G X st sStuck := ps_never.imp fun D σ H ⟨m, S, env, fl, env', S', st, re, hc, q⟩ => by cases hc
def sExpr (a : Cm U) : Sm := fun env S => match a env S with
  | none => none
  | some (_, S1) => some (.nx, env, S1)
theorem es_expr (he : EE G X e ca) (hs : swapsWith e none pos.line X.env = pure false := by rfl) : ES G X (.Expr e pos) (sExpr ca) := (ps_expr he hs).imp fun D σ H ⟨m, S, env, fl, env', S', st, re, hc, q⟩ => by
  unfold sExpr at hc
  split at hc
  · cases hc
  · rename_i u S1 e1
    cases hc
    exact ⟨m, S, _, u, _, st, re, e1, fun m1 H1 v x1 st1 r1 => q m1 H1 σ x1 st1 (re.keep x1.keeps)⟩
def sRet (a : Cm U) : Sm := fun env S => match a env S with
  | none => none
  | some (u, S1) => some (.ret u, env, S1)
theorem es_ret (he : EE G X e ca) : ES G X (.Return (some e) pos) (sRet ca) := (ps_ret he).imp fun D σ H ⟨m, S, env, fl, env', S', st, re, hc, q⟩ => by
  unfold sRet at hc
  split at hc
  · cases hc
  · rename_i u S1 e1
    cases hc
    exact ⟨m, S, _, _, _, st, re, e1, q⟩
def sRetN : Sm := fun env S => some (.ret .non, env, S)
theorem es_retN : ES G X (.Return none pos) sRetN := ps_retN.imp fun D σ H ⟨m, S, env, fl, env', S', st, re, hc, q⟩ => by
  cases hc
  exact q m H .non (Ext.refl m H) st rfl
def sIf (c : Cm Bool) (a b : Sm) : Sm := fun env S => match c env S with
  | none => none
  | some (true, S1) => a env S1
  | some (false, S1) => b env S1
theorem es_if {c : Expr} {a b : List Stmt} {cc : Cm Bool} {sa sb : Sm} (hc : ET G X c cc) (ha : ESs G X a sa) (hb : ESs G X b sb) : ES G X (.If c a b pos) (sIf cc sa sb) := (ps_if hc ha hb).imp fun D σ H ⟨m, S, env, fl, env', S', st, re, hc, q⟩ => by
  unfold sIf at hc
  split at hc
  · cases hc
  · rename_i S1 e1
    refine ⟨m, S, env, true, S1, st, re, e1, fun m1 H1 x1 st1 => ?_⟩
    exact iteT ⟨m1, S1, env, fl, env', S', st1, re.keep x1.keeps, hc, q.mono x1⟩
  · rename_i S1 e1
    refine ⟨m, S, env, false, S1, st, re, e1, fun m1 H1 x1 st1 => ?_⟩
    exact iteF ⟨m1, S1, env, fl, env', S', st1, re.keep x1.keeps, hc, q.mono x1⟩

/-! targets -/
abbrev Gm := U → Env' → Sto → Option (Env' × Sto)
def RG (K : PySem.W.Frag) (G : Gx) (g : Gm) : TG := fun v σ H Q => ∃ m S env u env' S', Rst K G m H S ∧ Renv K G m H env σ ∧ RU K G m H u v ∧ g u env S = some (env', S') ∧ AfterE K G m H env' S' Q
abbrev EG (G : Gx) (X : Cx) (tg : Expr) (g : Gm) : Prop := PG X tg (RG X.K G g)
abbrev Gms := List U → Env' → Sto → Option (Env' × Sto)
def RGs (K : PySem.W.Frag) (G : Gx) (g : Gms) : TGs := fun vs σ H Q => ∃ m S env us env' S', Rst K G m H S ∧ Renv K G m H env σ ∧ RUs K G m H us vs ∧ g us env S = some (env', S') ∧ AfterE K G m H env' S' Q
abbrev EGs (G : Gx) (X : Cx) (tg : List Expr) (g : Gms) : Prop := PGs X tg (RGs X.K G g)
theorem _root_.L2.PG.imp {tg : Expr} {t t' : TG} (h : PG X tg t) (i : ∀ v σ H Q, t' v σ H Q → t v σ H Q) : PG X tg t' := ⟨fun pins s σ H v u Q I r hw => h.run pins s σ H v u Q I r (i v σ H Q hw)⟩
theorem _root_.L2.PGs.imp {tg : List Expr} {t t' : TGs} (h : PGs X tg t) (i : ∀ v σ H Q, t' v σ H Q → t v σ H Q) : PGs X tg t' := ⟨fun pins s σ H v u Q I r hw => h.run pins s σ H v u Q I r (i v σ H Q hw)⟩
theorem Renv.set {K : PySem.W.Frag} {m : Mp} {H : Hp} {env : Env'} {σ : L2.St} {u : U} {v : V} (r : Renv K G m H env σ) (i : Nat) (h : RU K G m H u v) : Renv K G m H (env.set i (some u)) (σ.set i (some v)) := by
  refine ⟨by simp [r.1], fun j w hj => ?_⟩
  by_cases e : i = j
  · subst e
    have hl : i < env.length := by
      have := (List.getElem?_eq_some_iff.mp hj).1
      simpa using this
    rw [List.getElem?_set_self hl] at hj
    cases hj
    exact ⟨v, by rw [List.getElem?_set_self (by rw [← r.1]; exact hl)], h⟩
  · rw [List.getElem?_set_ne e] at hj
    obtain ⟨v', e', q⟩ := r.2 j w hj
    exact ⟨v', by rw [List.getElem?_set_ne e]; exact e', q⟩
def gmName (i : Nat) : Gm := fun u env S => some (env.set i (some u), S)
theorem eg_name {i : Nat} {x : Str} (hN : X.N.Nodup) (hi : X.N[i]? = some x) (hx : Loc X.env.scope x) (hf : X.fn x = true ∨ X.env.scope.names.lookup x = some .local := by first | exact .inl rfl | exact .inr rfl | assumption) : EG G X (.Name x pos) (gmName i) :=
  (pg_name hN hi hx hf).imp fun v σ H Q ⟨m, S, env, u, env', S', st, re, r, hc, q⟩ => by
    cases hc
    exact q m H _ (Ext.refl m H) st (re.set i r)
def gmsNil : Gms := fun us env S => match us with
  | [] => some (env, S)
  | _ => none
def gmsCons (g : Gm) (r : Gms) : Gms := fun us env S => match us with
  | [] => none
  | u :: t => match g u env S with
    | none => none
    | some (env1, S1) => r t env1 S1
theorem egs_nil : EGs G X [] gmsNil := pgs_nil.imp fun vs σ H Q ⟨m, S, env, us, env', S', st, re, r, hc, q⟩ => by
  unfold gmsNil at hc
  split at hc
  · cases hc
    exact ⟨r.eqnil, q m H σ (Ext.refl m H) st re⟩
  · cases hc
theorem egs_cons {es : List Expr} {g : Gm} {gs : Gms} (h1 : EG G X e g) (h2 : EGs G X es gs) (hs : (assignEach (e :: es) X.env).map (·.2) = assign e X.env :: (assignEach es X.env).map (·.2) := by rfl) : EGs G X (e :: es) (gmsCons g gs) :=
  (pgs_cons h1 h2 hs).imp fun vs σ H Q ⟨m, S, env, us, env', S', st, re, r, hc, q⟩ => by
    unfold gmsCons at hc
    split at hc
    · cases hc
    · rename_i u t
      split at hc
      · cases hc
      · rename_i env1 S1 e1
        obtain ⟨v, vr, rfl, rv, rr⟩ := r.uncons
        refine ⟨v, vr, rfl, m, S, env, u, env1, S1, st, re, rv, e1, fun m1 H1 σ1 x1 st1 re1 => ?_⟩
        exact ⟨m1, S1, env1, t, env', S', st1, re1, RUs.keep x1.keeps _ _ rr, hc, q.mono x1⟩
/-- (a, b, ..) = a tuple -/
def gmTup (n : Nat) (g : Gms) : Gm := fun u env S => match u with
  | .tup us => if us.length = n then g us env S else none
  | _ => none
theorem eg_tup {es : List Expr} {k : Nat} {g : Gms} {n : Nat} (hc : X.calm = true) (h : EGs G X es g) (hn : (assignEach es X.env).length = n := by rfl) (hst : (assignEach es X.env).findIdx? (·.1) = none := by rfl) : EG G X (.Tuple es k pos) (gmTup n g) :=
  (pg_tup hc h hn hst).imp fun v σ H Q ⟨m, S, env, u, env', S', st, re, r, hc, q⟩ => by
    unfold gmTup at hc
    split at hc
    · rename_i us
      split at hc
      · rename_i hl
        obtain ⟨a, vs, rfl, hq, rv⟩ := r.tupT
        exact ⟨a, vs, rfl, hq, by rw [rv.length]; exact hl, m, S, env, us, env', S', st, re, rv, hc, q⟩
      · cases hc
    · cases hc
/-- target = value -/
def sAsg (a : Cm U) (g : Gm) : Sm := fun env S => match a env S with
  | none => none
  | some (u, S1) => match g u env S1 with
    | none => none
    | some (env2, S2) => some (.nx, env2, S2)
theorem rs_asg {K : PySem.W.Frag} {g : Gm} {D : Ends} {σ : L2.St} {H : Hp} (h : RS K G (sAsg ca g) D σ H) : tAsg (RE K G ca) (RG K G g) D σ H := by
  obtain ⟨m, S, env, fl, env', S', st, re, hc, q⟩ := h
  unfold sAsg at hc
  split at hc
  · cases hc
  · rename_i u S1 e1
    split at hc
    · cases hc
    · rename_i env2 S2 e2
      cases hc
      refine ⟨m, S, env, u, S1, st, re, e1, fun m1 H1 v x1 st1 r1 => ?_⟩
      exact ⟨m1, S1, env, u, _, _, st1, re.keep x1.keeps, r1, e2, AfterE.mono q x1⟩
theorem es_asg {tg : Expr} {g : Gm} (he : EE G X e ca) (hg : EG G X tg g) (hs : swapsWithSole [tg] e pos.line X.env = pure false := by rfl) (hw : swappedStores [tg] e X.env = pure none := by rfl)
    (h1 : (assignEach [tg] X.env).map (·.2) = [assign tg X.env] := by rfl) : ES G X (.Assign [tg] e pos) (sAsg ca g) := (ps_asg he hg hs hw h1).imp fun _ _ _ => rs_asg
theorem es_set {i : Nat} {x : Str} {pos' : Pos} (hN : X.N.Nodup) (hi : X.N[i]? = some x) (hx : Loc X.env.scope x) (he : EE G X e ca) (hs : swapsWith e (some (.Name x pos')) pos.line X.env = pure false := by rfl) (hf : X.fn x = true ∨ X.env.scope.names.lookup x = some .local := by first | exact .inl rfl | exact .inr rfl | assumption) :
    ES G X (.Assign [.Name x pos'] e pos) (sAsg ca (gmName i)) := (ps_set hN hi hx he hs hf).imp fun D σ H h => by
  obtain ⟨m, S, env, u, S1, st, re, e1, q⟩ := rs_asg h
  refine ⟨m, S, env, u, S1, st, re, e1, fun m1 H1 v x1 st1 r1 => ?_⟩
  obtain ⟨m2, S2, env2, u2, env3, S3, st2, re2, r2, e2, q2⟩ := q m1 H1 v x1 st1 r1
  cases e2
  exact q2 m2 H1 _ (Ext.refl m2 H1) st2 (re2.set i r2)
end OF

namespace OF
open PySem PySem.Spec PyProof.Rows L2
variable {X : Cx} {G : Gx}

/-! truth -/
def truU (S : Sto) : U → Option Bool
  | .non => some false
  | .bl b => some b
  | .int i => some (i != 0)
  | .str y => if y.length ≤ sizeLine then some ((y.length : Int) != 0) else none
  | .tup us => some (!us.isEmpty)
  | .lst us => some (!us.isEmpty)
  | .scr us => some (!us.isEmpty)
  | .ref n => match S[n]? with
    | some (.lst us) => some (!us.isEmpty)
    | some (.dct us) => some (!us.isEmpty)
    | _ => none
  | _ => none
section
variable {K : PySem.W.Frag} {m : Mp} {H : Hp} {S : Sto}
theorem RUs.empty {us : List U} {vs : List V} (r : RUs K G m H us vs) : us.isEmpty = vs.isEmpty := by
  have := r.length
  cases us <;> cases vs <;> simp at this ⊢
theorem RKs.length : ∀ {us : List (Key × U)} {vs : List (Key × V)}, RKs K G m H us vs → vs.length = us.length
  | [], _, h => by unfold RKs at h; subst h; rfl
  | (k, u) :: us, vs, h => by
    unfold RKs at h
    obtain ⟨v, r, e, _, t⟩ := h
    subst e
    simp [RKs.length t]
theorem truU_ok (st : Rst K G m H S) {u : U} {v : V} {k : Bool} (r : RU K G m H u v) (h : truU S u = some k) : TruV K v H k := by
  cases u with
  | non => cases r; cases h; rfl
  | bl b => cases r; cases h; rfl
  | int i => cases r; cases h; rfl
  | str y =>
    cases r
    simp only [truU] at h
    split at h
    · cases h; exact ⟨by assumption, rfl⟩
    · cases h
  | tup us =>
    obtain ⟨a, vs, rfl, hq, rv⟩ := r.tupT
    cases h
    exact .inr (.inl ⟨vs, hq, by rw [rv.empty]⟩)
  | lst us =>
    obtain ⟨a, vs, rfl, hq, rv⟩ := r.lstL
    cases h
    exact .inl ⟨vs, hq, by rw [rv.empty]⟩
  | scr us =>
    obtain ⟨a, vs, rfl, hq, rv⟩ := r.scrL
    cases h
    exact .inl ⟨vs, hq, by rw [rv.empty]⟩
  | dct us => cases h
  | fn x => cases h
  | ref n =>
    unfold RU at r
    obtain ⟨a, rfl, ha⟩ := r
    simp only [truU] at h
    split at h
    · rename_i us e
      cases h
      obtain ⟨a', ho, ha', e', vs, rfl, rv⟩ := st.at e
      rw [ha] at ha'; cases ha'
      exact .inl ⟨vs, SqL.of e', by rw [rv.empty]⟩
    · rename_i us e
      cases h
      obtain ⟨a', ho, ha', e', vs, rfl, rv⟩ := st.at e
      rw [ha] at ha'; cases ha'
      refine .inr (.inr ⟨vs, e', ?_⟩)
      have := rv.length
      cases us <;> cases vs <;> simp at this ⊢
    · cases h
end
def cTru (a : Cm U) : Cm Bool := fun env S => match a env S with
  | none => none
  | some (u, S1) => match truU S1 u with
    | none => none
    | some b => some (b, S1)
theorem cTru_some {a : Cm U} {env : Env'} {S S' : Sto} {b : Bool} (h : cTru a env S = some (b, S')) : ∃ u, a env S = some (u, S') ∧ truU S' u = some b := by
  unfold cTru at h
  split at h
  · cases h
  · rename_i u S1 e
    split at h
    · cases h
    · rename_i b' e2
      cases h
      exact ⟨u, e, e2⟩
variable {e a b c : Expr} {ca cb cc : Cm U} {ta tb tc : Cm Bool} {pos : Pos} {rest : List Expr}
theorem et_tru (ha : EE G X a ca) (he : ∀ whole, isTrue a X.env whole = (do let v ← whole; standAt a.pos; holding [v] (truthy v)) := by intro _; rfl) : ET G X a (cTru ca) := (pt_truth ha he).imp fun σ H Q ⟨m, S, env, k, S', st, re, hc, q⟩ => by
  obtain ⟨u, e1, e2⟩ := cTru_some hc
  exact ⟨m, S, env, u, S', st, re, e1, fun m1 H1 v x1 st1 r1 => ⟨k, truU_ok st1 r1 e2, q m1 H1 x1 st1⟩⟩
/-- a comparison as a test -/
theorem et_cmp {op : CmpOp} {f : Op2} (ho : OpU G X (compareOp op) f) (ha : EE G X a ca) (hb : EE G X b cb) (hm : behindInMarks op b = false) : ET G X (.Compare a [op] [b] pos) (cTru (cBin f ca cb)) := by
  refine ⟨fun pins s σ H Q I hw => ?_⟩
  obtain ⟨m, S, env, k, S', st, re, hc, q⟩ := hw
  obtain ⟨u, e1, e2⟩ := cTru_some hc
  have hE : RE X.K G (cBin f ca cb) σ H (fun x H' => ∃ k', TruV X.K x H' k' ∧ Q k' H') := ⟨m, S, env, u, S', st, re, e1, fun m1 H1 v x1 st1 r1 => ⟨k, truU_ok st1 r1 e2, q m1 H1 x1 st1⟩⟩
  have hop := re_op hE
  refine wpAny_isTrue_Compare1 (binT ha hb I hop fun v u s2 x y H2 I2 rx ry q2 => ?_) hm
  refine thn (ho pins s2 σ H2 x y v u _ I2 rx ry q2) fun w s3 ⟨z, H3, I3, r3, q3⟩ => ?_
  exact tru_ok pins s3 σ H3 z w Q I3 r3 q3
/-! and, or, not -/
def cAndT (a b : Cm Bool) : Cm Bool := fun env S => match a env S with
  | none => none
  | some (true, S1) => b env S1
  | some (false, S1) => some (false, S1)
def cOrT (a b : Cm Bool) : Cm Bool := fun env S => match a env S with
  | none => none
  | some (true, S1) => some (true, S1)
  | some (false, S1) => b env S1
def cNotT (a : Cm Bool) : Cm Bool := fun env S => match a env S with
  | none => none
  | some (k, S1) => some (!k, S1)
theorem ew_and1 (ha : ET G X a ta) : EW G X (.BoolOp .And [a] pos) ta := pw_and1 ha
theorem ew_or1 (ha : ET G X a ta) : EW G X (.BoolOp .Or [a] pos) ta := pw_or1 ha
theorem ew_and (ha : ET G X a ta) (hb : EW G X (.BoolOp .And (b :: rest) pos) tb) : EW G X (.BoolOp .And (a :: b :: rest) pos) (cAndT ta tb) := (pw_and ha hb).imp fun σ H Q ⟨m, S, env, k, S', st, re, hc, q⟩ => by
  unfold cAndT at hc
  split at hc
  · cases hc
  · rename_i S1 e1
    exact ⟨m, S, env, true, S1, st, re, e1, fun m1 H1 x1 st1 => iteT ⟨m1, S1, env, k, S', st1, re.keep x1.keeps, hc, q.mono x1⟩⟩
  · rename_i S1 e1
    cases hc
    exact ⟨m, S, env, false, _, st, re, e1, fun m1 H1 x1 st1 => iteF (q m1 H1 x1 st1)⟩
theorem ew_or (ha : ET G X a ta) (hb : EW G X (.BoolOp .Or (b :: rest) pos) tb) : EW G X (.BoolOp .Or (a :: b :: rest) pos) (cOrT ta tb) := (pw_or ha hb).imp fun σ H Q ⟨m, S, env, k, S', st, re, hc, q⟩ => by
  unfold cOrT at hc
  split at hc
  · cases hc
  · rename_i S1 e1
    cases hc
    exact ⟨m, S, env, true, _, st, re, e1, fun m1 H1 x1 st1 => iteT (q m1 H1 x1 st1)⟩
  · rename_i S1 e1
    exact ⟨m, S, env, false, S1, st, re, e1, fun m1 H1 x1 st1 => iteF ⟨m1, S1, env, k, S', st1, re.keep x1.keeps, hc, q.mono x1⟩⟩
theorem et_w (h : EW G X a ta) : ET G X a ta := h.pt
theorem et_not (ha : ET G X a ta) : ET G X (.UnaryOp .Not a pos) (cNotT ta) := (pt_not ha).imp fun σ H Q ⟨m, S, env, k, S', st, re, hc, q⟩ => by
  unfold cNotT at hc
  split at hc
  · cases hc
  · rename_i k' S1 e1
    cases hc
    exact ⟨m, S, env, k', _, st, re, e1, fun m1 H1 x1 st1 => q m1 H1 x1 st1⟩
/-! .. as values -/
def cAndV (a b : Cm U) : Cm U := fun env S => match a env S with
  | none => none
  | some (u, S1) => match truU S1 u with
    | none => none
    | some true => b env S1
    | some false => some (u, S1)
def cOrV (a b : Cm U) : Cm U := fun env S => match a env S with
  | none => none
  | some (u, S1) => match truU S1 u with
    | none => none
    | some true => some (u, S1)
    | some false => b env S1
def cNotV (a : Cm U) : Cm U := fun env S => match a env S with
  | none => none
  | some (u, S1) => match truU S1 u with
    | none => none
    | some k => some (.bl (!k), S1)
theorem ee_one {op} (ha : EE G X a ca) : EE G X (.BoolOp op [a] pos) ca := pe_one ha
theorem ee_and (ha : EE G X a ca) (hb : EE G X (.BoolOp .And (b :: rest) pos) cb) : EE G X (.BoolOp .And (a :: b :: rest) pos) (cAndV ca cb) := (pe_andT ha hb).imp fun σ H Q ⟨m, S, env, z, S', st, re, hc, q⟩ => by
  unfold cAndV at hc
  split at hc
  · cases hc
  · rename_i u S1 e1
    refine ⟨m, S, env, u, S1, st, re, e1, fun m1 H1 v x1 st1 r1 => ?_⟩
    split at hc
    · cases hc
    · rename_i e2
      exact ⟨true, truU_ok st1 r1 e2, iteT ⟨m1, S1, env, z, S', st1, re.keep x1.keeps, hc, q.mono x1⟩⟩
    · rename_i e2
      cases hc
      exact ⟨false, truU_ok st1 r1 e2, iteF (q m1 H1 v x1 st1 r1)⟩
theorem ee_or (ha : EE G X a ca) (hb : EE G X (.BoolOp .Or (b :: rest) pos) cb) : EE G X (.BoolOp .Or (a :: b :: rest) pos) (cOrV ca cb) := (pe_orT ha hb).imp fun σ H Q ⟨m, S, env, z, S', st, re, hc, q⟩ => by
  unfold cOrV at hc
  split at hc
  · cases hc
  · rename_i u S1 e1
    refine ⟨m, S, env, u, S1, st, re, e1, fun m1 H1 v x1 st1 r1 => ?_⟩
    split at hc
    · cases hc
    · rename_i e2
      cases hc
      exact ⟨true, truU_ok st1 r1 e2, iteT (q m1 H1 v x1 st1 r1)⟩
    · rename_i e2
      exact ⟨false, truU_ok st1 r1 e2, iteF ⟨m1, S1, env, z, S', st1, re.keep x1.keeps, hc, q.mono x1⟩⟩
theorem ee_not (ha : EE G X a ca) : EE G X (.UnaryOp .Not a pos) (cNotV ca) := (pe_notT ha).imp fun σ H Q ⟨m, S, env, z, S', st, re, hc, q⟩ => by
  unfold cNotV at hc
  split at hc
  · cases hc
  · rename_i u S1 e1
    refine ⟨m, S, env, u, S1, st, re, e1, fun m1 H1 v x1 st1 r1 => ?_⟩
    split at hc
    · cases hc
    · rename_i k e2
      cases hc
      exact ⟨k, truU_ok st1 r1 e2, q m1 H1 _ x1 st1 rfl⟩
def cIf (t : Cm Bool) (a b : Cm U) : Cm U := fun env S => match t env S with
  | none => none
  | some (true, S1) => a env S1
  | some (false, S1) => b env S1
theorem ee_if (hc : ET G X c tc) (ha : EE G X a ca) (hb : EE G X b cb) : EE G X (.IfExp c a b pos) (cIf tc ca cb) := (pe_ifExp hc ha hb).imp fun σ H Q ⟨m, S, env, z, S', st, re, hc, q⟩ => by
  unfold cIf at hc
  split at hc
  · cases hc
  · rename_i S1 e1
    exact ⟨m, S, env, true, S1, st, re, e1, fun m1 H1 x1 st1 => iteT ⟨m1, S1, env, z, S', st1, re.keep x1.keeps, hc, q.mono x1⟩⟩
  · rename_i S1 e1
    exact ⟨m, S, env, false, S1, st, re, e1, fun m1 H1 x1 st1 => iteF ⟨m1, S1, env, z, S', st1, re.keep x1.keeps, hc, q.mono x1⟩⟩
/-! defs -/
def startE (n : Nat) (us : List U) : Env' := us.map some ++ List.replicate (n - us.length) none
/-- what a body computes from its arguments -/
def runF (s : Sm) (np n : Nat) : OpN := fun us S => if us.length = np then (match s (startE n us) S with
  | some (.ret u, _, S') => some (u, S')
  | some (.nx, _, S') => some (.non, S')
  | _ => none) else none
/-- it takes n arguments -/
def Len (n : Nat) (f : OpN) : Prop := ∀ us S r, f us S = some r → us.length = n
def spU (K : PySem.W.Frag) (G : Gx) (f : OpN) : Sp := fun vs H Q _ => rNU K G f vs H Q
theorem runF_len {s : Sm} {np n : Nat} : Len np (runF s np n) := fun us S r h => by
  unfold runF at h
  split at h
  · assumption
  · cases h
theorem spU_len {K : PySem.W.Frag} {n : Nat} {f : OpN} (h : Len n f) {vs : List V} {H : Hp} {Q : VK} {E : XK} (s : spU K G f vs H Q E) : vs.length = n := by
  obtain ⟨m, S, us, z, S', st, r, e, q⟩ := s
  rw [r.length]
  exact h _ _ _ e
theorem RUs.begin_ {K : PySem.W.Frag} {m : Mp} {H : Hp} {N : List Str} {us : List U} {vs : List V} (r : RUs K G m H us vs) : Renv K G m H (startE N.length us) (L2.start N vs) := by
  have hl := r.length
  refine ⟨by simp [startE, L2.start, hl], fun i u h => ?_⟩
  unfold startE at h
  unfold L2.start
  by_cases hi : i < us.length
  · rw [List.getElem?_append_left (by simpa using hi)] at h
    rw [List.getElem?_append_left (by simp [hl]; exact hi)]
    have h' : us[i]? = some u := by
      rw [List.getElem?_map] at h
      cases q : us[i]? with
      | none => rw [q] at h; cases h
      | some w => rw [q] at h; cases h; rfl
    obtain ⟨v, e, q⟩ := r.get h'
    exact ⟨v, by rw [List.getElem?_map, e]; rfl, q⟩
  · rw [List.getElem?_append_right (by simp; omega)] at h
    have := List.getElem?_replicate (n := N.length - us.length) (a := (none : Option U)) (i := i - (us.map some).length)
    rw [this] at h
    split at h <;> cases h
section
variable {P : Program} {w : World} {K : PySem.W.Frag} {mg : Str → Option Value} {base : Heap}
theorem fn_ok {x qual : Str} {st : Stmt} {f : Addr} {fd : FuncData} {N ps : List Str} {k np n : Nat} {s : Sm} (hnp : ps.length = np) (hn : N.length = n) (F : Fun K x qual st f fd) (S : FnScope N ps (defScope st))
    (h : ∀ (cdv : Value) (A : Around) (outer : List Env) (s0 : Shared) (H : Hp) (E : XK), Room k (A.deeper (envOfC qual (defScope st) s0.heap.objs.size f cdv)) →
      ESs G (cxOf CX0 P w K mg base N qual (defScope st) f cdv A outer s0 H E).nox (defBody st) s) :
    FnOk P w K mg base CX0 (k + 1) f fd ps (spU K G (runF s np n)) := by
  subst hnp hn
  refine F.ok S (fun vs H Q E h => spU_len runF_len h) fun cdv A outer s0 H vs Q E hr hsp => ?_
  obtain ⟨m, S0, us, z, S', st, r, e, q⟩ := hsp
  refine ⟨_, h cdv A outer s0 H E hr, ?_⟩
  unfold runF at e
  split at e
  · split at e
    · rename_i u env' S1 e1
      cases e
      exact ⟨m, S0, _, _, _, _, st, r.begin_, e1, q⟩
    · rename_i env' S1 e1
      cases e
      exact ⟨m, S0, _, _, _, _, st, r.begin_, e1, fun m1 H1 σ1 x1 st1 re1 => q m1 H1 .non x1 st1 rfl⟩
    · cases e
  · cases e
end
/-- another operation that gives no more -/
def Le (f g : OpN) : Prop := ∀ us S r, f us S = some r → g us S = some r
theorem spU_le {K : PySem.W.Frag} {f g : OpN} (h : Le f g) {vs : List V} {H : Hp} {Q : VK} {E : XK} (s : spU K G f vs H Q E) : spU K G g vs H Q E :=
  let ⟨m, S, us, z, S', st, r, e, q⟩ := s
  ⟨m, S, us, z, S', st, r, h _ _ _ e, q⟩
/-! without cells -/
mutual
def noref : U → Bool
  | .tup us => norefs us
  | .lst us => norefs us
  | .scr us => norefs us
  | .dct kvs => norefk kvs
  | .ref _ => false
  | _ => true
def norefs : List U → Bool
  | [] => true
  | u :: us => noref u && norefs us
def norefk : List (Key × U) → Bool
  | [] => true
  | (_, u) :: us => noref u && norefk us
end
section
variable {K : PySem.W.Frag} {m m' : Mp} {H : Hp} {S : Sto}
mutual
theorem RU.noref (k : ∀ a : Addr, a ∉ m.c → a ∉ m.x → a ∉ m'.c ∧ a ∉ m'.x) : ∀ (u : U) (v : V), OF.noref u = true → RU K G m H u v → RU K G m' H u v
  | .non, _, _, h => h
  | .bl _, _, _, h => h
  | .int _, _, _, h => h
  | .str _, _, _, h => h
  | .tup us, v, n, h => by
    unfold RU at h ⊢
    obtain ⟨a, vs, e, q, r⟩ := h
    refine ⟨a, vs, e, ?_, RUs.noref k us vs n r⟩
    rcases q with ⟨q, n, nx⟩ | q
    · exact .inl ⟨q, k a n nx⟩
    · exact .inr q
  | .lst us, v, n, h => by
    unfold RU at h ⊢
    obtain ⟨a, vs, e, q, n1, nx, r⟩ := h
    exact ⟨a, vs, e, q, (k a n1 nx).1, (k a n1 nx).2, RUs.noref k us vs n r⟩
  | .scr us, v, n, h => by
    unfold RU at h ⊢
    obtain ⟨a, vs, e, q, r⟩ := h
    refine ⟨a, vs, e, ?_, RUs.noref k us vs n r⟩
    rcases q with ⟨q, n, nx⟩ | q
    · exact .inl ⟨q, k a n nx⟩
    · exact .inr q
  | .dct us, v, n, h => by
    unfold RU at h ⊢
    obtain ⟨a, vs, e, q, n1, nx, r⟩ := h
    exact ⟨a, vs, e, q, (k a n1 nx).1, (k a n1 nx).2, RKs.noref k us vs n r⟩
  | .fn x, v, _, h => by
    unfold RU at h ⊢
    exact h
  | .ref n, v, n', h => by cases n'
theorem RUs.noref (k : ∀ a : Addr, a ∉ m.c → a ∉ m.x → a ∉ m'.c ∧ a ∉ m'.x) : ∀ (us : List U) (vs : List V), norefs us = true → RUs K G m H us vs → RUs K G m' H us vs
  | [], _, _, h => h
  | u :: us, vs, n, h => by
    unfold RUs at h ⊢
    obtain ⟨v, r, e, q, t⟩ := h
    have n' : (OF.noref u && norefs us) = true := n
    rw [Bool.and_eq_true] at n'
    exact ⟨v, r, e, RU.noref k u v n'.1 q, RUs.noref k us r n'.2 t⟩
theorem RKs.noref (k : ∀ a : Addr, a ∉ m.c → a ∉ m.x → a ∉ m'.c ∧ a ∉ m'.x) : ∀ (us : List (Key × U)) (vs : List (Key × V)), norefk us = true → RKs K G m H us vs → RKs K G m' H us vs
  | [], _, _, h => h
  | (c, u) :: us, vs, n, h => by
    unfold RKs at h ⊢
    obtain ⟨v, r, e, q, t⟩ := h
    have n' : (OF.noref u && norefk us) = true := n
    rw [Bool.and_eq_true] at n'
    exact ⟨v, r, e, RU.noref k u v n'.1 q, RKs.noref k us r n'.2 t⟩
end
end
/-- run without the cells: from plain data to plain data -/
abbrev Pf := List U → Option U
def pureF (f : OpN) : Pf := fun us => match f us [] with
  | some (u, _) => if noref u = true then some u else none
  | none => none
def liftP (p : Pf) : OpN := fun us S => if norefs us = true then (match p us with
  | some u => some (u, S)
  | none => none) else none
theorem spU_pure {K : PySem.W.Frag} {f : OpN} {vs : List V} {H : Hp} {Q : VK} {E : XK} (s : spU K G (liftP (pureF f)) vs H Q E) : spU K G f vs H Q E := by
  obtain ⟨m, S, us, z, S', st, r, e, q⟩ := s
  unfold liftP at e
  split at e
  · rename_i hn
    split at e
    · rename_i u e1
      cases e
      unfold pureF at e1
      split at e1
      · rename_i u' S1 e2
        split at e1
        · rename_i hn2
          cases e1
          have st0 : Rst K G ⟨[], m.x ++ m.c⟩ H [] := ⟨by simp, rfl, fun n o a h => by simp at h, fun a ha => by
            rcases List.mem_append.mp ha with ha | ha
            · exact st.xs a ha
            · obtain ⟨ho, e⟩ := st.cell ha
              rw [e]; rfl, fun a _ h => by cases h⟩
          refine ⟨⟨[], m.x ++ m.c⟩, [], us, z, S1, st0, RUs.noref (fun a h1 h2 => ⟨by simp, by simp [h1, h2]⟩) us vs hn r, e2, fun m1 H1 v x1 st1 r1 => ?_⟩
          have kp : ∀ a o, H a = some o → H1 a = some o := fun a o h => x1.keep a o h (by simp)
          have hx : ∀ a, a ∉ m1.x → a ∉ m.x ∧ a ∉ m.c := fun a h => by
            obtain ⟨r, hr, _⟩ := x1.x
            rw [hr] at h
            simp only [List.mem_append, not_or] at h
            exact h.2
          have ks : Keeps m H m H1 := ⟨fun a u h n nx => ⟨by
            rcases h with h | ⟨o, h⟩
            · exact .inl (kp a _ h)
            · exact .inr ⟨o, kp a _ h⟩, n, nx⟩, fun _ _ h => h⟩
          refine q m H1 v ⟨⟨[], by simp⟩, ⟨[], rfl, fun _ h => nomatch h⟩, fun a o h _ => kp a o h, fun a ha h => ?_, fun a h n => absurd h n⟩ ⟨st.nd, st.len, fun n o a h1 h2 => ?_, fun a ha => ?_, st.nx⟩ (RU.noref (fun a h1 h2 => ⟨(hx a h2).2, (hx a h2).1⟩) z v hn2 r1)
          · cases q : H a with
            | none => rw [q] at h; cases h
            | some o => rw [kp a o q]; rfl
          · obtain ⟨ho, e, r⟩ := st.ob n o a h1 h2
            exact ⟨ho, kp a ho e, RO.keep ks _ _ r⟩
          · cases q : H a with
            | none => have := st.xs a ha; rw [q] at this; cases this
            | some o => rw [kp a o q]; rfl
        · cases e1
      · cases e1
    · cases e
  · cases e
theorem fn_pure {P : Program} {w : World} {K : PySem.W.Frag} {mg : Str → Option Value} {base : Heap} {k : Nat} {f : Addr} {fd : FuncData} {ps : List Str} {F : OpN} (h : FnOk P w K mg base CX0 k f fd ps (spU K G F)) :
    FnOk P w K mg base CX0 k f fd ps (spU K G (liftP (pureF F))) := h.imp fun _ _ _ _ => spU_pure
end OF

namespace OF
open PySem PySem.Spec PyProof.Rows L2
variable {X : Cx} {G : Gx}
variable {e o : Expr} {es : List Expr} {ca cb : Cm U} {cl ck : Cm (List U)} {pos apos p : Pos} {x mm : Str} {k : Nat} {f C : Addr} {fd : FuncData} {ps : List Str} {F : OpN}

/-! calls of defs -/
theorem ee_call (h : FnOk X.prog X.w X.K X.mg X.base CX0 k f fd ps (spU X.K G F)) (hr : Room k X.A) (hg : Gl X x) (hm : X.mg x = some (.ref f)) (hk : PySem.W.keepIn X.K (.ref f) = true) (hb : Binds X.K fd ps [])
    (ha : EA G X (e :: es) cl) (hdb : (x == ("__debug__" : Str)) = false := by decide) (he : starEach (e :: es) X.env = (false, eval e X.env) :: starEach es X.env := by rfl) (hpl : (backTo pos (starEach es X.env)).any (·.1) = false := by rfl) :
    EE G X (.Call (.Name x p) (e :: es) [] pos) (cArg F cl) := (pe_call h hr hg hm hk hb .nil pass0 ha hdb he hpl).imp fun σ H Q h => by
  obtain ⟨m, S, env, us, S1, st, re, e1, q⟩ := re_arg h
  exact ⟨m, S, env, us, S1, st, re, e1, fun m1 H1 vs x1 st1 r1 => by
    show spU X.K G F (vs ++ []) H1 Q E0
    rw [List.append_nil]; exact q m1 H1 vs x1 st1 r1⟩
theorem ee_call0 (h : FnOk X.prog X.w X.K X.mg X.base CX0 k f fd ps (spU X.K G F)) (hr : Room k X.A) (hg : Gl X x) (hm : X.mg x = some (.ref f)) (hk : PySem.W.keepIn X.K (.ref f) = true) (hb : Binds X.K fd ps [])
    (hdb : (x == ("__debug__" : Str)) = false := by decide) : EE G X (.Call (.Name x p) [] [] pos) (cArg F cNil) := (pe_call0 h hr hg hm hk hb .nil pass0 hdb).imp fun σ H Q h => by
  obtain ⟨m, S, env, us, S1, st, re, e1, q⟩ := re_arg h
  cases e1
  exact q m H [] (Ext.refl m H) st RUs.nil
/-- with defaults behind: ds their values -/
theorem ee_callD {ds : List Value} {dvs : List V} {dus : List U} (h : FnOk X.prog X.w X.K X.mg X.base CX0 k f fd ps (spU X.K G F)) (hr : Room k X.A) (hg : Gl X x) (hm : X.mg x = some (.ref f)) (hk : PySem.W.keepIn X.K (.ref f) = true) (hb : Binds X.K fd ps ds) (hd : Vals dvs ds)
    (hu : ∀ m H, RUs X.K G m H dus dvs)
    (ha : EA G X (e :: es) cl) (hdb : (x == ("__debug__" : Str)) = false := by decide) (he : starEach (e :: es) X.env = (false, eval e X.env) :: starEach es X.env := by rfl) (hpl : (backTo pos (starEach es X.env)).any (·.1) = false := by rfl) :
    EE G X (.Call (.Name x p) (e :: es) [] pos) (cArg (fun us => F (us ++ dus)) cl) := (pe_call h hr hg hm hk hb hd pass0 ha hdb he hpl).imp fun σ H Q h => by
  obtain ⟨m, S, env, us, S1, st, re, e1, q⟩ := re_arg h
  refine ⟨m, S, env, us, S1, st, re, e1, fun m1 H1 vs x1 st1 r1 => ?_⟩
  obtain ⟨m2, S2, us2, z, S', st2, r2, e2, q2⟩ := q m1 H1 vs x1 st1 r1
  exact ⟨m2, S2, us2 ++ dus, z, S', st2, r2.append (hu m2 H1), e2, q2⟩
/-! two argument lists: positional and by keywords -/
def cArg2 (f : List U → OpN) (a b : Cm (List U)) : Cm U := fun env S => match a env S with
  | none => none
  | some (us, S1) => match b env S1 with
    | none => none
    | some (ws, S2) => f us ws S2
theorem cArg2_some {f : List U → OpN} {a b : Cm (List U)} {env : Env'} {S : Sto} {r : U × Sto} (h : cArg2 f a b env S = some r) : ∃ us S1 ws S2, a env S = some (us, S1) ∧ b env S1 = some (ws, S2) ∧ f us ws S2 = some r := by
  unfold cArg2 at h
  split at h
  · cases h
  · rename_i u S1 e
    split at h
    · cases h
    · rename_i v S2 e2
      exact ⟨u, S1, v, S2, e, e2, h⟩
abbrev EK (G : Gx) (X : Cx) (kws : List Keyword) (c : Cm (List U)) : Prop := PK X kws (RA X.K G c)
theorem _root_.L2.PK.imp {kws : List Keyword} {t t' : TA} (h : PK X kws t) (i : ∀ σ H Q, t' σ H Q → t σ H Q) : PK X kws t' := ⟨fun p pins s σ H Q I hw => h.run p pins s σ H Q I (i σ H Q hw)⟩
theorem ek_nil : EK G X [] cNil := pk_nil.imp fun σ H Q ⟨m, S, env, us, S', st, re, hc, q⟩ => by
  cases hc
  exact q m H [] (Ext.refl m H) st RUs.nil
theorem ek_cons {kws : List Keyword} {nm : Option Str} {kpos : Pos} (ha : EE G X e ca) (hr : EK G X kws cl) : EK G X (⟨nm, e, kpos⟩ :: kws) (cCons ca cl) := (pk_cons ha hr).imp fun _ _ _ => re_cons
variable {kws : List Keyword} {n nk : Nat} {ks : List Str} {g : List Value → List Value → List Value} {gV : List V → List V → List V}
theorem ee_callN (gU : List U → List U → List U) (h : FnOk X.prog X.w X.K X.mg X.base CX0 k f fd ps (spU X.K G F)) (hr : Room k X.A) (hg : Gl X x) (hm : X.mg x = some (.ref f)) (hk : PySem.W.keepIn X.K (.ref f) = true) (hb : KBn X.K fd ps n ks g gV)
    (hu : ∀ m H us vs ws zs, us.length = n → ws.length = ks.length → RUs X.K G m H us vs → RUs X.K G m H ws zs → RUs X.K G m H (gU us ws) (gV vs zs))
    (ha : EA G X (e :: es) cl) (hkw : EK G X kws ck) (hall : (backToKw pos (keywordEach kws X.env)).all (·.1.isSome) = true := by rfl) (hks : (backToKw pos (keywordEach kws X.env)).filterMap (·.1) = ks := by rfl)
    (hdb : (x == ("__debug__" : Str)) = false := by decide) (he : starEach (e :: es) X.env = (false, eval e X.env) :: starEach es X.env := by rfl)
    (hpl : ((backTo pos (starEach (e :: es) X.env)).any (·.1) || (backToKw pos (keywordEach kws X.env)).any (·.1.isNone)) = false := by rfl) :
    EE G X (.Call (.Name x p) (e :: es) kws pos) (cArg2 (fun us ws S => if us.length = n ∧ ws.length = ks.length then F (gU us ws) S else none) cl ck) := by
  refine (pe_callN h hr hg hm hk hb pass0 ha hkw hall hks hdb he hpl).imp fun σ H Q h => ?_
  obtain ⟨m, S, env, z, S', st, re, hc, q⟩ := h
  obtain ⟨us, S1, ws, S2, e1, e2, e3⟩ := cArg2_some hc
  split at e3
  · rename_i hl
    refine ⟨m, S, env, us, S1, st, re, e1, fun m1 H1 vs x1 st1 r1 => ⟨m1, S1, env, ws, S2, st1, re.keep x1.keeps, e2, fun m2 H2 zs x2 st2 r2 => ?_⟩⟩
    have r1' := RUs.keep x2.keeps _ _ r1
    exact ⟨by rw [r1.length]; exact hl.1, by rw [r2.length]; exact hl.2, m2, S2, gU us ws, z, S', st2, hu m2 H2 us vs ws zs hl.1 hl.2 r1' r2, e3, (q.mono x1).mono x2⟩
  · cases e3
/-! methods of own classes -/
def cMeth (c : Str) (mm : Str) (F : OpN) (a : Cm U) (r : Cm (List U)) : Cm U := fun env S => match a env S with
  | some (.ref n, S1) => match S1[n]? with
    | some (.ins c' fs) => if c' = c ∧ fs.lookup mm = none then (match r env S1 with
      | some (us, S2) => F (.ref n :: us) S2
      | none => none) else none
    | _ => none
  | _ => none
theorem cMeth_some {c mm : Str} {F : OpN} {a : Cm U} {r : Cm (List U)} {env : Env'} {S : Sto} {z : U × Sto} (h : cMeth c mm F a r env S = some z) : ∃ n S1 fs us S2, a env S = some (.ref n, S1) ∧ S1[n]? = some (.ins c fs) ∧ fs.lookup mm = none ∧ r env S1 = some (us, S2) ∧ F (.ref n :: us) S2 = some z := by
  unfold cMeth at h
  split at h
  · rename_i n S1 e1
    split at h
    · rename_i c' fs e2
      split at h
      · rename_i hc
        split at h
        · rename_i us S2 e3
          exact ⟨n, S1, fs, us, S2, e1, by rw [e2, hc.1], hc.2, e3, h⟩
        · cases h
      · cases h
    · cases h
  · cases h
theorem RFs.lookup {K : PySem.W.Frag} {m : Mp} {H : Hp} {f : Str} : ∀ {us : List (Str × U)} {vs : List (Str × V)}, RFs K G m H us vs → (us.lookup f = none → vs.lookup f = none) ∧ ∀ u, us.lookup f = some u → ∃ v, vs.lookup f = some v ∧ RU K G m H u v
  | [], _, h => by
    unfold RFs at h
    subst h
    exact ⟨fun _ => rfl, fun u h => by cases h⟩
  | (k, w) :: us, vs, h => by
    unfold RFs at h
    obtain ⟨v, r, rfl, q, t⟩ := h
    have ih := RFs.lookup (f := f) t
    simp only [List.lookup_cons]
    by_cases hk : (f == k) = true
    · rw [hk]
      exact ⟨fun h => (by cases h), fun u h => (by cases h; exact ⟨v, rfl, q⟩)⟩
    · rw [Bool.not_eq_true] at hk
      rw [hk]
      exact ih
theorem re_meth {K : PySem.W.Frag} {c : Str} {σ : L2.St} {H : Hp} {Q : VK} (hC : G.cls c = some C) (h : RE K G (cMeth c mm F ca cl) σ H Q) : tMeth C mm (spU K G F) [] E0 (RE K G ca) (RA K G cl) σ H Q := by
  obtain ⟨m, S, env, z, S', st, re, hc, q⟩ := h
  obtain ⟨n, S1, fs, us, S2, e1, e2, e3, e4, e5⟩ := cMeth_some hc
  refine ⟨m, S, env, .ref n, S1, st, re, e1, fun m1 H1 v x1 st1 r1 => ?_⟩
  obtain ⟨a, ho, ha, hH, C', dx, vs, rfl, hC', rf⟩ := st1.at e2
  rw [hC] at hC'; cases hC'
  unfold RU at r1
  obtain ⟨a', rfl, ha'⟩ := r1
  rw [ha] at ha'; cases ha'
  refine ⟨a, dx, vs, rfl, hH, (rf.lookup).1 e3, m1, S1, env, us, S2, st1, re.keep x1.keeps, e4, fun m2 H2 ws x2 st2 r2 => ?_⟩
  show spU K G F (V.ref a :: (ws ++ [])) H2 Q E0
  rw [List.append_nil]
  exact ⟨m2, S2, .ref n :: us, z, S', st2, RUs.cons (RU.cell (x2.at ha)) r2, e5, (q.mono x1).mono x2⟩
theorem ee_meth {c : Str} {pl : Sem Bool} (hC : G.cls c = some C) (he : EE G X o ca) (hc : Cls X.K C) (hm : Meth X.K C mm f) (h : FnOk X.prog X.w X.K X.mg X.base CX0 k f fd ps (spU X.K G F)) (hr : Room k X.A) (hb : Binds X.K fd ps []) (ha : EA G X (e :: es) cl)
    (hst : starEach (e :: es) X.env = (false, eval e X.env) :: starEach es X.env := by rfl) (hpl : (backTo pos (starEach es X.env)).any (·.1) = false := by rfl)
    (ht : eval (.Call (.Attribute o mm apos) (e :: es) [] pos) X.env = (do
      let ov ← eval o X.env
      standAt apos.atName
      let (f, first) ← holding [ov] (getMethod ov mm pl)
      callWith pos f first (backTo pos (starEach (e :: es) X.env)) (backToKw pos (keywordEach [] X.env))) := by rfl) :
    EE G X (.Call (.Attribute o mm apos) (e :: es) [] pos) (cMeth c mm F ca cl) := (pe_meth he hc hm h hr hb .nil pass0 ha hst hpl ht).imp fun _ _ _ => re_meth hC
theorem ee_meth0 {c : Str} {pl : Sem Bool} (hC : G.cls c = some C) (he : EE G X o ca) (hc : Cls X.K C) (hm : Meth X.K C mm f) (h : FnOk X.prog X.w X.K X.mg X.base CX0 k f fd ps (spU X.K G F)) (hr : Room k X.A) (hb : Binds X.K fd ps [])
    (ht : eval (.Call (.Attribute o mm apos) [] [] pos) X.env = (do
      let ov ← eval o X.env
      standAt apos.atName
      let (f, first) ← holding [ov] (getMethod ov mm pl)
      callWith pos f first (backTo pos (starEach [] X.env)) (backToKw pos (keywordEach [] X.env))) := by rfl) :
    EE G X (.Call (.Attribute o mm apos) [] [] pos) (cMeth c mm F ca cNil) := (pe_meth0 he hc hm h hr hb .nil pass0 ht).imp fun σ H Q h => by
  have h2 := re_meth hC h
  obtain ⟨m, S, env, u, S', st, re, e1, q⟩ := h2
  refine ⟨m, S, env, u, S', st, re, e1, fun m1 H1 v x1 st1 r1 => ?_⟩
  obtain ⟨a, dx, fs, e2, e3, e4, m2, S2, env2, us2, S3, st2, re2, e5, q2⟩ := q m1 H1 v x1 st1 r1
  cases e5
  exact ⟨a, dx, fs, e2, e3, e4, q2 m2 H1 [] (Ext.refl m2 H1) st2 RUs.nil⟩
/-! a new instance -/
def oMake (c : Str) (F : OpN) : OpN := fun us S => match F (.ref S.length :: us) (S ++ [.ins c []]) with
  | some (.non, S') => some (.ref S.length, S')
  | _ => none
theorem make_ok {K : PySem.W.Frag} {c : Str} {H1 : Hp} {Q : VK} {vs : List V} (hC : G.cls c = some C) (h : rNU K G (oMake c F) vs H1 Q) : ∀ x dx, H1 x = none → H1 dx = none → dx ≠ x →
    spU K G F (.ref x :: vs) (upd (upd H1 dx (.own x)) x (.ins C dx [])) (fun v H2 => v = .non ∧ Q (.ref x) H2) E0 := by
  intro x dx hx hdx ne
  obtain ⟨m, S, us, z, S', st, r, e, q⟩ := h
  unfold oMake at e
  split at e
  · rename_i S2 e1
    cases e
    have hx' : upd H1 dx (.own x) x = none := by rw [upd_ne (Ne.symm ne)]; exact hx
    have st1 : Rst K G m (upd H1 dx (.own x)) S := st.new hdx
    have x1 : Ext m H1 m (upd H1 dx (.own x)) := Ext.upd hdx
    have x2 : Ext m (upd H1 dx (.own x)) ⟨m.c ++ [x], m.x⟩ (upd (upd H1 dx (.own x)) x (.ins C dx [])) := Ext.cell hx'
    have st2 := st1.push (o := .ins c []) (ho := .ins C dx []) hx' ⟨C, dx, [], rfl, hC, by unfold RFs; rfl⟩
    have at' : (m.c ++ [x])[S.length]? = some x := by rw [← st.len]; simp
    refine ⟨_, _, .ref S.length :: us, .non, S', st2, RUs.cons (RU.cell at') (RUs.keep (x1.trans x2).keeps _ _ r), e1, fun m3 H3 v x3 st3 r3 => ⟨r3, ?_⟩⟩
    exact q m3 H3 _ ((x1.trans x2).trans x3) st3 (RU.cell (x3.at at'))
  · cases e
theorem ee_make {c : Str} (hC : G.cls c = some C) (M : Mk X.K C f) (h : FnOk X.prog X.w X.K X.mg X.base CX0 k f fd ps (spU X.K G F)) (hr : Room (k + 1) X.A) (hg : Gl X x) (hm : X.mg x = some (.ref C)) (hb : Binds X.K fd ps [])
    (ha : EA G X (e :: es) cl) (hdb : (x == ("__debug__" : Str)) = false := by decide) (he : starEach (e :: es) X.env = (false, eval e X.env) :: starEach es X.env := by rfl) (hpl : (backTo pos (starEach es X.env)).any (·.1) = false := by rfl) :
    EE G X (.Call (.Name x p) (e :: es) [] pos) (cArg (oMake c F) cl) := (pe_make M h hr hg hm hb .nil pass0 ha hdb he hpl).imp fun σ H Q h => by
  obtain ⟨m, S, env, us, S1, st, re, e1, q⟩ := re_arg h
  refine ⟨m, S, env, us, S1, st, re, e1, fun m1 H1 vs x1 st1 r1 => ?_⟩
  dsimp only
  rw [List.append_nil]
  exact make_ok hC (q m1 H1 vs x1 st1 r1)
theorem ee_make0 {c : Str} (hC : G.cls c = some C) (M : Mk X.K C f) (h : FnOk X.prog X.w X.K X.mg X.base CX0 k f fd ps (spU X.K G F)) (hr : Room (k + 1) X.A) (hg : Gl X x) (hm : X.mg x = some (.ref C)) (hb : Binds X.K fd ps [])
    (hdb : (x == ("__debug__" : Str)) = false := by decide) : EE G X (.Call (.Name x p) [] [] pos) (cArg (oMake c F) cNil) := (pe_make0 M h hr hg hm hb .nil pass0 hdb).imp fun σ H Q h => by
  obtain ⟨m, S, env, us, S1, st, re, e1, q⟩ := re_arg h
  cases e1
  exact make_ok hC (q m H [] (Ext.refl m H) st RUs.nil)
theorem ee_makeK {c : Str} (gU : List U → List U → List U) (hC : G.cls c = some C) (M : Mk X.K C f) (h : FnOk X.prog X.w X.K X.mg X.base CX0 k f fd ps (spU X.K G F)) (hr : Room (k + 1) X.A) (hg : Gl X x) (hm : X.mg x = some (.ref C)) (hb : KBn X.K fd ps (n + 1) ks g gV)
    (hu : ∀ m H u v us vs ws zs, us.length = n → ws.length = ks.length → RU X.K G m H u v → RUs X.K G m H us vs → RUs X.K G m H ws zs → ∃ t, gV (v :: vs) zs = v :: t ∧ RUs X.K G m H (gU us ws) t)
    (hl : ∀ (v : V) vs zs t, gV (v :: vs) zs = v :: t → ∀ w, gV (w :: vs) zs = w :: t)
    (ha : EA G X (e :: es) cl) (hkw : EK G X kws ck) (hall : (backToKw pos (keywordEach kws X.env)).all (·.1.isSome) = true := by rfl) (hks : (backToKw pos (keywordEach kws X.env)).filterMap (·.1) = ks := by rfl)
    (hdb : (x == ("__debug__" : Str)) = false := by decide) (he : starEach (e :: es) X.env = (false, eval e X.env) :: starEach es X.env := by rfl)
    (hpl : ((backTo pos (starEach (e :: es) X.env)).any (·.1) || (backToKw pos (keywordEach kws X.env)).any (·.1.isNone)) = false := by rfl) :
    EE G X (.Call (.Name x p) (e :: es) kws pos) (cArg2 (fun us ws S => if us.length = n ∧ ws.length = ks.length then oMake c F (gU us ws) S else none) cl ck) := by
  refine (pe_makeK M h hr hg hm hb pass0 ha hkw hall hks hdb he hpl).imp fun σ H Q h => ?_
  obtain ⟨m, S, env, z, S', st, re, hc, q⟩ := h
  obtain ⟨us, S1, ws, S2, e1, e2, e3⟩ := cArg2_some hc
  split at e3
  · rename_i hl'
    refine ⟨m, S, env, us, S1, st, re, e1, fun m1 H1 vs x1 st1 r1 => ⟨m1, S1, env, ws, S2, st1, re.keep x1.keeps, e2, fun m2 H2 zs x2 st2 r2 => ?_⟩⟩
    have r1' := RUs.keep x2.keeps _ _ r1
    obtain ⟨t, et, rt⟩ := hu m2 H2 .non .non us vs ws zs hl'.1 hl'.2 rfl r1' r2
    refine ⟨by rw [r1.length]; exact hl'.1, by rw [r2.length]; exact hl'.2, fun x dx hx hdx ne => ?_⟩
    rw [hl _ _ _ _ et (.ref x)]
    exact make_ok hC ⟨m2, S2, gU us ws, z, S', st2, rt, e3, (q.mono x1).mono x2⟩ x dx hx hdx ne
  · cases e3
/-! fields -/
def cFld (cs : List Str) (fn : Str) (a : Cm U) : Cm U := fun env S => match a env S with
  | some (.ref n, S1) => match S1[n]? with
    | some (.ins c fs) => if cs.contains c = true then (match fs.lookup fn with
      | some u => some (u, S1)
      | none => none) else none
    | _ => none
  | _ => none
theorem ee_fld {cs : List Str} {fn : Str} (hC : ∀ c C, cs.contains c = true → G.cls c = some C → Cls X.K C ∧ NoAttr X.K C fn) (he : EE G X o ca) (hb : attributeBase o fn X.env (eval o X.env) = eval o X.env := by rfl) : EE G X (.Attribute o fn pos) (cFld cs fn ca) :=
  (pe_fld he hb).imp fun σ H Q ⟨m, S, env, z, S', st, re, hc, q⟩ => by
    unfold cFld at hc
    split at hc
    · rename_i n S1 e1
      refine ⟨m, S, env, .ref n, S1, st, re, e1, fun m1 H1 v x1 st1 r1 => ?_⟩
      split at hc
      · rename_i c fs e2
        split at hc
        · rename_i hcs
          split at hc
          · rename_i u e3
            cases hc
            obtain ⟨a, ho, ha, hH, C', dx, vs, rfl, hC', rf⟩ := st1.at e2
            unfold RU at r1
            obtain ⟨a', rfl, ha'⟩ := r1
            rw [ha] at ha'; cases ha'
            obtain ⟨w, ew, rw'⟩ := (rf.lookup).2 _ e3
            obtain ⟨h1, h2⟩ := hC c C' hcs hC'
            exact ⟨a, C', dx, vs, w, rfl, hH, h1, h2, ew, q m1 H1 w x1 st1 rw'⟩
          · cases hc
        · cases hc
      · cases hc
    · cases hc
def putU (f : Str) (v : U) : List (Str × U) → List (Str × U)
  | [] => [(f, v)]
  | (k, w) :: r => if k = f then (k, v) :: r else (k, w) :: putU f v r
def sFldS (cs : List Str) (fn : Str) (a v : Cm U) : Sm := fun env S => match v env S with
  | some (u, S1) => match a env S1 with
    | some (.ref n, S2) => match S2[n]? with
      | some (.ins c fs) => if cs.contains c = true ∧ fs.length < 1000 then some (.nx, env, S2.set n (.ins c (putU fn u fs))) else none
      | _ => none
    | _ => none
  | _ => none
theorem RFs.put {K : PySem.W.Frag} {m : Mp} {H : Hp} {fn : Str} {u : U} {v : V} (r : RU K G m H u v) : ∀ {us : List (Str × U)} {vs : List (Str × V)}, RFs K G m H us vs → RFs K G m H (putU fn u us) (putF fn v vs) ∧ vs.length = us.length
  | [], _, h => by
    unfold RFs at h
    subst h
    refine ⟨?_, rfl⟩
    unfold putU putF RFs
    exact ⟨v, [], rfl, r, by unfold RFs; rfl⟩
  | (k, w) :: us, vs, h => by
    unfold RFs at h
    obtain ⟨v', t, rfl, q, tl⟩ := h
    obtain ⟨ih, hl⟩ := RFs.put r tl
    refine ⟨?_, by simp [hl]⟩
    unfold putU putF
    by_cases hk : k = fn
    · rw [if_pos hk, if_pos hk]
      unfold RFs
      exact ⟨v, t, rfl, r, tl⟩
    · rw [if_neg hk, if_neg hk]
      unfold RFs
      exact ⟨v', _, rfl, q, ih⟩
theorem es_fld {cs : List Str} {fn : Str} {pos' : Pos} (hC : ∀ c C, cs.contains c = true → G.cls c = some C → Cls X.K C ∧ NoAttr X.K C fn) (ho : EE G X o ca) (hv : EE G X e cb) (hs : swapsWith e (some (.Attribute o fn pos')) pos.line X.env = pure false := by rfl) :
    ES G X (.Assign [.Attribute o fn pos'] e pos) (sFldS cs fn ca cb) := (ps_fld ho hv hs).imp fun D σ H ⟨m, S, env, fl, env', S', st, re, hc, q⟩ => by
  unfold sFldS at hc
  split at hc
  · rename_i u S1 e1
    refine ⟨m, S, env, u, S1, st, re, e1, fun m1 H1 y x1 st1 r1 => ?_⟩
    split at hc
    · rename_i n S2 e2
      refine ⟨m1, S1, env, .ref n, S2, st1, re.keep x1.keeps, e2, fun m2 H2 v x2 st2 r2 => ?_⟩
      split at hc
      · rename_i c fs e3
        split at hc
        · rename_i hcs
          cases hc
          obtain ⟨a, ho, ha, hH, C', dx, vs, rfl, hC', rf⟩ := st2.at e3
          unfold RU at r2
          obtain ⟨a', rfl, ha'⟩ := r2
          rw [ha] at ha'; cases ha'
          obtain ⟨h1, h2⟩ := hC c C' hcs.1 hC'
          obtain ⟨rp, hl⟩ := RFs.put (fn := fn) (RU.keep x2.keeps _ _ r1) rf
          have hm : a ∈ m2.c := List.mem_of_getElem? ha
          have x3 : Ext m2 H2 m2 (upd H2 a (.ins C' dx (putF fn y vs))) := Ext.set hm
          refine ⟨a, C', dx, vs, rfl, hH, h1, h2, by rw [hl]; exact hcs.2, ?_⟩
          exact q m2 _ σ ((x1.trans x2).trans x3) (st2.set ha ⟨C', dx, _, rfl, hC', RFs.keep (keeps_set hm) _ _ rp⟩) (((re.keep x1.keeps).keep x2.keeps).keep x3.keeps)
        · cases hc
      · cases hc
    · cases hc
  · cases hc

/-! patterns: names and tuples of patterns -/
inductive Pat where
  | nm (i : Nat)
  | tp (ps : List Pat)
mutual
def bindP : Pat → U → Option (List (Nat × U))
  | .nm i, u => some [(i, u)]
  | .tp ps, .tup us => bindPs ps us
  | .tp _, _ => none
def bindPs : List Pat → List U → Option (List (Nat × U))
  | [], [] => some []
  | p :: ps, u :: us => match bindP p u with
    | none => none
    | some a => match bindPs ps us with
      | none => none
      | some b => some (a ++ b)
  | _, _ => none
end
def setAll {α : Type} (σ : List (Option α)) : List (Nat × α) → List (Option α)
  | [] => σ
  | (i, v) :: r => setAll (σ.set i (some v)) r
theorem setAll_app {α : Type} : ∀ (a b : List (Nat × α)) (σ : List (Option α)), setAll σ (a ++ b) = setAll (setAll σ a) b
  | [], b, σ => rfl
  | (i, v) :: a, b, σ => setAll_app a b _
section
variable (K : PySem.W.Frag) (H : Hp)
mutual
def PatV : Pat → V → List (Nat × V) → Prop
  | .nm i, v, bs => bs = [(i, v)]
  | .tp ps, v, bs => ∃ a vs, v = .ref a ∧ SqT K H a vs ∧ PatVs ps vs bs
def PatVs : List Pat → List V → List (Nat × V) → Prop
  | [], vs, bs => vs = [] ∧ bs = []
  | p :: ps, vs, bs => ∃ v r b1 b2, vs = v :: r ∧ bs = b1 ++ b2 ∧ PatV p v b1 ∧ PatVs ps r b2
end
end
def tPat (K : PySem.W.Frag) (pt : Pat) : TG := fun v σ H Q => ∃ bs, PatV K H pt v bs ∧ Q (setAll σ bs) H
def tPats (K : PySem.W.Frag) (pt : List Pat) : TGs := fun v σ H Q => ∃ bs, PatVs K H pt v bs ∧ Q (setAll σ bs) H
abbrev EPt (X : Cx) (tg : Expr) (pt : Pat) : Prop := PG X tg (tPat X.K pt)
abbrev EPts (X : Cx) (tg : List Expr) (pt : List Pat) : Prop := PGs X tg (tPats X.K pt)
theorem PatVs.length {K : PySem.W.Frag} {H : Hp} : ∀ {ps : List Pat} {vs : List V} {bs : List (Nat × V)}, PatVs K H ps vs bs → vs.length = ps.length
  | [], vs, bs, h => by unfold PatVs at h; rw [h.1]; rfl
  | p :: ps, vs, bs, h => by
    unfold PatVs at h
    obtain ⟨v, r, b1, b2, rfl, _, _, t⟩ := h
    simp [PatVs.length t]
theorem ep_name {i : Nat} (hN : X.N.Nodup) (hi : X.N[i]? = some x) (hx : Loc X.env.scope x) (hf : X.fn x = true ∨ X.env.scope.names.lookup x = some .local := by first | exact .inl rfl | exact .inr rfl | assumption) : EPt X (.Name x pos) (.nm i) :=
  (pg_name hN hi hx hf).imp fun v σ H Q ⟨bs, h, q⟩ => by
    unfold PatV at h
    subst h
    exact q
theorem eps_nil : EPts X [] [] := pgs_nil.imp fun vs σ H Q ⟨bs, h, q⟩ => by
  unfold PatVs at h
  obtain ⟨rfl, rfl⟩ := h
  exact ⟨rfl, q⟩
theorem eps_cons {pt : Pat} {pts : List Pat} (h1 : EPt X e pt) (h2 : EPts X es pts) (hs : (assignEach (e :: es) X.env).map (·.2) = assign e X.env :: (assignEach es X.env).map (·.2) := by rfl) : EPts X (e :: es) (pt :: pts) :=
  (pgs_cons h1 h2 hs).imp fun vs σ H Q ⟨bs, h, q⟩ => by
    unfold PatVs at h
    obtain ⟨v, r, b1, b2, rfl, rfl, h1, h2⟩ := h
    rw [setAll_app] at q
    exact ⟨v, r, rfl, b1, h1, b2, h2, q⟩
theorem ep_tup {k : Nat} {pts : List Pat} (hc : X.calm = true) (h : EPts X es pts) (hn : (assignEach es X.env).length = pts.length := by rfl) (hst : (assignEach es X.env).findIdx? (·.1) = none := by rfl) : EPt X (.Tuple es k pos) (.tp pts) :=
  (pg_tup hc h hn hst).imp fun v σ H Q ⟨bs, h, q⟩ => by
    unfold PatV at h
    obtain ⟨a, vs, rfl, hq, hp⟩ := h
    exact ⟨a, vs, rfl, hq, hp.length, bs, hp, q⟩
section
variable {K : PySem.W.Frag} {m : Mp} {H : Hp}
/-- bindings alike -/
def RBs (K : PySem.W.Frag) (G : Gx) (m : Mp) (H : Hp) : List (Nat × U) → List (Nat × V) → Prop
  | [], vs => vs = []
  | (i, u) :: us, vs => ∃ v r, vs = (i, v) :: r ∧ RU K G m H u v ∧ RBs K G m H us r
theorem RBs.append : ∀ {us us' : List (Nat × U)} {vs vs' : List (Nat × V)}, RBs K G m H us vs → RBs K G m H us' vs' → RBs K G m H (us ++ us') (vs ++ vs')
  | [], _, _, _, h, h' => by unfold RBs at h; subst h; exact h'
  | (i, u) :: us, us', vs, vs', h, h' => by
    unfold RBs at h
    obtain ⟨v, r, e, q, t⟩ := h
    subst e
    show RBs K G m H ((i, u) :: (us ++ us')) ((i, v) :: (r ++ vs'))
    unfold RBs
    exact ⟨v, _, rfl, q, RBs.append t h'⟩
mutual
theorem bindP_ok : ∀ (pt : Pat) (u : U) (v : V) (bs : List (Nat × U)), bindP pt u = some bs → RU K G m H u v → ∃ bv, PatV K H pt v bv ∧ RBs K G m H bs bv
  | .nm i, u, v, bs, h, r => by
    simp only [bindP, Option.some.injEq] at h
    subst h
    refine ⟨[(i, v)], by unfold PatV; rfl, ?_⟩
    unfold RBs
    exact ⟨v, [], rfl, r, by unfold RBs; rfl⟩
  | .tp ps, u, v, bs, h, r => by
    cases u with
    | tup us =>
      simp only [bindP] at h
      obtain ⟨a, vs, rfl, hq, rv⟩ := r.tupT
      obtain ⟨bv, h1, h2⟩ := bindPs_ok ps us vs bs h rv
      exact ⟨bv, by unfold PatV; exact ⟨a, vs, rfl, hq, h1⟩, h2⟩
    | _ => simp only [bindP] at h; cases h
theorem bindPs_ok : ∀ (ps : List Pat) (us : List U) (vs : List V) (bs : List (Nat × U)), bindPs ps us = some bs → RUs K G m H us vs → ∃ bv, PatVs K H ps vs bv ∧ RBs K G m H bs bv
  | [], [], vs, bs, h, r => by
    simp only [bindPs, Option.some.injEq] at h
    subst h
    exact ⟨[], by unfold PatVs; exact ⟨r.eqnil, rfl⟩, by unfold RBs; rfl⟩
  | p :: ps, u :: us, vs, bs, h, r => by
    simp only [bindPs] at h
    split at h
    · cases h
    · rename_i a e1
      split at h
      · cases h
      · rename_i b e2
        cases h
        obtain ⟨v, t, rfl, q, tl⟩ := r.uncons
        obtain ⟨b1, h1, h2⟩ := bindP_ok p u v a e1 q
        obtain ⟨b2, h3, h4⟩ := bindPs_ok ps us t b e2 tl
        exact ⟨b1 ++ b2, by unfold PatVs; exact ⟨v, t, b1, b2, rfl, rfl, h1, h3⟩, h2.append h4⟩
  | [], _ :: _, vs, bs, h, r => by simp only [bindPs] at h; cases h
  | _ :: _, [], vs, bs, h, r => by simp only [bindPs] at h; cases h
end
theorem Renv.setAll : ∀ {bs : List (Nat × U)} {bv : List (Nat × V)} {env : Env'} {σ : L2.St}, RBs K G m H bs bv → Renv K G m H env σ → Renv K G m H (OF.setAll env bs) (OF.setAll σ bv)
  | [], bv, env, σ, h, r => by
    unfold RBs at h
    subst h
    exact r
  | (i, u) :: bs, bv, env, σ, h, r => by
    unfold RBs at h
    obtain ⟨v, t, rfl, q, tl⟩ := h
    show Renv K G m H (OF.setAll (env.set i (some u)) bs) (OF.setAll (σ.set i (some v)) t)
    exact Renv.setAll tl (r.set i q)
end
def gmPat (pt : Pat) : Gm := fun u env S => match bindP pt u with
  | some bs => some (setAll env bs, S)
  | none => none
theorem eg_pat {pt : Pat} (h : EPt X e pt) : EG G X e (gmPat pt) := h.imp fun v σ H Q ⟨m, S, env, u, env', S', st, re, r, hc, q⟩ => by
  unfold gmPat at hc
  split at hc
  · rename_i bs e1
    cases hc
    obtain ⟨bv, h1, h2⟩ := bindP_ok _ _ _ _ e1 r
    exact ⟨bv, h1, q m H _ (Ext.refl m H) st (re.setAll h2)⟩
  · cases hc
end OF

namespace OF
open PySem PySem.Spec PyProof.Rows L2
variable {X : Cx} {G : Gx}
variable {e o tg iter : Expr} {es : List Expr} {ca cb : Cm U} {cl ck : Cm (List U)} {pos apos p : Pos}

/-! what is walked -/
def ItOk (K : PySem.W.Frag) (G : Gx) (m1 : Mp) (H1 : Hp) (us : List U) (J : It) : Prop := ∃ Gd Y, Walk J us.length Gd Y ∧ (∀ m2 H2, Ext m1 H1 m2 H2 → Gd H2) ∧
  ∀ i m2 S2 H2 x H3, Ext m1 H1 m2 H2 → Rst K G m2 H2 S2 → i < us.length → Y i H2 x H3 → ∃ u, us[i]? = some u ∧ Ext m2 H2 m2 H3 ∧ Rst K G m2 H3 S2 ∧ RU K G m2 H3 u x
def RI (K : PySem.W.Frag) (G : Gx) (it : Cm (List U)) : TI := fun σ H R => ∃ m S env us S', Rst K G m H S ∧ Renv K G m H env σ ∧ it env S = some (us, S') ∧ ∀ m1 H1, Ext m H m1 H1 → Rst K G m1 H1 S' → ∀ J, ItOk K G m1 H1 us J → R J H1
abbrev EI (G : Gx) (X : Cx) (tg iter : Expr) (it : Cm (List U)) : Prop := PI X tg iter (RI X.K G it)
theorem _root_.L2.PI.imp {t t' : TI} (h : PI X tg iter t) (i : ∀ σ H R, t' σ H R → t σ H R) : PI X tg iter t' := ⟨fun pins s σ H R I hw => h.run pins s σ H R I (i σ H R hw)⟩

def loopF (pt : Pat) (b : Sm) : List U → Sm
  | [], env, S => some (.nx, env, S)
  | u :: us, env, S => match bindP pt u with
    | none => none
    | some bs => match b (setAll env bs) S with
      | none => none
      | some (.nx, env2, S2) => loopF pt b us env2 S2
      | some (.ct, env2, S2) => loopF pt b us env2 S2
      | some (.brk, env2, S2) => some (.nx, env2, S2)
      | some (.ret z, env2, S2) => some (.ret z, env2, S2)
def sFor (it : Cm (List U)) (pt : Pat) (b : Sm) : Sm := fun env S => match it env S with
  | none => none
  | some (us, S1) => loopF pt b us env S1
theorem drop_cons {α : Type} {us : List α} {i : Nat} {u : α} (h : us[i]? = some u) : us.drop i = u :: us.drop (i + 1) := by
  obtain ⟨hl, e⟩ := List.getElem?_eq_some_iff.mp h
  rw [List.drop_eq_getElem_cons hl, e]
theorem rs_for {K : PySem.W.Frag} {it : Cm (List U)} {pt : Pat} {b : Sm} {D : Ends} {σ : L2.St} {H : Hp} (h : RS K G (sFor it pt b) D σ H) : tFor (RI K G it) (tPat K pt) (RS K G b) D σ H := by
  obtain ⟨m, S, env, fl, env', S', st, re, hc, q⟩ := h
  unfold sFor at hc
  split at hc
  · cases hc
  · rename_i us S1 e1
    refine ⟨m, S, env, us, S1, st, re, e1, fun m1 H1 x1 st1 J hJ => ?_⟩
    obtain ⟨Gd, Y, w, hG, hY⟩ := hJ
    refine for_it w (fun i σ H => ∃ m S env fl env' S', Ext m1 H1 m H ∧ Rst K G m H S ∧ Renv K G m H env σ ∧ loopF pt b (us.drop i) env S = some (fl, env', S') ∧ AfterS K G m H fl env' S' D)
      ⟨m1, S1, env, fl, env', S', Ext.refl _ _, st1, re.keep x1.keeps, hc, q.mono x1⟩ (fun i σ H _ ⟨m, S, env, fl, env', S', x, _⟩ => hG m H x) (fun i y σ H H' hi ⟨m, S, env, fl, env', S', x, st, re, hl, q⟩ hy => ?_) (fun σ H ⟨m, S, env, fl, env', S', x, st, re, hl, q⟩ => ?_)
    · obtain ⟨u, hu, x2, st2, ru⟩ := hY i m S H y H' x st hi hy
      rw [drop_cons hu] at hl
      unfold loopF at hl
      split at hl
      · cases hl
      · rename_i bs eb
        obtain ⟨bv, h1, h2⟩ := bindP_ok _ _ _ _ eb ru
        refine ⟨bv, h1, ?_⟩
        have re2 := (re.keep x2.keeps).setAll h2
        split at hl
        · cases hl
        · rename_i env2 S2 e2
          exact ⟨m, S, _, _, env2, S2, st2, re2, e2, fun m3 H3 σ3 x3 st3 re3 => ⟨m3, S2, env2, fl, env', S', (x.trans x2).trans x3, st3, re3, hl, (q.mono x2).mono x3⟩⟩
        · rename_i env2 S2 e2
          exact ⟨m, S, _, _, env2, S2, st2, re2, e2, fun m3 H3 σ3 x3 st3 re3 => ⟨m3, S2, env2, fl, env', S', (x.trans x2).trans x3, st3, re3, hl, (q.mono x2).mono x3⟩⟩
        · rename_i env2 S2 e2
          cases hl
          exact ⟨m, S, _, _, _, _, st2, re2, e2, AfterE.mono q x2⟩
        · rename_i z env2 S2 e2
          cases hl
          exact ⟨m, S, _, _, _, _, st2, re2, e2, After.mono q x2⟩
    · rw [List.drop_length] at hl
      unfold loopF at hl
      cases hl
      exact q m H σ (Ext.refl m H) st re
theorem es_for {body : List Stmt} {it : Cm (List U)} {pt : Pat} {b : Sm} (hp : PassesOwn (model X.prog X.w) X.A X.env X.xe) (hc : X.calm = true) (hi : EI G X tg iter it) (hg : EPt X tg pt) (hb : ESs G X body b)
    (hs : ∀ x, foldedSetIterable iter X.env x = pure x := by intro _; rfl) : ES G X (.For tg iter body [] pos) (sFor it pt b) := (ps_for hp hc hi hg hb hs).imp fun _ _ _ => rs_for
/-! while -/
def loopW (c : Cm Bool) (b : Sm) : Nat → Sm
  | 0, _, _ => none
  | n + 1, env, S => match c env S with
    | none => none
    | some (false, S1) => some (.nx, env, S1)
    | some (true, S1) => match b env S1 with
      | none => none
      | some (.nx, env2, S2) => loopW c b n env2 S2
      | some (.ct, env2, S2) => loopW c b n env2 S2
      | some (.brk, env2, S2) => some (.nx, env2, S2)
      | some (.ret z, env2, S2) => some (.ret z, env2, S2)
theorem rs_while {K : PySem.W.Frag} {c : Cm Bool} {b : Sm} {n : Nat} {D : Ends} {σ : L2.St} {H : Hp} (h : RS K G (loopW c b n) D σ H) : tWhile (RT K G c) (RS K G b) D σ H := by
  obtain ⟨m0, S0, env0, fl0, env0', S0', st0, re0, hc0, q0⟩ := h
  refine ⟨fun k σ H => ∃ m S env fl env' S', Rst K G m H S ∧ Renv K G m H env σ ∧ loopW c b k env S = some (fl, env', S') ∧ AfterS K G m H fl env' S' D, ⟨n, m0, S0, env0, fl0, env0', S0', st0, re0, hc0, q0⟩, ?_⟩
  rintro k σ H ⟨m, S, env, fl, env', S', st, re, hl, q⟩
  cases k with
  | zero => unfold loopW at hl; cases hl
  | succ k =>
    unfold loopW at hl
    split at hl
    · cases hl
    · rename_i S1 e1
      cases hl
      exact ⟨m, S, _, false, _, st, re, e1, fun m1 H1 x1 st1 => iteF (q m1 H1 σ x1 st1 (re.keep x1.keeps))⟩
    · rename_i S1 e1
      refine ⟨m, S, _, true, _, st, re, e1, fun m1 H1 x1 st1 => iteT ⟨fun σ' H' => ∃ m S env fl env' S', Rst K G m H' S ∧ Renv K G m H' env σ' ∧ loopW c b k env S = some (fl, env', S') ∧ AfterS K G m H' fl env' S' D, fun σ' H' h => ⟨k, Nat.lt_succ_self k, h⟩, ?_⟩⟩
      split at hl
      · cases hl
      · rename_i env2 S2 e2
        exact ⟨m1, S1, _, _, env2, S2, st1, re.keep x1.keeps, e2, fun m3 H3 σ3 x3 st3 re3 => ⟨m3, S2, env2, fl, env', S', st3, re3, hl, (q.mono x1).mono x3⟩⟩
      · rename_i env2 S2 e2
        exact ⟨m1, S1, _, _, env2, S2, st1, re.keep x1.keeps, e2, fun m3 H3 σ3 x3 st3 re3 => ⟨m3, S2, env2, fl, env', S', st3, re3, hl, (q.mono x1).mono x3⟩⟩
      · rename_i env2 S2 e2
        cases hl
        exact ⟨m1, S1, _, _, _, _, st1, re.keep x1.keeps, e2, AfterE.mono q x1⟩
      · rename_i z env2 S2 e2
        cases hl
        exact ⟨m1, S1, _, _, _, _, st1, re.keep x1.keeps, e2, After.mono q x1⟩
theorem es_while {c : Expr} {body : List Stmt} {cc : Cm Bool} {b : Sm} (n : Nat) (hp : PassesOwn (model X.prog X.w) X.A X.env X.xe) (hc : ET G X c cc) (hb : ESs G X body b) : ES G X (.While c body [] pos) (loopW cc b n) := (ps_while hp hc hb).imp fun _ _ _ => rs_while
/-! list comprehensions -/
def wipeE (env : Env') : List Nat → Env'
  | [] => env
  | v :: vs => (wipeE env vs).set v none
def mapC (pt : Pat) (t : Cm Bool) (c : Cm U) (env : Env') : List U → Sto → Option (List U × Sto)
  | [], S => some ([], S)
  | u :: us, S => match bindP pt u with
    | none => none
    | some bs => match t (setAll env bs) S with
      | none => none
      | some (false, S1) => mapC pt t c env us S1
      | some (true, S1) => match c (setAll env bs) S1 with
        | none => none
        | some (y, S2) => match mapC pt t c env us S2 with
          | none => none
          | some (ys, S3) => some (y :: ys, S3)
def cLcL (it : Cm (List U)) (pt : Pat) (t : Cm Bool) (c : Cm U) (vs : List Nat) : Cm (List U) := fun env S => match it env S with
  | none => none
  | some (us, S1) => match mapC pt t c (wipeE env vs) us S1 with
    | none => none
    | some (ys, S2) => if ys.length ≤ sizeLine then some (ys, S2) else none
def cLc (it : Cm (List U)) (pt : Pat) (t : Cm Bool) (c : Cm U) (vs : List Nat) : Cm U := fun env S => match cLcL it pt t c vs env S with
  | none => none
  | some (ys, S2) => some (.lst ys, S2)
def cLcM (it : Cm (List U)) (pt : Pat) (t : Cm Bool) (c : Cm U) (vs : List Nat) : Cm U := fun env S => match cLcL it pt t c vs env S with
  | none => none
  | some (ys, S2) => some (.ref S2.length, S2 ++ [.lst ys])
def cYes : Cm Bool := fun _ S => some (true, S)
abbrev ETs (G : Gx) (X : Cx) (ifs : List Expr) (c : Cm Bool) : Prop := PTs X ifs (RT X.K G c)
theorem _root_.L2.PTs.imp {ifs : List Expr} {t t' : TT} (h : PTs X ifs t) (i : ∀ σ H Q, t' σ H Q → t σ H Q) : PTs X ifs t' := ⟨fun pins s σ H Q I hw => h.run pins s σ H Q I (i σ H Q hw)⟩
theorem ets_nil : ETs G X [] cYes := pts_nil.imp fun σ H Q ⟨m, S, env, k, S', st, re, hc, q⟩ => by
  cases hc
  exact q m H (Ext.refl m H) st
theorem ets_one {c : Expr} {t : Cm Bool} (h : ET G X c t) : ETs G X [c] t := pts_one h
mutual
def Pat.slots : Pat → List Nat
  | .nm i => [i]
  | .tp ps => slotsL ps
def slotsL : List Pat → List Nat
  | [] => []
  | p :: ps => p.slots ++ slotsL ps
end
mutual
theorem PatV.slots {K : PySem.W.Frag} {H : Hp} : ∀ (pt : Pat) (v : V) (bs : List (Nat × V)), PatV K H pt v bs → bs.map (·.1) = pt.slots
  | .nm i, v, bs, h => by unfold PatV at h; subst h; rfl
  | .tp ps, v, bs, h => by
    unfold PatV at h
    obtain ⟨a, vs, _, _, h⟩ := h
    exact PatVs.slots ps vs bs h
theorem PatVs.slots {K : PySem.W.Frag} {H : Hp} : ∀ (pt : List Pat) (v : List V) (bs : List (Nat × V)), PatVs K H pt v bs → bs.map (·.1) = slotsL pt
  | [], v, bs, h => by unfold PatVs at h; rw [h.2]; rfl
  | p :: ps, v, bs, h => by
    unfold PatVs at h
    obtain ⟨v, r, b1, b2, _, rfl, h1, h2⟩ := h
    rw [List.map_append, PatV.slots p v b1 h1, PatVs.slots ps r b2 h2]
    rfl
end
theorem wipe_set {σ : L2.St} {i : Nat} {x : Option V} : ∀ {vs : List Nat}, i ∈ vs → wipe (σ.set i x) vs = wipe σ vs
  | [], h => by cases h
  | v :: vs, h => by
    unfold wipe
    by_cases e : i ∈ vs
    · rw [wipe_set e]
    · have hv : i = v := by
        rcases List.mem_cons.mp h with h | h
        · exact h
        · exact absurd h e
      subst hv
      have : ∀ {ws : List Nat}, i ∉ ws → wipe (σ.set i x) ws = (wipe σ ws).set i x := by
        intro ws
        induction ws with
        | nil => intro _; rfl
        | cons w ws ih =>
          intro hw
          have hw' : i ≠ w ∧ i ∉ ws := by simpa using hw
          unfold wipe
          rw [ih hw'.2, List.set_comm _ _ hw'.1]
      rw [this e, List.set_set]
theorem wipe_setAll {vs : List Nat} : ∀ {bs : List (Nat × V)} {σ : L2.St}, (∀ i ∈ bs.map (·.1), i ∈ vs) → wipe (setAll σ bs) vs = wipe σ vs
  | [], σ, _ => rfl
  | (i, v) :: bs, σ, h => by
    show wipe (setAll (σ.set i (some v)) bs) vs = _
    rw [wipe_setAll fun j hj => h j (by simp at hj ⊢; exact .inr hj)]
    exact wipe_set (h i (by simp))
theorem wipe_wipe {σ : L2.St} : ∀ {vs : List Nat}, wipe (wipe σ vs) vs = wipe σ vs := by
  intro vs
  have h : ∀ (ws : List Nat), (∀ w ∈ ws, w ∈ vs) → wipe (wipe σ ws) vs = wipe σ vs := by
    intro ws
    induction ws with
    | nil => intro _; rfl
    | cons w ws ih =>
      intro hw
      show wipe ((wipe σ ws).set w none) vs = _
      rw [wipe_set (hw w (by simp)), ih fun v hv => hw v (by simp [hv])]
  exact h vs fun _ h => h
theorem wipe_setAll_wipe {vs : List Nat} {bs : List (Nat × V)} {σ : L2.St} (h : ∀ i ∈ bs.map (·.1), i ∈ vs) : wipe (setAll (wipe σ vs) bs) vs = wipe σ vs := by
  rw [wipe_setAll h, wipe_wipe]
theorem Ext.xmem {m m' : Mp} {H H' : Hp} (x : Ext m H m' H') {a : Addr} (h : a ∈ m.x) : a ∈ m'.x := by
  obtain ⟨r, hr, _⟩ := x.x
  rw [hr]
  exact List.mem_append_right _ h
theorem Ext.back {m m' : Mp} {H H' : Hp} (x : Ext m H m' H') {a : Addr} (h : H' a = none) : H a = none := by
  cases q : H a with
  | none => rfl
  | some o =>
    by_cases hz : a ∈ m.c
    · have := x.cells a hz (by rw [q]; rfl)
      rw [h] at this; cases this
    · rw [x.keep a o q hz] at h; cases h
theorem Renv.wipe {K : PySem.W.Frag} {m : Mp} {H : Hp} {env : Env'} {σ : L2.St} (r : Renv K G m H env σ) : ∀ vs : List Nat, Renv K G m H (wipeE env vs) (L2.wipe σ vs)
  | [] => r
  | v :: vs => by
    have ih := Renv.wipe r vs
    unfold wipeE L2.wipe
    refine ⟨by simp [ih.1], fun i u h => ?_⟩
    by_cases e : v = i
    · subst e
      by_cases hl : v < (wipeE env vs).length
      · rw [List.getElem?_set_self hl] at h; cases h
      · rw [List.getElem?_eq_none (by simpa using hl)] at h; cases h
    · rw [List.getElem?_set_ne e] at h ⊢
      exact ih.2 i u h
theorem Ext.res {m : Mp} {H : Hp} {D : Addr} {o : HO} (hD : H D = none) : Ext m H ⟨m.c, D :: m.x⟩ (L2.upd H D o) := by
  have h1 : ∀ a ∈ [D], H a = none := fun a ha => by
    have e : a = D := by simpa using ha
    rw [e]; exact hD
  refine ⟨⟨[], by simp⟩, ⟨[D], rfl, h1⟩, fun a u h _ => by rw [upd_ne (ne_of_none h hD)]; exact h, fun a _ h => ?_, fun a h n => absurd h n⟩
  by_cases e : a = D
  · subst e; rw [upd_same]; rfl
  · rw [upd_ne e]; exact h
theorem Ext.forget {m m' : Mp} {H H' : Hp} (x : Ext m H m' H') : Ext m H ⟨m'.c, m.x⟩ H' := ⟨x.pre, ⟨[], rfl, fun _ h => nomatch h⟩, x.keep, x.cells, x.new⟩
theorem Rst.res {K : PySem.W.Frag} {m : Mp} {H : Hp} {S : Sto} {D : Addr} {o : HO} (st : Rst K G m H S) (hD : H D = none) : Rst K G ⟨m.c, D :: m.x⟩ (upd H D o) S := by
  have k := (Ext.res (m := m) (o := o) hD).keeps
  refine ⟨st.nd, st.len, fun n ob a h1 h2 => ?_, fun a ha => ?_, fun a ha => ?_⟩
  · obtain ⟨ho, e, r⟩ := st.ob n ob a h1 h2
    exact ⟨ho, by rw [upd_ne (ne_of_none e hD)]; exact e, RO.keep k _ _ r⟩
  · by_cases e : a = D
    · subst e; rw [upd_same]; rfl
    · rw [upd_ne e]
      rcases List.mem_cons.mp ha with h | h
      · exact absurd h e
      · exact st.xs a h
  · rcases List.mem_cons.mp ha with h | h
    · subst h; exact st.none_c hD
    · exact st.nx a h
/-- an address that no value names is changed -/
theorem keeps_x {m : Mp} {H : Hp} {D : Addr} {o : HO} (hD : D ∈ m.x) : Keeps m H m (upd H D o) := by
  refine ⟨fun a u h n nx => ⟨?_, n, nx⟩, fun _ _ h => h⟩
  have : a ≠ D := fun e => nx (e ▸ hD)
  rcases h with h | ⟨o, h⟩
  · exact .inl (by rw [upd_ne this]; exact h)
  · exact .inr ⟨o, by rw [upd_ne this]; exact h⟩
theorem Rst.setx {K : PySem.W.Frag} {m : Mp} {H : Hp} {S : Sto} {D : Addr} {o : HO} (st : Rst K G m H S) (hD : D ∈ m.x) : Rst K G m (upd H D o) S := by
  refine ⟨st.nd, st.len, fun n ob a h1 h2 => ?_, fun a ha => ?_, st.nx⟩
  · obtain ⟨ho, e, r⟩ := st.ob n ob a h1 h2
    have ne : a ≠ D := fun e => st.nx D hD (e ▸ List.mem_of_getElem? h2)
    exact ⟨ho, by rw [upd_ne ne]; exact e, RO.keep (keeps_x hD) _ _ r⟩
  · by_cases e : a = D
    · subst e; rw [upd_same]; rfl
    · rw [upd_ne e]; exact st.xs a ha
/-- forgetting reserved addresses -/
theorem keeps_forget {c x y : List Addr} {H : Hp} (h : ∀ a ∈ y, a ∈ x) : Keeps ⟨c, x⟩ H ⟨c, y⟩ H := ⟨fun a u r n nx => ⟨r, n, fun z => nx (h a z)⟩, fun _ _ h => h⟩
theorem Rst.forget {K : PySem.W.Frag} {c x y : List Addr} {H : Hp} {S : Sto} (st : Rst K G ⟨c, x⟩ H S) (h : ∀ a ∈ y, a ∈ x) : Rst K G ⟨c, y⟩ H S :=
  ⟨st.nd, st.len, fun n ob a h1 h2 => let ⟨ho, e, r⟩ := st.ob n ob a h1 h2; ⟨ho, e, RO.keep (keeps_forget h) _ _ r⟩, fun a ha => st.xs a (h a ha), fun a ha => st.nx a (h a ha)⟩
/-- the comprehension's reading, whatever becomes of the list -/
theorem re_lc {K : PySem.W.Frag} {it : Cm (List U)} {pt : Pat} {t : Cm Bool} {c : Cm U} {vs : List Nat} {σ : L2.St} {H : Hp} {Q : VK} (hsl : ∀ i ∈ pt.slots, i ∈ vs)
    {m : Mp} {S : Sto} {env : Env'} {ys : List U} {S' : Sto} (st : Rst K G m H S) (re : Renv K G m H env σ) (hc : cLcL it pt t c vs env S = some (ys, S'))
    (q : ∀ m' H' D zs, Ext m H m' H' → H D = none → D ∉ m'.x → Rst K G ⟨m'.c, D :: m'.x⟩ H' S' → H' D = some (.lst zs) → RUs K G ⟨m'.c, D :: m'.x⟩ H' ys zs → Q (.ref D) H') :
    tLc (RI K G it) (tPat K pt) (RT K G t) (RE K G c) vs σ H Q := by
  unfold cLcL at hc
  split at hc
  · cases hc
  · rename_i us S1 e1
    split at hc
    · cases hc
    · rename_i ys' S2 e2
      split at hc
      · rename_i hsz
        cases hc
        refine ⟨m, S, env, us, S1, st, re, e1, fun m1 H1 x1 st1 J hJ D hD => ?_⟩
        obtain ⟨Gd, Y, w, hG, hY⟩ := hJ
        have reW := (re.keep x1.keeps).wipe vs
        refine lc_it w (fun i H => ∃ m S acc zs rest, Ext m1 H1 m H ∧ D ∈ m.x ∧ Rst K G m H S ∧ H D = some (.lst zs) ∧ RUs K G m H acc zs ∧ mapC pt t c (wipeE env vs) (us.drop i) S = some (rest, S') ∧ ys = acc ++ rest)
          ⟨⟨m1.c, D :: m1.x⟩, S1, [], [], ys, Ext.res hD, by simp, st1.res hD, upd_same, RUs.nil, e2, rfl⟩ (fun i H _ ⟨m, S, acc, zs, rest, x, _⟩ => hG m H x) (fun i y H H' hi ⟨m, S, acc, zs, rest, x, hx, st, hd, ra, hm, ey⟩ hy => ?_) (fun H ⟨m, S, acc, zs, rest, x, hx, st, hd, ra, hm, ey⟩ => ?_)
        · obtain ⟨u, hu, x2, st2, ru⟩ := hY i m S H y H' x st hi hy
          rw [drop_cons hu] at hm
          unfold mapC at hm
          split at hm
          · cases hm
          · rename_i bs eb
            obtain ⟨bv, h1, h2⟩ := bindP_ok _ _ _ _ eb ru
            have re2 := ((reW.keep x.keeps).keep x2.keeps).setAll h2
            have nc : D ∉ m.c := st.nx D hx
            refine ⟨bv, h1, wipe_setAll_wipe (fun i hi => hsl i (by rw [PatV.slots _ _ _ h1] at hi; exact hi)), ?_⟩
            split at hm
            · cases hm
            · rename_i S3 e3
              refine ⟨m, S, _, false, S3, st2, re2, e3, fun m3 H3 x3 st3 => iteF ?_⟩
              exact ⟨m3, S3, acc, zs, rest, (x.trans x2).trans x3, x3.xmem hx, st3, x3.keep D _ (x2.keep D _ hd nc) nc, RUs.keep (x2.trans x3).keeps _ _ ra, hm, ey⟩
            · rename_i S3 e3
              refine ⟨m, S, _, true, S3, st2, re2, e3, fun m3 H3 x3 st3 => iteT ?_⟩
              split at hm
              · cases hm
              · rename_i z S4 e4
                split at hm
                · cases hm
                · rename_i zs' S5 e5
                  cases hm
                  have d3 : H3 D = some (.lst zs) := x3.keep D _ (x2.keep D _ hd nc) nc
                  have nc3 : D ∉ m3.c := st3.nx D (x3.xmem hx)
                  refine ⟨m3, S3, _, z, S4, st3, re2.keep x3.keeps, e4, fun m4 H4 v x4 st4 r4 => ?_⟩
                  have hx4 : D ∈ m4.x := x4.xmem (x3.xmem hx)
                  have d4 : H4 D = some (.lst zs) := x4.keep D _ d3 nc3
                  have k4 : Keeps m4 H4 m4 (L2.upd H4 D (.lst (zs ++ [v]))) := keeps_x hx4
                  have ra4 := RUs.keep ((x2.trans x3).trans x4).keeps _ _ ra
                  have hl : zs.length < sizeLine := by
                    have h1 := ra.length
                    have h2 : ys.length ≤ sizeLine := hsz
                    rw [ey] at h2
                    simp at h2
                    omega
                  refine ⟨zs, d4, hl, m4, S4, acc ++ [z], zs ++ [v], zs', ?_, hx4, st4.setx hx4, upd_same, RUs.keep k4 _ _ (ra4.append (RUs.one r4)), e5, by rw [ey]; simp⟩
                  have x5 := ((x.trans x2).trans x3).trans x4
                  refine ⟨x5.pre, x5.x, fun a o h n => ?_, fun a ha h => ?_, x5.new⟩
                  · have : a ≠ D := ne_of_none h hD
                    rw [upd_ne this]; exact x5.keep a o h n
                  · by_cases e : a = D
                    · subst e; rw [upd_same]; rfl
                    · rw [upd_ne e]; exact x5.cells a ha h
        · rw [List.drop_length] at hm
          unfold mapC at hm
          cases hm
          rw [List.append_nil] at ey
          subst ey
          have hsub : ∀ a ∈ D :: m1.x, a ∈ m.x := fun a ha => by
            rcases List.mem_cons.mp ha with h | h
            · rw [h]; exact hx
            · exact x.xmem h
          exact q ⟨m.c, m1.x⟩ H D zs (x1.trans x.forget) (x1.back hD) (st1.none_x hD) (Rst.forget (x := m.x) st hsub) hd (RUs.keep (keeps_forget (x := m.x) hsub) _ _ ra)
      · cases hc
theorem ee_lc {elt : Expr} {ifs : List Expr} {scope : Scope} {own : List (Str × Nat)} {it : Cm (List U)} {pt : Pat} {t : Cm Bool} {c : Cm U} (hc : X.calm = true) (hN : X.N.Nodup) (hi : EI G X tg iter it) (ok : BlkOk X.N X.env.scope scope own)
    (hg : ∀ (s : Shared) (H : Hp) (C : Addr) (cl : List (Str × Addr)) (fp : List Addr), EPt (X.blk s H scope (compEnvC scope cl C X.env) fp) tg pt) (ht : ∀ (s : Shared) (H : Hp) (C : Addr) (cl : List (Str × Addr)) (fp : List Addr), ETs G (X.blk s H scope (compEnvC scope cl C X.env) fp) ifs t)
    (he : ∀ (s : Shared) (H : Hp) (C : Addr) (cl : List (Str × Addr)) (fp : List Addr), EE G (X.blk s H scope (compEnvC scope cl C X.env) fp) elt c) (hsl : ∀ i ∈ pt.slots, i ∈ own.map (·.2)) (hs : ∀ x, foldedSetIterable iter X.env x = pure x := by intro _; rfl) :
    EE G X (.ListComp elt [⟨tg, iter, ifs, 0⟩] scope pos) (cLc it pt t c (own.map (·.2))) := (pe_lc hc hN hi ok hg ht he hs).imp fun σ H Q ⟨m, S, env, z, S', st, re, hc, q⟩ => by
  unfold cLc at hc
  split at hc
  · cases hc
  · rename_i ys S2 e1
    cases hc
    refine re_lc hsl st re e1 fun m' H' D zs x hD nx st' hd r => ?_
    have st2 : Rst X.K G m' H' S' := Rst.forget (c := m'.c) (x := D :: m'.x) st' fun a ha => List.mem_cons_of_mem _ ha
    refine q m' H' _ x st2 ?_
    unfold RU
    exact ⟨D, zs, rfl, .inl hd, st'.nx D (by simp), nx, RUs.keep (keeps_forget fun a ha => List.mem_cons_of_mem _ ha) _ _ r⟩
theorem re_lcM {K : PySem.W.Frag} {it : Cm (List U)} {pt : Pat} {t : Cm Bool} {c : Cm U} {vs : List Nat} {σ : L2.St} {H : Hp} {Q : VK} (hsl : ∀ i ∈ pt.slots, i ∈ vs) (h : RE K G (cLcM it pt t c vs) σ H Q) : tLc (RI K G it) (tPat K pt) (RT K G t) (RE K G c) vs σ H Q := by
  obtain ⟨m, S, env, z, S', st, re, hc, q⟩ := h
  unfold cLcM at hc
  split at hc
  · cases hc
  · rename_i ys S2 e1
    cases hc
    refine re_lc hsl st re e1 fun m' H' D zs x hD nx st' hd r => ?_
    have k : Keeps ⟨m'.c, D :: m'.x⟩ H' ⟨m'.c ++ [D], m'.x⟩ H' := ⟨fun a u r n nx => ⟨r, by
      intro h
      rcases List.mem_append.mp h with h | h
      · exact n h
      · exact nx (by simp at h; simp [h]), fun h => nx (List.mem_cons_of_mem _ h)⟩, fun n a h => by
      show (m'.c ++ [D])[n]? = some a
      rw [List.getElem?_append_left (List.getElem?_eq_some_iff.mp h).1]; exact h⟩
    have hDc : D ∉ m'.c := st'.nx D (by simp)
    refine q ⟨m'.c ++ [D], m'.x⟩ H' _ ⟨?_, x.x, x.keep, x.cells, fun a ha n => ?_⟩ ⟨?_, by simp [st'.len], fun n ob a h1 h2 => ?_, fun a ha => st'.xs a (List.mem_cons_of_mem _ ha), fun a ha h => ?_⟩ (RU.cell ?_)
    · obtain ⟨r, hr⟩ := x.pre
      exact ⟨r ++ [D], by rw [← List.append_assoc, ← hr]⟩
    · rcases List.mem_append.mp ha with h | h
      · exact x.new a h n
      · have : a = D := by simpa using h
        rw [this]; exact hD
    · refine List.nodup_append.mpr ⟨st'.nd, by simp, fun a ha b hb => ?_⟩
      have : b = D := by simpa using hb
      subst this
      intro e; subst e
      exact hDc ha
    · by_cases hn : n < S2.length
      · rw [List.getElem?_append_left hn] at h1
        have h2' : m'.c[n]? = some a := by
          have h2'' : (m'.c ++ [D])[n]? = some a := h2
          rw [List.getElem?_append_left (by have := st'.len; simp at this; omega)] at h2''
          exact h2''
        obtain ⟨ho, e, r⟩ := st'.ob n ob a h1 h2'
        exact ⟨ho, e, RO.keep k _ _ r⟩
      · rw [List.getElem?_append_right (by omega)] at h1
        have e0 : n - S2.length = 0 := by
          have := (List.getElem?_eq_some_iff.mp h1).1
          simp at this; omega
        rw [e0] at h1
        cases h1
        have hlen : m'.c.length = S2.length := st'.len
        have h2'' : (m'.c ++ [D])[n]? = some a := h2
        rw [List.getElem?_append_right (by omega), hlen, e0] at h2''
        cases h2''
        exact ⟨_, hd, zs, rfl, RUs.keep k _ _ r⟩
    · rcases List.mem_append.mp h with h | h
      · exact st'.nx a (List.mem_cons_of_mem _ ha) h
      · have : a = D := by simpa using h
        subst this
        exact nx ha
    · have hlen : m'.c.length = S2.length := st'.len
      show (m'.c ++ [D])[S2.length]? = some D
      rw [← hlen]; simp
theorem ee_lcM {elt : Expr} {ifs : List Expr} {scope : Scope} {own : List (Str × Nat)} {it : Cm (List U)} {pt : Pat} {t : Cm Bool} {c : Cm U} (hc : X.calm = true) (hN : X.N.Nodup) (hi : EI G X tg iter it) (ok : BlkOk X.N X.env.scope scope own)
    (hg : ∀ (s : Shared) (H : Hp) (C : Addr) (cl : List (Str × Addr)) (fp : List Addr), EPt (X.blk s H scope (compEnvC scope cl C X.env) fp) tg pt) (ht : ∀ (s : Shared) (H : Hp) (C : Addr) (cl : List (Str × Addr)) (fp : List Addr), ETs G (X.blk s H scope (compEnvC scope cl C X.env) fp) ifs t)
    (he : ∀ (s : Shared) (H : Hp) (C : Addr) (cl : List (Str × Addr)) (fp : List Addr), EE G (X.blk s H scope (compEnvC scope cl C X.env) fp) elt c) (hsl : ∀ i ∈ pt.slots, i ∈ own.map (·.2)) (hs : ∀ x, foldedSetIterable iter X.env x = pure x := by intro _; rfl) :
    EE G X (.ListComp elt [⟨tg, iter, ifs, 0⟩] scope pos) (cLcM it pt t c (own.map (·.2))) := (pe_lc hc hN hi ok hg ht he hs).imp fun σ H Q h => re_lcM hsl h
end OF

namespace OF
open PySem PySem.Spec PyProof.Rows L2

/-! zip of two: each a list, a tuple or a text -/
inductive Sd where
  | lst (a : Addr)
  | tup (a : Addr)
  | txt (x : Str) (t : Tok)
def Sd.fp (it : Addr) : Sd → List Addr
  | .lst a => [it, a]
  | .tup a => [it, a]
  | .txt _ _ => [it]
def Sd.itr (it : Addr) : Sd → Nat → Heap → Prop
  | .lst a => fun i h => h.IsListIter it a i
  | .tup a => fun i h => h.IsTupleIter it a i
  | .txt x t => fun i h => h.IsStrIter it (strIterType x) x t i
def signs (x : Str) : List V := x.cps.toList.map fun c => V.str ⟨#[c]⟩
def Sd.has (K : PySem.W.Frag) (H : Hp) : Sd → List V → Prop
  | .lst a, xs => SqL K H a xs
  | .tup a, xs => SqT K H a xs
  | .txt x _, xs => xs = signs x
def Sd.val : Sd → Value
  | .lst a => .ref a
  | .tup a => .ref a
  | .txt x t => .str x t
def Sd.obj : Sd → Obj
  | .lst a => { cls := .type "list_iterator", data := .fields #[.ref a, .int 0 0] }
  | .tup a => { cls := .type "tuple_iterator", data := .fields #[.ref a, .int 0 0] }
  | .txt x t => { cls := .type (strIterType x), data := .fields #[.str x t, .int 0 0] }
def Sd.ne (it : Addr) : Sd → Prop
  | .lst a => a ≠ it
  | .tup a => a ≠ it
  | .txt _ _ => True
def Sd.lt (n : Nat) : Sd → Prop
  | .lst a => a < n
  | .tup a => a < n
  | .txt _ _ => True
theorem Sd.itr_obj {sd : Sd} {it : Addr} {i : Nat} {h : Heap} (st : sd.itr it i h) : ∃ o, h.get? it = some o ∧ ∀ v, o.data ≠ .cell v := by
  cases sd <;> obtain ⟨o, e, _, d⟩ := st <;> exact ⟨o, e, fun v z => by rw [d] at z; cases z⟩
theorem Sd.itr_keep {sd : Sd} {it : Addr} {i : Nat} {h h' : Heap} (st : sd.itr it i h) (k : ∀ o, h.get? it = some o → h'.get? it = some o) : sd.itr it i h' := by
  cases sd <;> obtain ⟨o, e, r⟩ := st <;> exact ⟨o, k o e, r⟩
section
variable {X : Cx} {pins : List (Addr × Obj)} {σ : L2.St} {H : Hp} {s : Shared} {it : Addr}
theorem Sd.inj {sd : Sd} {xs ys : List V} (I : Inv X pins σ H s) (h : sd.has X.K H xs) (h' : sd.has X.K H ys) : xs = ys := by
  cases sd with
  | lst a => exact I.list_inj h h'
  | tup a => exact I.tuple_inj h h'
  | txt x t => exact (show xs = signs x from h).trans (show ys = signs x from h').symm
theorem Sd.draw {sd : Sd} {xs : List V} (I : Inv X pins σ H s) (h : sd.has X.K H xs) (hne : sd.ne it) : ∃ (Pd : Nat → Value → Prop) (src : Heap → Prop),
    (∀ A : Around, A.handled = none → Draws X.prog X.w A it (sd.fp it) xs.length Pd (fun i h => sd.itr it i h ∧ src h)) ∧ src s.heap ∧ (∀ i u, Pd i u → ∃ v, xs[i]? = some v ∧ RelV v u) := by
  cases sd with
  | lst a =>
    obtain ⟨its, rv, p, _⟩ := I.list h
    have hl := rv.length
    refine ⟨fun i v => its.toArray[i]? = some v, fun h => h.IsList a its.toArray, fun A hh => ?_, p.isList, fun i u hu => ?_⟩
    · have := Draws.list (prog := X.prog) (w := X.w) hh it a hne its.toArray
      rw [show its.toArray.size = xs.length by simp [hl]] at this
      exact this
    · have hu' : its[i]? = some u := by simpa using hu
      have hi : i < xs.length := by rw [hl]; exact (List.getElem?_eq_some_iff.mp hu').1
      obtain ⟨u', e, r⟩ := rv.get (List.getElem?_eq_getElem hi)
      rw [hu'] at e; cases e
      exact ⟨_, List.getElem?_eq_getElem hi, r⟩
  | tup a =>
    obtain ⟨its, rv, p, _⟩ := I.tuple h
    have hl := rv.length
    refine ⟨fun i v => its.toArray[i]? = some v, fun h => h.IsTuple a its.toArray, fun A hh => ?_, p, fun i u hu => ?_⟩
    · have := Draws.tuple (prog := X.prog) (w := X.w) hh it a hne its.toArray
      rw [show its.toArray.size = xs.length by simp [hl]] at this
      exact this
    · have hu' : its[i]? = some u := by simpa using hu
      have hi : i < xs.length := by rw [hl]; exact (List.getElem?_eq_some_iff.mp hu').1
      obtain ⟨u', e, r⟩ := rv.get (List.getElem?_eq_getElem hi)
      rw [hu'] at e; cases e
      exact ⟨_, List.getElem?_eq_getElem hi, r⟩
  | txt x t =>
    have hx : xs = signs x := h
    refine ⟨fun i v => ∃ c u, x.cps[i]? = some c ∧ v = .str ⟨#[c]⟩ u, fun _ => True, fun A hh => ?_, trivial, fun i u ⟨c, u', e, eu⟩ => ?_⟩
    · have D := Draws.text (prog := X.prog) (w := X.w) hh it x t
      rw [show xs.length = x.cps.size by rw [hx]; simp [signs]]
      exact ⟨fun i h st => D.live i h st.1, fun i h h' st k => ⟨D.frame i h h' st.1 k, trivial⟩, fun i s Q E hi st hQ => D.item i s Q E hi st.1 fun x h' tk p st' sb => hQ x h' tk p ⟨st', trivial⟩ sb, fun s Q E st hE => D.done s Q E st.1 hE⟩
    · refine ⟨.str ⟨#[c]⟩, ?_, ⟨u', eu⟩⟩
      rw [hx]
      unfold signs
      rw [List.getElem?_map, Array.getElem?_toList, e]
      rfl
end
def ItzM (K : PySem.W.Frag) (sa sb : Sd) : It :=
  ⟨fun i H => ∃ (xs ys : List V) (x y : V), sa.has K H xs ∧ sb.has K H ys ∧ xs[i]? = some x ∧ ys[i]? = some y,
    fun i H v H' => ∃ T x y, v = .ref T ∧ H T = none ∧ H' = upd H T (.tup [x, y]) ∧ (∀ xs, sa.has K H xs → xs[i]? = some x) ∧ ∀ ys, sb.has K H ys → ys[i]? = some y,
    fun i H => ∃ xs ys : List V, sa.has K H xs ∧ sb.has K H ys ∧ i = min xs.length ys.length⟩
theorem turn_zipM {P : Program} {w : World} {K : PySem.W.Frag} {elts : List Expr} {kk : Nat} {tpos : Pos} {z TI TO i1 i2 : Addr} {sa sb : Sd} (D : ZipSep2 z TI TO i1 i2 (sa.fp i1) (sb.fp i2)) (n1 : sa.ne i1) (n2 : sb.ne i2) :
    Turn P w K (.Tuple elts kk tpos) (ItzM K sa sb) [z, TI, TO, i1, i2] z (fun i h => IsZip h z TI TO .none ∧ IsTupOf2 h TI (.ref i1) (.ref i2) ∧ (∃ x y, IsTupOf2 h TO x y) ∧ sa.itr i1 i h ∧ sb.itr i2 i h) where
  mem := by simp
  obj := fun i h st c hc => by
    obtain ⟨hz, hTI, ⟨x, y, hTO⟩, h1, h2⟩ := st
    have e' : c = z ∨ c = TI ∨ c = TO ∨ c = i1 ∨ c = i2 := by simpa using hc
    rcases e' with q | q | q | q | q
    · rw [q]; exact ⟨_, hz, fun v q => nomatch q⟩
    · rw [q]; exact ⟨_, hTI, fun v q => nomatch q⟩
    · rw [q]; exact ⟨_, hTO, fun v q => nomatch q⟩
    · rw [q]; exact Sd.itr_obj h1
    · rw [q]; exact Sd.itr_obj h2
  keep := fun i h h' st k => by
    obtain ⟨hz, hTI, ⟨x, y, hTO⟩, h1, h2⟩ := st
    exact ⟨k z (by simp) _ hz, k TI (by simp) _ hTI, ⟨x, y, k TO (by simp) _ hTO⟩, Sd.itr_keep h1 fun o q => k i1 (by simp) o q, Sd.itr_keep h2 fun o q => k i2 (by simp) o q⟩
  item := by
    intro X hP hw hK hc i pins s σ H E I hf st hg
    subst hP hw hK
    obtain ⟨hz, hTI, ⟨x0, y0, hTO⟩, h1, h2⟩ := st
    obtain ⟨xs, ys, x, y, hqx, hqy, hx, hy⟩ := hg
    obtain ⟨P1, src1, D1, s1, r1⟩ := Sd.draw (it := i1) I hqx n1
    obtain ⟨P2, src2, D2, s2, r2⟩ := Sd.draw (it := i2) I hqy n2
    have hh : X.A.handled = none := I.ok.hd hc
    have hzl : z < s.heap.objs.size := Heap.lt_size hz
    refine wpAny_pyNext_zipD2_item D (D1 X.A.in1 hh) (D2 X.A.in1 hh) hz hTI hTO ⟨h1, s1⟩ ⟨h2, s2⟩ (List.getElem?_eq_some_iff.mp hx).1 (List.getElem?_eq_some_iff.mp hy).1 fun u u2 h' tk p1 p2 z' TO' st1' st2' hT hsz hk => ?_
    obtain ⟨vx, ex, rx⟩ := r1 i u p1
    rw [hx] at ex; cases ex
    obtain ⟨vy, ey, ry⟩ := r2 i u2 p2
    rw [hy] at ey; cases ey
    refine ⟨_, rfl, wpAny_letOwnedTupleGo_zip (s := { s with heap := h', toks := tk }) z' fun h'' z'' sb => ?_⟩
    have hT2 : h''.get? s.heap.objs.size = some { cls := .type "tuple", data := .seq #[u, u2] } := (sb.2 _ (Nat.ne_of_gt hzl)).trans hT
    have new : ObjOk X.prog X.w (upd H s.heap.objs.size (.tup [x, y])) h'' s.heap.objs.size (.tup [x, y]) :=
      ⟨by show 2 ≤ sizeLine; decide, [u, u2], .cons rx (.cons ry .nil), ⟨_, hT2, rfl, _, rfl⟩⟩
    have I1 : Inv X pins σ (upd H s.heap.objs.size (.tup [x, y])) { s with heap := h'', toks := tk } :=
      I.turnedNew (t' := tk) (ch := [z, TI, TO, i1, i2]) (fun c o hb q => (sb.2 c (fun q' => hb (by simp [q']))).trans (hk c o (fun q' => hb (by simp [q'])) (fun q' => hb (by simp [q'])) (fun q' => hb (by simp [q'])) (fun q' => hb (by simp [q'])) q)) hf (Nat.le_refl _) new
    refine ⟨.ref s.heap.objs.size, _, I1, rfl, ⟨_, x, y, rfl, I.hok.fresh (Nat.le_refl _), rfl, fun l hl => by rw [Sd.inj I hl hqx]; exact hx, fun l hl => by rw [Sd.inj I hl hqy]; exact hy⟩, ⟨z'', ?_, ⟨u, u2, ?_⟩, ?_, ?_⟩, fun c hcm => ?_⟩
    · exact (sb.2 _ D.TIz).trans (hk _ _ D.TIz D.TITO D.TIi1 D.TIi2 hTI)
    · exact (sb.2 _ D.TOz).trans TO'
    · exact Sd.itr_keep st1'.1 fun o q => (sb.2 _ D.zi1.symm).trans q
    · exact Sd.itr_keep st2'.1 fun o q => (sb.2 _ D.zi2.symm).trans q
    · have hlt : c < s.heap.objs.size := by
        have e' : c = z ∨ c = TI ∨ c = TO ∨ c = i1 ∨ c = i2 := by simpa using hcm
        rcases e' with q | q | q | q | q
        · rw [q]; exact hzl
        · rw [q]; exact Heap.lt_size hTI
        · rw [q]; exact Heap.lt_size hTO
        · rw [q]; obtain ⟨_, e1, _⟩ := Sd.itr_obj h1; exact Heap.lt_size e1
        · rw [q]; obtain ⟨_, e2, _⟩ := Sd.itr_obj h2; exact Heap.lt_size e2
      rw [upd_ne (Nat.ne_of_lt hlt)]
      exact (hf c hcm).1
  done := by
    intro X hP hw hK hc i pins s σ H E I hf st hg
    subst hP hw hK
    obtain ⟨hz, hTI, ⟨x0, y0, hTO⟩, h1, h2⟩ := st
    obtain ⟨xs, ys, hqx, hqy, hend⟩ := hg
    obtain ⟨P1, src1, D1, s1, r1⟩ := Sd.draw (it := i1) I hqx n1
    obtain ⟨P2, src2, D2, s2, r2⟩ := Sd.draw (it := i2) I hqy n2
    have hh : X.A.handled = none := I.ok.hd hc
    exact wpAny_pyNext_zipD2_end D (D1 X.A.in1 hh) (D2 X.A.in1 hh) hz hTI hTO ⟨h1, s1⟩ ⟨h2, s2⟩ (by omega) (by omega) (by omega) fun h' tk hk => ⟨rfl, I.turnedL (t' := tk) (ch := [z, TI, TO, i1, i2]) (fun c o hb q =>
      hk c o (fun q' => hb (by simp [q'])) (fun q' => hb (by simp [q'])) (fun q' => hb (by simp [q'])) (fun q' => hb (by simp [q'])) q) hf⟩
  self := fun A i s Q E st h => wpAny_pyIter_zip st.1 h
theorem addr_ne {a b : Nat} (h : a ≠ b) : @Ne Addr a b := h
theorem sep_fresh (n : Nat) {sa sb : Sd} (la : sa.lt n) (lb : sb.lt n) : ZipSep2 (n + 4) (n + 2) (n + 3) n (n + 1) (sa.fp n) (sb.fp (n + 1)) := by
  have mem : ∀ {sd : Sd} {c i : Nat}, c ≠ i → (∀ a : Nat, a < n → c ≠ a) → sd.lt n → c ∉ sd.fp i := fun {sd c i} h1 h2 h3 hm => by
    cases sd with
    | lst a =>
      have hm' : c = i ∨ c = a := by simpa [Sd.fp] using hm
      rcases hm' with h | h
      · exact h1 h
      · exact h2 a h3 h
    | tup a =>
      have hm' : c = i ∨ c = a := by simpa [Sd.fp] using hm
      rcases hm' with h | h
      · exact h1 h
      · exact h2 a h3 h
    | txt x t =>
      have hm' : c = i := by simpa [Sd.fp] using hm
      exact h1 hm'
  have own : ∀ (sd : Sd) (i : Nat), i ∈ sd.fp i := fun sd i => by cases sd <;> simp [Sd.fp]
  exact ⟨addr_ne (by omega), addr_ne (by omega), addr_ne (by omega), addr_ne (by omega), own sa n, mem (by omega) (by omega) la, mem (by omega) (by omega) la, addr_ne (by omega), own sb (n + 1), mem (by omega) (by omega) lb, mem (by omega) (by omega) lb, mem (by omega) (by omega) lb, mem (by omega) (by omega) la⟩
/-- what is zipped, by values -/
inductive Kd where
  | l | t | s
def sdOf : Kd → V → Tok → Sd
  | .l, .ref a, _ => .lst a
  | .t, .ref a, _ => .tup a
  | _, .str x, t => .txt x t
  | _, _, t => .txt ⟨#[]⟩ t
def KdV (K : PySem.W.Frag) (H : Hp) : Kd → V → List V → Prop
  | .l, .ref a, xs => SqL K H a xs
  | .t, .ref a, xs => SqT K H a xs
  | .s, .str x, xs => xs = signs x
  | _, _, _ => False
theorem KdV.has {K : PySem.W.Frag} {H : Hp} {k : Kd} {v : V} {xs : List V} (h : KdV K H k v xs) (t : Tok) : (sdOf k v t).has K H xs := by
  cases k <;> cases v <;> first | exact h | exact (show False from h).elim
def iZipM (K : PySem.W.Frag) (ta : TA) : TI := fun σ H R => ta σ H fun vs H1 => ∃ va vb ka kb xs ys, vs = [va, vb] ∧ KdV K H1 ka va xs ∧ KdV K H1 kb vb ys ∧
  ∀ t1 t2 : Tok, R (ItzM K (sdOf ka va t1) (sdOf kb vb t2)) H1
section
variable {X : Cx} {pins : List (Addr × Obj)} {σ : L2.St} {H : Hp} {s : Shared}
theorem KdV.side {k : Kd} {v : V} {xs : List V} {u : Value} (I : Inv X pins σ H s) (h : KdV X.K H k v xs) (r : RelV v u) : ∃ t : Tok, (sdOf k v t).lt s.heap.objs.size ∧ ∃ Hh : Heap → Prop, Begins u (sdOf k v t).obj Hh ∧ Hh s.heap := by
  cases k with
  | l =>
    cases v with
    | ref a =>
      cases r
      obtain ⟨its, rv, p, _⟩ := I.list h
      exact ⟨0, p.lt, _, begins_list a its.toArray, p.isList⟩
    | _ => exact (show False from h).elim
  | t =>
    cases v with
    | ref a =>
      cases r
      obtain ⟨its, rv, p, _⟩ := I.tuple h
      exact ⟨0, p.lt, _, begins_tuple a its.toArray, p⟩
    | _ => exact (show False from h).elim
  | s =>
    cases v with
    | str x =>
      obtain ⟨t, rfl⟩ := r
      exact ⟨t, trivial, _, begins_text x t, trivial⟩
    | _ => exact (show False from h).elim
theorem pi_zipM {e e2 : Expr} {ta : TA} {p pos tpos : Pos} {elts : List Expr} {kk : Nat} (hg : Gl X "zip") (hm : X.mg "zip" = none) (ha : PA X [e, e2] ta)
    (hs : starEach [e, e2] X.env = (false, eval e X.env) :: starEach [e2] X.env := by rfl) (hpl : (backTo pos (starEach [e2] X.env)).any (·.1) = false := by rfl) :
    PI X (.Tuple elts kk tpos) (.Call (.Name "zip" p) [e, e2] [] pos) (iZipM X.K ta) := by
  refine ⟨fun pins s σ H R I h => ?_⟩
  refine Call_ (ld_blt I hg hm PyProof.Rows.boot_zip (PyProof.Rows.callWith_type1 (thn (ha.run pos pins s σ H _ I h) fun us s1 ⟨vs, H1, I1, r1, q1⟩ => ?_) hs hpl))
  obtain ⟨va, vb, ka, kb, xs, ys, ex, ha1, hb1, q1⟩ := q1
  subst ex
  cases r1 with
  | cons r rr =>
    cases rr with
    | cons r' rr =>
      cases rr
      rename_i ua ub
      obtain ⟨ta', la, Ha, Ba, ba⟩ := ha1.side I1 r
      obtain ⟨tb', lb, Hb, Bb, bb⟩ := hb1.side I1 r'
      generalize hsa : sdOf ka va ta' = sa at la Ba
      generalize hsb : sdOf kb vb tb' = sb at lb Bb
      have fresh5 : ∀ c, c ∈ [s1.heap.objs.size + 4, s1.heap.objs.size + 2, s1.heap.objs.size + 3, s1.heap.objs.size, s1.heap.objs.size + 1] → FpOk X pins H1 c := fun c hcm => by
        have e' : c = s1.heap.objs.size + 4 ∨ c = s1.heap.objs.size + 2 ∨ c = s1.heap.objs.size + 3 ∨ c = s1.heap.objs.size ∨ c = s1.heap.objs.size + 1 := by simpa using hcm
        have hle : s1.heap.objs.size ≤ c := by
          rcases e' with z | z | z | z | z
          · rw [z]; exact Nat.le_add_right _ _
          · rw [z]; exact Nat.le_add_right _ _
          · rw [z]; exact Nat.le_add_right _ _
          · rw [z]; exact Nat.le_refl _
          · rw [z]; exact Nat.le_add_right _ _
        exact I1.fpOk hle (I1.hok.fresh hle)
      refine zip_begins2 Ba Bb ba bb fun h' hz hTI hTO h1 h2 hsz hk => wpAny_pyIter_zip hz ?_
      have I2 : Inv X pins σ H1 { s1 with heap := h' } := I1.kept (t' := s1.toks) hk
      have i1 : sa.itr s1.heap.objs.size 0 h' := by cases sa <;> exact ⟨_, h1, rfl, rfl⟩
      have i2 : sb.itr (s1.heap.objs.size + 1) 0 h' := by cases sb <;> exact ⟨_, h2, rfl, rfl⟩
      have na : sa.ne s1.heap.objs.size := by
        cases sa with
        | lst a => exact addr_ne (Nat.ne_of_lt la)
        | tup a => exact addr_ne (Nat.ne_of_lt la)
        | txt x t => trivial
      have nb : sb.ne (s1.heap.objs.size + 1) := by
        cases sb with
        | lst a => exact addr_ne (Nat.ne_of_lt (Nat.lt_of_lt_of_le lb (Nat.le_succ _)))
        | tup a => exact addr_ne (Nat.ne_of_lt (Nat.lt_of_lt_of_le lb (Nat.le_succ _)))
        | txt x t => trivial
      have q2 := q1 ta' tb'
      rw [hsa, hsb] at q2
      exact ⟨s1.heap.objs.size + 4, [s1.heap.objs.size + 4, s1.heap.objs.size + 2, s1.heap.objs.size + 3, s1.heap.objs.size, s1.heap.objs.size + 1], _, _, H1, rfl, I2, turn_zipM (sep_fresh _ la lb) na nb, ⟨hz, hTI, ⟨_, _, hTO⟩, i1, i2⟩, fresh5, q2⟩
end
theorem walk_zipM {K : PySem.W.Frag} {sa sb : Sd} {xs ys : List V} {n : Nat} (hn : n = min xs.length ys.length) : Walk (ItzM K sa sb) n (fun H => sa.has K H xs ∧ sb.has K H ys) (YPair (fun i => xs[i]?) (fun i => ys[i]?)) := by
  subst hn
  refine ⟨fun i H hi h => ⟨xs, ys, xs[i]'(by omega), ys[i]'(by omega), h.1, h.2, by simp, by simp⟩, fun H h => ⟨xs, ys, h.1, h.2, rfl⟩, fun i H x H' hi h ⟨T, x1, y1, e, hT, eH, f1, f2⟩ => ⟨T, x1, y1, e, hT, eH, f1 xs h.1, f2 ys h.2⟩⟩
end OF

namespace OF
open PySem PySem.Spec PyProof.Rows L2
variable {X : Cx} {G : Gx}
variable {e o a b tg iter : Expr} {es : List Expr} {ca cb : Cm U} {cl ck : Cm (List U)} {pos apos p : Pos}

/-! walks -/
def signsU (x : Str) : List U := x.cps.toList.map fun c => U.str ⟨#[c]⟩
def seqU : U → Option (List U)
  | .tup us => some us
  | .lst us => some us
  | .scr us => some us
  | .str x => some (signsU x)
  | _ => none
def itSeq (c : Cm U) : Cm (List U) := fun env S => match c env S with
  | none => none
  | some (u, S1) => match seqU u with
    | none => none
    | some us => some (us, S1)
theorem itSeq_some {c : Cm U} {env : Env'} {S S' : Sto} {us : List U} (h : itSeq c env S = some (us, S')) : ∃ u, c env S = some (u, S') ∧ seqU u = some us := by
  unfold itSeq at h
  split at h
  · cases h
  · rename_i u S1 e1
    split at h
    · cases h
    · rename_i us' e2
      cases h
      exact ⟨u, e1, e2⟩
section
variable {K : PySem.W.Frag} {m : Mp} {H : Hp} {S : Sto}
theorem RU.tupSt {us : List U} {v : V} (h : RU K G m H (.tup us) v) : ∃ a vs, v = .ref a ∧ RUs K G m H us vs ∧ ∀ m2 H2, Ext m H m2 H2 → SqT K H2 a vs := by
  unfold RU at h
  obtain ⟨a, vs, e, q, r⟩ := h
  refine ⟨a, vs, e, r, fun m2 H2 x => ?_⟩
  rcases q with ⟨q, n, nx⟩ | q
  · exact .inl (x.rd q n).1
  · exact .inr q
theorem RU.lstSt {us : List U} {v : V} (h : RU K G m H (.lst us) v) : ∃ a vs, v = .ref a ∧ RUs K G m H us vs ∧ ∀ m2 H2, Ext m H m2 H2 → SqL K H2 a vs := by
  unfold RU at h
  obtain ⟨a, vs, e, q, n, nx, r⟩ := h
  exact ⟨a, vs, e, r, fun m2 H2 x => .inl (x.rd q n).1⟩
theorem RU.scrSt {us : List U} {v : V} (h : RU K G m H (.scr us) v) : ∃ a vs, v = .ref a ∧ RUs K G m H us vs ∧ ∀ m2 H2, Ext m H m2 H2 → SqL K H2 a vs := by
  unfold RU at h
  obtain ⟨a, vs, e, q, r⟩ := h
  refine ⟨a, vs, e, r, fun m2 H2 x => ?_⟩
  rcases q with ⟨q, n, nx⟩ | q
  · exact .inl (x.rd q n).1
  · exact .inr q
theorem RUs.signs (x : Str) : RUs K G m H (signsU x) (OF.signs x) := by
  unfold signsU OF.signs
  induction x.cps.toList with
  | nil => exact RUs.nil
  | cons c r ih => exact RUs.cons rfl ih
theorem itok_at {us : List U} {vs : List V} {J : It} {Gd : Hp → Prop} (r : RUs K G m H us vs) (w : Walk J vs.length Gd (YAt vs)) (hG : ∀ m2 H2, Ext m H m2 H2 → Gd H2) : ItOk K G m H us J := by
  refine ⟨Gd, YAt vs, by rw [← r.length]; exact w, hG, fun i m2 S2 H2 x H3 x2 st2 hi ⟨e, hx⟩ => ?_⟩
  subst e
  obtain ⟨v, e', q⟩ := (RUs.keep x2.keeps _ _ r).get (List.getElem?_eq_getElem hi)
  rw [hx] at e'; cases e'
  exact ⟨_, List.getElem?_eq_getElem hi, Ext.refl _ _, st2, q⟩
theorem walk_strV {z : Str} : Walk (Its z) (OF.signs z).length (fun _ => True) (YAt (OF.signs z)) := by
  have w := walk_str (z := z)
  rw [show (OF.signs z).length = z.cps.size by simp [OF.signs]]
  refine w.mono (fun _ h => h) fun i H x H' hi _ ⟨e, c, hc, ev⟩ => ⟨e, ?_⟩
  subst ev
  unfold OF.signs
  rw [List.getElem?_map, Array.getElem?_toList, hc]
  rfl
end
theorem _root_.L2.PI.or3 {t1 t2 t3 : TI} (h1 : PI X tg iter t1) (h2 : PI X tg iter t2) (h3 : PI X tg iter t3) : PI X tg iter (fun σ H R => t1 σ H R ∨ t2 σ H R ∨ t3 σ H R) := ⟨fun pins s σ H R I hw => by
  rcases hw with hw | hw | hw
  · exact h1.run pins s σ H R I hw
  · exact h2.run pins s σ H R I hw
  · exact h3.run pins s σ H R I hw⟩
theorem ei_seq (he : EE G X e ca) : EI G X tg e (itSeq ca) := (PI.or3 (pi_tup he) (pi_list he) (pi_str he)).imp fun σ H R ⟨m, S, env, us, S', st, re, hc, q⟩ => by
  obtain ⟨u, e1, e2⟩ := itSeq_some hc
  cases u with
  | tup us' =>
    cases e2
    refine .inl ⟨m, S, env, _, S', st, re, e1, fun m1 H1 v x1 st1 r1 => ?_⟩
    obtain ⟨a, vs, ev, rv, hq⟩ := r1.tupSt
    exact ⟨a, ev, ⟨vs, hq m1 H1 (Ext.refl _ _)⟩, q m1 H1 x1 st1 _ (itok_at rv walk_tup hq)⟩
  | lst us' =>
    cases e2
    refine .inr (.inl ⟨m, S, env, _, S', st, re, e1, fun m1 H1 v x1 st1 r1 => ?_⟩)
    obtain ⟨a, vs, ev, rv, hq⟩ := r1.lstSt
    exact ⟨a, ev, ⟨vs, hq m1 H1 (Ext.refl _ _)⟩, q m1 H1 x1 st1 _ (itok_at rv walk_list hq)⟩
  | scr us' =>
    cases e2
    refine .inr (.inl ⟨m, S, env, _, S', st, re, e1, fun m1 H1 v x1 st1 r1 => ?_⟩)
    obtain ⟨a, vs, ev, rv, hq⟩ := r1.scrSt
    exact ⟨a, ev, ⟨vs, hq m1 H1 (Ext.refl _ _)⟩, q m1 H1 x1 st1 _ (itok_at rv walk_list hq)⟩
  | str x =>
    cases e2
    refine .inr (.inr ⟨m, S, env, _, S', st, re, e1, fun m1 H1 v x1 st1 r1 => ?_⟩)
    exact ⟨x, r1, q m1 H1 x1 st1 _ (itok_at (RUs.signs x) walk_strV fun _ _ _ => trivial)⟩
  | _ => cases e2
/-! range -/
def rangeU (lo : Int) (n : Nat) : List U := (List.range n).map fun i => U.int (lo + (i : Nat))
def itR1 (c : Cm (List U)) : Cm (List U) := fun env S => match c env S with
  | some ([.int j], S1) => if -(2 ^ 62) ≤ j ∧ j < 2 ^ 62 then some (rangeU 0 j.toNat, S1) else none
  | _ => none
def itR2 (c : Cm (List U)) : Cm (List U) := fun env S => match c env S with
  | some ([.int i, .int j], S1) => if (-(2 ^ 62) ≤ i ∧ i < 2 ^ 62) ∧ -(2 ^ 62) ≤ j ∧ j < 2 ^ 62 then some (rangeU i (j - i).toNat, S1) else none
  | _ => none
theorem itok_range {K : PySem.W.Frag} {m : Mp} {H : Hp} {lo : Int} {n : Nat} : ItOk K G m H (rangeU lo n) (Itr lo n) := by
  have hl : (rangeU lo n).length = n := by simp [rangeU]
  refine ⟨fun _ => True, YFn fun i => .int (lo + i), by rw [hl]; exact walk_range, fun _ _ _ => trivial, fun i m2 S2 H2 x H3 x2 st2 hi ⟨e, hx⟩ => ?_⟩
  subst e
  refine ⟨.int (lo + (i : Nat)), ?_, Ext.refl _ _, st2, hx⟩
  rw [hl] at hi
  unfold rangeU
  rw [List.getElem?_map, List.getElem?_range hi]
  rfl
theorem ei_range1 (hg : Gl X "range") (hm : X.mg "range" = none) (ha : EA G X [a] cl) (hs : starEach [a] X.env = [(false, eval a X.env)] := by rfl) : EI G X tg (.Call (.Name "range" p) [a] [] pos) (itR1 cl) := (pi_range1 hg hm ha hs).imp fun σ H R ⟨m, S, env, us, S', st, re, hc, q⟩ => by
  unfold itR1 at hc
  split at hc
  · rename_i j S1 e1
    split at hc
    · rename_i hj
      cases hc
      refine ⟨m, S, _, _, _, st, re, e1, fun m1 H1 vs x1 st1 r1 => ?_⟩
      obtain ⟨v, r, ev, rv, rr⟩ := r1.uncons
      have := rr.eqnil
      subst this
      cases rv
      exact ⟨j, ev, hj.1, hj.2, q m1 H1 x1 st1 _ itok_range⟩
    · cases hc
  · cases hc
theorem ei_range2 (hg : Gl X "range") (hm : X.mg "range" = none) (ha : EA G X [a, b] cl) (hs : starEach [a, b] X.env = [(false, eval a X.env), (false, eval b X.env)] := by rfl) (hs2 : starEach [b] X.env = [(false, eval b X.env)] := by rfl) : EI G X tg (.Call (.Name "range" p) [a, b] [] pos) (itR2 cl) := (pi_range2 hg hm ha hs hs2).imp fun σ H R ⟨m, S, env, us, S', st, re, hc, q⟩ => by
  unfold itR2 at hc
  split at hc
  · rename_i i j S1 e1
    split at hc
    · rename_i hj
      cases hc
      refine ⟨m, S, _, _, _, st, re, e1, fun m1 H1 vs x1 st1 r1 => ?_⟩
      obtain ⟨v, r, ev, rv, rr⟩ := r1.uncons
      obtain ⟨v2, r2, ev2, rv2, rr2⟩ := rr.uncons
      have := rr2.eqnil
      subst this
      subst ev2
      cases rv
      cases rv2
      exact ⟨i, j, ev, ⟨hj.1.1, hj.1.2, hj.2.1, hj.2.2⟩, q m1 H1 x1 st1 _ itok_range⟩
    · cases hc
  · cases hc
/-! zip -/
def zipU (us ws : List U) : List U := (us.zip ws).map fun q => U.tup [q.1, q.2]
def itZip (c : Cm (List U)) : Cm (List U) := fun env S => match c env S with
  | some ([u, w], S1) => match seqU u, seqU w with
    | some us, some ws => some (zipU us ws, S1)
    | _, _ => none
  | _ => none
section
variable {K : PySem.W.Frag} {m : Mp} {H : Hp}
theorem seqU_side {u : U} {v : V} {us : List U} (r : RU K G m H u v) (h : seqU u = some us) : ∃ k vs, RUs K G m H us vs ∧ ∀ m2 H2, Ext m H m2 H2 → KdV K H2 k v vs := by
  cases u with
  | tup us' =>
    cases h
    obtain ⟨a, vs, ev, rv, hq⟩ := r.tupSt
    subst ev
    exact ⟨.t, vs, rv, hq⟩
  | lst us' =>
    cases h
    obtain ⟨a, vs, ev, rv, hq⟩ := r.lstSt
    subst ev
    exact ⟨.l, vs, rv, hq⟩
  | scr us' =>
    cases h
    obtain ⟨a, vs, ev, rv, hq⟩ := r.scrSt
    subst ev
    exact ⟨.l, vs, rv, hq⟩
  | str x =>
    cases h
    cases r
    exact ⟨.s, _, RUs.signs x, fun _ _ _ => rfl⟩
  | _ => cases h
theorem itok_pair {us ws : List U} {vs zs : List V} {J : It} {Gd : Hp → Prop} (r : RUs K G m H us vs) (r' : RUs K G m H ws zs) (w : Walk J (min vs.length zs.length) Gd (YPair (fun i => vs[i]?) (fun i => zs[i]?))) (hG : ∀ m2 H2, Ext m H m2 H2 → Gd H2) : ItOk K G m H (zipU us ws) J := by
  have hl : (zipU us ws).length = min vs.length zs.length := by simp [zipU, r.length, r'.length]
  refine ⟨Gd, YPair (fun i => vs[i]?) (fun i => zs[i]?), by rw [hl]; exact w, hG, fun i m2 S2 H2 x H3 x2 st2 hi ⟨T, x1, y1, ev, hT, eH, hx, hy⟩ => ?_⟩
  subst ev eH
  rw [hl, r.length, r'.length] at hi
  have h1 : i < us.length := by omega
  have h2 : i < ws.length := by omega
  obtain ⟨v1, e1, q1⟩ := (RUs.keep x2.keeps _ _ r).get (List.getElem?_eq_getElem h1)
  obtain ⟨v2, e2, q2⟩ := (RUs.keep x2.keeps _ _ r').get (List.getElem?_eq_getElem h2)
  have hx' : vs[i]? = some x1 := hx
  have hy' : zs[i]? = some y1 := hy
  rw [hx'] at e1; cases e1
  rw [hy'] at e2; cases e2
  refine ⟨.tup [us[i], ws[i]], ?_, Ext.upd hT, st2.new hT, RU.newTup st2 hT (RUs.cons q1 (RUs.one q2))⟩
  unfold zipU
  rw [List.getElem?_map, List.getElem?_zip_eq_some (i := i) (z := (us[i], ws[i])) |>.mpr ⟨by simp [h1], by simp [h2]⟩]
  rfl
end
theorem ei_zip {elts : List Expr} {kk : Nat} {tpos : Pos} (hg : Gl X "zip") (hm : X.mg "zip" = none) (ha : EA G X [a, b] cl)
    (hs : starEach [a, b] X.env = (false, eval a X.env) :: starEach [b] X.env := by rfl) (hpl : (backTo pos (starEach [b] X.env)).any (·.1) = false := by rfl) : EI G X (.Tuple elts kk tpos) (.Call (.Name "zip" p) [a, b] [] pos) (itZip cl) := (pi_zipM hg hm ha hs hpl).imp fun σ H R ⟨m, S, env, us, S', st, re, hc, q⟩ => by
  unfold itZip at hc
  split at hc
  · rename_i u w S1 e1
    split at hc
    · rename_i us1 us2 e2 e3
      cases hc
      refine ⟨m, S, _, _, _, st, re, e1, fun m1 H1 vs x1 st1 r1 => ?_⟩
      obtain ⟨v, r, ev, rv, rr⟩ := r1.uncons
      obtain ⟨v2, r2, ev2, rv2, rr2⟩ := rr.uncons
      have := rr2.eqnil
      subst this
      subst ev2
      obtain ⟨ka, xs, ra, ha⟩ := seqU_side rv e2
      obtain ⟨kb, ys, rb, hb⟩ := seqU_side rv2 e3
      refine ⟨v, v2, ka, kb, xs, ys, ev, ha m1 H1 (Ext.refl _ _), hb m1 H1 (Ext.refl _ _), fun t1 t2 => ?_⟩
      exact q m1 H1 x1 st1 _ (itok_pair ra rb (walk_zipM rfl) fun m2 H2 x => ⟨(ha m2 H2 x).has t1, (hb m2 H2 x).has t2⟩)
    · cases hc
  · cases hc

/-! data, for == and != -/
mutual
def toD : U → Option PyData
  | .non => some .none
  | .bl b => some (.bool b)
  | .int i => some (.int i)
  | .str x => some (.str x)
  | .tup us => match toDs us with
    | some ds => some (.tuple ds)
    | none => none
  | .lst us => match toDs us with
    | some ds => some (.list ds)
    | none => none
  | _ => none
def toDs : List U → Option (List PyData)
  | [] => some []
  | u :: us => match toD u with
    | none => none
    | some d => match toDs us with
      | none => none
      | some ds => some (d :: ds)
end
def toDS (S : Sto) : U → Option PyData
  | .ref n => match S[n]? with
    | some (.lst us) => match toDs us with
      | some ds => some (.list ds)
      | none => none
    | _ => none
  | u => toD u
section
variable {K : PySem.W.Frag} {m : Mp} {H : Hp} {S : Sto}
mutual
theorem toD_ok : ∀ (u : U) (v : V) (d : PyData), RU K G m H u v → toD u = some d → Dp K H v d
  | .non, v, d, r, h => by
    simp only [toD, Option.some.injEq] at h
    cases r; subst h; exact .non
  | .bl b, v, d, r, h => by
    simp only [toD, Option.some.injEq] at h
    cases r; subst h; exact .bl b
  | .int i, v, d, r, h => by
    simp only [toD, Option.some.injEq] at h
    cases r; subst h; exact .int i
  | .str x, v, d, r, h => by
    simp only [toD, Option.some.injEq] at h
    cases r; subst h; exact .str x
  | .tup us, v, d, r, h => by
    simp only [toD] at h
    split at h
    · rename_i ds e
      cases h
      obtain ⟨a, vs, rfl, hq, rv⟩ := r.tupT
      exact .tup hq (toDs_ok us vs ds rv e)
    · cases h
  | .lst us, v, d, r, h => by
    simp only [toD] at h
    split at h
    · rename_i ds e
      cases h
      obtain ⟨a, vs, rfl, hq, rv⟩ := r.lstL
      exact .lst hq (toDs_ok us vs ds rv e)
    · cases h
  | .scr us, v, d, r, h => by simp only [toD] at h; cases h
  | .dct us, v, d, r, h => by simp only [toD] at h; cases h
  | .fn x, v, d, r, h => by simp only [toD] at h; cases h
  | .ref x, v, d, r, h => by simp only [toD] at h; cases h
theorem toDs_ok : ∀ (us : List U) (vs : List V) (ds : List PyData), RUs K G m H us vs → toDs us = some ds → DpAll K H vs ds
  | [], vs, ds, r, h => by
    simp only [toDs, Option.some.injEq] at h
    subst h
    rw [r.eqnil]
    exact .nil
  | u :: us, vs, ds, r, h => by
    simp only [toDs] at h
    split at h
    · cases h
    · rename_i d e1
      split at h
      · cases h
      · rename_i ds' e2
        cases h
        obtain ⟨v, t, rfl, q, tl⟩ := r.uncons
        exact .cons (toD_ok u v d q e1) (toDs_ok us t ds' tl e2)
end
theorem toDS_ok (st : Rst K G m H S) {u : U} {v : V} {d : PyData} (r : RU K G m H u v) (h : toDS S u = some d) : Dp K H v d := by
  cases u with
  | ref n =>
    simp only [toDS] at h
    split at h
    · rename_i us e
      split at h
      · rename_i ds e2
        cases h
        obtain ⟨a, ho, ha, hH, vs, rfl, rv⟩ := st.at e
        unfold RU at r
        obtain ⟨a', rfl, ha'⟩ := r
        rw [ha] at ha'; cases ha'
        exact .lst (SqL.of hH) (toDs_ok us vs ds rv e2)
      · cases h
    · cases h
  | _ => exact toD_ok _ _ _ r h
end
def eqDU (neg : Bool) : Op2 := fun a b S => match toDS S a, toDS S b with
  | some d, some e => if SeqAt.shaped d = true ∧ SeqAt.shaped e = true then some (.bl (if neg then !PyData.eqv d e else PyData.eqv d e), S) else none
  | _, _ => none
theorem opU_eqD (hu : X.A.units + 64 < cLine) : OpU G X (compareOp .Eq) (eqDU false) := OpR.imp (op_eqD hu) fun x y H Q ⟨m, S, u1, u2, z, S', st, r1, r2, e, q⟩ => by
  unfold eqDU at e
  split at e
  · rename_i d e' h1 h2
    split at e
    · rename_i hs
      cases e
      exact ⟨d, e', toDS_ok st r1 h1, toDS_ok st r2 h2, hs.1, hs.2, q.here st rfl⟩
    · cases e
  · cases e
theorem opU_neD (hu : X.A.units + 64 < cLine) : OpU G X (compareOp .NotEq) (eqDU true) := OpR.imp (op_neD hu) fun x y H Q ⟨m, S, u1, u2, z, S', st, r1, r2, e, q⟩ => by
  unfold eqDU at e
  split at e
  · rename_i d e' h1 h2
    split at e
    · rename_i hs
      cases e
      exact ⟨d, e', toDS_ok st r1 h1, toDS_ok st r2 h2, hs.1, hs.2, q.here st rfl⟩
    · cases e
  · cases e
end OF

namespace OF
open PySem PySem.Spec PyProof.Rows L2
variable {X : Cx} {G : Gx}
variable {e o a b tg iter : Expr} {es : List Expr} {ca cb : Cm U} {cl ck : Cm (List U)} {pos apos p : Pos}

/-! numbers -/
theorem ou_add : OpU G X (binaryOp .Add) (o2I fun i j => some (.int (i + j))) := opU_I0 (g := fun i j => .int (i + j)) op_add fun _ _ _ _ => rfl
theorem ou_sub : OpU G X (binaryOp .Sub) (o2I fun i j => some (.int (i - j))) := opU_I0 (g := fun i j => .int (i - j)) op_sub fun _ _ _ _ => rfl
def mulI (i j : Int) : Option U := if i.natAbs.log2 + j.natAbs.log2 < 1000000 then some (.int (i * j)) else none
theorem ou_mul : OpU G X (binaryOp .Mult) (o2I mulI) := opU_I (g := fun i j => .int (i * j)) op_mulW fun i j u h => by
  unfold mulI at h
  split at h
  · cases h; exact ⟨by assumption, fun _ _ => rfl⟩
  · cases h
def divI (i j : Int) : Option U := if 0 < j ∧ j.natAbs.log2 < 9000 then some (.int (i / j)) else none
theorem ou_div : OpU G X (binaryOp .FloorDiv) (o2I divI) := opU_I (g := fun i j => .int (i / j)) op_fdivW fun i j u h => by
  unfold divI at h
  split at h
  · cases h; exact ⟨by assumption, fun _ _ => rfl⟩
  · cases h
def modI (i j : Int) : Option U := if 0 < j then some (.int (i % j)) else none
theorem ou_mod : OpU G X (binaryOp .Mod) (o2I modI) := opU_I (g := fun i j => .int (i % j)) op_mod fun i j u h => by
  unfold modI at h
  split at h
  · cases h; exact ⟨by assumption, fun _ _ => rfl⟩
  · cases h
def powI (i j : Int) : Option U := if 0 ≤ j ∧ j ≤ 1000000 ∧ i.natAbs < 2 ^ 64 then some (.int (i ^ j.toNat)) else none
theorem ou_pow : OpU G X (binaryOp .Pow) (o2I powI) := opU_I (g := fun i j => .int (i ^ j.toNat)) op_pow fun i j u h => by
  unfold powI at h
  split at h
  · cases h; exact ⟨by assumption, fun _ _ => rfl⟩
  · cases h
def shlI (i j : Int) : Option U := if 0 ≤ j ∧ j ≤ 1000000 ∧ i.natAbs < 2 ^ 64 then some (.int (i * 2 ^ j.toNat)) else none
theorem ou_shl : OpU G X (binaryOp .LShift) (o2I shlI) := opU_I (g := fun i j => .int (i * 2 ^ j.toNat)) op_shl fun i j u h => by
  unfold shlI at h
  split at h
  · cases h; exact ⟨by assumption, fun _ _ => rfl⟩
  · cases h
theorem ou_and : OpU G X (binaryOp .BitAnd) (o2I fun i j => some (.int (Builtin.bitAnd i j))) := opU_I0 (g := fun i j => .int (Builtin.bitAnd i j)) op_and fun _ _ _ _ => rfl
theorem ou_xor : OpU G X (binaryOp .BitXor) (o2I fun i j => some (.int (Builtin.bitXor i j))) := opU_I0 (g := fun i j => .int (Builtin.bitXor i j)) op_xor fun _ _ _ _ => rfl
theorem ou_lt : OpU G X (compareOp .Lt) (o2I fun i j => some (.bl (decide (i < j)))) := opU_I0 (g := fun i j => .bl (decide (i < j))) op_lt fun _ _ _ _ => rfl
theorem ou_le : OpU G X (compareOp .LtE) (o2I fun i j => some (.bl (decide (i ≤ j)))) := opU_I0 (g := fun i j => .bl (decide (i ≤ j))) op_le fun _ _ _ _ => rfl
theorem ou_gt : OpU G X (compareOp .Gt) (o2I fun i j => some (.bl (decide (j < i)))) := opU_I0 (g := fun i j => .bl (decide (j < i))) op_gt fun _ _ _ _ => rfl
theorem ou_ge : OpU G X (compareOp .GtE) (o2I fun i j => some (.bl (decide (j ≤ i)))) := opU_I0 (g := fun i j => .bl (decide (j ≤ i))) op_ge fun _ _ _ _ => rfl
def o1I (f : Int → U) : Op1 := fun u S => match u with
  | .int i => some (f i, S)
  | _ => none
theorem uu_neg : UnU G X (unaryOp .USub) (o1I fun i => .int (-i)) := UnR.imp un_neg fun x H Q ⟨m, S, u, z, S', st, r, e, q⟩ => by
  unfold o1I at e
  split at e
  · rename_i i
    cases e
    exact ⟨i, r, q.here st rfl⟩
  · cases e
/-! texts, tuples, lists: + -/
def strAdd : Op2 := fun a b S => match a, b with
  | .str x, .str y => if x.length + y.length ≤ sizeLine then some (.str (x ++ y), S) else none
  | _, _ => none
theorem ou_addS : OpU G X (binaryOp .Add) strAdd := OpR.imp op_add_str fun x y H Q ⟨m, S, u1, u2, z, S', st, r1, r2, e, q⟩ => by
  unfold strAdd at e
  split at e
  · split at e
    · cases e
      exact ⟨_, _, r1, r2, by assumption, q.here st rfl⟩
    · cases e
  · cases e
def tupAdd : Op2 := fun a b S => match a, b with
  | .tup us, .tup ws => if us.length + ws.length ≤ sizeLine then some (.tup (us ++ ws), S) else none
  | _, _ => none
theorem ou_addT : OpU G X (binaryOp .Add) tupAdd := OpR.imp op_catA fun x y H Q ⟨m, S, u1, u2, z, S', st, r1, r2, e, q⟩ => by
  unfold tupAdd at e
  split at e
  · split at e
    · rename_i us ws hl
      cases e
      have r1' := r1
      have r2' := r2
      obtain ⟨a, vs, rfl, hq, rv⟩ := r1.tupT
      obtain ⟨b, zs, rfl, hq2, rv2⟩ := r2.tupT
      refine ⟨a, b, vs, zs, rfl, rfl, hq, hq2, by rw [rv.length, rv2.length]; exact hl, fun h => ?_, fun _ h => ?_, fun h1 h2 => q.tup st (rv.append rv2)⟩
      · subst h
        have : us = [] := by
          have := rv.length
          cases us with
          | nil => rfl
          | cons _ _ => simp at this
        subst this
        exact q.here st r2'
      · subst h
        have : ws = [] := by
          have := rv2.length
          cases ws with
          | nil => rfl
          | cons _ _ => simp at this
        subst this
        rw [List.append_nil] at q
        exact q.here st r1'
    · cases e
  · cases e
/-- the items of a list, whatever holds it -/
def lstU (S : Sto) : U → Option (List U)
  | .lst us => some us
  | .ref n => match S[n]? with
    | some (.lst us) => some us
    | _ => none
  | _ => none
theorem lstU_ok {K : PySem.W.Frag} {m : Mp} {H : Hp} {S : Sto} (st : Rst K G m H S) {u : U} {v : V} {us : List U} (r : RU K G m H u v) (h : lstU S u = some us) : ∃ a vs, v = .ref a ∧ Rd H a (.lst vs) ∧ RUs K G m H us vs := by
  cases u with
  | lst us' =>
    cases h
    obtain ⟨a, vs, rfl, hq, _, _, rv⟩ := r.lstR
    exact ⟨a, vs, rfl, hq, rv⟩
  | ref n =>
    simp only [lstU] at h
    split at h
    · rename_i us' e
      cases h
      obtain ⟨a, ho, ha, hH, vs, rfl, rv⟩ := st.at e
      unfold RU at r
      obtain ⟨a', rfl, ha'⟩ := r
      rw [ha] at ha'; cases ha'
      exact ⟨a, vs, rfl, .inl hH, rv⟩
    · cases h
  | _ => cases h
theorem _root_.L2.Inv.lstR {pins : List (Addr × Obj)} {σ : L2.St} {H : Hp} {s : Shared} {p : Addr} {xs : List V} (I : Inv X pins σ H s) (h : Rd H p (.lst xs)) : xs.length ≤ sizeLine ∧ ∃ (its : List Value) (n : Nat), Vals xs its ∧ s.heap.get? p = some { cls := .type "list", data := .seq its.toArray n } := h.ok I.hok
theorem op_catR : OpR X (binaryOp .Add) (fun x y H Q => ∃ l b xs zs, x = .ref l ∧ y = .ref b ∧ Rd H l (.lst xs) ∧ Rd H b (.lst zs) ∧ xs.length + zs.length ≤ sizeLine ∧ ∀ p, H p = none → Q (.ref p) (upd H p (.lst (xs ++ zs)))) := by
  intro pins s σ H x y v u Q I rx ry h
  obtain ⟨l, b, xs, zs, rfl, rfl, hH, hB, hz, q⟩ := h
  cases rx
  cases ry
  obtain ⟨z, its, n, r, e⟩ := I.lstR hH
  obtain ⟨z2, its2, n2, r2, e2⟩ := I.lstR hB
  have hl := r.length
  have hl2 := r2.length
  refine PySem.P.add_list e e2 ?_ (by rw [List.size_toArray, List.size_toArray]; omega)
  have ea : its.toArray ++ its2.toArray = (its ++ its2).toArray := by simp
  rw [ea]
  exact ⟨.ref _, _, I.lnew (t' := s.toks) (r.append r2) (by rw [List.length_append]; omega), rfl, q _ I.fresh⟩
def lstAdd (mu : Bool) : Op2 := fun a b S => match lstU S a, lstU S b with
  | some us, some ws => if us.length + ws.length ≤ sizeLine then (if mu then some (.ref S.length, S ++ [.lst (us ++ ws)]) else some (.lst (us ++ ws), S)) else none
  | _, _ => none
theorem ou_addL (mu : Bool) : OpU G X (binaryOp .Add) (lstAdd mu) := OpR.imp op_catR fun x y H Q ⟨m, S, u1, u2, z, S', st, r1, r2, e, q⟩ => by
  unfold lstAdd at e
  split at e
  · rename_i us ws e1 e2
    split at e
    · rename_i hl
      obtain ⟨a, vs, rfl, hq, rv⟩ := lstU_ok st r1 e1
      obtain ⟨b, zs, rfl, hq2, rv2⟩ := lstU_ok st r2 e2
      refine ⟨a, b, vs, zs, rfl, rfl, hq, hq2, by rw [rv.length, rv2.length]; exact hl, ?_⟩
      cases mu with
      | true => cases e; exact q.cell st ⟨_, rfl, rv.append rv2⟩
      | false => cases e; exact q.lst st (rv.append rv2)
    · cases e
  · cases e
def addU (mu : Bool) : Op2 := orO (o2I fun i j => some (.int (i + j))) (orO strAdd (orO tupAdd (lstAdd mu)))
theorem ou_addA (mu : Bool) : OpU G X (binaryOp .Add) (addU mu) := opU_or ou_add (opU_or ou_addS (opU_or ou_addT (ou_addL mu)))
/-! is None -/
def isN (neg : Bool) : Op2 := fun a b S => match b with
  | .non => (match a with
    | .non => some (.bl (!neg), S)
    | _ => some (.bl neg, S))
  | _ => none
theorem RU.non_iff {K : PySem.W.Frag} {m : Mp} {H : Hp} {u : U} {v : V} (r : RU K G m H u v) : v = .non ↔ u = .non := by
  cases u with
  | non => cases r; exact ⟨fun _ => rfl, fun _ => rfl⟩
  | bl b => cases r; exact ⟨fun h => (by cases h), fun h => (by cases h)⟩
  | int b => cases r; exact ⟨fun h => (by cases h), fun h => (by cases h)⟩
  | str b => cases r; exact ⟨fun h => (by cases h), fun h => (by cases h)⟩
  | tup us => obtain ⟨a, vs, rfl, _⟩ := r.tupT; exact ⟨fun h => (by cases h), fun h => (by cases h)⟩
  | lst us => obtain ⟨a, vs, rfl, _⟩ := r.lstL; exact ⟨fun h => (by cases h), fun h => (by cases h)⟩
  | scr us => obtain ⟨a, vs, rfl, _⟩ := r.scrL; exact ⟨fun h => (by cases h), fun h => (by cases h)⟩
  | dct us => unfold RU at r; obtain ⟨a, vs, rfl, _⟩ := r; exact ⟨fun h => (by cases h), fun h => (by cases h)⟩
  | fn x => unfold RU at r; obtain ⟨a, rfl, _⟩ := r; exact ⟨fun h => (by cases h), fun h => (by cases h)⟩
  | ref n => unfold RU at r; obtain ⟨a, rfl, _⟩ := r; exact ⟨fun h => (by cases h), fun h => (by cases h)⟩
theorem ou_isN : OpU G X (compareOp .Is) (isN false) := OpR.imp op_isN fun x y H Q ⟨m, S, u1, u2, z, S', st, r1, r2, e, q⟩ => by
  unfold isN at e
  split at e
  · cases r2
    refine ⟨rfl, ?_⟩
    split at e
    · cases e
      rw [decide_eq_true (r1.non_iff.mpr rfl)]
      exact q.here st rfl
    · rename_i hn
      cases e
      rw [decide_eq_false fun h => hn (r1.non_iff.mp h)]
      exact q.here st rfl
  · cases e
theorem ou_notN : OpU G X (compareOp .IsNot) (isN true) := OpR.imp op_notN fun x y H Q ⟨m, S, u1, u2, z, S', st, r1, r2, e, q⟩ => by
  unfold isN at e
  split at e
  · cases r2
    refine ⟨rfl, ?_⟩
    split at e
    · cases e
      rw [decide_eq_true (r1.non_iff.mpr rfl)]
      exact q.here st rfl
    · rename_i hn
      cases e
      rw [decide_eq_false fun h => hn (r1.non_iff.mp h)]
      exact q.here st rfl
  · cases e
/-! subscripts -/
def itmU (S : Sto) : U → Option (List U)
  | .tup us => some us
  | .lst us => some us
  | .scr us => some us
  | .ref n => match S[n]? with
    | some (.lst us) => some us
    | _ => none
  | _ => none
def ixU : Op2 := fun a b S => match a, b with
  | .str z, .int i => if z.length ≤ sizeLine then (match atI z.cps.toList i with
    | some c => some (.str ⟨#[c]⟩, S)
    | none => none) else none
  | u, .int i => match itmU S u with
    | some us => match atI us i with
      | some w => some (w, S)
      | none => none
    | none => none
  | _, _ => none
theorem RUs.at' {K : PySem.W.Frag} {m : Mp} {H : Hp} {us : List U} {vs : List V} {i : Int} {u : U} (r : RUs K G m H us vs) (h : atI us i = some u) : ∃ v, atI vs i = some v ∧ RU K G m H u v := by
  unfold atI at h ⊢
  rw [r.length]
  cases q : ixN us.length i with
  | none => rw [q] at h; cases h
  | some j =>
    rw [q] at h
    exact r.get h
theorem re_ix {K : PySem.W.Frag} {x y : V} {H : Hp} {Q : VK} (h : r2U K G ixU x y H Q) : rIx K x y H Q := by
  obtain ⟨m, S, u1, u2, z, S', st, r1, r2, e, q⟩ := h
  unfold ixU at e
  split at e
  · rename_i z0 i
    split at e
    · split at e
      · rename_i c hc
        cases e
        exact .inr (.inr ⟨z0, i, c, r1, r2, by assumption, hc, q.here st rfl⟩)
      · cases e
    · cases e
  · rename_i i hne
    split at e
    · rename_i us e1
      split at e
      · rename_i w e2
        cases e
        cases r2
        cases u1 with
        | tup us' =>
          cases e1
          obtain ⟨a, vs, rfl, hq, rv⟩ := r1.tupT
          obtain ⟨v, ev, rv'⟩ := rv.at' e2
          exact .inr (.inl ⟨a, vs, i, v, rfl, rfl, hq, ev, q.here st rv'⟩)
        | lst us' =>
          cases e1
          obtain ⟨a, vs, rfl, hq, rv⟩ := r1.lstL
          obtain ⟨v, ev, rv'⟩ := rv.at' e2
          exact .inl ⟨a, vs, i, v, rfl, rfl, hq, ev, q.here st rv'⟩
        | scr us' =>
          cases e1
          obtain ⟨a, vs, rfl, hq, rv⟩ := r1.scrL
          obtain ⟨v, ev, rv'⟩ := rv.at' e2
          exact .inl ⟨a, vs, i, v, rfl, rfl, hq, ev, q.here st rv'⟩
        | ref n =>
          simp only [itmU] at e1
          split at e1
          · rename_i us' es
            cases e1
            obtain ⟨a, ho, ha, hH, vs, rfl, rv⟩ := st.at es
            unfold RU at r1
            obtain ⟨a', rfl, ha'⟩ := r1
            rw [ha] at ha'; cases ha'
            obtain ⟨v, ev, rv'⟩ := rv.at' e2
            exact .inl ⟨a, vs, i, v, rfl, rfl, SqL.of hH, ev, q.here st rv'⟩
          · cases e1
        | _ => cases e1
      · cases e
    · cases e
  · cases e
theorem ee_ix (ha : EE G X a ca) (hb : EE G X b cb) (hs : PlainIx b := by intro _ _; rfl) : EE G X (.Subscript a b pos) (cBin ixU ca cb) := (pe_ix ix_seq ha hb hs).imp fun σ H Q h => by
  obtain ⟨m, S, env, u, S1, st, re, e1, q⟩ := re_op h
  refine ⟨m, S, env, u, S1, st, re, e1, fun m1 H1 x x1 st1 r1 => ?_⟩
  obtain ⟨m2, S2, env2, u2, S3, st2, re2, e2, q2⟩ := q m1 H1 x x1 st1 r1
  exact ⟨m2, S2, env2, u2, S3, st2, re2, e2, fun m3 H3 y x3 st3 r3 => re_ix (q2 m3 H3 y x3 st3 r3)⟩
/-! slices -/
abbrev CmO := Env' → Sto → Option (Option Int × Sto)
def RO' (K : PySem.W.Frag) (G : Gx) (c : CmO) : TO := fun σ H Q => ∃ m S env o S', Rst K G m H S ∧ Renv K G m H env σ ∧ c env S = some (o, S') ∧ ∀ m' H', Ext m H m' H' → Rst K G m' H' S' → Q o H'
abbrev EO (G : Gx) (X : Cx) (e : Option Expr) (c : CmO) : Prop := PO X e (RO' X.K G c)
def cNoPart : CmO := fun _ S => some (none, S)
def cPart (c : Cm U) : CmO := fun env S => match c env S with
  | some (.int i, S1) => some (some i, S1)
  | _ => none
theorem eo_none : EO G X none cNoPart := ⟨fun pins s σ H Q I ⟨m, S, env, o, S', st, re, hc, q⟩ => by
  cases hc
  exact po_none.run pins s σ H Q I (q m H (Ext.refl _ _) st)⟩
theorem eo_some (h : EE G X e ca) : EO G X (some e) (cPart ca) := ⟨fun pins s σ H Q I ⟨m, S, env, o, S', st, re, hc, q⟩ => by
  unfold cPart at hc
  split at hc
  · rename_i i S1 e1
    cases hc
    exact (po_some h).run pins s σ H Q I ⟨m, S, _, _, _, st, re, e1, fun m1 H1 v x1 st1 r1 => ⟨i, r1, q m1 H1 x1 st1⟩⟩
  · cases hc⟩
def cutU (us : List U) (lo hi : Option Int) : List U := (us.drop (HT.sIx us.length 0 lo)).take (HT.sIx us.length us.length hi - HT.sIx us.length 0 lo)
def slU (mu : Bool) (u : U) (lo hi : Option Int) : Sto → Option (U × Sto) := fun S => match u with
  | .tup us => some (.tup (cutU us lo hi), S)
  | .str z => if z.length ≤ sizeLine then some (.str (cutS z lo hi), S) else none
  | u => match lstU S u with
    | some us => if mu then some (.ref S.length, S ++ [.lst (cutU us lo hi)]) else some (.lst (cutU us lo hi), S)
    | none => none
def cSl (mu : Bool) (c : Cm U) (l h : CmO) : Cm U := fun env S => match c env S with
  | none => none
  | some (u, S1) => match l env S1 with
    | none => none
    | some (lo, S2) => match h env S2 with
      | none => none
      | some (hi, S3) => slU mu u lo hi S3
theorem RUs.cut {K : PySem.W.Frag} {m : Mp} {H : Hp} {us : List U} {vs : List V} (r : RUs K G m H us vs) (lo hi : Option Int) : RUs K G m H (cutU us lo hi) (cutV vs lo hi) := by
  unfold cutU cutV
  rw [r.length]
  exact (r.drop _).take _
theorem cut_whole {us : List U} {lo hi : Option Int} (h : HT.sIx us.length 0 lo = 0 ∧ HT.sIx us.length us.length hi = us.length) : cutU us lo hi = us := by
  unfold cutU
  rw [h.1, h.2]
  simp
theorem ee_slice {lo hi : Option Expr} {l h : CmO} {p2 : Pos} (mu : Bool) (he : EE G X e ca) (hl : EO G X lo l) (hh : EO G X hi h) : EE G X (.Subscript e (.Slice lo hi none p2) pos) (cSl mu ca l h) :=
  (pe_slice (sl_tupA.or (sl_list.or sl_str)) he hl hh).imp fun σ H Q ⟨m, S, env, z, S', st, re, hc, q⟩ => by
    unfold cSl at hc
    split at hc
    · cases hc
    · rename_i u S1 e1
      split at hc
      · cases hc
      · rename_i lo' S2 e2
        split at hc
        · cases hc
        · rename_i hi' S3 e3
          refine ⟨m, S, env, u, S1, st, re, e1, fun m1 H1 x x1 st1 r1 => ⟨m1, S1, env, lo', S2, st1, re.keep x1.keeps, e2, fun m2 H2 x2 st2 => ⟨m2, S2, env, hi', S3, st2, (re.keep x1.keeps).keep x2.keeps, e3, fun m3 H3 x3 st3 => ?_⟩⟩⟩
          have r3 := RU.keep (x2.trans x3).keeps _ _ r1
          have q3 := ((q.mono x1).mono x2).mono x3
          unfold slU at hc
          split at hc
          · rename_i us
            cases hc
            have r3' := r3
            obtain ⟨a, vs, rfl, hq, rv⟩ := r3.tupT
            refine .inl ⟨a, vs, rfl, hq, fun hw => ?_, fun _ => q3.tup st3 (rv.cut lo' hi')⟩
            rw [rv.length] at hw
            rw [cut_whole hw] at q3
            exact q3.here st3 r3'
          · split at hc
            · cases hc
              exact .inr (.inr ⟨_, r3, by assumption, q3.here st3 rfl⟩)
            · cases hc
          · split at hc
            · rename_i us e4
              obtain ⟨a, vs, rfl, hq, rv⟩ := lstU_ok st3 r3 e4
              refine .inr (.inl ⟨a, vs, rfl, .inl hq, ?_⟩)
              cases mu with
              | true => cases hc; exact q3.cell st3 ⟨_, rfl, rv.cut lo' hi'⟩
              | false => cases hc; exact q3.lst st3 (rv.cut lo' hi')
            · cases hc
end OF

namespace OF
open PySem PySem.Spec PyProof.Rows L2

/-! a, b, *c, d = a tuple or a list -/
section
variable {prog : Program} {w : World} {A : Around} {E : Value → Shared → Prop} {I : Addr} {fp wr : List Addr} {n : Nat} {P : Nat → Value → Prop} {St : Nat → Heap → Prop}
theorem draw_walks (W : Walks prog w A I fp wr n P St) : ∀ (k i : Nat) (s : Shared) (Q : List Value → Shared → Prop), i + k ≤ n → St i s.heap →
    (∀ (vs : List Value) h' tk, vs.length = k → (∀ (j : Nat) v, vs[j]? = some v → P (i + j) v) → St (i + k) h' → (∀ b o, b ∉ wr → s.heap.get? b = some o → h'.get? b = some o) → Q vs { s with heap := h', toks := tk }) → wpAny (model prog w) A (draw (.ref I) k) Q E s
  | 0, i, s, Q, _, st, hQ => by
    show wpAny _ _ (pure []) Q E s
    exact wpAny_pure (hQ [] s.heap s.toks rfl (fun j v h => by simp at h) st fun _ _ _ e => e)
  | k + 1, i, s, Q, hle, st, hQ => by
    show wpAny _ _ (pyNext (.ref I) >>= _) Q E s
    refine wpAny_bind (W.item i s _ _ (by omega) st fun v h1 t1 pv st1 k1 => ?_)
    refine wpAny_bind (wpAny_holding (draw_walks W k (i + 1) _ _ (by omega) st1 fun vs h2 t2 hl hp st2 k2 => wpAny_pure ?_))
    refine hQ (v :: vs) h2 t2 (by simp [hl]) (fun j u hj => ?_) (by rw [show i + (k + 1) = i + 1 + k by omega]; exact st2) fun b o hb e => k2 b o hb (k1 b o hb e)
    cases j with
    | zero => simp at hj; subst hj; exact pv
    | succ j =>
      simp at hj
      have := hp j u hj
      rw [show i + (j + 1) = i + 1 + j by omega]
      exact this
theorem Walks.shift (W : Walks prog w A I fp wr n P St) (k : Nat) (hk : k ≤ n) : Walks prog w A I fp wr (n - k) (fun j => P (k + j)) (fun j => St (k + j)) where
  sub := W.sub
  frame := fun i h h' st hb => W.frame _ h h' st hb
  item := fun i s Q E hi st hQ => W.item (k + i) s Q E (by omega) st hQ
  done := fun s Q E st hQ => W.done s Q E (by have : k + (n - k) = n := by omega
                                              rw [this] at st; exact st) hQ
  self := fun i s Q E st hQ => W.self _ s Q E st hQ
theorem items_eq {its : List Value} {acc : Array Value} {k m : Nat} (h : ItemsOf (fun j v => its.toArray[k + j]? = some v) acc m) (hm : m = its.length - k) : acc.toList = its.drop k := by
  apply List.ext_getElem?
  intro j
  rw [List.getElem?_drop]
  by_cases hj : j < acc.size
  · have := h.2 j acc[j] (by simp [hj])
    have h2 : its[k + j]? = some acc[j] := by simpa using this
    rw [h2]
    simp [hj]
  · have h1 : acc.toList[j]? = none := by simp; omega
    have h2 : its[k + j]? = none := by
      have := h.1
      simp
      omega
    rw [h1, h2]
theorem draws_eq {its vs : List Value} {k : Nat} (hl : vs.length = k) (hk : k ≤ its.length) (h : ∀ (j : Nat) v, vs[j]? = some v → its.toArray[0 + j]? = some v) : vs = its.take k := by
  apply List.ext_getElem?
  intro j
  by_cases hj : j < k
  · have h1 := h j (vs[j]'(by omega)) (by simp)
    have h2 : its[j]? = some (vs[j]'(by omega)) := by simpa using h1
    rw [List.getElem?_take_of_lt hj, h2]
    simp
  · rw [List.getElem?_eq_none (by omega), List.getElem?_eq_none (by simp; omega)]
/-- the items of a list or tuple, the middle ones in a new list -/
theorem unpack_star {s : Shared} {v : Value} {T : String} {o : Obj} {its : List Value} {i n : Nat} {Q : List Value → Shared → Prop} (hT : T = "list_iterator" ∨ T = "tuple_iterator") (ho : o.cls = .type T) (hf : o.isFreed = false)
    (hni : ∀ (Q : Bool → Shared → Prop), Q false s → wpAny (model prog w) A (notIterableAtAll v) Q E s)
    (hit : ∀ (Q : Value → Shared → Prop), Q (.ref s.heap.objs.size) { s with heap := s.heap.push o } → wpAny (model prog w) A (pyIter v) Q E s)
    {l : Addr} (hl : l ≠ s.heap.objs.size) (hlt : l < s.heap.objs.size) (W : ∀ A' : Around, A'.handled = none → Walks prog w A' s.heap.objs.size [s.heap.objs.size, l] [s.heap.objs.size] its.toArray.size (fun i v => its.toArray[i]? = some v) St) (hh : A.handled = none) (st0 : St 0 (s.heap.push o))
    (hcls : ∀ j h, St j h → ∃ o, h.get? s.heap.objs.size = some o ∧ o.cls = .type T) (hsz : its.length ≤ sizeLine) (hin : i < n) (hlen : n - 1 ≤ its.length)
    (hQ : ∀ (h' : Heap) (tk : Nat), (∀ b o, s.heap.get? b = some o → h'.get? b = some o) → Q (its.take i ++ [.ref h'.objs.size] ++ its.drop (its.length - (n - 1 - i))) { s with heap := h'.push { cls := .type "list", data := .seq ((its.drop i).take (its.length - (n - 1))).toArray }, toks := tk }) :
    wpAny (model prog w) A (unpackItems v n (some i)) Q E s := by
  unfold unpackItems
  refine wpAny_bind (hni _ ?_)
  simp only [Bool.false_eq_true, if_false]
  refine wpAny_bind (wpAny_holding (hit _ ?_))
  refine wpAny_bind (wpAny_holding (draw_walks (W A hh) i 0 _ _ (by simp; omega) st0 fun vs h1 t1 hvl hvp st1 k1 => ?_))
  have hvs : vs = its.take i := draws_eq hvl (by omega) hvp
  rw [if_neg (by omega)]
  have W1 := (Walks.shift (W A.in1 hh) i (by simp; omega)).toS
  have hs1 : s.heap.objs.size < h1.objs.size := by
    obtain ⟨o1, e1, _⟩ := hcls _ _ st1
    exact Heap.lt_size e1
  have k0 : ∀ b o', s.heap.get? b = some o' → h1.get? b = some o' := fun b o' e => k1 b o' (by
    have hb := Nat.ne_of_lt (Heap.lt_size e)
    intro z
    have z' : b = s.heap.objs.size := by simpa using z
    exact hb z') (Heap.get?_push_of_some _ e)
  refine wpAny_bind (wpAny_holding (wpAny_collect_iter (s := { s with heap := h1, toks := t1 }) (T := T) (by rcases hT with h | h; exact .inr (.inr (.inl h)); exact .inr (.inr (.inr h))) W1 (fun j s' st => ?_) ?_ ?_ (by simp) (fun s' acc mv hit' => ?_) ?_))
  · obtain ⟨o1, e1, c1⟩ := hcls _ _ st
    exact ⟨o1, e1, c1⟩
  · show St (i + 0) h1
    simpa using st1
  · intro b hb
    have hb' : b = s.heap.objs.size ∨ b = l := by simpa using hb
    rcases hb' with h | h
    · rw [h]; exact hs1
    · rw [h]; exact Nat.lt_trans hlt hs1
  · have hacc : acc.toList = its.drop i := items_eq hit' (by simp)
    rw [hacc]
    have hrl : (its.drop i).length = its.length - i := by simp
    rw [if_neg (by rw [hrl]; omega)]
    refine wpAny_bind (wpAny_newList ?_ (by simp; omega))
    refine wpAny_pure ?_
    obtain ⟨hh', g', d', tk', os'⟩ := s'
    have e1 : g' = s.gens := mv.gens
    have e2 : d' = s.drawn := mv.drawn
    have e3 : os' = s.os := mv.os
    subst e1 e2 e3
    have hfin := hQ hh' tk' fun b o' e => mv.heap b o' (by
      have hb := Nat.ne_of_lt (Heap.lt_size e)
      intro z
      have z' : b = s.heap.objs.size := by simpa using z
      exact hb z') (k0 b o' e)
    rw [hrl, hvs]
    rw [show its.length - i - (n - 1 - i) = its.length - (n - 1) by omega]
    rw [List.drop_drop, show i + (its.length - (n - 1)) = its.length - (n - 1 - i) by omega]
    exact hfin
  · simp; omega
end
/-- targets with one star, at place i -/
def gStar (K : PySem.W.Frag) (i n : Nat) (t : TGs) : TG := fun v σ H Q => ∃ a xs, v = .ref a ∧ (SqT K H a xs ∨ SqL K H a xs) ∧ n - 1 ≤ xs.length ∧
  ∀ p, H p = none → t (xs.take i ++ [.ref p] ++ xs.drop (xs.length - (n - 1 - i))) σ (upd H p (.lst ((xs.drop i).take (xs.length - (n - 1))))) Q
section
variable {X : Cx} {G : Gx} {es : List Expr} {e : Expr} {pos : Pos}
theorem pgs_star {p : Pos} {t : TG} {u : TGs} (h1 : PG X e t) (h2 : PGs X es u)
    (hs : (assignEach (.Starred e p :: es) X.env).map (·.2) = assign e X.env :: (assignEach es X.env).map (·.2) := by rfl) : PGs X (.Starred e p :: es) (gCons t u) := by
  refine ⟨fun pins s σ H vs us Q I r h => ?_⟩
  obtain ⟨v, vr, e1, h⟩ := h
  subst e1
  cases r with
  | cons r rr =>
    rw [hs]
    refine assignInOrder_cons (thn (h1.run pins s σ H _ _ _ I r h) fun _ s1 ⟨σ1, H1, I1, q1⟩ => ?_)
    exact h2.run pins s1 σ1 H1 _ _ Q I1 rr q1
theorem pg_star {k i n : Nat} {t : TGs} (hc : X.calm = true) (h : PGs X es t) (hin : i < n) (hn : (assignEach es X.env).length = n := by rfl) (hst : (assignEach es X.env).findIdx? (·.1) = some i := by rfl) : PG X (.Tuple es k pos) (gStar X.K i n t) := by
  refine ⟨fun pins s σ H v u Q I r hw => ?_⟩
  obtain ⟨a, xs, rfl, hq, hl, hw⟩ := hw
  cases r
  rw [assign_Tuple]
  refine wpAny_bind (wpAny_standAt ?_)
  unfold unpack
  rw [hn, hst]
  refine wpAny_bind (wpAny_holding ?_)
  have fin : ∀ (its : List Value) (hz : xs.length ≤ sizeLine) (rv : Vals xs its) (h' : Heap) (tk : Nat), (∀ b o, s.heap.get? b = some o → h'.get? b = some o) →
      wpAny (model X.prog X.w) X.A (assignInOrder ((assignEach es X.env).map (·.2)) (its.take i ++ [.ref h'.objs.size] ++ its.drop (its.length - (n - 1 - i)))) (fun _ s' => ∃ σ' H', Inv X pins σ' H' s' ∧ Q σ' H') X.xe { s with heap := h'.push { cls := .type "list", data := .seq ((its.drop i).take (its.length - (n - 1))).toArray }, toks := tk } := by
    intro its hz rv h' tk hk
    have I1 : Inv X pins σ H { s with heap := h', toks := tk } := I.kept hk
    have hlen := rv.length
    have I2 := I1.lnew (its := (its.drop i).take (its.length - (n - 1))) (t' := tk) (ys := (xs.drop i).take (xs.length - (n - 1))) (by rw [← hlen]; exact (rv.drop i).take _) (by simp; omega)
    have hw' := hw h'.objs.size I1.fresh
    refine h.run pins _ σ _ _ _ Q I2 ?_ hw'
    have e1 : xs.length - (n - 1 - i) = its.length - (n - 1 - i) := by rw [hlen]
    rw [e1]
    have r0 : Vals [V.ref h'.objs.size] [Value.ref h'.objs.size] := .cons rfl .nil
    exact ((rv.take i).append r0).append (rv.drop _)
  rcases hq with hq | hq
  · obtain ⟨its, rv, p, hz⟩ := I.tuple hq
    have hlen := rv.length
    have hne : a ≠ s.heap.objs.size := Nat.ne_of_lt p.lt
    refine unpack_star (T := "tuple_iterator") (o := { cls := .type "tuple_iterator", data := .fields #[.ref a, .int 0 0] }) (.inr rfl) rfl rfl (fun Q hQ => ?_) (fun Q hQ => iter_tuple p hQ) hne p.lt (fun A' hA => Walks.tuple hA _ a hne its.toArray) (I.ok.hd hc)
      ⟨⟨_, Heap.get?_push_size _ rfl, rfl, rfl⟩, Heap.IsTuple.push (show s.heap.IsTuple a its.toArray from p) _⟩ (fun j h st => ?_) (by omega) hin (by omega) fun h' tk hk => fin its hz rv h' tk hk
    · unfold notIterableAtAll
      refine wpAny_bind (wpAny_specialOf p.typeIs slot_tuple_iter.lookup ?_)
      exact wpAny_pure hQ
    · obtain ⟨o, e, c, _⟩ := st.1
      exact ⟨o, e, c⟩
  · obtain ⟨its, rv, p, hz⟩ := I.list hq
    have hlen := rv.length
    have hne : a ≠ s.heap.objs.size := Nat.ne_of_lt p.lt
    refine unpack_star (T := "list_iterator") (o := { cls := .type "list_iterator", data := .fields #[.ref a, .int 0 0] }) (.inl rfl) rfl rfl (fun Q hQ => ?_) (fun Q hQ => wpAny_pyIter_list p.isList hQ) hne p.lt (fun A' hA => Walks.list hA _ a hne its.toArray) (I.ok.hd hc)
      ⟨⟨_, Heap.get?_push_size _ rfl, rfl, rfl⟩, p.isList.at fun o e => Heap.get?_push_of_some _ e⟩ (fun j h st => ?_) (by omega) hin (by omega) fun h' tk hk => fin its hz rv h' tk hk
    · unfold notIterableAtAll
      refine wpAny_bind (wpAny_specialOf p.isList.typeIs slot_list_iter.lookup ?_)
      exact wpAny_pure hQ
    · obtain ⟨o, e, c, _⟩ := st.1
      exact ⟨o, e, c⟩
/-- names (slots) with a star at place i: the star's list frozen (mu: a cell) -/
def gmStar (mu : Bool) (i n : Nat) (pts : List Pat) : Gm := fun u env S => match itmU S u with
  | some us => if n - 1 ≤ us.length then (
      let mid := (us.drop i).take (us.length - (n - 1))
      let star : U := if mu then .ref S.length else .lst mid
      match bindPs pts (us.take i ++ [star] ++ us.drop (us.length - (n - 1 - i))) with
      | some bs => some (setAll env bs, if mu then S ++ [.lst mid] else S)
      | none => none) else none
  | none => none
theorem itmU_ok {K : PySem.W.Frag} {m : Mp} {H : Hp} {S : Sto} (st : Rst K G m H S) {u : U} {v : V} {us : List U} (r : RU K G m H u v) (h : itmU S u = some us) : ∃ a vs, v = .ref a ∧ (SqT K H a vs ∨ SqL K H a vs) ∧ RUs K G m H us vs := by
  cases u with
  | tup us' =>
    cases h
    obtain ⟨a, vs, rfl, hq, rv⟩ := r.tupT
    exact ⟨a, vs, rfl, .inl hq, rv⟩
  | lst us' =>
    cases h
    obtain ⟨a, vs, rfl, hq, rv⟩ := r.lstL
    exact ⟨a, vs, rfl, .inr hq, rv⟩
  | scr us' =>
    cases h
    obtain ⟨a, vs, rfl, hq, rv⟩ := r.scrL
    exact ⟨a, vs, rfl, .inr hq, rv⟩
  | ref n =>
    simp only [itmU] at h
    split at h
    · rename_i us' e
      cases h
      obtain ⟨a, ho, ha, hH, vs, rfl, rv⟩ := st.at e
      unfold RU at r
      obtain ⟨a', rfl, ha'⟩ := r
      rw [ha] at ha'; cases ha'
      exact ⟨a, vs, rfl, .inr (SqL.of hH), rv⟩
    · cases h
  | _ => cases h
theorem eps_star {p : Pos} {pt : Pat} {pts : List Pat} (h1 : EPt X e pt) (h2 : EPts X es pts) (hs : (assignEach (.Starred e p :: es) X.env).map (·.2) = assign e X.env :: (assignEach es X.env).map (·.2) := by rfl) : EPts X (.Starred e p :: es) (pt :: pts) :=
  (pgs_star h1 h2 hs).imp fun vs σ H Q ⟨bs, h, q⟩ => by
    unfold PatVs at h
    obtain ⟨v, r, b1, b2, rfl, rfl, h1, h2⟩ := h
    rw [setAll_app] at q
    exact ⟨v, r, rfl, b1, h1, b2, h2, q⟩
theorem eg_star {k i n : Nat} {pts : List Pat} (mu : Bool) (hc : X.calm = true) (h : EPts X es pts) (hin : i < n) (hn : (assignEach es X.env).length = n := by rfl) (hst : (assignEach es X.env).findIdx? (·.1) = some i := by rfl) : EG G X (.Tuple es k pos) (gmStar mu i n pts) :=
  (pg_star hc h hin hn hst).imp fun v σ H Q ⟨m, S, env, u, env', S', st, re, r, hc, q⟩ => by
    unfold gmStar at hc
    split at hc
    · rename_i us e1
      split at hc
      · rename_i hl
        obtain ⟨a, vs, rfl, hq, rv⟩ := itmU_ok st r e1
        have hlen := rv.length
        refine ⟨a, vs, rfl, hq, by omega, fun p hp => ?_⟩
        cases mu with
        | false =>
          simp only [Bool.false_eq_true, if_false] at hc
          split at hc
          · rename_i bs eb
            cases hc
            have x1 : Ext m H m (upd H p (.lst ((vs.drop i).take (vs.length - (n - 1))))) := Ext.upd hp
            have rm : RUs X.K G m H ((us.drop i).take (us.length - (n - 1))) ((vs.drop i).take (vs.length - (n - 1))) := by rw [hlen]; exact (rv.drop i).take _
            have rs := RU.newLst st hp rm
            have rv1 := RUs.keep x1.keeps _ _ rv
            have rall : RUs X.K G m (upd H p (.lst ((vs.drop i).take (vs.length - (n - 1))))) (us.take i ++ [.lst ((us.drop i).take (us.length - (n - 1)))] ++ us.drop (us.length - (n - 1 - i))) (vs.take i ++ [.ref p] ++ vs.drop (vs.length - (n - 1 - i))) := by
              have e2 : vs.length - (n - 1 - i) = us.length - (n - 1 - i) := by rw [hlen]
              rw [e2]
              exact ((rv1.take i).append (RUs.one rs)).append (rv1.drop _)
            obtain ⟨bv, h1, h2⟩ := bindPs_ok _ _ _ _ eb rall
            exact ⟨bv, h1, q m _ _ x1 (st.new hp) ((re.keep x1.keeps).setAll h2)⟩
          · cases hc
        | true =>
          simp only [if_true] at hc
          split at hc
          · rename_i bs eb
            cases hc
            have x1 : Ext m H ⟨m.c ++ [p], m.x⟩ (upd H p (.lst ((vs.drop i).take (vs.length - (n - 1))))) := Ext.cell hp
            have rm : RUs X.K G m H ((us.drop i).take (us.length - (n - 1))) ((vs.drop i).take (vs.length - (n - 1))) := by rw [hlen]; exact (rv.drop i).take _
            have rv1 := RUs.keep x1.keeps _ _ rv
            have at' : (m.c ++ [p])[S.length]? = some p := by rw [← st.len]; simp
            have rs : RU X.K G ⟨m.c ++ [p], m.x⟩ (upd H p (.lst ((vs.drop i).take (vs.length - (n - 1))))) (.ref S.length) (.ref p) := RU.cell at'
            have rall : RUs X.K G ⟨m.c ++ [p], m.x⟩ (upd H p (.lst ((vs.drop i).take (vs.length - (n - 1))))) (us.take i ++ [.ref S.length] ++ us.drop (us.length - (n - 1 - i))) (vs.take i ++ [.ref p] ++ vs.drop (vs.length - (n - 1 - i))) := by
              have e2 : vs.length - (n - 1 - i) = us.length - (n - 1 - i) := by rw [hlen]
              rw [e2]
              exact ((rv1.take i).append (RUs.one rs)).append (rv1.drop _)
            obtain ⟨bv, h1, h2⟩ := bindPs_ok _ _ _ _ eb rall
            exact ⟨bv, h1, q _ _ _ x1 (st.push hp ⟨_, rfl, RUs.keep x1.keeps _ _ rm⟩) ((re.keep x1.keeps).setAll h2)⟩
          · cases hc
      · cases hc
    · cases hc
end
end OF

namespace OF
open PySem PySem.Spec PyProof.Rows L2
variable {X : Cx} {G : Gx}
variable {e o a b c tg iter : Expr} {es : List Expr} {ca cb cc : Cm U} {cl ck : Cm (List U)} {pos apos cpos p : Pos} {x : Str}

/-! two rules for one expression -/
theorem ee_or2 {c1 c2 c3 : Cm U} (h1 : EE G X e c1) (h2 : EE G X e c2) (h : ∀ env S r, c3 env S = some r → c1 env S = some r ∨ c2 env S = some r) : EE G X e c3 := ⟨fun pins s σ H Q I ⟨m, S, env, u, S', st, re, hc, q⟩ => by
  rcases h env S _ hc with h | h
  · exact h1.run pins s σ H Q I ⟨m, S, env, u, S', st, re, h, q⟩
  · exact h2.run pins s σ H Q I ⟨m, S, env, u, S', st, re, h, q⟩⟩
theorem ee_orO {f g : Op2} (h1 : EE G X e (cBin f ca cb)) (h2 : EE G X e (cBin g ca cb)) : EE G X e (cBin (orO f g) ca cb) := ee_or2 h1 h2 fun env S r h => by
  obtain ⟨u, S1, v, S2, e1, e2, e3⟩ := cBin_some h
  unfold orO at e3
  split at e3
  · rename_i r' e4
    cases e3
    exact .inl (by unfold cBin; rw [e1]; dsimp only; rw [e2]; exact e4)
  · exact .inr (by unfold cBin; rw [e1]; dsimp only; rw [e2]; exact e3)
/-! built-ins by name -/
theorem re_cb {K : PySem.W.Frag} {f : OpN} {σ : L2.St} {H : Hp} {Q : VK} (h : RE K G (cArg f cl) σ H Q) : tCB (rNU K G f) (RA K G cl) σ H Q := re_arg h
theorem ee_callB {id : String} {f : OpN} (hc : CallU G X (.builtin id) f) (hg : Gl X x) (hm : X.mg x = none) (hv : bootBuiltins x = some (.builtin id)) (ha : EA G X (e :: es) cl) (hn : x ≠ "__name__" := by decide) (hdb : (x == ("__debug__" : Str)) = false := by decide)
    (he : starEach (e :: es) X.env = (false, eval e X.env) :: starEach es X.env := by rfl) (hpl : (backTo pos (starEach es X.env)).any (·.1) = false := by rfl) : EE G X (.Call (.Name x p) (e :: es) [] pos) (cArg f cl) := (pe_callB hc hg hm hv ha hn hdb he hpl).imp fun _ _ _ => re_cb
theorem ee_callTy {T : String} {f : OpN} (hc : CallU G X (.type T) f) (hg : Gl X x) (hm : X.mg x = none) (hv : bootBuiltins x = some (.type T)) (ha : EA G X (e :: es) cl) (hn : x ≠ "__name__" := by decide) (hdb : (x == ("__debug__" : Str)) = false := by decide)
    (he : starEach (e :: es) X.env = (false, eval e X.env) :: starEach es X.env := by rfl) (hpl : (backTo pos (starEach es X.env)).any (·.1) = false := by rfl) : EE G X (.Call (.Name x p) (e :: es) [] pos) (cArg f cl) := (pe_callTy hc hg hm hv ha hn hdb he hpl).imp fun _ _ _ => re_cb
/-- one argument -/
def on1 (f : Op1) : OpN := fun us S => match us with
  | [u] => f u S
  | _ => none
def on2 (f : Op2) : OpN := fun us S => match us with
  | [u, w] => f u w S
  | _ => none
theorem on1_some {f : Op1} {us : List U} {S : Sto} {r : U × Sto} (h : on1 f us S = some r) : ∃ u, us = [u] ∧ f u S = some r := by
  unfold on1 at h
  split at h
  · exact ⟨_, rfl, h⟩
  · cases h
theorem on2_some {f : Op2} {us : List U} {S : Sto} {r : U × Sto} (h : on2 f us S = some r) : ∃ u w, us = [u, w] ∧ f u w S = some r := by
  unfold on2 at h
  split at h
  · exact ⟨_, _, rfl, h⟩
  · cases h
section
variable {K : PySem.W.Frag} {m : Mp} {H : Hp} {S : Sto}
theorem RUs.one1 {u : U} {vs : List V} (r : RUs K G m H [u] vs) : ∃ v, vs = [v] ∧ RU K G m H u v := by
  obtain ⟨v, t, e, q, tl⟩ := r.uncons
  rw [tl.eqnil] at e
  exact ⟨v, e, q⟩
theorem RUs.two {u w : U} {vs : List V} (r : RUs K G m H [u, w] vs) : ∃ v z, vs = [v, z] ∧ RU K G m H u v ∧ RU K G m H w z := by
  obtain ⟨v, t, e, q, tl⟩ := r.uncons
  obtain ⟨z, e2, q2⟩ := tl.one1
  rw [e2] at e
  exact ⟨v, z, e, q, q2⟩
end
/-! len -/
def lenU : Op1 := fun u S => match u with
  | .str y => if y.length ≤ sizeLine then some (.int y.length, S) else none
  | u => match itmU S u with
    | some us => some (.int us.length, S)
    | none => none
theorem cu_len : CallU G X (.builtin "len") (on1 lenU) := CallR.imp call_len fun xs H Q ⟨m, S, us, z, S', st, r0, e0, q⟩ => by
  obtain ⟨u, rfl, e⟩ := on1_some e0
  obtain ⟨v, rfl, r⟩ := r0.one1
  unfold lenU at e
  split at e
  · split at e
    · cases e
      cases r
      exact ⟨_, _, rfl, ⟨by assumption, rfl⟩, q.here st rfl⟩
    · cases e
  · split at e
    · rename_i us e1
      cases e
      obtain ⟨a, vs, rfl, hq, rv⟩ := itmU_ok st r e1
      refine ⟨_, vs.length, rfl, ?_, q.here st (by rw [rv.length]; rfl)⟩
      rcases hq with hq | hq
      · exact .inr ⟨vs, hq, rfl⟩
      · exact .inl ⟨vs, hq, rfl⟩
    · cases e
def absU : Op1 := o1I fun i => .int (if i < 0 then -i else i)
theorem o1I_some {f : Int → U} {u : U} {S : Sto} {r : U × Sto} (h : o1I f u S = some r) : ∃ i, u = .int i ∧ r = (f i, S) := by
  unfold o1I at h
  split at h
  · cases h; exact ⟨_, rfl, rfl⟩
  · cases h
theorem cu_abs : CallU G X (.builtin "abs") (on1 absU) := CallR.imp call_abs fun xs H Q ⟨m, S, us, z, S', st, r0, e0, q⟩ => by
  obtain ⟨u, rfl, e⟩ := on1_some e0
  obtain ⟨v, rfl, r⟩ := r0.one1
  obtain ⟨i, rfl, er⟩ := o1I_some e
  cases er
  cases r
  exact ⟨i, rfl, q.here st rfl⟩
def maxU : Op2 := o2I fun i j => some (.int (if j > i then j else i))
def minU : Op2 := o2I fun i j => some (.int (if j < i then j else i))
theorem cu_max (hc : X.calm = true) : CallU G X (.builtin "max") (on2 maxU) := CallR.imp (call_max2 hc) fun xs H Q ⟨m, S, us, z, S', st, r0, e0, q⟩ => by
  obtain ⟨u, w, rfl, e⟩ := on2_some e0
  obtain ⟨v, v2, rfl, r, r2⟩ := r0.two
  obtain ⟨i, j, y, rfl, rfl, e1, er⟩ := o2I_some e
  cases e1; cases er; cases r; cases r2
  exact ⟨i, j, rfl, q.here st rfl⟩
theorem cu_min (hc : X.calm = true) : CallU G X (.builtin "min") (on2 minU) := CallR.imp (call_min2 hc) fun xs H Q ⟨m, S, us, z, S', st, r0, e0, q⟩ => by
  obtain ⟨u, w, rfl, e⟩ := on2_some e0
  obtain ⟨v, v2, rfl, r, r2⟩ := r0.two
  obtain ⟨i, j, y, rfl, rfl, e1, er⟩ := o2I_some e
  cases e1; cases er; cases r; cases r2
  exact ⟨i, j, rfl, q.here st rfl⟩
def intU : Op1 := fun u S => match u with
  | .int i => some (.int i, S)
  | .bl k => some (.int (if k then 1 else 0), S)
  | _ => none
theorem cu_int : CallU G X (.type "int") (on1 intU) := CallR.imp call_int1 fun xs H Q ⟨m, S, us, z, S', st, r0, e0, q⟩ => by
  obtain ⟨u, rfl, e⟩ := on1_some e0
  obtain ⟨v, rfl, r⟩ := r0.one1
  unfold intU at e
  split at e
  · cases e; cases r
    exact .inl ⟨_, rfl, q.here st rfl⟩
  · cases e; cases r
    exact .inr ⟨_, rfl, q.here st rfl⟩
  · cases e
def tupleU : Op1 := fun u S => match itmU S u with
  | some us => some (.tup us, S)
  | none => none
theorem cu_tuple : CallU G X (.type "tuple") (on1 tupleU) := CallR.imp call_tuple_of fun xs H Q ⟨m, S, us, z, S', st, r0, e0, q⟩ => by
  obtain ⟨u, rfl, e⟩ := on1_some e0
  obtain ⟨v, rfl, r⟩ := r0.one1
  unfold tupleU at e
  split at e
  · rename_i us e1
    cases e
    cases u with
    | tup us' =>
      cases e1
      have r' := r
      obtain ⟨a, vs, rfl, hq, rv⟩ := r.tupT
      exact ⟨a, vs, rfl, .inr ⟨hq, q.here st r'⟩⟩
    | lst us' =>
      cases e1
      obtain ⟨a, vs, rfl, hq, rv⟩ := r.lstL
      exact ⟨a, vs, rfl, .inl ⟨hq, q.tup st rv⟩⟩
    | scr us' =>
      cases e1
      obtain ⟨a, vs, rfl, hq, rv⟩ := r.scrL
      exact ⟨a, vs, rfl, .inl ⟨hq, q.tup st rv⟩⟩
    | ref n =>
      simp only [itmU] at e1
      split at e1
      · rename_i us' es
        cases e1
        obtain ⟨a, ho, ha, hH, vs, rfl, rv⟩ := st.at es
        unfold RU at r
        obtain ⟨a', rfl, ha'⟩ := r
        rw [ha] at ha'; cases ha'
        exact ⟨a, vs, rfl, .inl ⟨SqL.of hH, q.tup st rv⟩⟩
      · cases e1
    | _ => cases e1
  · cases e
def listU (mu : Bool) : Op1 := fun u S => match itmU S u with
  | some us => if mu then some (.ref S.length, S ++ [.lst us]) else some (.lst us, S)
  | none => none
theorem cu_list (mu : Bool) : CallU G X (.type "list") (on1 (listU mu)) := CallR.imp call_list_of fun xs H Q ⟨m, S, us, z, S', st, r0, e0, q⟩ => by
  obtain ⟨u, rfl, e⟩ := on1_some e0
  obtain ⟨v, rfl, r⟩ := r0.one1
  unfold listU at e
  split at e
  · rename_i us e1
    obtain ⟨a, vs, rfl, hq, rv⟩ := itmU_ok st r e1
    refine ⟨a, vs, rfl, hq.symm, ?_⟩
    cases mu with
    | true => cases e; exact q.cell st ⟨_, rfl, rv⟩
    | false => cases e; exact q.lst st rv
  · cases e
/-! all, any of bools -/
def boolsU : List U → Option (List Bool)
  | [] => some []
  | .bl b :: r => match boolsU r with
    | some bs => some (b :: bs)
    | none => none
  | _ => none
theorem boolsU_ok {K : PySem.W.Frag} {m : Mp} {H : Hp} : ∀ {us : List U} {vs : List V} {bs : List Bool}, RUs K G m H us vs → boolsU us = some bs → vs = bs.map V.bl
  | [], vs, bs, r, h => by
    cases h
    exact r.eqnil
  | u :: us, vs, bs, r, h => by
    obtain ⟨v, t, rfl, q, tl⟩ := r.uncons
    cases u with
    | bl b =>
      simp only [boolsU] at h
      split at h
      · rename_i bs' e
        cases h
        cases q
        rw [boolsU_ok tl e]
        rfl
      · cases h
    | _ => simp only [boolsU] at h; cases h
def allU (any : Bool) : Op1 := fun u S => match lstU S u with
  | some us => match boolsU us with
    | some bs => some (.bl (if any then bs.any id else bs.all id), S)
    | none => none
  | none => none
theorem cu_all (hc : X.calm = true) : CallU G X (.builtin "all") (on1 (allU false)) := CallR.imp (cr_all hc) fun xs H Q ⟨m, S, us, z, S', st, r0, e0, q⟩ => by
  obtain ⟨u, rfl, e⟩ := on1_some e0
  obtain ⟨v, rfl, r⟩ := r0.one1
  unfold allU at e
  split at e
  · rename_i us e1
    split at e
    · rename_i bs e2
      cases e
      obtain ⟨a, vs, rfl, hq, rv⟩ := lstU_ok st r e1
      exact ⟨a, bs, rfl, by rw [← boolsU_ok rv e2]; exact .inl hq, q.here st rfl⟩
    · cases e
  · cases e
theorem cu_any (hc : X.calm = true) : CallU G X (.builtin "any") (on1 (allU true)) := CallR.imp (cr_any hc) fun xs H Q ⟨m, S, us, z, S', st, r0, e0, q⟩ => by
  obtain ⟨u, rfl, e⟩ := on1_some e0
  obtain ⟨v, rfl, r⟩ := r0.one1
  unfold allU at e
  split at e
  · rename_i us e1
    split at e
    · rename_i bs e2
      cases e
      obtain ⟨a, vs, rfl, hq, rv⟩ := lstU_ok st r e1
      exact ⟨a, bs, rfl, by rw [← boolsU_ok rv e2]; exact .inl hq, q.here st rfl⟩
    · cases e
  · cases e
/-! isinstance, by a built-in class -/
def tyU (S : Sto) : U → Option String
  | .non => some "NoneType"
  | .bl _ => some "bool"
  | .int _ => some "int"
  | .str _ => some "str"
  | .tup _ => some "tuple"
  | .lst _ => some "list"
  | .dct _ => some "dict"
  | .ref n => match S[n]? with
    | some (.lst _) => some "list"
    | some (.dct _) => some "dict"
    | some (.dtt _) => some "dict"
    | _ => none
  | _ => none
theorem tyU_ok {K : PySem.W.Frag} {m : Mp} {H : Hp} {S : Sto} (st : Rst K G m H S) {u : U} {v : V} {T : String} (r : RU K G m H u v) (h : tyU S u = some T) : TyX K H v (.type T) := by
  cases u with
  | non => cases r; cases h; exact .base .non
  | bl b => cases r; cases h; exact .base (.bl b)
  | int i => cases r; cases h; exact .base (.int i)
  | str x => cases r; cases h; exact .base (.str x)
  | tup us =>
    cases h
    unfold RU at r
    obtain ⟨a, vs, rfl, hq, rv⟩ := r
    rcases hq with ⟨hq | ⟨o, hq⟩, _⟩ | ⟨o, _, _, hk, hc, _⟩
    · exact .base (.tup hq)
    · exact .fTuple hq
    · exact .kTuple hk hc
  | lst us =>
    cases h
    obtain ⟨a, vs, rfl, hq, _⟩ := r.lstR
    rcases hq with hq | ⟨o, hq⟩
    · exact .base (.lst hq)
    · exact .base (.frz hq)
  | dct us =>
    cases h
    unfold RU at r
    obtain ⟨a, vs, rfl, hq, _⟩ := r
    rcases hq with hq | ⟨o, hq⟩
    · exact .base (.dK hq)
    · exact .fDict hq
  | ref n =>
    unfold RU at r
    obtain ⟨a', rfl, ha'⟩ := r
    simp only [tyU] at h
    split at h
    · rename_i us e
      cases h
      obtain ⟨a, ho, ha, hH, vs, rfl, rv⟩ := st.at e
      rw [ha] at ha'; cases ha'
      exact .base (.lst hH)
    · rename_i us e
      cases h
      obtain ⟨a, ho, ha, hH, vs, rfl, rv⟩ := st.at e
      rw [ha] at ha'; cases ha'
      exact .base (.dK hH)
    · rename_i us e
      cases h
      obtain ⟨a, ho, ha, hH, vs, rfl, rv⟩ := st.at e
      rw [ha] at ha'; cases ha'
      exact .base (.dT hH)
    · cases h
  | _ => cases h
/-- isinstance(e, T), T the name of a built-in class -/
def cIsi (T : String) (c : Cm U) : Cm U := fun env S => match c env S with
  | none => none
  | some (u, S1) => match tyU S1 u with
    | none => none
    | some t => match kitB t T with
      | some r => some (.bl r, S1)
      | none => none
theorem ee_isi {T : String} {xT : Str} {pT : Pos} (hg : Gl X "isinstance") (hm : X.mg "isinstance" = none) (hgT : Gl X xT) (hmT : X.mg xT = none) (hvT : bootBuiltins xT = some (.type T)) (ha : EE G X a ca) (hnT : xT ≠ "__name__" := by decide) (hdT : (xT == ("__debug__" : Str)) = false := by decide)
    (he : starEach [a, .Name xT pT] X.env = (false, eval a X.env) :: starEach [.Name xT pT] X.env := by rfl) (he2 : starEach [.Name xT pT] X.env = (false, eval (.Name xT pT) X.env) :: starEach [] X.env := by rfl) (hpl : (backTo pos (starEach [.Name xT pT] X.env)).any (·.1) = false := by rfl) :
    EE G X (.Call (.Name "isinstance" p) [a, .Name xT pT] [] pos) (cIsi T ca) :=
  (pe_callB call_isi hg hm (by decide +kernel) (pa_cons ha (pa_cons (pe_bltn (v := .ty T) hgT hmT hvT rfl hnT hdT) pa_nil he2) he) (he := he) (hpl := hpl)).imp fun σ H Q ⟨m, S, env, z, S', st, re, hc, q⟩ => by
    unfold cIsi at hc
    split at hc
    · cases hc
    · rename_i u S1 e1
      split at hc
      · cases hc
      · rename_i t e2
        split at hc
        · rename_i r e3
          cases hc
          refine ⟨m, S, _, u, _, st, re, e1, fun m1 H1 v x1 st1 r1 => ?_⟩
          exact ⟨v, .ty T, .type t, .type T, r, rfl, .ty T, tyU_ok st1 r1 e2, kit_ty e3, q m1 H1 _ x1 st1 rfl⟩
        · cases hc
/-! names of the module: constants, tables -/
theorem ee_glob {u : U} {v : V} {w : Value} (hg : Gl X x) (hm : X.mg x = some w) (r : RelV v w) (hr : ∀ m H, RU X.K G m H u v) (hd : (x == ("__debug__" : Str)) = false := by decide) : EE G X (.Name x pos) (cCst u) := ee_cst u (pe_glob hg hm r hd) hr
/-- a written dict with text keys, read at a key that is there -/
def KTab (K : PySem.W.Frag) (w : World) (G : Gx) (d : Addr) (tbl : List (Str × U)) : Prop := ∀ z u, tbl.lookup z = some u → ∃ v, KDct K w d z v ∧ ∀ m H, RU K G m H u v
def cTab (tbl : List (Str × U)) (c : Cm U) : Cm U := fun env S => match c env S with
  | some (.str z, S1) => match tbl.lookup z with
    | some u => some (u, S1)
    | none => none
  | _ => none
theorem ee_tab {d : Addr} {tbl : List (Str × U)} {xpos : Pos} (hg : Gl X x) (hm : X.mg x = some (.ref d)) (hT : KTab X.K X.w G d tbl) (hb : EE G X b cb) (hs : PlainIx b := by intro _ _; rfl) (hd : (x == ("__debug__" : Str)) = false := by decide) : EE G X (.Subscript (.Name x xpos) b pos) (cTab tbl cb) :=
  (pe_ix ix_kdict (pe_glob (v := .ref d) hg hm rfl hd) hb hs).imp fun σ H Q ⟨m, S, env, z, S', st, re, hc, q⟩ => by
    unfold cTab at hc
    split at hc
    · rename_i k S1 e1
      split at hc
      · rename_i u e2
        cases hc
        obtain ⟨v, hk, hr⟩ := hT _ _ e2
        exact ⟨m, S, _, .str k, _, st, re, e1, fun m1 H1 y x1 st1 r1 => ⟨d, k, v, rfl, r1, hk, q m1 H1 v x1 st1 (hr m1 H1)⟩⟩
      · cases hc
    · cases hc
/-- a def out of a table, called -/
def cTabCall (F : Str → Option OpN) (c : Cm U) (r : Cm (List U)) : Cm U := fun env S => match c env S with
  | some (.fn n, S1) => match r env S1 with
    | some (us, S2) => match F n with
      | some f => f us S2
      | none => none
    | none => none
  | _ => none
theorem ee_callE {f0 : Expr} {F : Str → Option OpN} {k : Nat} (hf : EE G X f0 ca) (hF : ∀ n f, F n = some f → ∀ A, G.fns n = some A → ∃ fd ps, FnOk X.prog X.w X.K X.mg X.base CX0 k A fd ps (spU X.K G f) ∧ PySem.W.keepIn X.K (.ref A) = true ∧ Binds X.K fd ps []) (hr : Room k X.A) (ha : EA G X (e :: es) cl)
    (hev : eval (.Call f0 (e :: es) [] pos) X.env = (do callWith pos (← eval f0 X.env) [] (backTo pos (starEach (e :: es) X.env)) (backToKw pos (keywordEach [] X.env))) := by rfl)
    (he : starEach (e :: es) X.env = (false, eval e X.env) :: starEach es X.env := by rfl) (hpl : (backTo pos (starEach es X.env)).any (·.1) = false := by rfl) : EE G X (.Call f0 (e :: es) [] pos) (cTabCall F ca cl) := by
  refine ⟨fun pins s σ H Q I ⟨m, S, env, z, S', st, re, hc, q⟩ => ?_⟩
  unfold cTabCall at hc
  split at hc
  · rename_i n S1 e1
    split at hc
    · rename_i us S2 e2
      split at hc
      · rename_i f e3
        refine Call_ (thn (hf.run pins s σ H (fun v H1 => ∃ m1, Ext m H m1 H1 ∧ Rst X.K G m1 H1 S1 ∧ RU X.K G m1 H1 (.fn n) v) I ⟨m, S, env, _, S1, st, re, e1, fun m1 H1 v x1 st1 r1 => ⟨m1, x1, st1, r1⟩⟩) fun u s1 ⟨v, H1, I1, rv, m1, x1, st1, r1⟩ => ?_) hev
        unfold RU at r1
        obtain ⟨A, rfl, hA⟩ := r1
        cases rv
        obtain ⟨fd, ps, hok, hk, hb⟩ := hF n f e3 A hA
        refine PySem.W.callWith_K (h₀ := X.base) I.ok.mod.kin hk (thn (ha.run pos pins s1 σ H1 (fun vs H2 => spU X.K G f vs H2 Q E0) I1 ⟨m1, S1, env, us, S2, st1, re.keep x1.keeps, e2, fun m2 H2 vs x2 st2 r2 => ⟨m2, S2, us, z, S', st2, r2, hc, (q.mono x1).mono x2⟩⟩) fun us' s2 ⟨vs, H2, I2, r, q2⟩ => ⟨I2.kIn, ?_⟩) he hpl
        exact run_fn (dvs := []) hok hr hb .nil pass0 I2 r (by rw [List.append_nil]; exact q2)
      · cases hc
    · cases hc
  · cases hc
/-! methods of built-in types -/
def cMth (f : U → OpN) (a : Cm U) (r : Cm (List U)) : Cm U := fun env S => match a env S with
  | none => none
  | some (u, S1) => match r env S1 with
    | none => none
    | some (us, S2) => f u us S2
/-- the receiver is of this built-in type where it is evaluated -/
def tyOkU (T : String) (S : Sto) : U → Bool
  | .str _ => T == "str"
  | .lst _ => T == "list"
  | .ref n => match S[n]? with
    | some (.lst _) => T == "list"
    | some (.dct _) => T == "dict"
    | some (.dtt _) => T == "dict"
    | _ => false
  | _ => false
theorem tyOkU_ok {K : PySem.W.Frag} {m : Mp} {H : Hp} {S : Sto} {T : String} (st : Rst K G m H S) {u : U} {v : V} (r : RU K G m H u v) (h : tyOkU T S u = true) : tyV K T v H := by
  cases u with
  | str x => cases r; exact eq_of_beq h
  | lst us =>
    obtain ⟨a, vs, rfl, hq, rv⟩ := r.lstL
    exact .inl ⟨eq_of_beq h, vs, hq⟩
  | ref n =>
    unfold RU at r
    obtain ⟨a', rfl, ha'⟩ := r
    simp only [tyOkU] at h
    split at h
    · rename_i us e
      obtain ⟨a, ho, ha, hH, vs, rfl, rv⟩ := st.at e
      rw [ha] at ha'; cases ha'
      exact .inl ⟨eq_of_beq h, vs, SqL.of hH⟩
    · rename_i us e
      obtain ⟨a, ho, ha, hH, vs, rfl, rv⟩ := st.at e
      rw [ha] at ha'; cases ha'
      exact .inr (.inr (.inl ⟨eq_of_beq h, .inl ⟨vs, hH⟩⟩))
    · rename_i us e
      obtain ⟨a, ho, ha, hH, vs, rfl, rv⟩ := st.at e
      rw [ha] at ha'; cases ha'
      exact .inr (.inr (.inl ⟨eq_of_beq h, .inr ⟨vs, hH⟩⟩))
    · cases h
  | _ => cases h
def cMt (T : String) (f : U → OpN) (a : Cm U) (r : Cm (List U)) : Cm U := fun env S => match a env S with
  | none => none
  | some (u, S1) => if tyOkU T S1 u = true then (match r env S1 with
    | none => none
    | some (us, S2) => f u us S2) else none
abbrev MtU (G : Gx) (X : Cx) (id : String) (f : U → OpN) : Prop := MtR X id (rMU X.K G f)
theorem MtR.imp {id : String} {r r' : V → List V → Hp → VK → Prop} (h : MtR X id r) (i : ∀ x xs H Q, r' x xs H Q → r x xs H Q) : MtR X id r' := fun pins s σ H x xs v us Q I rx rv q => h pins s σ H x xs v us Q I rx rv (i x xs H Q q)
variable {name : Str} {T id : String} {f : U → OpN}
theorem re_mt {K : PySem.W.Frag} {σ : L2.St} {H : Hp} {Q : VK} (h : RE K G (cMt T f ca cl) σ H Q) : tBM K T (rMU K G f) (RE K G ca) (RA K G cl) σ H Q := by
  obtain ⟨m, S, env, z, S', st, re, hc, q⟩ := h
  unfold cMt at hc
  split at hc
  · cases hc
  · rename_i u S1 e1
    split at hc
    · rename_i ht
      split at hc
      · cases hc
      · rename_i us S2 e2
        refine ⟨m, S, env, u, S1, st, re, e1, fun m1 H1 v x1 st1 r1 => ⟨tyOkU_ok st1 r1 ht, m1, S1, env, us, S2, st1, re.keep x1.keeps, e2, fun m2 H2 xs x2 st2 r2 => ?_⟩⟩
        exact ⟨m2, S2, u, us, z, S', st2, RU.keep x2.keeps _ _ r1, r2, hc, (q.mono x1).mono x2⟩
    · cases hc
theorem ee_mt (pa : PlainAttrs T) (slot : Slot T name id) (hty : typeOf (.builtin id) = pure (.type "method_descriptor")) (hm : MtU G X id f) (ho : EE G X o ca) (ha : EA G X (e :: es) cl)
    (hbase : attributeBase o name X.env (eval o X.env) = eval o X.env := by rfl)
    (hfew : ((backTo cpos (starEach (e :: es) X.env)).all (fun x => !x.1) && (backToKw cpos (keywordEach [] X.env)).all (fun x => x.1.isSome)
      && decide ((e :: es).length + ([] : List Keyword).length + (if ([] : List Keyword).isEmpty then 0 else 1) < 30)) = true := by rfl)
    (hline : (apos.endLine == cpos.line) = true := by rfl) (hs : starEach (e :: es) X.env = (false, eval e X.env) :: starEach es X.env := by rfl) (hplain : (backTo cpos (starEach es X.env)).any (·.1) = false := by rfl) :
    EE G X (.Call (.Attribute o name apos) (e :: es) [] cpos) (cMt T f ca cl) := (pe_bm pa slot hty hm ho ha hbase hfew hline hs hplain).imp fun _ _ _ => re_mt
theorem ee_mt0 (pa : PlainAttrs T) (slot : Slot T name id) (hty : typeOf (.builtin id) = pure (.type "method_descriptor")) (hm : MtU G X id f) (ho : EE G X o ca)
    (hbase : attributeBase o name X.env (eval o X.env) = eval o X.env := by rfl) (hline : (apos.endLine == cpos.line) = true := by rfl) : EE G X (.Call (.Attribute o name apos) [] [] cpos) (cMt T f ca cNil) := (pe_bm0 pa slot hty hm ho hbase hline).imp fun σ H Q h => by
  obtain ⟨m, S, env, u, S1, st, re, e1, q⟩ := re_mt h
  refine ⟨m, S, env, u, S1, st, re, e1, fun m1 H1 v x1 st1 r1 => ?_⟩
  obtain ⟨h1, m2, S2, env2, us2, S3, st2, re2, e2, q2⟩ := q m1 H1 v x1 st1 r1
  cases e2
  exact ⟨h1, q2 m2 H1 [] (Ext.refl _ _) st2 RUs.nil⟩
/-! .. of lists -/
def cellL (S : Sto) (u : U) (k : Nat → List U → Option (U × Sto)) : Option (U × Sto) := match u with
  | .ref n => match S[n]? with
    | some (.lst us) => k n us
    | _ => none
  | _ => none
theorem cellL_some {S : Sto} {u : U} {k : Nat → List U → Option (U × Sto)} {r : U × Sto} (h : cellL S u k = some r) : ∃ n us, u = .ref n ∧ S[n]? = some (.lst us) ∧ k n us = some r := by
  unfold cellL at h
  split at h
  · rename_i n
    split at h
    · rename_i us e
      exact ⟨n, us, rfl, e, h⟩
    · cases h
  · cases h
theorem RU.cellAt {K : PySem.W.Frag} {m : Mp} {H : Hp} {n : Nat} {v : V} (h : RU K G m H (.ref n) v) : ∃ a, v = .ref a ∧ m.c[n]? = some a := by
  unfold RU at h
  exact h
/-- a changed cell, as the end of an operation -/
theorem After.setc {K : PySem.W.Frag} {m : Mp} {H : Hp} {S : Sto} {n : Nat} {a : Addr} {u : U} {v : V} {o : O} {ho : HO} {Q : VK} (q : After K G m H u (S.set n o) Q) (st : Rst K G m H S) (ha : m.c[n]? = some a) (ro : RO K G m H o ho) (ru : RU K G m H u v) : Q v (upd H a ho) := by
  have hm : a ∈ m.c := List.mem_of_getElem? ha
  exact q m _ v (Ext.set hm) (st.set ha (RO.keep (keeps_set hm) _ _ ro)) (RU.keep (keeps_set hm) _ _ ru)
def appU : U → OpN := fun u us S => match us with
  | [y] => cellL S u fun n xs => if xs.length < sizeLine then some (.non, S.set n (.lst (xs ++ [y]))) else none
  | _ => none
theorem mu_append : MtU G X "list.append" appU := MtR.imp mt_append fun x xs H Q ⟨m, S, u, us, z, S', st, r, rs, e, q⟩ => by
  unfold appU at e
  split at e
  · rename_i y
    obtain ⟨n, ws, rfl, es, e1⟩ := cellL_some e
    replace e := e1
    split at e
    · rename_i hl
      cases e
      obtain ⟨a, rfl, ha⟩ := r.cellAt
      obtain ⟨a', ho, ha', hH, vs, rfl, rv⟩ := st.at es
      rw [ha] at ha'; cases ha'
      obtain ⟨v, rfl, ry⟩ := rs.one1
      exact ⟨a, vs, v, rfl, rfl, hH, by rw [rv.length]; exact hl, q.setc st ha ⟨_, rfl, rv.append (RUs.one ry)⟩ rfl⟩
    · cases e
  · cases e
def popU : U → OpN := fun u us S => match us with
  | [] => cellL S u fun n xs => match xs[xs.length - 1]? with
    | some y => some (y, S.set n (.lst xs.dropLast))
    | none => none
  | _ => none
theorem RUs.dropLast {K : PySem.W.Frag} {m : Mp} {H : Hp} {us : List U} {vs : List V} (r : RUs K G m H us vs) : RUs K G m H us.dropLast vs.dropLast := by
  rw [List.dropLast_eq_take, List.dropLast_eq_take, r.length]
  exact r.take _
theorem mu_pop : MtU G X "list.pop" popU := MtR.imp mt_pop fun x xs H Q ⟨m, S, u, us, z, S', st, r, rs, e, q⟩ => by
  unfold popU at e
  split at e
  · obtain ⟨n, ws, rfl, es, e1⟩ := cellL_some e
    replace e := e1
    split at e
    · rename_i y hy
      cases e
      obtain ⟨a, rfl, ha⟩ := r.cellAt
      obtain ⟨a', ho, ha', hH, vs, rfl, rv⟩ := st.at es
      rw [ha] at ha'; cases ha'
      obtain ⟨v, ev, ry⟩ := rv.get hy
      exact ⟨a, vs, v, rfl, rs.eqnil, hH, by rw [rv.length]; exact ev, q.setc st ha ⟨_, rfl, rv.dropLast⟩ ry⟩
    · cases e
  · cases e
def popAtU : U → OpN := fun u us S => match us with
  | [.int i] => cellL S u fun n xs => if -(2 ^ 63) ≤ i ∧ i < 2 ^ 63 then (match seqIndex? i xs.length with
    | some k => match xs[k]? with
      | some y => some (y, S.set n (.lst (xs.eraseIdx k)))
      | none => none
    | none => none) else none
  | _ => none
theorem RUs.eraseIdx {K : PySem.W.Frag} {m : Mp} {H : Hp} {us : List U} {vs : List V} (r : RUs K G m H us vs) (k : Nat) : RUs K G m H (us.eraseIdx k) (vs.eraseIdx k) := by
  rw [List.eraseIdx_eq_take_drop_succ, List.eraseIdx_eq_take_drop_succ]
  exact (r.take k).append (r.drop (k + 1))
theorem mu_popAt : MtU G X "list.pop" popAtU := MtR.imp mt_popAt fun x xs H Q ⟨m, S, u, us, z, S', st, r, rs, e, q⟩ => by
  unfold popAtU at e
  split at e
  · rename_i i
    obtain ⟨n, ws, rfl, es, e1⟩ := cellL_some e
    replace e := e1
    split at e
    · rename_i hi
      split at e
      · rename_i k hk
        split at e
        · rename_i y hy
          cases e
          obtain ⟨a, rfl, ha⟩ := r.cellAt
          obtain ⟨a', ho, ha', hH, vs, rfl, rv⟩ := st.at es
          rw [ha] at ha'; cases ha'
          obtain ⟨w, rfl, rw'⟩ := rs.one1
          cases rw'
          obtain ⟨v, ev, ry⟩ := rv.get hy
          exact ⟨a, vs, i, k, v, rfl, rfl, hH, hi.1, hi.2, by rw [rv.length]; exact hk, ev, q.setc st ha ⟨_, rfl, rv.eraseIdx k⟩ ry⟩
        · cases e
      · cases e
    · cases e
  · cases e
def insU : U → OpN := fun u us S => match us with
  | [.int i, y] => cellL S u fun n xs => if xs.length < sizeLine ∧ 0 ≤ i ∧ i < 2 ^ 63 then some (.non, S.set n (.lst (xs.take i.toNat ++ [y] ++ xs.drop i.toNat))) else none
  | _ => none
theorem mu_insert : MtU G X "list.insert" insU := MtR.imp mt_insert fun x xs H Q ⟨m, S, u, us, z, S', st, r, rs, e, q⟩ => by
  unfold insU at e
  split at e
  · rename_i i y
    obtain ⟨n, ws, rfl, es, e1⟩ := cellL_some e
    replace e := e1
    split at e
    · rename_i hi
      cases e
      obtain ⟨a, rfl, ha⟩ := r.cellAt
      obtain ⟨a', ho, ha', hH, vs, rfl, rv⟩ := st.at es
      rw [ha] at ha'; cases ha'
      obtain ⟨w, v, rfl, rw', ry⟩ := rs.two
      cases rw'
      exact ⟨a, vs, i, v, rfl, rfl, hH, by rw [rv.length]; exact hi.1, hi.2.1, hi.2.2, q.setc st ha ⟨_, rfl, ((rv.take _).append (RUs.one ry)).append (rv.drop _)⟩ rfl⟩
    · cases e
  · cases e
/-! texts -/
def startU : U → OpN := fun u us S => match u, us with
  | .str a, [.str b] => some (.bl (Txt.startswith a b), S)
  | _, _ => none
theorem mu_startswith : MtU G X "str.startswith" startU := MtR.imp mt_startswith fun x xs H Q ⟨m, S, u, us, z, S', st, r, rs, e, q⟩ => by
  unfold startU at e
  split at e
  · cases e
    obtain ⟨v, rfl, rv⟩ := rs.one1
    cases rv
    cases r
    exact ⟨_, _, rfl, rfl, q.here st rfl⟩
  · cases e
/-! xs[i] = e -/
def sSetI (f : U → U → U → Sto → Option Sto) (o i v : Cm U) : Sm := fun env S => match v env S with
  | none => none
  | some (w, S1) => match o env S1 with
    | none => none
    | some (u, S2) => match i env S2 with
      | none => none
      | some (j, S3) => match f u j w S3 with
        | some S4 => some (.nx, env, S4)
        | none => none
def setL : U → U → U → Sto → Option Sto := fun u j w S => match u, j with
  | .ref n, .int k => match S[n]? with
    | some (.lst us) => match ixN us.length k with
      | some i => some (S.set n (.lst (us.set i w)))
      | none => none
    | _ => none
  | _, _ => none
theorem es_setL {i : Expr} {ci cv : Cm U} {pos' : Pos} (ho : EE G X o ca) (hi : EE G X i ci) (hv : EE G X e cv) (hs : swapsWithSole [.Subscript o i pos'] e pos.line X.env = pure false := by rfl) (hw : swappedStores [.Subscript o i pos'] e X.env = pure none := by rfl)
    (h1 : (assignEach [.Subscript o i pos'] X.env).map (·.2) = [assign (.Subscript o i pos') X.env] := by rfl) (ha : ∀ v, assign (.Subscript o i pos') X.env v = (do
      let ov ← holding [v] (eval o X.env)
      let iv ← holding [v, ov] (eval i X.env)
      standAt pos'
      holding [v, ov, iv] (setItem ov iv v)
      release [v, ov, iv] []) := by intro _; rfl) : ES G X (.Assign [.Subscript o i pos'] e pos) (sSetI setL ca ci cv) :=
  (ps_asg hv (pg_sub ho hi set_list ha) hs hw h1).imp fun D σ H ⟨m, S, env, fl, env', S', st, re, hc, q⟩ => by
    unfold sSetI at hc
    split at hc
    · cases hc
    · rename_i w S1 e1
      split at hc
      · cases hc
      · rename_i u S2 e2
        split at hc
        · cases hc
        · rename_i j S3 e3
          split at hc
          · rename_i S4 e4
            cases hc
            refine ⟨m, S, _, w, S1, st, re, e1, fun m1 H1 v x1 st1 r1 => ⟨m1, S1, _, u, S2, st1, re.keep x1.keeps, e2, fun m2 H2 y x2 st2 r2 => ⟨m2, S2, _, j, S3, st2, (re.keep x1.keeps).keep x2.keeps, e3, fun m3 H3 z x3 st3 r3 => ?_⟩⟩⟩
            unfold setL at e4
            split at e4
            · rename_i n k
              split at e4
              · rename_i us es
                split at e4
                · rename_i i' hi'
                  cases e4
                  obtain ⟨a, rfl, ha⟩ := r2.cellAt
                  have ha3 := x3.at ha
                  obtain ⟨a', ho, ha', hH, vs, rfl, rv⟩ := st3.at es
                  rw [ha3] at ha'; cases ha'
                  cases r3
                  have hm3 : a ∈ m3.c := List.mem_of_getElem? ha3
                  have rw3 := RU.keep (x2.trans x3).keeps _ _ r1
                  have x4 : Ext m3 H3 m3 (upd H3 a (.lst (vs.set i' v))) := Ext.set hm3
                  refine ⟨a, vs, k, i', rfl, rfl, hH, by rw [rv.length]; exact hi', ?_⟩
                  exact q m3 _ σ (((x1.trans x2).trans x3).trans x4) (st3.set ha3 ⟨_, rfl, RUs.keep (keeps_set hm3) _ _ (rv.set i' rw3)⟩) ((((re.keep x1.keeps).keep x2.keeps).keep x3.keeps).keep x4.keeps)
                · cases e4
              · cases e4
            · cases e4
          · cases hc
end OF

namespace OF
open PySem PySem.Spec PyProof.Rows L2
variable {X : Cx} {G : Gx}
variable {e f o a b c i tg iter : Expr} {es : List Expr} {ca cb cc ci cv : Cm U} {cl ck : Cm (List U)} {pos apos cpos p : Pos} {x : Str}

/-! dicts with int and text keys -/
def keyU : U → Option Key
  | .int i => some (.inl i)
  | .str x => some (.inr x)
  | _ => none
theorem keyU_ok {K : PySem.W.Frag} {m : Mp} {H : Hp} {u : U} {v : V} {k : Key} (r : RU K G m H u v) (h : keyU u = some k) : v = kV k := by
  cases u with
  | int i => cases r; cases h; rfl
  | str i => cases r; cases h; rfl
  | _ => cases h
def getK {α : Type} (kvs : List (Key × α)) (k : Key) : Option α := (kvs.find? fun kv => decide (kv.1 = k)).map (·.2)
def putKU {α : Type} (kvs : List (Key × α)) (k : Key) (v : α) : List (Key × α) :=
  if (kvs.any fun kv => decide (kv.1 = k)) = true then kvs.map (fun kv => if kv.1 = k then (kv.1, v) else kv) else kvs ++ [(k, v)]
section
variable {K : PySem.W.Frag} {m : Mp} {H : Hp} {S : Sto}
theorem RKs.uncons {k : Key} {u : U} {us : List (Key × U)} {vs : List (Key × V)} (r : RKs K G m H ((k, u) :: us) vs) : ∃ v t, vs = (k, v) :: t ∧ RU K G m H u v ∧ RKs K G m H us t := by
  unfold RKs at r
  exact r
theorem RKs.cons {k : Key} {u : U} {v : V} {us : List (Key × U)} {vs : List (Key × V)} (r : RU K G m H u v) (t : RKs K G m H us vs) : RKs K G m H ((k, u) :: us) ((k, v) :: vs) := by
  unfold RKs
  exact ⟨v, vs, rfl, r, t⟩
theorem RKs.nil : RKs K G m H [] [] := by unfold RKs; rfl
theorem RKs.eqnil {vs : List (Key × V)} (r : RKs K G m H [] vs) : vs = [] := by unfold RKs at r; exact r
theorem RKs.get {k : Key} : ∀ {us : List (Key × U)} {vs : List (Key × V)}, RKs K G m H us vs → (getK us k = none → valV vs k = none) ∧ ∀ u, getK us k = some u → ∃ v, valV vs k = some v ∧ RU K G m H u v
  | [], vs, r => by
    rw [r.eqnil]
    exact ⟨fun _ => rfl, fun u h => (by cases h)⟩
  | (k', u) :: us, vs, r => by
    obtain ⟨v, t, rfl, q, tl⟩ := r.uncons
    have ih := RKs.get (k := k) tl
    by_cases hk : k' = k
    · subst hk
      refine ⟨fun h => ?_, fun w h => ?_⟩
      · simp [getK] at h
      · simp [getK] at h
        subst h
        exact ⟨v, by simp [valV], q⟩
    · have e1 : getK ((k', u) :: us) k = getK us k := by simp [getK, hk]
      have e2 : valV ((k', v) :: t) k = valV t k := by simp [valV, hk]
      rw [e1, e2]
      exact ih
theorem RKs.any {k : Key} : ∀ {us : List (Key × U)} {vs : List (Key × V)}, RKs K G m H us vs → (us.any fun kv => decide (kv.1 = k)) = (vs.any fun kv => decide (kv.1 = k))
  | [], vs, r => by rw [r.eqnil]; rfl
  | (k', u) :: us, vs, r => by
    obtain ⟨v, t, rfl, q, tl⟩ := r.uncons
    simp only [List.any_cons]
    rw [RKs.any tl]
theorem RKs.append : ∀ {us us' : List (Key × U)} {vs vs' : List (Key × V)}, RKs K G m H us vs → RKs K G m H us' vs' → RKs K G m H (us ++ us') (vs ++ vs')
  | [], _, _, _, h, h' => by rw [h.eqnil]; exact h'
  | (k, u) :: us, us', vs, vs', h, h' => by
    obtain ⟨v, t, rfl, q, tl⟩ := h.uncons
    exact RKs.cons q (RKs.append tl h')
theorem RKs.mapPut {k : Key} {w : U} {z : V} (r : RU K G m H w z) : ∀ {us : List (Key × U)} {vs : List (Key × V)}, RKs K G m H us vs → RKs K G m H (us.map fun kv => if kv.1 = k then (kv.1, w) else kv) (vs.map fun kv => if kv.1 = k then (kv.1, z) else kv)
  | [], vs, h => by rw [h.eqnil]; exact RKs.nil
  | (k', u) :: us, vs, h => by
    obtain ⟨v, t, rfl, q, tl⟩ := h.uncons
    simp only [List.map_cons]
    by_cases hk : k' = k
    · rw [if_pos hk, if_pos hk]
      exact RKs.cons r (RKs.mapPut r tl)
    · rw [if_neg hk, if_neg hk]
      exact RKs.cons q (RKs.mapPut r tl)
theorem RKs.put {k : Key} {w : U} {z : V} {us : List (Key × U)} {vs : List (Key × V)} (r : RU K G m H w z) (h : RKs K G m H us vs) : RKs K G m H (putKU us k w) (putK vs k z) := by
  unfold putKU putK
  rw [h.any (k := k)]
  split
  · exact RKs.mapPut r h
  · exact h.append (RKs.cons r RKs.nil)
end
def dctU (S : Sto) : U → Option (List (Key × U))
  | .dct kvs => some kvs
  | .ref n => match S[n]? with
    | some (.dct kvs) => some kvs
    | _ => none
  | _ => none
theorem dctU_ok {K : PySem.W.Frag} {m : Mp} {H : Hp} {S : Sto} (st : Rst K G m H S) {u : U} {v : V} {us : List (Key × U)} (r : RU K G m H u v) (h : dctU S u = some us) : ∃ a vs, v = .ref a ∧ Rd H a (.dK vs) ∧ RKs K G m H us vs := by
  cases u with
  | dct us' =>
    cases h
    unfold RU at r
    obtain ⟨a, vs, rfl, hq, _, _, rv⟩ := r
    exact ⟨a, vs, rfl, hq, rv⟩
  | ref n =>
    simp only [dctU] at h
    split at h
    · rename_i us' e
      cases h
      obtain ⟨a, ho, ha, hH, vs, rfl, rv⟩ := st.at e
      obtain ⟨a', rfl, ha'⟩ := r.cellAt
      rw [ha] at ha'; cases ha'
      exact ⟨a, vs, rfl, .inl hH, rv⟩
    · cases h
  | _ => cases h
theorem dctU_keep {K : PySem.W.Frag} {m m2 : Mp} {H H2 : Hp} {S S2 : Sto} (st : Rst K G m H S) {u : U} {v : V} {us : List (Key × U)} (r : RU K G m H u v) (h : dctU S u = some us) : ∃ a, v = .ref a ∧ IsD H a := by
  obtain ⟨a, vs, e, hr, _⟩ := dctU_ok st r h
  exact ⟨a, e, .inl ⟨vs, hr⟩⟩
/-- {} as a cell -/
def cDNew : Cm U := fun _ S => some (.ref S.length, S ++ [.dct []])
theorem ee_dnew : EE G X (.Dict [] [] pos) cDNew := pe_dnewK.imp fun σ H Q ⟨m, S, env, z, S', st, re, hc, q⟩ => by
  cases hc
  exact q.cell st ⟨[], rfl, RKs.nil⟩
/-- d[k], there -/
def dixU : Op2 := fun a b S => match dctU S a, keyU b with
  | some kvs, some k => match getK kvs k with
    | some u => some (u, S)
    | none => none
  | _, _ => none
theorem ee_dix (hu : X.A.units + 1 < cLine) (ho : EE G X a ca) (hi : EE G X b cb) (hs : NoSl b := by intro _ _; rfl) : EE G X (.Subscript a b pos) (cBin dixU ca cb) := (pe_dget hu ho hi hs).imp fun σ H Q h => by
  obtain ⟨m, S, env, u, S1, st, re, e1, q⟩ := re_op h
  refine ⟨m, S, env, u, S1, st, re, e1, fun m1 H1 x x1 st1 r1 => ?_⟩
  obtain ⟨m2, S2, env2, u2, S3, st2, re2, e2, q2⟩ := q m1 H1 x x1 st1 r1
  refine ⟨m2, S2, env2, u2, S3, st2, re2, e2, fun m3 H3 y x3 st3 r3 => ?_⟩
  obtain ⟨m4, S4, u4, u5, z, S5, st4, r4, r5, e4, q4⟩ := q2 m3 H3 y x3 st3 r3
  unfold dixU at e4
  split at e4
  · rename_i kvs k h1 h2
    split at e4
    · rename_i w hw
      cases e4
      obtain ⟨a, vs, rfl, hr, rk⟩ := dctU_ok st4 r4 h1
      obtain ⟨v, ev, rv⟩ := (rk.get).2 _ hw
      exact ⟨a, v, rfl, .inl ⟨vs, k, hr, keyU_ok r5 h2, ev.symm⟩, q4.here st4 rv⟩
    · cases e4
  · cases e4
/-- xs[i] or d[k] -/
def subU : Op2 := orO ixU dixU
theorem ee_sub (hu : X.A.units + 1 < cLine) (ho : EE G X a ca) (hi : EE G X b cb) (hs : PlainIx b := by intro _ _; rfl) (hs2 : NoSl b := by intro _ _; rfl) : EE G X (.Subscript a b pos) (cBin subU ca cb) := ee_orO (ee_ix ho hi hs) (ee_dix hu ho hi hs2)
/-- k in d -/
def dinU (neg : Bool) : Op2 := fun b a S => match dctU S a, keyU b with
  | some kvs, some k => some (.bl (if neg then (getK kvs k).isNone else (getK kvs k).isSome), S)
  | _, _ => none
theorem pec_in {op : CmpOp} {t : TE} (h : PC X op a b t) (h1 : behindInMarks op b = false) : PE X (.Compare a [op] [b] pos) t := pe_cmp h h1
/-- d.get(k), d.get(k, x) -/
def cDGet (d k : Cm U) (x : Cm U) : Cm U := fun env S => match d env S with
  | none => none
  | some (u, S1) => match dctU S1 u with
    | none => none
    | some _ => match k env S1 with
      | none => none
      | some (kk, S2) => match x env S2 with
        | none => none
        | some (z, S3) => match dctU S3 u, keyU kk with
          | some kvs, some k => some ((getK kvs k).getD z, S3)
          | _, _ => none
theorem ee_dget1 (hu : X.A.units + 1 < cLine) (ho : EE G X o ca) (he : EE G X e cb) (mm : M1 X o "get" apos e cpos := by exact ⟨rfl, rfl, rfl, rfl⟩) : EE G X (.Call (.Attribute o "get" apos) [e] [] cpos) (cDGet ca cb (cCst .non)) := (pe_dget1 hu ho he mm).imp fun σ H Q ⟨m, S, env, z, S', st, re, hc, q⟩ => by
  unfold cDGet at hc
  split at hc
  · cases hc
  · rename_i u S1 e1
    split at hc
    · cases hc
    · rename_i kv0 d0
      split at hc
      · cases hc
      · rename_i kk S2 e2
        simp only [cCst] at hc
        split at hc
        · rename_i kvs k h1 h2
          cases hc
          refine ⟨m, S, _, u, S1, st, re, e1, fun m1 H1 v x1 st1 r1 => ?_⟩
          obtain ⟨a, ev, hd⟩ := dctU_keep (m2 := m1) (H2 := H1) (S2 := S1) st1 r1 d0
          refine ⟨a, ev, hd, m1, S1, _, kk, _, st1, re.keep x1.keeps, e2, fun m2 H2 y x2 st2 r2 => ?_⟩
          have r1' := RU.keep x2.keeps _ _ r1
          obtain ⟨a', vs, ev', hr, rk⟩ := dctU_ok st2 r1' h1
          have : a' = a := by rw [ev] at ev'; cases ev'; rfl
          subst this
          refine ⟨valV vs k, .inl ⟨vs, k, hr, keyU_ok r2 h2, rfl⟩, ?_⟩
          have g := rk.get (k := k)
          cases hg : getK kvs k with
          | none =>
            rw [g.1 hg]
            rw [hg] at q
            exact q m2 H2 _ (x1.trans x2) st2 rfl
          | some w =>
            obtain ⟨v', ev', rv'⟩ := g.2 w hg
            rw [ev']
            rw [hg] at q
            exact q m2 H2 _ (x1.trans x2) st2 rv'
        · cases hc
theorem ee_dget2 (hu : X.A.units + 1 < cLine) (ho : EE G X o ca) (he : EE G X e cb) (hf : EE G X f cc) (mm : M2 X o "get" apos e f cpos := by exact ⟨rfl, rfl, rfl, rfl⟩) : EE G X (.Call (.Attribute o "get" apos) [e, f] [] cpos) (cDGet ca cb cc) := (pe_dget2 hu ho he hf mm).imp fun σ H Q ⟨m, S, env, z, S', st, re, hc, q⟩ => by
  unfold cDGet at hc
  split at hc
  · cases hc
  · rename_i u S1 e1
    split at hc
    · cases hc
    · rename_i kv0 d0
      split at hc
      · cases hc
      · rename_i kk S2 e2
        split at hc
        · cases hc
        · rename_i zz S3 e3
          split at hc
          · rename_i kvs k h1 h2
            cases hc
            refine ⟨m, S, _, u, S1, st, re, e1, fun m1 H1 v x1 st1 r1 => ?_⟩
            obtain ⟨a, ev, hd⟩ := dctU_keep (m2 := m1) (H2 := H1) (S2 := S1) st1 r1 d0
            refine ⟨a, ev, hd, m1, S1, _, kk, _, st1, re.keep x1.keeps, e2, fun m2 H2 y x2 st2 r2 => ⟨m2, S2, _, zz, _, st2, (re.keep x1.keeps).keep x2.keeps, e3, fun m3 H3 y3 x3 st3 r3 => ?_⟩⟩
            have r1' := RU.keep (x2.trans x3).keeps _ _ r1
            obtain ⟨a', vs, ev', hr, rk⟩ := dctU_ok st3 r1' h1
            have : a' = a := by rw [ev] at ev'; cases ev'; rfl
            subst this
            refine ⟨valV vs k, .inl ⟨vs, k, hr, keyU_ok r2 h2, rfl⟩, ?_⟩
            have g := rk.get (k := k)
            cases hg : getK kvs k with
            | none =>
              rw [g.1 hg]
              rw [hg] at q
              exact q m3 H3 _ ((x1.trans x2).trans x3) st3 r3
            | some w =>
              obtain ⟨v', ev', rv'⟩ := g.2 w hg
              rw [ev']
              rw [hg] at q
              exact q m3 H3 _ ((x1.trans x2).trans x3) st3 rv'
          · cases hc
/-- d[k] = v -/
def setD : U → U → U → Sto → Option Sto := fun u j w S => match u, keyU j with
  | .ref n, some k => match S[n]? with
    | some (.dct kvs) => if kvs.length < sizeLine then some (S.set n (.dct (putKU kvs k w))) else none
    | _ => none
  | _, _ => none
theorem es_setD {pos' : Pos} (hu : X.A.units + 1 < cLine) (ho : EE G X o ca) (hi : EE G X i ci) (hv : EE G X e cv) (hs : swapsWith e (some (.Subscript o i pos')) pos.line X.env = pure false := by rfl) : ES G X (.Assign [.Subscript o i pos'] e pos) (sSetI setD ca ci cv) :=
  (ps_dput hu ho hi hv hs).imp fun D σ H ⟨m, S, env, fl, env', S', st, re, hc, q⟩ => by
    unfold sSetI at hc
    split at hc
    · cases hc
    · rename_i w S1 e1
      split at hc
      · cases hc
      · rename_i u S2 e2
        split at hc
        · cases hc
        · rename_i j S3 e3
          split at hc
          · rename_i S4 e4
            cases hc
            refine ⟨m, S, _, w, S1, st, re, e1, fun m1 H1 v x1 st1 r1 => ⟨m1, S1, _, u, S2, st1, re.keep x1.keeps, e2, fun m2 H2 y x2 st2 r2 => ⟨m2, S2, _, j, S3, st2, (re.keep x1.keeps).keep x2.keeps, e3, fun m3 H3 z x3 st3 r3 => ?_⟩⟩⟩
            unfold setD at e4
            split at e4
            · rename_i n k hk
              split at e4
              · rename_i kvs es
                split at e4
                · rename_i hl
                  cases e4
                  obtain ⟨a, rfl, ha⟩ := r2.cellAt
                  have ha3 := x3.at ha
                  obtain ⟨a', ho, ha', hH, vs, rfl, rv⟩ := st3.at es
                  rw [ha3] at ha'; cases ha'
                  have hm3 : a ∈ m3.c := List.mem_of_getElem? ha3
                  have rw3 := RU.keep (x2.trans x3).keeps _ _ r1
                  have x4 : Ext m3 H3 m3 (upd H3 a (.dK (putK vs k v))) := Ext.set hm3
                  refine ⟨a, _, rfl, .inl ⟨vs, k, hH, keyU_ok r3 hk, by rw [rv.length]; exact hl, rfl⟩, ?_⟩
                  exact q m3 _ σ (((x1.trans x2).trans x3).trans x4) (st3.set ha3 ⟨_, rfl, RKs.keep (keeps_set hm3) _ _ (rv.put rw3)⟩) ((((re.keep x1.keeps).keep x2.keeps).keep x3.keeps).keep x4.keeps)
                · cases e4
              · cases e4
            · cases e4
          · cases hc
end OF

namespace OF
open PySem PySem.Spec PyProof.Rows L2
variable {X : Cx} {G : Gx}
variable {e f o a b c i tg iter : Expr} {es : List Expr} {ca cb cc ci cv : Cm U} {cl ck : Cm (List U)} {pos apos cpos p : Pos} {x y z : Str}

abbrev oSub : Op2 := o2I fun i j => some (.int (i - j))
abbrev oAnd : Op2 := o2I fun i j => some (.int (Builtin.bitAnd i j))
abbrev oXor : Op2 := o2I fun i j => some (.int (Builtin.bitXor i j))
abbrev oLt : Op2 := o2I fun i j => some (.bl (decide (i < j)))
abbrev oLe : Op2 := o2I fun i j => some (.bl (decide (i ≤ j)))
abbrev oGt : Op2 := o2I fun i j => some (.bl (decide (j < i)))
abbrev oGe : Op2 := o2I fun i j => some (.bl (decide (j ≤ i)))
abbrev oNeg : Op1 := o1I fun i => .int (-i)

/-! a, b = x, y and a, b, c = x, y, z with plain local names -/
def sPar2 (i j : Nat) (a : Cm (List U)) : Sm := fun env S => match a env S with
  | some ([u, w], S1) => some (.nx, (env.set i (some u)).set j (some w), S1)
  | _ => none
def sPar3 (i j l : Nat) (a : Cm (List U)) : Sm := fun env S => match a env S with
  | some ([u, v, w], S1) => some (.nx, ((env.set i (some u)).set j (some v)).set l (some w), S1)
  | _ => none
theorem es_par2 {i j : Nat} {px py pt : Pos} {kt k2 pt2} (hc : X.calm = true) (hN : X.N.Nodup) (hi : X.N[i]? = some x) (hj : X.N[j]? = some y) (hij : i ≠ j)
    (hx : X.env.scope.names.lookup x = some .local) (hy : X.env.scope.names.lookup y = some .local) (ha : EA G X [a, b] cl)
    (hw : swappedStores [.Tuple [.Name x px, .Name y py] kt pt] (.Tuple [a, b] k2 pt2) X.env = pure (some [x, y]))
    (hs : swapsWithSole [.Tuple [.Name x px, .Name y py] kt pt] (.Tuple [a, b] k2 pt2) pos.line X.env = pure false := by rfl) :
    ES G X (.Assign [.Tuple [.Name x px, .Name y py] kt pt] (.Tuple [a, b] k2 pt2) pos) (sPar2 i j cl) := (ps_par hc hN hi hj hij hx hy ha hw hs).imp fun D σ H ⟨m, S, env, fl, env', S', st, re, hc, q⟩ => by
  unfold sPar2 at hc
  split at hc
  · rename_i u w S1 e1
    cases hc
    refine ⟨m, S, _, _, _, st, re, e1, fun m1 H1 vs x1 st1 r1 => ?_⟩
    obtain ⟨v, v2, rfl, r, r2⟩ := r1.two
    exact ⟨v, v2, rfl, q m1 H1 _ x1 st1 (((re.keep x1.keeps).set i r).set j r2)⟩
  · cases hc
theorem es_par3 {i j l : Nat} {px py pz pt : Pos} {kt k2 pt2} (hc : X.calm = true) (hN : X.N.Nodup) (hi : X.N[i]? = some x) (hj : X.N[j]? = some y) (hl : X.N[l]? = some z) (hij : i ≠ j) (hil : i ≠ l) (hjl : j ≠ l)
    (hx : X.env.scope.names.lookup x = some .local) (hy : X.env.scope.names.lookup y = some .local) (hz : X.env.scope.names.lookup z = some .local) (ha : EA G X [a, b, c] cl)
    (hw : swappedStores [.Tuple [.Name x px, .Name y py, .Name z pz] kt pt] (.Tuple [a, b, c] k2 pt2) X.env = pure (some [x, y, z]))
    (hs : swapsWithSole [.Tuple [.Name x px, .Name y py, .Name z pz] kt pt] (.Tuple [a, b, c] k2 pt2) pos.line X.env = pure false := by rfl) :
    ES G X (.Assign [.Tuple [.Name x px, .Name y py, .Name z pz] kt pt] (.Tuple [a, b, c] k2 pt2) pos) (sPar3 i j l cl) := (ps_par3 hc hN hi hj hl hij hil hjl hx hy hz ha hw hs).imp fun D σ H ⟨m, S, env, fl, env', S', st, re, hc, q⟩ => by
  unfold sPar3 at hc
  split at hc
  · rename_i u v w S1 e1
    cases hc
    refine ⟨m, S, _, _, _, st, re, e1, fun m1 H1 vs x1 st1 r1 => ?_⟩
    obtain ⟨v1, t, rfl, r, tl⟩ := r1.uncons
    obtain ⟨v2, v3, rfl, r2, r3⟩ := tl.two
    exact ⟨v1, v2, v3, rfl, q m1 H1 _ x1 st1 ((((re.keep x1.keeps).set i r).set j r2).set l r3)⟩
  · cases hc
/-! name = [..] on one line -/
theorem es_setLc {i : Nat} {py : Pos} {elt : Expr} {ifs : List Expr} {scope : Scope} {own : List (Str × Nat)} {spos : Pos} {it : Cm (List U)} {pt : Pat} {t : Cm Bool} {c : Cm U} (hc : X.calm = true) (hN : X.N.Nodup) (hy : X.N[i]? = some y) (hyl : X.env.scope.names.lookup y = some .local)
    (hsw : swapsWith (.ListComp elt [⟨tg, iter, ifs, 0⟩] scope pos) (some (.Name y py)) spos.line X.env = pure true) (hi : EI G X tg iter it) (ok : BlkOk X.N X.env.scope scope own)
    (hg : ∀ (s : Shared) (H : Hp) (C : Addr) (cl : List (Str × Addr)) (fp : List Addr), EPt (X.blk s H scope (compEnvC scope cl C X.env) fp) tg pt) (ht : ∀ (s : Shared) (H : Hp) (C : Addr) (cl : List (Str × Addr)) (fp : List Addr), ETs G (X.blk s H scope (compEnvC scope cl C X.env) fp) ifs t)
    (he : ∀ (s : Shared) (H : Hp) (C : Addr) (cl : List (Str × Addr)) (fp : List Addr), EE G (X.blk s H scope (compEnvC scope cl C X.env) fp) elt c) (hsl : ∀ i ∈ pt.slots, i ∈ own.map (·.2)) (hs : ∀ x, foldedSetIterable iter X.env x = pure x := by intro _; rfl) :
    ES G X (.Assign [.Name y py] (.ListComp elt [⟨tg, iter, ifs, 0⟩] scope pos) spos) (sAsg (cLc it pt t c (own.map (·.2))) (gmName i)) := (ps_setLc hc hN hy hyl hsw hi ok hg ht he hs).imp fun D σ H h => by
  obtain ⟨m, S, env, fl, env', S', st, re, hc, q⟩ := h
  unfold sAsg at hc
  split at hc
  · cases hc
  · rename_i u S1 e1
    cases hc
    unfold cLc at e1
    split at e1
    · cases e1
    · rename_i ys S2 e2
      cases e1
      refine re_lc hsl st re e2 fun m' H' D zs x hD nx st' hd r => ?_
      have st2 : Rst X.K G m' H' S' := Rst.forget (c := m'.c) (x := D :: m'.x) st' fun a ha => List.mem_cons_of_mem _ ha
      refine q m' H' _ x st2 ((re.keep x.keeps).set i ?_)
      unfold RU
      exact ⟨D, zs, rfl, .inl hd, st'.nx D (by simp), nx, RUs.keep (keeps_forget fun a ha => List.mem_cons_of_mem _ ha) _ _ r⟩
theorem es_setLcM {i : Nat} {py : Pos} {elt : Expr} {ifs : List Expr} {scope : Scope} {own : List (Str × Nat)} {spos : Pos} {it : Cm (List U)} {pt : Pat} {t : Cm Bool} {c : Cm U} (hc : X.calm = true) (hN : X.N.Nodup) (hy : X.N[i]? = some y) (hyl : X.env.scope.names.lookup y = some .local)
    (hsw : swapsWith (.ListComp elt [⟨tg, iter, ifs, 0⟩] scope pos) (some (.Name y py)) spos.line X.env = pure true) (hi : EI G X tg iter it) (ok : BlkOk X.N X.env.scope scope own)
    (hg : ∀ (s : Shared) (H : Hp) (C : Addr) (cl : List (Str × Addr)) (fp : List Addr), EPt (X.blk s H scope (compEnvC scope cl C X.env) fp) tg pt) (ht : ∀ (s : Shared) (H : Hp) (C : Addr) (cl : List (Str × Addr)) (fp : List Addr), ETs G (X.blk s H scope (compEnvC scope cl C X.env) fp) ifs t)
    (he : ∀ (s : Shared) (H : Hp) (C : Addr) (cl : List (Str × Addr)) (fp : List Addr), EE G (X.blk s H scope (compEnvC scope cl C X.env) fp) elt c) (hsl : ∀ i ∈ pt.slots, i ∈ own.map (·.2)) (hs : ∀ x, foldedSetIterable iter X.env x = pure x := by intro _; rfl) :
    ES G X (.Assign [.Name y py] (.ListComp elt [⟨tg, iter, ifs, 0⟩] scope pos) spos) (sAsg (cLcM it pt t c (own.map (·.2))) (gmName i)) := (ps_setLc hc hN hy hyl hsw hi ok hg ht he hs).imp fun D σ H h => by
  obtain ⟨m, S, env, fl, env', S', st, re, hc, q⟩ := h
  unfold sAsg at hc
  split at hc
  · cases hc
  · rename_i u S1 e1
    cases hc
    exact re_lcM (c := c) hsl ⟨m, S, _, u, _, st, re, e1, fun m1 H1 v x1 st1 r1 => q m1 H1 _ x1 st1 ((re.keep x1.keeps).set i r1)⟩
/-! a < b <= c -/
def cChain (f g : Op2) (a b c : Cm U) : Cm U := fun env S => match a env S with
  | none => none
  | some (u, S1) => match b env S1 with
    | none => none
    | some (v, S2) => match f u v S2 with
      | some (.bl true, S3) => (match c env S3 with
        | none => none
        | some (w, S4) => g v w S4)
      | some (.bl false, S3) => some (.bl false, S3)
      | _ => none
theorem re_chain {K : PySem.W.Frag} {f g : Op2} {σ : L2.St} {H : Hp} {Q : VK} (h : RE K G (cChain f g ca cb cc) σ H Q) : tChain (r2U K G f) (r2U K G g) (RE K G ca) (RE K G cb) (RE K G cc) σ H Q := by
  obtain ⟨m, S, env, z, S', st, re, hc, q⟩ := h
  unfold cChain at hc
  split at hc
  · cases hc
  · rename_i u S1 e1
    split at hc
    · cases hc
    · rename_i v S2 e2
      refine ⟨m, S, env, u, S1, st, re, e1, fun m1 H1 x x1 st1 r1 => ⟨m1, S1, env, v, S2, st1, re.keep x1.keeps, e2, fun m2 H2 y x2 st2 r2 => ?_⟩⟩
      have r1' := RU.keep x2.keeps _ _ r1
      split at hc
      · rename_i S3 e3
        split at hc
        · cases hc
        · rename_i w S4 e4
          refine ⟨m2, S2, u, v, _, S3, st2, r1', r2, e3, fun m3 H3 z' x3 st3 r3 => ⟨true, r3, iteT ?_⟩⟩
          refine ⟨m3, S3, env, w, S4, st3, ((re.keep x1.keeps).keep x2.keeps).keep x3.keeps, e4, fun m4 H4 w' x4 st4 r4 => ?_⟩
          exact ⟨m4, S4, v, w, z, S', st4, RU.keep (x3.trans x4).keeps _ _ r2, r4, hc, (((q.mono x1).mono x2).mono x3).mono x4⟩
      · rename_i S3 e3
        cases hc
        exact ⟨m2, S2, u, v, _, _, st2, r1', r2, e3, fun m3 H3 z' x3 st3 r3 => ⟨false, r3, iteF (q m3 H3 _ ((x1.trans x2).trans x3) st3 rfl)⟩⟩
      · cases hc
theorem ee_chain {op op' : CmpOp} {f g : Op2} (ho : OpU G X (compareOp op) f) (ho' : OpU G X (compareOp op') g) (ha : EE G X a ca) (hb : EE G X b cb) (hc : EE G X c cc) (hm : lastMarks [op, op'] [b, c] = false := by with_unfolding_all rfl) : EE G X (.Compare a [op, op'] [b, c] pos) (cChain f g ca cb cc) := (pe_chain ho ho' ha hb hc hm).imp fun _ _ _ => re_chain
def cTest (a : Cm U) : Cm Bool := fun env S => match a env S with
  | some (.bl k, S1) => some (k, S1)
  | _ => none
theorem et_chain {op op' : CmpOp} {f g : Op2} (ho : OpU G X (compareOp op) f) (ho' : OpU G X (compareOp op') g) (ha : EE G X a ca) (hb : EE G X b cb) (hc : EE G X c cc) (hm : lastMarks [op, op'] [b, c] = false := by with_unfolding_all rfl) : ET G X (.Compare a [op, op'] [b, c] pos) (cTest (cChain f g ca cb cc)) := (pt_chain ho ho' ha hb hc hm).imp fun σ H Q ⟨m, S, env, k, S', st, re, hc, q⟩ => by
  unfold cTest at hc
  split at hc
  · rename_i k' S1 e1
    cases hc
    exact re_chain ⟨m, S, _, _, _, st, re, e1, fun m1 H1 v x1 st1 r1 => ⟨k, r1, q m1 H1 x1 st1⟩⟩
  · cases hc
/-! defs with defaults -/
theorem fn_okD {P : Program} {w : World} {K : PySem.W.Frag} {mg : Str → Option Value} {base : Heap} {x qual : Str} {params : Arguments} {body : List Stmt} {scope : Scope} {dvs : List V} {kws : List (Str × V)} {f : Addr} {fd : FuncData} {N ps : List Str} {k np n : Nat} {s : Sm} (hnp : ps.length = np) (hn : N.length = n) (F : FunD K x qual params body scope dvs kws f fd) (S : FnScope N ps scope)
    (h : ∀ (cdv : Value) (A : Around) (outer : List Env) (s0 : Shared) (H : Hp) (E : XK), Room k (A.deeper (envOfC qual scope s0.heap.objs.size f cdv)) →
      ESs G (cxOf CX0 P w K mg base N qual scope f cdv A outer s0 H E).nox body s) :
    FnOk P w K mg base CX0 (k + 1) f fd ps (spU K G (runF s np n)) := by
  subst hnp hn
  refine F.ok S (fun vs H Q E h => spU_len runF_len h) fun cdv A outer s0 H vs Q E hr hsp => ?_
  obtain ⟨m, S0, us, z, S', st, r, e, q⟩ := hsp
  refine ⟨_, (h cdv A outer s0 H E hr).nox, ?_⟩
  unfold runF at e
  split at e
  · split at e
    · rename_i u env' S1 e1
      cases e
      exact ⟨m, S0, _, _, _, _, st, r.begin_, e1, q⟩
    · rename_i env' S1 e1
      cases e
      exact ⟨m, S0, _, _, _, _, st, r.begin_, e1, fun m1 H1 σ1 x1 st1 re1 => q m1 H1 .non x1 st1 rfl⟩
    · cases e
  · cases e
end OF

namespace OF
open PySem PySem.Spec PyProof.Rows L2
/-! the law's own promise -/
def spLaw (K : PySem.W.Frag) : Sp := fun vs H Q _ => ∃ (a : Addr) (ns : List Int), vs = [.ref a] ∧ SqL K H a (ns.map V.int) ∧ ns.length ≤ 63 ∧ ∀ H', Q (.bl true) H'
theorem RUs.ints {K : PySem.W.Frag} {G : Gx} {m : Mp} {H : Hp} : ∀ ns : List Int, RUs K G m H (ns.map U.int) (ns.map V.int)
  | [] => RUs.nil
  | _ :: r => RUs.cons rfl (RUs.ints r)
theorem norefs_ints : ∀ ns : List Int, norefs (ns.map U.int) = true
  | [] => rfl
  | _ :: r => by
    show (true && norefs (r.map U.int)) = true
    rw [norefs_ints r]; rfl
theorem sp_law {K : PySem.W.Frag} {G : Gx} {P : Pf} (h : ∀ ns : List Int, ns.length ≤ 63 → P [.scr (ns.map .int)] = some (.bl true)) : ∀ vs H Q E, spLaw K vs H Q E → spU K G (liftP P) vs H Q E := by
  intro vs H Q E ⟨a, ns, ev, hS, hl, q⟩
  subst ev
  have hno : norefs [U.scr (ns.map .int)] = true := by
    show (norefs (ns.map U.int) && true) = true
    rw [norefs_ints]; rfl
  refine ⟨⟨[], []⟩, [], [.scr (ns.map .int)], .bl true, [], ⟨by simp, rfl, fun n o a h => by simp at h, fun a h => by simp at h, fun a h => by simp at h⟩, RUs.one ?_, ?_, fun m' H' v x st r => ?_⟩
  · unfold RU
    refine ⟨a, ns.map V.int, rfl, ?_, RUs.ints ns⟩
    rcases hS with hS | hS
    · exact .inl ⟨hS, by simp, by simp⟩
    · exact .inr hS
  · unfold liftP
    rw [if_pos hno, h ns hl]
  · cases r
    exact q H'
theorem ok_end {P : Program} {w : World} {K : PySem.W.Frag} {mg : Str → Option Value} {base : Heap} {G : Gx} {k : Nat} {f : Addr} {fd : FuncData} {ps : List Str} {F : Pf} (h : FnOk P w K mg base CX0 k f fd ps (spU K G (liftP F))) (ht : ∀ ns : List Int, ns.length ≤ 63 → F [.scr (ns.map .int)] = some (.bl true)) :
    FnOk P w K mg base CX0 k f fd ps (spLaw K) := h.imp (sp_law ht)
/-- a written dict's keys -/
theorem ktab_nil {K : PySem.W.Frag} {w : World} {G : Gx} {d : Addr} : KTab K w G d [] := fun z u h => by cases h
theorem ktab_cons {K : PySem.W.Frag} {w : World} {G : Gx} {d : Addr} {z : Str} {u : U} {v : V} {uv : Value} {r : List (Str × U)} {es : Array DictEntry} {n : Nat} (hl : K.lookup d = some ⟨.type "dict", none, .dict es n, #[]⟩) (hk : PySem.W.KeysLit w.params es.toList) (hn : PySem.W.nsIn K d z = some (some uv)) (hv : RelV v uv) (hu : ∀ m H, RU K G m H u v) (t : KTab K w G d r) : KTab K w G d ((z, u) :: r) := fun y w' h => by
  simp only [List.lookup_cons] at h
  split at h
  · rename_i e
    cases h
    have : y = z := eq_of_beq e
    subst this
    exact ⟨v, ⟨es, n, uv, hl, hk, hn, hv⟩, hu⟩
  · exact t y w' h
end OF

namespace OF
open PySem PySem.Spec PyProof.Rows L2
variable {X : Cx} {G : Gx}

/-! == and != : plain things first, then data -/
def eqB : U → U → Option Bool
  | .non, .non => some true
  | .non, .int _ => some false
  | .int _, .non => some false
  | .non, .bl _ => some false
  | .bl _, .non => some false
  | .non, .str _ => some false
  | .str _, .non => some false
  | .int i, .int j => some (decide (i = j))
  | .bl i, .bl j => some (decide (i = j))
  | .str i, .str j => some (decide (i = j))
  | .int _, .str _ => some false
  | .str _, .int _ => some false
  | .bl _, .str _ => some false
  | .str _, .bl _ => some false
  | _, _ => none
def eqS (neg : Bool) : Op2 := fun a b S => match eqB a b with
  | some k => some (.bl (if neg then !k else k), S)
  | none => none
theorem eqB_ok {K : PySem.W.Frag} {m : Mp} {H : Hp} {u1 u2 : U} {x y : V} {k : Bool} (r1 : RU K G m H u1 x) (r2 : RU K G m H u2 y) (h : eqB u1 u2 = some k) : scal x y = true ∧ decide (x = y) = k := by
  cases u1 with
  | non =>
    cases r1
    cases u2 with
    | non => cases r2; cases h; exact ⟨rfl, by simp⟩
    | int j => cases r2; cases h; exact ⟨rfl, by simp⟩
    | bl j => cases r2; cases h; exact ⟨rfl, by simp⟩
    | str j => cases r2; cases h; exact ⟨rfl, by simp⟩
    | _ => cases h
  | bl i =>
    cases r1
    cases u2 with
    | non => cases r2; cases h; exact ⟨rfl, by simp⟩
    | bl j => cases r2; cases h; exact ⟨rfl, by rw [Bool.eq_iff_iff]; simp⟩
    | str j => cases r2; cases h; exact ⟨rfl, by simp⟩
    | _ => cases h
  | int i =>
    cases r1
    cases u2 with
    | non => cases r2; cases h; exact ⟨rfl, by simp⟩
    | int j => cases r2; cases h; exact ⟨rfl, by rw [Bool.eq_iff_iff]; simp⟩
    | str j => cases r2; cases h; exact ⟨rfl, by simp⟩
    | _ => cases h
  | str i =>
    cases r1
    cases u2 with
    | non => cases r2; cases h; exact ⟨rfl, by simp⟩
    | bl j => cases r2; cases h; exact ⟨rfl, by simp⟩
    | int j => cases r2; cases h; exact ⟨rfl, by simp⟩
    | str j => cases r2; cases h; exact ⟨rfl, by rw [Bool.eq_iff_iff]; simp⟩
    | _ => cases h
  | _ => cases h
theorem ou_eqS : OpU G X (compareOp .Eq) (eqS false) := OpR.imp op_eq fun x y H Q ⟨m, S, u1, u2, z, S', st, r1, r2, e, q⟩ => by
  unfold eqS at e
  split at e
  · rename_i k h
    cases e
    have := eqB_ok r1 r2 h
    refine ⟨this.1, ?_⟩
    rw [this.2]
    exact q.here st rfl
  · cases e
theorem ou_neS : OpU G X (compareOp .NotEq) (eqS true) := OpR.imp op_ne fun x y H Q ⟨m, S, u1, u2, z, S', st, r1, r2, e, q⟩ => by
  unfold eqS at e
  split at e
  · rename_i k h
    cases e
    have := eqB_ok r1 r2 h
    refine ⟨this.1, ?_⟩
    rw [this.2]
    exact q.here st rfl
  · cases e
def eqU (neg : Bool) : Op2 := orO (eqS neg) (eqDU neg)
theorem ou_eq (hu : X.A.units + 64 < cLine) : OpU G X (compareOp .Eq) (eqU false) := opU_or ou_eqS (opU_eqD hu)
theorem ou_ne (hu : X.A.units + 64 < cLine) : OpU G X (compareOp .NotEq) (eqU true) := opU_or ou_neS (opU_neD hu)

/-! good data: no cells in it, sound texts, of nesting at most n -/
mutual
def okU : Nat → U → Bool
  | _, .non => true
  | _, .bl _ => true
  | _, .int _ => true
  | _, .str x => PySem.PyData.strOk x
  | n + 1, .tup us => okUs n us
  | n + 1, .lst us => okUs n us
  | _, _ => false
def okUs : Nat → List U → Bool
  | _, [] => true
  | n, u :: us => okU n u && okUs n us
end
mutual
theorem okU_toD : ∀ (n : Nat) (u : U), okU n u = true → ∃ d, toD u = some d ∧ d.canLay0 = true ∧ d.depth ≤ n + 1
  | n, .non, _ => ⟨.none, rfl, rfl, by simp [PyData.depth]⟩
  | n, .bl b, _ => ⟨.bool b, rfl, rfl, by simp [PyData.depth]⟩
  | n, .int b, _ => ⟨.int b, rfl, rfl, by simp [PyData.depth]⟩
  | n, .str b, h => ⟨.str b, rfl, (by simpa [okU] using h : PySem.PyData.strOk b = true), by simp [PyData.depth]⟩
  | 0, .tup us, h => by simp [okU] at h
  | 0, .lst us, h => by simp [okU] at h
  | n + 1, .tup us, h => by
    obtain ⟨ds, e, h1, h2⟩ := okUs_toDs n us (by simpa [okU] using h)
    refine ⟨.tuple ds, by simp only [toD, e], by simpa [PyData.canLay0] using h1, by simp only [PyData.depth]; omega⟩
  | n + 1, .lst us, h => by
    obtain ⟨ds, e, h1, h2⟩ := okUs_toDs n us (by simpa [okU] using h)
    refine ⟨.list ds, by simp only [toD, e], by simpa [PyData.canLay0] using h1, by simp only [PyData.depth]; omega⟩
  | n, .scr us, h => by simp [okU] at h
  | n, .dct us, h => by simp [okU] at h
  | n, .fn us, h => by simp [okU] at h
  | n, .ref us, h => by simp [okU] at h
theorem okUs_toDs : ∀ (n : Nat) (us : List U), okUs n us = true → ∃ ds, toDs us = some ds ∧ PyData.canLayAll0 ds = true ∧ PyData.depthAll ds ≤ n + 1
  | n, [], _ => ⟨[], rfl, rfl, by simp [PyData.depthAll]⟩
  | n, u :: us, h => by
    have h' : okU n u = true ∧ okUs n us = true := by simpa [okUs] using h
    obtain ⟨d, e, h1, h2⟩ := okU_toD n u h'.1
    obtain ⟨ds, es, h3, h4⟩ := okUs_toDs n us h'.2
    refine ⟨d :: ds, by simp only [toDs, e, es], by simp [PyData.canLayAll0, h1, h3], by simp only [PyData.depthAll]; omega⟩
end
theorem toDS_noref {S : Sto} {u : U} {n : Nat} (h : okU n u = true) : toDS S u = toD u := by
  cases u with
  | ref x => simp [okU] at h
  | _ => rfl
theorem eqB_same : ∀ (u : U) (k : Bool), eqB u u = some k → k = true := by
  intro u k h
  cases u <;> simp [eqB] at h <;> simp_all
theorem eqU_same {neg : Bool} {u : U} {S : Sto} (h : okU 60 u = true) : eqU neg u u S = some (.bl (!neg), S) := by
  unfold eqU orO eqS
  cases e : eqB u u with
  | some k =>
    have := eqB_same u k e
    subst this
    cases neg <;> rfl
  | none =>
    show eqDU neg u u S = _
    unfold eqDU
    obtain ⟨d, e1, h1, h2⟩ := okU_toD 60 u h
    rw [toDS_noref h, e1]
    have hs : SeqAt.shaped d = true := by unfold SeqAt.shaped; simp [h1]; omega
    simp only [hs, and_self, if_true, PySem.SeqAt.eqv_refl d h1]
    cases neg <;> rfl
@[simp] theorem eqU_int {neg : Bool} {i j : Int} {S : Sto} : eqU neg (.int i) (.int j) S = some (.bl (if neg then !decide (i = j) else decide (i = j)), S) := rfl
@[simp] theorem eqU_str {neg : Bool} {i j : Str} {S : Sto} : eqU neg (.str i) (.str j) S = some (.bl (if neg then !decide (i = j) else decide (i = j)), S) := rfl
end OF

namespace OF
open PySem PySem.Spec PyProof.Rows L2
@[simp] theorem cVar_ap (i : Nat) (env : Env') (S : Sto) : cVar i env S = (match env[i]? with
  | some (some u) => some (u, S)
  | _ => none) := rfl
@[simp] theorem cCst_ap (u : U) (x0_ : Env') (S : Sto) : cCst u x0_ S = (some (u, S)) := rfl
@[simp] theorem cBin_ap (f : Op2) (a b : Cm U) (env : Env') (S : Sto) : cBin f a b env S = (match a env S with
  | none => none
  | some (u, S1) => match b env S1 with
    | none => none
    | some (v, S2) => f u v S2) := rfl
@[simp] theorem cUn_ap (f : Op1) (a : Cm U) (env : Env') (S : Sto) : cUn f a env S = (match a env S with
  | none => none
  | some (u, S1) => f u S1) := rfl
@[simp] theorem orO_ap (f g : Op2) (a : U) (b : U) (S : Sto) : orO f g a b S = (match f a b S with
  | some r => some r
  | none => g a b S) := rfl
@[simp] theorem o2I_ap (f : Int → Int → Option U) (a : U) (b : U) (S : Sto) : o2I f a b S = (match a, b with
  | .int i, .int j => (f i j).map (·, S)
  | _, _ => none) := rfl
@[simp] theorem cNil_ap (x0_ : Env') (S : Sto) : cNil  x0_ S = (some ([], S)) := rfl
@[simp] theorem cCons_ap (a : Cm U) (r : Cm (List U)) (env : Env') (S : Sto) : cCons a r env S = (match a env S with
  | none => none
  | some (u, S1) => match r env S1 with
    | none => none
    | some (us, S2) => some (u :: us, S2)) := rfl
@[simp] theorem cArg_ap (f : OpN) (a : Cm (List U)) (env : Env') (S : Sto) : cArg f a env S = (match a env S with
  | none => none
  | some (us, S1) => f us S1) := rfl
@[simp] theorem oTup_ap (us : List U) (S : Sto) : oTup  us S = (if us.length ≤ sizeLine then some (.tup us, S) else none) := rfl
@[simp] theorem oLst_ap (us : List U) (S : Sto) : oLst  us S = (if us.length ≤ sizeLine then some (.lst us, S) else none) := rfl
@[simp] theorem oLstM_ap (us : List U) (S : Sto) : oLstM  us S = (if us.length ≤ sizeLine then some (.ref S.length, S ++ [.lst us]) else none) := rfl
@[simp] theorem sNil_ap (env : Env') (S : Sto) : sNil  env S = (some (.nx, env, S)) := rfl
@[simp] theorem sSeq_ap (a b : Sm) (env : Env') (S : Sto) : sSeq a b env S = (match a env S with
  | none => none
  | some (.nx, env1, S1) => b env1 S1
  | some r => some r) := rfl
@[simp] theorem sPass_ap (env : Env') (S : Sto) : sPass  env S = (some (.nx, env, S)) := rfl
@[simp] theorem sBrk_ap (env : Env') (S : Sto) : sBrk  env S = (some (.brk, env, S)) := rfl
@[simp] theorem sCt_ap (env : Env') (S : Sto) : sCt  env S = (some (.ct, env, S)) := rfl
@[simp] theorem sExpr_ap (a : Cm U) (env : Env') (S : Sto) : sExpr a env S = (match a env S with
  | none => none
  | some (_, S1) => some (.nx, env, S1)) := rfl
@[simp] theorem sRet_ap (a : Cm U) (env : Env') (S : Sto) : sRet a env S = (match a env S with
  | none => none
  | some (u, S1) => some (.ret u, env, S1)) := rfl
@[simp] theorem sRetN_ap (env : Env') (S : Sto) : sRetN  env S = (some (.ret .non, env, S)) := rfl
@[simp] theorem sIf_ap (c : Cm Bool) (a b : Sm) (env : Env') (S : Sto) : sIf c a b env S = (match c env S with
  | none => none
  | some (true, S1) => a env S1
  | some (false, S1) => b env S1) := rfl
@[simp] theorem gmName_ap (i : Nat) (u : U) (env : Env') (S : Sto) : gmName i u env S = (some (env.set i (some u), S)) := rfl
@[simp] theorem gmsNil_ap (us : List U) (env : Env') (S : Sto) : gmsNil  us env S = (match us with
  | [] => some (env, S)
  | _ => none) := rfl
@[simp] theorem gmsCons_ap (g : Gm) (r : Gms) (us : List U) (env : Env') (S : Sto) : gmsCons g r us env S = (match us with
  | [] => none
  | u :: t => match g u env S with
    | none => none
    | some (env1, S1) => r t env1 S1) := rfl
@[simp] theorem gmTup_ap (n : Nat) (g : Gms) (u : U) (env : Env') (S : Sto) : gmTup n g u env S = (match u with
  | .tup us => if us.length = n then g us env S else none
  | _ => none) := rfl
@[simp] theorem sAsg_ap (a : Cm U) (g : Gm) (env : Env') (S : Sto) : sAsg a g env S = (match a env S with
  | none => none
  | some (u, S1) => match g u env S1 with
    | none => none
    | some (env2, S2) => some (.nx, env2, S2)) := rfl
@[simp] theorem cTru_ap (a : Cm U) (env : Env') (S : Sto) : cTru a env S = (match a env S with
  | none => none
  | some (u, S1) => match truU S1 u with
    | none => none
    | some b => some (b, S1)) := rfl
@[simp] theorem cAndT_ap (a b : Cm Bool) (env : Env') (S : Sto) : cAndT a b env S = (match a env S with
  | none => none
  | some (true, S1) => b env S1
  | some (false, S1) => some (false, S1)) := rfl
@[simp] theorem cOrT_ap (a b : Cm Bool) (env : Env') (S : Sto) : cOrT a b env S = (match a env S with
  | none => none
  | some (true, S1) => some (true, S1)
  | some (false, S1) => b env S1) := rfl
@[simp] theorem cNotT_ap (a : Cm Bool) (env : Env') (S : Sto) : cNotT a env S = (match a env S with
  | none => none
  | some (k, S1) => some (!k, S1)) := rfl
@[simp] theorem cAndV_ap (a b : Cm U) (env : Env') (S : Sto) : cAndV a b env S = (match a env S with
  | none => none
  | some (u, S1) => match truU S1 u with
    | none => none
    | some true => b env S1
    | some false => some (u, S1)) := rfl
@[simp] theorem cOrV_ap (a b : Cm U) (env : Env') (S : Sto) : cOrV a b env S = (match a env S with
  | none => none
  | some (u, S1) => match truU S1 u with
    | none => none
    | some true => some (u, S1)
    | some false => b env S1) := rfl
@[simp] theorem cNotV_ap (a : Cm U) (env : Env') (S : Sto) : cNotV a env S = (match a env S with
  | none => none
  | some (u, S1) => match truU S1 u with
    | none => none
    | some k => some (.bl (!k), S1)) := rfl
@[simp] theorem cIf_ap (t : Cm Bool) (a b : Cm U) (env : Env') (S : Sto) : cIf t a b env S = (match t env S with
  | none => none
  | some (true, S1) => a env S1
  | some (false, S1) => b env S1) := rfl
@[simp] theorem runF_ap (s : Sm) (np n : Nat) (us : List U) (S : Sto) : runF s np n us S = (if us.length = np then (match s (startE n us) S with
  | some (.ret u, _, S') => some (u, S')
  | some (.nx, _, S') => some (.non, S')
  | _ => none) else none) := rfl
@[simp] theorem pureF_ap (f : OpN) (us : List U) : pureF f us = (match f us [] with
  | some (u, _) => if noref u = true then some u else none
  | none => none) := rfl
@[simp] theorem liftP_ap (p : Pf) (us : List U) (S : Sto) : liftP p us S = (if norefs us = true then (match p us with
  | some u => some (u, S)
  | none => none) else none) := rfl
@[simp] theorem cArg2_ap (f : List U → OpN) (a b : Cm (List U)) (env : Env') (S : Sto) : cArg2 f a b env S = (match a env S with
  | none => none
  | some (us, S1) => match b env S1 with
    | none => none
    | some (ws, S2) => f us ws S2) := rfl
@[simp] theorem cMeth_ap (c : Str) (mm : Str) (F : OpN) (a : Cm U) (r : Cm (List U)) (env : Env') (S : Sto) : cMeth c mm F a r env S = (match a env S with
  | some (.ref n, S1) => match S1[n]? with
    | some (.ins c' fs) => if c' = c ∧ fs.lookup mm = none then (match r env S1 with
      | some (us, S2) => F (.ref n :: us) S2
      | none => none) else none
    | _ => none
  | _ => none) := rfl
@[simp] theorem oMake_ap (c : Str) (F : OpN) (us : List U) (S : Sto) : oMake c F us S = (match F (.ref S.length :: us) (S ++ [.ins c []]) with
  | some (.non, S') => some (.ref S.length, S')
  | _ => none) := rfl
@[simp] theorem cFld_ap (cs : List Str) (fn : Str) (a : Cm U) (env : Env') (S : Sto) : cFld cs fn a env S = (match a env S with
  | some (.ref n, S1) => match S1[n]? with
    | some (.ins c fs) => if cs.contains c = true then (match fs.lookup fn with
      | some u => some (u, S1)
      | none => none) else none
    | _ => none
  | _ => none) := rfl
@[simp] theorem sFldS_ap (cs : List Str) (fn : Str) (a v : Cm U) (env : Env') (S : Sto) : sFldS cs fn a v env S = (match v env S with
  | some (u, S1) => match a env S1 with
    | some (.ref n, S2) => match S2[n]? with
      | some (.ins c fs) => if cs.contains c = true ∧ fs.length < 1000 then some (.nx, env, S2.set n (.ins c (putU fn u fs))) else none
      | _ => none
    | _ => none
  | _ => none) := rfl
@[simp] theorem gmPat_ap (pt : Pat) (u : U) (env : Env') (S : Sto) : gmPat pt u env S = (match bindP pt u with
  | some bs => some (setAll env bs, S)
  | none => none) := rfl
@[simp] theorem sFor_ap (it : Cm (List U)) (pt : Pat) (b : Sm) (env : Env') (S : Sto) : sFor it pt b env S = (match it env S with
  | none => none
  | some (us, S1) => loopF pt b us env S1) := rfl
@[simp] theorem cLcL_ap (it : Cm (List U)) (pt : Pat) (t : Cm Bool) (c : Cm U) (vs : List Nat) (env : Env') (S : Sto) : cLcL it pt t c vs env S = (match it env S with
  | none => none
  | some (us, S1) => match mapC pt t c (wipeE env vs) us S1 with
    | none => none
    | some (ys, S2) => if ys.length ≤ sizeLine then some (ys, S2) else none) := rfl
@[simp] theorem cLc_ap (it : Cm (List U)) (pt : Pat) (t : Cm Bool) (c : Cm U) (vs : List Nat) (env : Env') (S : Sto) : cLc it pt t c vs env S = (match cLcL it pt t c vs env S with
  | none => none
  | some (ys, S2) => some (.lst ys, S2)) := rfl
@[simp] theorem cLcM_ap (it : Cm (List U)) (pt : Pat) (t : Cm Bool) (c : Cm U) (vs : List Nat) (env : Env') (S : Sto) : cLcM it pt t c vs env S = (match cLcL it pt t c vs env S with
  | none => none
  | some (ys, S2) => some (.ref S2.length, S2 ++ [.lst ys])) := rfl
@[simp] theorem cYes_ap (x0_ : Env') (S : Sto) : cYes  x0_ S = (some (true, S)) := rfl
@[simp] theorem itSeq_ap (c : Cm U) (env : Env') (S : Sto) : itSeq c env S = (match c env S with
  | none => none
  | some (u, S1) => match seqU u with
    | none => none
    | some us => some (us, S1)) := rfl
@[simp] theorem itR1_ap (c : Cm (List U)) (env : Env') (S : Sto) : itR1 c env S = (match c env S with
  | some ([.int j], S1) => if -(2 ^ 62) ≤ j ∧ j < 2 ^ 62 then some (rangeU 0 j.toNat, S1) else none
  | _ => none) := rfl
@[simp] theorem itR2_ap (c : Cm (List U)) (env : Env') (S : Sto) : itR2 c env S = (match c env S with
  | some ([.int i, .int j], S1) => if (-(2 ^ 62) ≤ i ∧ i < 2 ^ 62) ∧ -(2 ^ 62) ≤ j ∧ j < 2 ^ 62 then some (rangeU i (j - i).toNat, S1) else none
  | _ => none) := rfl
@[simp] theorem itZip_ap (c : Cm (List U)) (env : Env') (S : Sto) : itZip c env S = (match c env S with
  | some ([u, w], S1) => match seqU u, seqU w with
    | some us, some ws => some (zipU us ws, S1)
    | _, _ => none
  | _ => none) := rfl
@[simp] theorem o1I_ap (f : Int → U) (u : U) (S : Sto) : o1I f u S = (match u with
  | .int i => some (f i, S)
  | _ => none) := rfl
@[simp] theorem strAdd_ap (a : U) (b : U) (S : Sto) : strAdd  a b S = (match a, b with
  | .str x, .str y => if x.length + y.length ≤ sizeLine then some (.str (x ++ y), S) else none
  | _, _ => none) := rfl
@[simp] theorem tupAdd_ap (a : U) (b : U) (S : Sto) : tupAdd  a b S = (match a, b with
  | .tup us, .tup ws => if us.length + ws.length ≤ sizeLine then some (.tup (us ++ ws), S) else none
  | _, _ => none) := rfl
@[simp] theorem lstAdd_ap (mu : Bool) (a : U) (b : U) (S : Sto) : lstAdd mu a b S = (match lstU S a, lstU S b with
  | some us, some ws => if us.length + ws.length ≤ sizeLine then (if mu then some (.ref S.length, S ++ [.lst (us ++ ws)]) else some (.lst (us ++ ws), S)) else none
  | _, _ => none) := rfl
@[simp] theorem isN_ap (neg : Bool) (a : U) (b : U) (S : Sto) : isN neg a b S = (match b with
  | .non => (match a with
    | .non => some (.bl (!neg), S)
    | _ => some (.bl neg, S))
  | _ => none) := rfl
@[simp] theorem ixU_ap (a : U) (b : U) (S : Sto) : ixU  a b S = (match a, b with
  | .str z, .int i => if z.length ≤ sizeLine then (match atI z.cps.toList i with
    | some c => some (.str ⟨#[c]⟩, S)
    | none => none) else none
  | u, .int i => match itmU S u with
    | some us => match atI us i with
      | some w => some (w, S)
      | none => none
    | none => none
  | _, _ => none) := rfl
@[simp] theorem cNoPart_ap (x0_ : Env') (S : Sto) : cNoPart  x0_ S = (some (none, S)) := rfl
@[simp] theorem cPart_ap (c : Cm U) (env : Env') (S : Sto) : cPart c env S = (match c env S with
  | some (.int i, S1) => some (some i, S1)
  | _ => none) := rfl
@[simp] theorem slU_ap (mu : Bool) (u : U) (lo hi : Option Int) (S : Sto) : slU mu u lo hi S = (match u with
  | .tup us => some (.tup (cutU us lo hi), S)
  | .str z => if z.length ≤ sizeLine then some (.str (cutS z lo hi), S) else none
  | u => match lstU S u with
    | some us => if mu then some (.ref S.length, S ++ [.lst (cutU us lo hi)]) else some (.lst (cutU us lo hi), S)
    | none => none) := rfl
@[simp] theorem cSl_ap (mu : Bool) (c : Cm U) (l h : CmO) (env : Env') (S : Sto) : cSl mu c l h env S = (match c env S with
  | none => none
  | some (u, S1) => match l env S1 with
    | none => none
    | some (lo, S2) => match h env S2 with
      | none => none
      | some (hi, S3) => slU mu u lo hi S3) := rfl
@[simp] theorem gmStar_ap (mu : Bool) (i n : Nat) (pts : List Pat) (u : U) (env : Env') (S : Sto) : gmStar mu i n pts u env S = (match itmU S u with
  | some us => if n - 1 ≤ us.length then (
      let mid := (us.drop i).take (us.length - (n - 1))
      let star : U := if mu then .ref S.length else .lst mid
      match bindPs pts (us.take i ++ [star] ++ us.drop (us.length - (n - 1 - i))) with
      | some bs => some (setAll env bs, if mu then S ++ [.lst mid] else S)
      | none => none) else none
  | none => none) := rfl
@[simp] theorem on1_ap (f : Op1) (us : List U) (S : Sto) : on1 f us S = (match us with
  | [u] => f u S
  | _ => none) := rfl
@[simp] theorem on2_ap (f : Op2) (us : List U) (S : Sto) : on2 f us S = (match us with
  | [u, w] => f u w S
  | _ => none) := rfl
@[simp] theorem lenU_ap (u : U) (S : Sto) : lenU  u S = (match u with
  | .str y => if y.length ≤ sizeLine then some (.int y.length, S) else none
  | u => match itmU S u with
    | some us => some (.int us.length, S)
    | none => none) := rfl
@[simp] theorem intU_ap (u : U) (S : Sto) : intU  u S = (match u with
  | .int i => some (.int i, S)
  | .bl k => some (.int (if k then 1 else 0), S)
  | _ => none) := rfl
@[simp] theorem tupleU_ap (u : U) (S : Sto) : tupleU  u S = (match itmU S u with
  | some us => some (.tup us, S)
  | none => none) := rfl
@[simp] theorem listU_ap (mu : Bool) (u : U) (S : Sto) : listU mu u S = (match itmU S u with
  | some us => if mu then some (.ref S.length, S ++ [.lst us]) else some (.lst us, S)
  | none => none) := rfl
@[simp] theorem allU_ap (any : Bool) (u : U) (S : Sto) : allU any u S = (match lstU S u with
  | some us => match boolsU us with
    | some bs => some (.bl (if any then bs.any id else bs.all id), S)
    | none => none
  | none => none) := rfl
@[simp] theorem cIsi_ap (T : String) (c : Cm U) (env : Env') (S : Sto) : cIsi T c env S = (match c env S with
  | none => none
  | some (u, S1) => match tyU S1 u with
    | none => none
    | some t => match kitB t T with
      | some r => some (.bl r, S1)
      | none => none) := rfl
@[simp] theorem cTab_ap (tbl : List (Str × U)) (c : Cm U) (env : Env') (S : Sto) : cTab tbl c env S = (match c env S with
  | some (.str z, S1) => match tbl.lookup z with
    | some u => some (u, S1)
    | none => none
  | _ => none) := rfl
@[simp] theorem cTabCall_ap (F : Str → Option OpN) (c : Cm U) (r : Cm (List U)) (env : Env') (S : Sto) : cTabCall F c r env S = (match c env S with
  | some (.fn n, S1) => match r env S1 with
    | some (us, S2) => match F n with
      | some f => f us S2
      | none => none
    | none => none
  | _ => none) := rfl
@[simp] theorem cMth_ap (f : U → OpN) (a : Cm U) (r : Cm (List U)) (env : Env') (S : Sto) : cMth f a r env S = (match a env S with
  | none => none
  | some (u, S1) => match r env S1 with
    | none => none
    | some (us, S2) => f u us S2) := rfl
@[simp] theorem cMt_ap (T : String) (f : U → OpN) (a : Cm U) (r : Cm (List U)) (env : Env') (S : Sto) : cMt T f a r env S = (match a env S with
  | none => none
  | some (u, S1) => if tyOkU T S1 u = true then (match r env S1 with
    | none => none
    | some (us, S2) => f u us S2) else none) := rfl
@[simp] theorem appU_ap (u : U) (us : List U) (S : Sto) : appU  u us S = (match us with
  | [y] => cellL S u fun n xs => if xs.length < sizeLine then some (.non, S.set n (.lst (xs ++ [y]))) else none
  | _ => none) := rfl
@[simp] theorem popU_ap (u : U) (us : List U) (S : Sto) : popU  u us S = (match us with
  | [] => cellL S u fun n xs => match xs[xs.length - 1]? with
    | some y => some (y, S.set n (.lst xs.dropLast))
    | none => none
  | _ => none) := rfl
@[simp] theorem popAtU_ap (u : U) (us : List U) (S : Sto) : popAtU  u us S = (match us with
  | [.int i] => cellL S u fun n xs => if -(2 ^ 63) ≤ i ∧ i < 2 ^ 63 then (match seqIndex? i xs.length with
    | some k => match xs[k]? with
      | some y => some (y, S.set n (.lst (xs.eraseIdx k)))
      | none => none
    | none => none) else none
  | _ => none) := rfl
@[simp] theorem insU_ap (u : U) (us : List U) (S : Sto) : insU  u us S = (match us with
  | [.int i, y] => cellL S u fun n xs => if xs.length < sizeLine ∧ 0 ≤ i ∧ i < 2 ^ 63 then some (.non, S.set n (.lst (xs.take i.toNat ++ [y] ++ xs.drop i.toNat))) else none
  | _ => none) := rfl
@[simp] theorem startU_ap (u : U) (us : List U) (S : Sto) : startU  u us S = (match u, us with
  | .str a, [.str b] => some (.bl (Txt.startswith a b), S)
  | _, _ => none) := rfl
@[simp] theorem sSetI_ap (f : U → U → U → Sto → Option Sto) (o i v : Cm U) (env : Env') (S : Sto) : sSetI f o i v env S = (match v env S with
  | none => none
  | some (w, S1) => match o env S1 with
    | none => none
    | some (u, S2) => match i env S2 with
      | none => none
      | some (j, S3) => match f u j w S3 with
        | some S4 => some (.nx, env, S4)
        | none => none) := rfl
@[simp] theorem setL_ap (u : U) (j : U) (w : U) (S : Sto) : setL  u j w S = (match u, j with
  | .ref n, .int k => match S[n]? with
    | some (.lst us) => match ixN us.length k with
      | some i => some (S.set n (.lst (us.set i w)))
      | none => none
    | _ => none
  | _, _ => none) := rfl
@[simp] theorem cDNew_ap (x0_ : Env') (S : Sto) : cDNew  x0_ S = (some (.ref S.length, S ++ [.dct []])) := rfl
@[simp] theorem dixU_ap (a : U) (b : U) (S : Sto) : dixU  a b S = (match dctU S a, keyU b with
  | some kvs, some k => match getK kvs k with
    | some u => some (u, S)
    | none => none
  | _, _ => none) := rfl
@[simp] theorem dinU_ap (neg : Bool) (b : U) (a : U) (S : Sto) : dinU neg b a S = (match dctU S a, keyU b with
  | some kvs, some k => some (.bl (if neg then (getK kvs k).isNone else (getK kvs k).isSome), S)
  | _, _ => none) := rfl
@[simp] theorem cDGet_ap (d k : Cm U) (x : Cm U) (env : Env') (S : Sto) : cDGet d k x env S = (match d env S with
  | none => none
  | some (u, S1) => match dctU S1 u with
    | none => none
    | some _ => match k env S1 with
      | none => none
      | some (kk, S2) => match x env S2 with
        | none => none
        | some (z, S3) => match dctU S3 u, keyU kk with
          | some kvs, some k => some ((getK kvs k).getD z, S3)
          | _, _ => none) := rfl
@[simp] theorem setD_ap (u : U) (j : U) (w : U) (S : Sto) : setD  u j w S = (match u, keyU j with
  | .ref n, some k => match S[n]? with
    | some (.dct kvs) => if kvs.length < sizeLine then some (S.set n (.dct (putKU kvs k w))) else none
    | _ => none
  | _, _ => none) := rfl
@[simp] theorem sPar2_ap (i j : Nat) (a : Cm (List U)) (env : Env') (S : Sto) : sPar2 i j a env S = (match a env S with
  | some ([u, w], S1) => some (.nx, (env.set i (some u)).set j (some w), S1)
  | _ => none) := rfl
@[simp] theorem sPar3_ap (i j l : Nat) (a : Cm (List U)) (env : Env') (S : Sto) : sPar3 i j l a env S = (match a env S with
  | some ([u, v, w], S1) => some (.nx, ((env.set i (some u)).set j (some v)).set l (some w), S1)
  | _ => none) := rfl
@[simp] theorem cChain_ap (f g : Op2) (a b c : Cm U) (env : Env') (S : Sto) : cChain f g a b c env S = (match a env S with
  | none => none
  | some (u, S1) => match b env S1 with
    | none => none
    | some (v, S2) => match f u v S2 with
      | some (.bl true, S3) => (match c env S3 with
        | none => none
        | some (w, S4) => g v w S4)
      | some (.bl false, S3) => some (.bl false, S3)
      | _ => none) := rfl
@[simp] theorem cTest_ap (a : Cm U) (env : Env') (S : Sto) : cTest a env S = (match a env S with
  | some (.bl k, S1) => some (k, S1)
  | _ => none) := rfl
@[simp] theorem loopF_nil (pt : Pat) (b : Sm) (env : Env') (S : Sto) : loopF pt b [] env S = some (.nx, env, S) := rfl
@[simp] theorem loopF_cons (pt : Pat) (b : Sm) (u : U) (us : List U) (env : Env') (S : Sto) : loopF pt b (u :: us) env S = (match bindP pt u with
    | none => none
    | some bs => match b (setAll env bs) S with
      | none => none
      | some (.nx, env2, S2) => loopF pt b us env2 S2
      | some (.ct, env2, S2) => loopF pt b us env2 S2
      | some (.brk, env2, S2) => some (.nx, env2, S2)
      | some (.ret z, env2, S2) => some (.ret z, env2, S2)) := rfl
theorem loopW_zero (c : Cm Bool) (b : Sm) (env : Env') (S : Sto) : loopW c b 0 env S = none := rfl
theorem loopW_succ (c : Cm Bool) (b : Sm) (n : Nat) (env : Env') (S : Sto) : loopW c b (n + 1) env S = (match c env S with
    | none => none
    | some (false, S1) => some (.nx, env, S1)
    | some (true, S1) => match b env S1 with
      | none => none
      | some (.nx, env2, S2) => loopW c b n env2 S2
      | some (.ct, env2, S2) => loopW c b n env2 S2
      | some (.brk, env2, S2) => some (.nx, env2, S2)
      | some (.ret z, env2, S2) => some (.ret z, env2, S2)) := rfl
end OF
namespace OF
open PySem
theorem map_toNat_inj : ∀ (a b : List Char), a.map Char.toNat = b.map Char.toNat → a = b
  | [], [], _ => rfl
  | [], _ :: _, h => by simp at h
  | _ :: _, [], h => by simp at h
  | x :: a, y :: b, h => by
    simp only [List.map_cons, List.cons.injEq] at h
    rw [map_toNat_inj a b h.2]
    have : x = y := by
      apply Char.ext
      apply UInt32.toNat_inj.mp
      exact h.1
    rw [this]
@[simp] theorem ofStr_inj (a b : String) : (Str.ofString a = Str.ofString b) ↔ a = b := by
  constructor
  · intro h
    rw [Str.ofString_eq_toList, Str.ofString_eq_toList] at h
    have h2 : (a.toList.map Char.toNat) = (b.toList.map Char.toNat) := by simpa using h
    have h3 := map_toNat_inj _ _ h2
    exact String.toList_inj.mp h3
  · intro h; rw [h]
@[simp] theorem startE_c (n : Nat) (us : List U) : startE n us = us.map some ++ List.replicate (n - us.length) none := rfl
end OF

namespace OF
open PySem PySem.Spec PyProof.Rows L2
@[simp] theorem mapC_nil (pt : Pat) (t : Cm Bool) (c : Cm U) (env : Env') (S : Sto) : mapC pt t c env [] S = some ([], S) := rfl
@[simp] theorem mapC_cons (pt : Pat) (t : Cm Bool) (c : Cm U) (env : Env') (u : U) (us : List U) (S : Sto) : mapC pt t c env (u :: us) S = (match bindP pt u with
    | none => none
    | some bs => match t (setAll env bs) S with
      | none => none
      | some (false, S1) => mapC pt t c env us S1
      | some (true, S1) => match c (setAll env bs) S1 with
        | none => none
        | some (y, S2) => match mapC pt t c env us S2 with
          | none => none
          | some (ys, S3) => some (y :: ys, S3)) := rfl
@[simp] theorem wipeE_nil (env : Env') : wipeE env [] = env := rfl
@[simp] theorem wipeE_cons (env : Env') (v : Nat) (vs : List Nat) : wipeE env (v :: vs) = (wipeE env vs).set v none := rfl
@[simp] theorem bindP_nm (i : Nat) (u : U) : bindP (.nm i) u = some [(i, u)] := by simp [bindP]
@[simp] theorem bindP_tp (ps : List Pat) (us : List U) : bindP (.tp ps) (.tup us) = bindPs ps us := by simp [bindP]
@[simp] theorem bindPs_nil : bindPs [] [] = some [] := by simp [bindPs]
@[simp] theorem bindPs_cons (p : Pat) (ps : List Pat) (u : U) (us : List U) : bindPs (p :: ps) (u :: us) = (match bindP p u with
    | none => none
    | some a => match bindPs ps us with
      | none => none
      | some b => some (a ++ b)) := by rw [bindPs] <;> rfl
@[simp] theorem setAll_nil {α : Type} (σ : List (Option α)) : setAll σ [] = σ := rfl
@[simp] theorem setAll_cons {α : Type} (σ : List (Option α)) (i : Nat) (v : α) (r : List (Nat × α)) : setAll σ ((i, v) :: r) = setAll (σ.set i (some v)) r := rfl
@[simp] theorem truU_non (S : Sto) : truU S .non = some false := rfl
@[simp] theorem truU_bl (S : Sto) (b : Bool) : truU S (.bl b) = some b := rfl
@[simp] theorem truU_int (S : Sto) (b : Int) : truU S (.int b) = some (b != 0) := rfl
@[simp] theorem truU_tup (S : Sto) (b : List U) : truU S (.tup b) = some (!b.isEmpty) := rfl
@[simp] theorem truU_lst (S : Sto) (b : List U) : truU S (.lst b) = some (!b.isEmpty) := rfl
@[simp] theorem truU_scr (S : Sto) (b : List U) : truU S (.scr b) = some (!b.isEmpty) := rfl
@[simp] theorem truU_ref (S : Sto) (n : Nat) : truU S (.ref n) = (match S[n]? with
    | some (.lst us) => some (!us.isEmpty)
    | some (.dct us) => some (!us.isEmpty)
    | _ => none) := rfl
@[simp] theorem seqU_tup (us : List U) : seqU (.tup us) = some us := rfl
@[simp] theorem seqU_lst (us : List U) : seqU (.lst us) = some us := rfl
@[simp] theorem seqU_scr (us : List U) : seqU (.scr us) = some us := rfl
@[simp] theorem itmU_tup (S : Sto) (us : List U) : itmU S (.tup us) = some us := rfl
@[simp] theorem itmU_lst (S : Sto) (us : List U) : itmU S (.lst us) = some us := rfl
@[simp] theorem itmU_scr (S : Sto) (us : List U) : itmU S (.scr us) = some us := rfl
@[simp] theorem itmU_ref (S : Sto) (n : Nat) : itmU S (.ref n) = (match S[n]? with
    | some (.lst us) => some us
    | _ => none) := rfl
@[simp] theorem lstU_lst (S : Sto) (us : List U) : lstU S (.lst us) = some us := rfl
@[simp] theorem lstU_ref (S : Sto) (n : Nat) : lstU S (.ref n) = (match S[n]? with
    | some (.lst us) => some us
    | _ => none) := rfl
@[simp] theorem dctU_ref (S : Sto) (n : Nat) : dctU S (.ref n) = (match S[n]? with
    | some (.dct us) => some us
    | _ => none) := rfl
@[simp] theorem tyOkU_str (S : Sto) (T : String) (x : Str) : tyOkU T S (.str x) = (T == "str") := rfl
@[simp] theorem tyOkU_lst (S : Sto) (T : String) (x : List U) : tyOkU T S (.lst x) = (T == "list") := rfl
@[simp] theorem tyOkU_ref (S : Sto) (T : String) (n : Nat) : tyOkU T S (.ref n) = (match S[n]? with
    | some (.lst _) => T == "list"
    | some (.dct _) => T == "dict"
    | some (.dtt _) => T == "dict"
    | _ => false) := rfl
@[simp] theorem cellL_ref (S : Sto) (n : Nat) (k : Nat → List U → Option (U × Sto)) : cellL S (.ref n) k = (match S[n]? with
    | some (.lst us) => k n us
    | _ => none) := rfl
@[simp] theorem keyU_str (x : Str) : keyU (.str x) = some (.inr x) := rfl
@[simp] theorem keyU_int (x : Int) : keyU (.int x) = some (.inl x) := rfl
@[simp] theorem noref_non : noref .non = true := by simp [noref]
@[simp] theorem noref_bl (b : Bool) : noref (.bl b) = true := by simp [noref]
@[simp] theorem noref_int (b : Int) : noref (.int b) = true := by simp [noref]
@[simp] theorem noref_str (b : Str) : noref (.str b) = true := by simp [noref]
@[simp] theorem noref_fn (b : Str) : noref (.fn b) = true := by simp [noref]
@[simp] theorem noref_ref (b : Nat) : noref (.ref b) = false := by simp [noref]
@[simp] theorem noref_tup (b : List U) : noref (.tup b) = norefs b := by simp [noref]
@[simp] theorem noref_lst (b : List U) : noref (.lst b) = norefs b := by simp [noref]
@[simp] theorem noref_scr (b : List U) : noref (.scr b) = norefs b := by simp [noref]
@[simp] theorem norefs_nil : norefs [] = true := by simp [norefs]
@[simp] theorem norefs_cons (u : U) (us : List U) : norefs (u :: us) = (noref u && norefs us) := by simp [norefs]
@[simp] theorem norefs_app (us ws : List U) : norefs (us ++ ws) = (norefs us && norefs ws) := by
  induction us with
  | nil => simp
  | cons u us ih => simp [ih, Bool.and_assoc]
theorem norefs_all (us : List U) (h : ∀ u ∈ us, noref u = true) : norefs us = true := by
  induction us with
  | nil => simp
  | cons u us ih => simp [h u (by simp), ih fun w hw => h w (by simp [hw])]
theorem atI_nat (α : Type) (us : List α) (n : Nat) : atI us (n : Int) = us[n]? := by
  unfold atI ixN
  by_cases h : n < us.length
  · simp [h]
  · simp [h]
@[simp] theorem atI_zero {α : Type} (us : List α) : atI us 0 = us[0]? := atI_nat α us 0
@[simp] theorem atI_one {α : Type} (us : List α) : atI us 1 = us[1]? := atI_nat α us 1
@[simp] theorem atI_two {α : Type} (us : List α) : atI us 2 = us[2]? := atI_nat α us 2
@[simp] theorem atI_three {α : Type} (us : List α) : atI us 3 = us[3]? := atI_nat α us 3
@[simp] theorem atI_four {α : Type} (us : List α) : atI us 4 = us[4]? := atI_nat α us 4
@[simp] theorem beqStr (a b : String) : (Str.ofString a == Str.ofString b) = decide (a = b) := by
  rw [Bool.eq_iff_iff]
  simp
@[simp] theorem putU_nil (f : Str) (v : U) : putU f v [] = [(f, v)] := rfl
@[simp] theorem putU_cons (f : Str) (v : U) (k : Str) (w : U) (r : List (Str × U)) : putU f v ((k, w) :: r) = if k = f then (k, v) :: r else (k, w) :: putU f v r := rfl
@[simp] theorem le_size (n : Nat) (h : n < 16777217) : n ≤ sizeLine := by unfold sizeLine; omega
@[simp] theorem lt_size (n : Nat) (h : n < 16777216) : n < sizeLine := by unfold sizeLine; omega
@[simp] theorem lookupS {α : Type} (a b : String) (v : α) (t : List (Str × α)) : List.lookup (Str.ofString a) ((Str.ofString b, v) :: t) = if a = b then some v else List.lookup (Str.ofString a) t := by
  rw [List.lookup_cons, beqStr]
  by_cases h : a = b <;> simp [h]
@[simp] theorem zipU_nil (ws : List U) : zipU [] ws = [] := by simp [zipU]
@[simp] theorem zipU_nil2 (ws : List U) : zipU ws [] = [] := by simp [zipU]
@[simp] theorem zipU_cons (u w : U) (us ws : List U) : zipU (u :: us) (w :: ws) = .tup [u, w] :: zipU us ws := by simp [zipU]
end OF

namespace OF
open PySem PySem.Spec PyProof.Rows L2

/-! defs that may show things: nothing is being shown when they are called -/
structure FnG (P : Program) (w : World) (K : PySem.W.Frag) (mg : Str → Option Value) (base : Heap) (k : Nat) (f : Addr) (fd : FuncData) (ps : List Str) (sp : Sp) : Prop where
  len : ∀ vs H Q E, sp vs H Q E → vs.length = ps.length
  run : ∀ (B : Around) (out : List Env) (t : Shared) (H : Hp) (args : Args) (us : List Value) (vs : List V) (Q : VK) (E : XK), B.guards = some [] → Room k B → Env0 P w K mg base B out t H → BindsTo t fd args (ps.zip us) → Vals vs us →
    sp vs H Q E → codeAny (model P w) B (.call (.ref f) args) (CR CX0 out P w H t Q E) t
section
variable {P : Program} {w : World} {K : PySem.W.Frag} {mg : Str → Option Value} {base : Heap}
theorem FnG.of {k : Nat} {f : Addr} {fd : FuncData} {ps : List Str} {sp : Sp} (F : FnOk P w K mg base CX0 k f fd ps sp) : FnG P w K mg base k f fd ps sp := ⟨F.len, fun B out t H args us vs Q E _ => F.run B out t H args us vs Q E⟩
theorem FnG.imp {k : Nat} {f : Addr} {fd : FuncData} {ps : List Str} {sp sp' : Sp} (F : FnG P w K mg base k f fd ps sp) (h : ∀ vs H Q E, sp' vs H Q E → sp vs H Q E) : FnG P w K mg base k f fd ps sp' :=
  ⟨fun vs H Q E q => F.len vs H Q E (h _ _ _ _ q), fun B out t H args us vs Q E hg hr e0 hb r q => F.run B out t H args us vs Q E hg hr e0 hb r (h _ _ _ _ q)⟩
/-- a def's body, from its start to its end -/
theorem FnG.mk' {name qual : Str} {st : Stmt} {f : Addr} {fd : FuncData} {N ps : List Str} {k : Nat} {sp : Sp} (F : Fun K name qual st f fd) (S : FnScope N ps (defScope st)) (len : ∀ vs H Q E, sp vs H Q E → vs.length = ps.length)
    (body : ∀ (cdv : Value) (B : Around) (out : List Env) (t : Shared) (H : Hp) (vs : List V) (Q : VK) (E : XK), B.guards = some [] → Room k (B.deeper (envOfC qual (defScope st) t.heap.objs.size f cdv)) → sp vs H Q E →
      ∃ c, PSs (cxOf CX0 P w K mg base N qual (defScope st) f cdv B out t H E).nox (defBody st) c ∧ c { nx := fun _ H' => Q .non H', rt := Q } (start N vs) H) : FnG P w K mg base (k + 1) f fd ps sp := by
  obtain ⟨oc, od, kV, doc, pm, an, cdv, ct, osl, rfl, lk, hcd⟩ := F.ex
  constructor
  · exact len
  · intro B out t H args us vs Q E hg hr e0 hb r q
    have old : ∀ b o, base.get? b = some o → t.heap.get? b = some o := fun b o e => (e0.bs b o e).1
    have inK : K.In t.heap := e0.mod.kin.keeps old
    have free : t.heap.NoLimit := e0.mod.nolimit.keeps old
    refine codeAny_call_function hr.depth (inK _ _ lk) rfl S.co S.gen rfl (PySem.W.codeRec_of inK hcd) (hb _ _ _ _ (wpAny_newFunctionEnv_cells S.kind (fun y hy => ?_) fun env he t1 x => ?_))
    · obtain ⟨n, v⟩ := y
      rcases S.par n (List.of_mem_zip hy).1 with z | z
      · exact Or.inl z
      · exact Or.inr ⟨z, PySem.W.cellsFrom_some _ _ _ (Or.inl z)⟩
    · cases he
      refine ⟨free.keeps x.toInCall.keep, codeAny_func ?_⟩
      obtain ⟨c, hc, hq⟩ := body cdv B out t H vs Q E hg (hr.deeper _) q
      have J := inv_start (CX := CX0) (E := E) S hr.hd e0 (len _ _ _ _ q) r x
      apply wpAny_mono (hc.nox.run [] t1 (start N vs) H _ J hq)
      · intro fl t2 z
        cases fl with
        | ret u => obtain ⟨v, σ2, H2, J2, rv, q2⟩ := z; exact ⟨v, H2, J2.os, J2.bare, J2.base, J2.hok, rv, q2⟩
        | next => obtain ⟨σ2, H2, J2, q2⟩ := z; exact ⟨.non, H2, J2.os, J2.bare, J2.base, J2.hok, rfl, q2⟩
        | brk => exact z.elim fun _ z => z.elim fun _ z => z.2.elim
        | cont => exact z.elim fun _ z => z.elim fun _ z => z.2.elim
      · exact fun _ _ z => z
variable {G : Gx}
theorem fn_okG {x qual : Str} {st : Stmt} {f : Addr} {fd : FuncData} {N ps : List Str} {k np n : Nat} {s : Sm} (hnp : ps.length = np) (hn : N.length = n) (F : Fun K x qual st f fd) (S : FnScope N ps (defScope st))
    (h : ∀ (cdv : Value) (A : Around) (outer : List Env) (s0 : Shared) (H : Hp) (E : XK), A.guards = some [] → Room k (A.deeper (envOfC qual (defScope st) s0.heap.objs.size f cdv)) →
      ESs G (cxOf CX0 P w K mg base N qual (defScope st) f cdv A outer s0 H E).nox (defBody st) s) :
    FnG P w K mg base (k + 1) f fd ps (spU K G (runF s np n)) := by
  subst hnp hn
  refine FnG.mk' F S (fun vs H Q E h => spU_len runF_len h) fun cdv A outer s0 H vs Q E hg hr hsp => ?_
  obtain ⟨m, S0, us, z, S', st, r, e, q⟩ := hsp
  refine ⟨_, h cdv A outer s0 H E hg hr, ?_⟩
  unfold runF at e
  split at e
  · split at e
    · rename_i u env' S1 e1
      cases e
      exact ⟨m, S0, _, _, _, _, st, r.begin_, e1, q⟩
    · rename_i env' S1 e1
      cases e
      exact ⟨m, S0, _, _, _, _, st, r.begin_, e1, fun m1 H1 σ1 x1 st1 re1 => q m1 H1 .non x1 st1 rfl⟩
    · cases e
  · cases e
theorem fn_pureG {f : Addr} {fd : FuncData} {ps : List Str} {k : Nat} {F : OpN} (h : FnG P w K mg base k f fd ps (spU K G F)) : FnG P w K mg base k f fd ps (spU K G (liftP (pureF F))) := h.imp fun vs H Q E s => spU_pure s
end
section
variable {X : Cx} {G : Gx} {e : Expr} {es : List Expr} {cl : Cm (List U)} {pos p : Pos} {x : Str} {k : Nat} {f : Addr} {fd : FuncData} {ps : List Str} {F : OpN}
theorem pe_callG {sp : Sp} {t : TA} (F : FnG X.prog X.w X.K X.mg X.base k f fd ps sp) (gd : X.A.guards = some []) (hr : Room k X.A) (hg : Gl X x) (hm : X.mg x = some (.ref f)) (hk : PySem.W.keepIn X.K (.ref f) = true) (hb : Binds X.K fd ps [])
    (ha : PA X (e :: es) t) (hdb : (x == ("__debug__" : Str)) = false) (he : starEach (e :: es) X.env = (false, eval e X.env) :: starEach es X.env) (hpl : (backTo pos (starEach es X.env)).any (·.1) = false) :
    PE X (.Call (.Name x p) (e :: es) [] pos) (tCall sp [] E0 t) := PE.mk fun pins s σ H Q I h =>
  wpAny_Call_Name_kw (ld_glob I hg hm (PySem.W.callWith_K (h₀ := X.base) I.ok.mod.kin hk (thn (ha.run pos pins s σ H _ I h) fun us s1 z => by
    obtain ⟨vs, H1, J, r, q⟩ := z
    refine ⟨J.kIn, wpAny_call (codeAny_mono (F.run X.A X.stack s1 H1 ⟨us, []⟩ us vs Q E0 gd hr J.env0 ?_ r (by simpa using q)) ?_)⟩
    · have := hb s1 us J.kIn (by rw [List.append_nil, ← r.length]; exact F.len _ _ _ _ (by simpa using q))
      simpa using this
    · intro res s2 z
      match res, z with
      | .error ex, z => exact False.elim z
      | .ok (.ret u), z => exact J.after z
      | .ok .next, z => exact False.elim z
      | .ok .brk, z => exact False.elim z
      | .ok .cont, z => exact False.elim z) he hpl) hdb)
theorem ee_callG (h : FnG X.prog X.w X.K X.mg X.base k f fd ps (spU X.K G F)) (gd : X.A.guards = some []) (hr : Room k X.A) (hg : Gl X x) (hm : X.mg x = some (.ref f)) (hk : PySem.W.keepIn X.K (.ref f) = true) (hb : Binds X.K fd ps [])
    (ha : EA G X (e :: es) cl) (hdb : (x == ("__debug__" : Str)) = false := by decide) (he : starEach (e :: es) X.env = (false, eval e X.env) :: starEach es X.env := by rfl) (hpl : (backTo pos (starEach es X.env)).any (·.1) = false := by rfl) :
    EE G X (.Call (.Name x p) (e :: es) [] pos) (cArg F cl) := (pe_callG h gd hr hg hm hk hb ha hdb he hpl).imp fun σ H Q h => by
  obtain ⟨m, S, env, us, S1, st, re, e1, q⟩ := re_arg h
  exact ⟨m, S, env, us, S1, st, re, e1, fun m1 H1 vs x1 st1 r1 => by
    show spU X.K G F (vs ++ []) H1 Q E0
    rw [List.append_nil]; exact q m1 H1 vs x1 st1 r1⟩
end
end OF

namespace OF
open PySem PySem.Spec PyProof.Rows L2

/-- the law's call from the outermost place, where nothing is being shown -/
theorem callG_core {P : Program} {w : World} {K : PySem.W.Frag} {mg mb : Str → Option Value} {k : Nat} {fa a : Addr} {fd : FuncData} {x : Str} {sp : Sp} {t : Shared} {vs : List Value} {H : Hp}
    (inK : K.In t.heap) (gl : t.heap.Ns mainGlobals mg) (bi : t.heap.Ns builtinsNs mb) (bb : ∀ y : Str, y ≠ "__name__" → mb y = bootBuiltins y) (nl : t.heap.NoLimit) (ng : t.gens = #[])
    (ha : t.heap.get? a = some { cls := .type "list", data := .seq vs.toArray }) (hr : Room k callerA) (F : ∀ base : Heap, K.In base → base.Ns mainGlobals mg → FnG P w K mg base k fa fd [x] sp)
    (bind : ∀ (s : Shared) (u : Value), BindsTo s fd ⟨[u], []⟩ [(x, u)]) (hO : Only H) (hok : HOk P w H t.heap) (one : ∀ b, H b ≠ none → b = a) (out : H a ≠ none → K.lookup a = none)
    (hsp : sp [.ref a] H (fun v _ => v = .bl true) fun _ _ _ => False) :
    codeAny (model P w) callerA (.call (.ref fa) ⟨[.ref a], []⟩) (fun r s' => r = .ok (.ret (.bool true)) ∧ OldK t.heap s'.heap ∧ s'.os = t.os ∧ AllBare s'.gens) t := by
  have away : ∀ b, b ≠ a → H b = none := fun b hb => by
    cases q : H b with
    | none => rfl
    | some u => exact absurd (one b (by rw [q]; simp)) hb
  have dicts : ∀ {b : Addr} {m : Str → Option Value}, t.heap.Ns b m → (hidT t.heap H).Ns b m := by
    rintro b m ⟨o, es, ep, e, d, r⟩
    refine ⟨o, es, ep, hidT_get e (away b ?_), d, r⟩
    rintro rfl
    rw [ha] at e
    cases e
    cases d
  have kb : K.In (hidT t.heap H) := by
    intro b o e
    refine hidT_get (inK b o e) ?_
    by_cases hb : b = a
    · subst hb
      cases q : H b with
      | none => rfl
      | some u =>
        have z := out (by rw [q]; simp)
        rw [z] at e
        cases e
    · exact away b hb
  obtain ⟨mc, l1, l2⟩ := nl
  have md : L2.Mod K mg (hidT t.heap H) := ⟨kb, dicts gl, ⟨mb, dicts bi, bb⟩, mc, dicts l1, l2⟩
  have e0 : Env0 P w K mg (hidT t.heap H) callerA [] t H :=
    { frames := rfl, mod := md, bs := fun b o e => of_hidT e, bsz := Nat.le_of_eq (hidT_size _ _), funs := trivial, frf := fun b hb => absurd (show b ∈ ([] : List Addr) from hb) List.not_mem_nil, hok := hok, bare := .of_eq ng }
  have go := (F _ kb (dicts gl)).run callerA [] t H ⟨[.ref a], []⟩ [.ref a] [.ref a] _ _ rfl hr e0 (bind t (.ref a)) (.cons rfl .nil) hsp
  apply codeAny_mono go
  intro r t2 z
  match r, z with
  | .error e, z => exact False.elim z
  | .ok .next, z => exact False.elim z
  | .ok .brk, z => exact False.elim z
  | .ok .cont, z => exact False.elim z
  | .ok (.ret u), ⟨v, H2, os, bare, un, hok2, rv, q⟩ =>
    have hv : v = .bl true := q
    subst hv
    have hu : u = Value.bool true := rv
    subst hu
    refine ⟨rfl, OldK.of_keep fun b o e => ?_, os, bare⟩
    rcases hO b with hn | ⟨ob, xs, hs⟩
    · exact un.keep b o e hn (fun z => absurd (show b ∈ ([] : List Addr) from z) List.not_mem_nil) (by simp)
    · have h1 := (hok b _ hs).1
      have h2 := (hok2 b _ (un.frzs b ob _ hs)).1
      rw [e] at h1
      cases h1
      exact h2
theorem callG {P : Program} {w : World} {K : PySem.W.Frag} {mg mb : Str → Option Value} {k : Nat} {fa a : Addr} {fd : FuncData} {x : Str} {sp : Sp} {t : Shared} {vs : List Value} {ns : List Int}
    (inK : K.In t.heap) (gl : t.heap.Ns mainGlobals mg) (bi : t.heap.Ns builtinsNs mb) (bb : ∀ y : Str, y ≠ "__name__" → mb y = bootBuiltins y) (nl : t.heap.NoLimit) (ng : t.gens = #[])
    (ha : t.heap.get? a = some { cls := .type "list", data := .seq vs.toArray }) (hi : IntsAre vs ns) (hl : ns.length ≤ sizeLine) (hr : Room k callerA) (F : ∀ base : Heap, K.In base → base.Ns mainGlobals mg → FnG P w K mg base k fa fd [x] sp)
    (bind : ∀ (s : Shared) (u : Value), BindsTo s fd ⟨[u], []⟩ [(x, u)]) (hsp : ∀ H : Hp, SqL K H a (ns.map V.int) → sp [.ref a] H (fun v _ => v = .bl true) fun _ _ _ => False) :
    codeAny (model P w) callerA (.call (.ref fa) ⟨[.ref a], []⟩) (fun r s' => r = .ok (.ret (.bool true)) ∧ OldK t.heap s'.heap ∧ s'.os = t.os ∧ AllBare s'.gens) t := by
  have rv := vals_ints hi
  have lv := hi.length
  cases hk : K.lookup a with
  | some o =>
    have e := inK a o hk
    rw [ha] at e
    cases e
    refine callG_core (H := fun _ => none) inK gl bi bb nl ng ha hr F bind (fun _ => Or.inl rfl) (fun b u z => (by cases z)) (fun b z => absurd rfl z) (fun z => absurd rfl z) (hsp _ (Or.inr ?_))
    exact ⟨_, vs.toArray, _, hk, rfl, rfl, rfl, by rw [List.size_toArray, lv]; exact hl, by simpa using rv⟩
  | none =>
    let ob : Obj := { cls := .type "list", data := .seq vs.toArray }
    let H : Hp := fun b => if b = a then some (.frz ob (.lst (ns.map V.int))) else none
    have Ha : H a = some (.frz ob (.lst (ns.map V.int))) := if_pos rfl
    have Hn : ∀ b, b ≠ a → H b = none := fun b hb => if_neg hb
    refine callG_core (H := H) inK gl bi bb nl ng ha hr F bind (fun b => ?_) (fun b u z => ?_) (fun b z => ?_) (fun _ => hk) (hsp H (Or.inl (Or.inr ⟨ob, Ha⟩)))
    · by_cases hb : b = a
      · subst hb; exact Or.inr ⟨_, _, Ha⟩
      · exact Or.inl (Hn b hb)
    · by_cases hb : b = a
      · subst hb
        rw [Ha] at z
        cases z
        exact ⟨ha, by rw [List.length_map]; exact hl, vs, _, rv, ha⟩
      · rw [Hn b hb] at z; cases z
    · by_cases hb : b = a
      · exact hb
      · exact absurd (Hn b hb) z
/-- the end of a law whose def may show things -/
theorem walkG {l : PySem.W.OpenLaw} {n k : Nat} {q : Program} {loose : List Str} {XP : (Str → Option Value) → Heap → Prop} {YP : World → Heap → Prop} {d : DefRec} {K : Params → PySem.W.Frag} {x : Str}
    (hn : l.most = some n) (h63 : n = 63) (hdf : d.params.defaults = []) (hr : Room k callerA) (hY : ∀ (w : World) (h : Heap), YP w h → (K w.params).In h)
    (F : ∀ (w : World) (mg : Str → Option Value) (fa : Addr) (h : Heap), (K w.params).In h → h.Ns mainGlobals mg → mg d.name = some (.ref fa) →
      ∃ fd : FuncData, (∀ (s : Shared) (u : Value), BindsTo s fd ⟨[u], []⟩ [(x, u)]) ∧ ∀ base : Heap, (K w.params).In base → base.Ns mainGlobals mg → FnG l.prog w (K w.params) mg base k fa fd [x] (spLaw (K w.params))) :
    PySem.W.WalkO q loose XP YP l.row.toRowW d [] (fun f vs => PySem.call f vs) := Att.attach_call hn hdf fun w s₀ s₁ mg mb fa o pm cd doc a vs ns gr y ho hd hcd hmg hobj hints hlen hg => by
  subst h63
  obtain ⟨fd, hb, hF⟩ := F w mg fa _ (hY w _ y) gr.T.g hmg
  exact callG (hY w _ y) gr.T.g gr.T.b gr.T.builtins gr.T.nolimit hg hobj hints (Nat.le_trans hlen (by decide)) hr hF hb fun H hS => ⟨a, ns, rfl, hS, hlen, fun _ => rfl⟩
theorem ok_endG {P : Program} {w : World} {K : PySem.W.Frag} {mg : Str → Option Value} {base : Heap} {G : Gx} {k : Nat} {f : Addr} {fd : FuncData} {ps : List Str} {F : Pf} (h : FnG P w K mg base k f fd ps (spU K G (liftP F))) (ht : ∀ ns : List Int, ns.length ≤ 63 → F [.scr (ns.map .int)] = some (.bl true)) :
    FnG P w K mg base k f fd ps (spLaw K) := h.imp (sp_law ht)
end OF

namespace OF
open PySem PySem.Spec PyProof.Rows L2
variable {X : Cx} {G : Gx}
/-! repr of data -/
def shownOk (d : PyData) : Bool := SeqAt.shaped d && (d.showable && decide (d.shown.length ≤ sizeLine))
def isBox : PyData → Bool
  | .list _ => true
  | .tuple _ => true
  | _ => false
theorem callR_repr (gd : X.A.guards = some []) (hu : X.A.units + 70 < cLine) : CallR X (.builtin "repr") (fun xs H Q => ∃ x d, xs = [x] ∧ Dp X.K H x d ∧ isBox d = true ∧ shownOk d = true ∧ Q (.str d.shown) H) := by
  intro pins s σ H xs us Q I r h
  obtain ⟨x, d, rfl, hd, hbx, ok, q⟩ := h
  obtain ⟨u, rfl, ru⟩ := vals1 r
  simp only [shownOk, Bool.and_eq_true, decide_eq_true_eq] at ok
  obtain ⟨sh, sw, sz⟩ := ok
  obtain ⟨as, rd⟩ := Dp.reads I d x u hd ru
  have dep := SeqAt.depth_of_shaped sh
  have nod := PyData.hasDict_of_canLay d (SeqAt.canLay_of_shaped sh)
  have fin : ∀ (h' : Heap) (u tk : Tok), (∀ b o, s.heap.get? b = some o → h'.get? b = some o) → EP X pins σ Q (.str d.shown u) { s with heap := h', toks := tk } := fun h' u tk hk =>
    ⟨.str d.shown, H, I.un (Un.kept hk) (I.hok.kept hk), ⟨u, rfl⟩, q⟩
  cases d with
  | list ds =>
    cases rd with
    | list h1 h2 h3 h4 => exact repr_of_reads' (.list h1 h2 h3 h4) sw (PyData.noDict_hsm nod) gd (by omega) (fun _ _ e => e) fin sz
  | tuple ds =>
    cases rd with
    | tuple h1 h2 h3 h4 => exact repr_of_reads' (.tuple h1 h2 h3 h4) sw (PyData.noDict_hsm nod) gd (by omega) (fun _ _ e => e) fin sz
  | _ => cases hbx
def reprU : Op1 := fun u S => match toDS S u with
  | some d => if isBox d = true ∧ shownOk d = true then some (.str d.shown, S) else none
  | none => none
theorem cu_repr (gd : X.A.guards = some []) (hu : X.A.units + 70 < cLine) : CallU G X (.builtin "repr") (on1 reprU) := CallR.imp (callR_repr gd hu) fun xs H Q ⟨m, S, us, z, S', st, r, e, q⟩ => by
  unfold on1 at e
  split at e
  · rename_i u
    obtain ⟨x, t, rfl, rx, tl⟩ := r.uncons
    have := tl.eqnil
    subst this
    unfold reprU at e
    split at e
    · rename_i d hd
      split at e
      · rename_i ok
        cases e
        exact ⟨x, d, rfl, toDS_ok st rx hd, ok.1, ok.2, q.here st rfl⟩
      · cases e
    · cases e
  · cases e
end OF

namespace OF
open PySem PySem.Spec PyProof.Rows L2
variable {X : Cx} {G : Gx}
/-! x in a row of plain things, a sign in a text, a key in a dict -/
@[simp] def flatU : U → Bool
  | .non => true
  | .bl _ => true
  | .int _ => true
  | .str _ => true
  | _ => false
@[simp] def eqF : U → U → Bool
  | .non, .non => true
  | .bl a, .bl b => a == b
  | .bl a, .int b => (if a then 1 else 0) == b
  | .int a, .bl b => a == (if b then 1 else 0)
  | .int a, .int b => a == b
  | .str a, .str b => a == b
  | _, _ => false
def inB (S : Sto) (a b : U) : Option Bool := match b with
  | .str z => (match a with
    | .str x => (match x.cps.toList with
      | [c] => some (decide (c ∈ z.cps.toList))
      | _ => none)
    | _ => none)
  | b => match itmU S b with
    | some us => if flatU a = true ∧ us.all flatU = true then some (us.any fun y => eqF y a) else none
    | none => match dctU S b, keyU a with
      | some kvs, some k => some (getK kvs k).isSome
      | _, _ => none
def inU (neg : Bool) : Op2 := fun a b S => match inB S a b with
  | some k => some (.bl (if neg then !k else k), S)
  | none => none
theorem flatU_ok {K : PySem.W.Frag} {m : Mp} {H : Hp} {u : U} {v : V} (r : RU K G m H u v) (h : flatU u = true) : flatV v = true := by
  cases u <;> simp [flatU] at h <;> (unfold RU at r; subst r; rfl)
theorem eqF_ok {K : PySem.W.Frag} {m : Mp} {H : Hp} {u w : U} {v z : V} (r : RU K G m H u v) (r2 : RU K G m H w z) (h : flatU u = true) (h2 : flatU w = true) : eqV v z = eqF u w := by
  cases u <;> simp [flatU] at h <;> cases w <;> simp [flatU] at h2 <;> (unfold RU at r r2; subst r; subst r2; rfl)
theorem anyF_ok {K : PySem.W.Frag} {m : Mp} {H : Hp} {w : U} {z : V} (r2 : RU K G m H w z) (h2 : flatU w = true) : ∀ {us : List U} {vs : List V}, RUs K G m H us vs → us.all flatU = true → vs.all flatV = true ∧ inV z vs = us.any fun y => eqF y w
  | [], vs, r, _ => by have := r.eqnil; subst this; exact ⟨rfl, rfl⟩
  | u :: us, vs, r, h => by
    obtain ⟨v, t, rfl, ru, rt⟩ := r.uncons
    simp only [List.all_cons, Bool.and_eq_true] at h
    obtain ⟨a, b⟩ := anyF_ok r2 h2 rt h.2
    refine ⟨by simp [a, flatU_ok ru h.1], ?_⟩
    unfold inV at b ⊢
    simp only [List.any_cons, b, eqF_ok ru r2 h.1 h2]
theorem or_din (hu : X.A.units + 1 < cLine) : OpR X (compareOp .In) (fun y x H Q => ∃ a o, x = .ref a ∧ DGet H a y o ∧ Q (.bl o.isSome) H) := by
  intro pins s σ H x y v u Q I rx ry h
  obtain ⟨a, o, rfl, g, q⟩ := h
  obtain rfl : u = Value.ref a := ry
  exact d_in hu I g rx fun s3 I3 => ⟨.bl o.isSome, H, I3, rfl, q⟩
theorem or_dnotin (hu : X.A.units + 1 < cLine) : OpR X (compareOp .NotIn) (fun y x H Q => ∃ a o, x = .ref a ∧ DGet H a y o ∧ Q (.bl (!o.isSome)) H) := by
  intro pins s σ H x y v u Q I rx ry h
  obtain ⟨a, o, rfl, g, q⟩ := h
  obtain rfl : u = Value.ref a := ry
  exact d_notIn hu I g rx fun s3 I3 => ⟨.bl (!o.isSome), H, I3, rfl, q⟩
theorem OpR.or {f : Value → Value → Sem Value} {r r' : R2} (h : OpR X f r) (h' : OpR X f r') : OpR X f (fun x y H Q => r x y H Q ∨ r' x y H Q) := by
  intro pins s σ H x y v u Q I rx ry q
  rcases q with q | q
  · exact h pins s σ H x y v u Q I rx ry q
  · exact h' pins s σ H x y v u Q I rx ry q
theorem str_of_one {x : Str} {c : Nat} (h : x.cps.toList = [c]) : x = ⟨#[c]⟩ := by
  cases x with
  | mk a =>
    have h2 : a.toList = [c] := h
    congr 1
    have := congrArg List.toArray h2
    simpa using this
theorem in_ok {neg : Bool} {x y : V} {H : Hp} {Q : VK} (h : r2U X.K G (inU neg) x y H Q) :
    (rIn X.K neg x y H Q) ∨ (∃ (c : Nat) (z : Str), x = .str ⟨#[c]⟩ ∧ y = .str z ∧ Q (.bl (if neg then !decide (c ∈ z.cps.toList) else decide (c ∈ z.cps.toList))) H) ∨ ∃ a o, y = .ref a ∧ DGet H a x o ∧ Q (.bl (if neg then !o.isSome else o.isSome)) H := by
  obtain ⟨m, S, u1, u2, z, S', st, r1, r2, e, q⟩ := h
  unfold inU at e
  split at e
  · rename_i k hk
    cases e
    unfold inB at hk
    split at hk
    · rename_i z
      split at hk
      · rename_i x'
        split at hk
        · rename_i c hc
          cases hk
          have := str_of_one hc
          subst this
          unfold RU at r1 r2
          subst r1; subst r2
          exact .inr (.inl ⟨c, z, rfl, rfl, q.here st rfl⟩)
        · cases hk
      · cases hk
    · split at hk
      · rename_i us hus
        split at hk
        · rename_i hf
          cases hk
          obtain ⟨a, vs, rfl, hs, rs⟩ := itmU_ok st r2 hus
          obtain ⟨f1, f2⟩ := anyF_ok r1 hf.1 rs hf.2
          exact .inl ⟨a, vs, rfl, hs.symm, flatU_ok r1 hf.1, f1, by rw [f2]; exact q.here st rfl⟩
        · cases hk
      · split at hk
        · rename_i kvs k' h1 h2
          cases hk
          obtain ⟨a, vs, rfl, hr, rk⟩ := dctU_ok st r2 h1
          have g := rk.get (k := k')
          refine .inr (.inr ⟨a, valV vs k', rfl, .inl ⟨vs, k', hr, keyU_ok r1 h2, rfl⟩, ?_⟩)
          have hi : (valV vs k').isSome = (getK kvs k').isSome := by
            cases hg : getK kvs k' with
            | none => rw [g.1 hg]; rfl
            | some w => obtain ⟨v', ev', _⟩ := g.2 w hg; rw [ev']; rfl
          rw [hi]
          exact q.here st rfl
        · cases hk
  · cases e
theorem ou_in (hu : X.A.units + 1 < cLine) : OpU G X (compareOp .In) (inU false) := OpR.imp (OpR.or op_in_seq (OpR.or op_in_sign (or_din hu))) fun x y H Q h => by
  simpa using in_ok h
theorem ou_notin (hu : X.A.units + 1 < cLine) : OpU G X (compareOp .NotIn) (inU true) := OpR.imp (OpR.or op_notIn_seq (OpR.or op_notIn_sign (or_dnotin hu))) fun x y H Q h => by
  simpa using in_ok h
/-! dict displays -/
def cPairs : List (Cm U × Cm U) → Cm (List (U × U))
  | [] => fun _ S => some ([], S)
  | (k, v) :: r => fun env S => match k env S with
    | none => none
    | some (a, S1) => match v env S1 with
      | none => none
      | some (b, S2) => match cPairs r env S2 with
        | none => none
        | some (ps, S3) => some ((a, b) :: ps, S3)
def keysU : List (U × U) → Option (List (Key × U))
  | [] => some []
  | (k, v) :: r => match keyU k, keysU r with
    | some k, some t => some ((k, v) :: t)
    | _, _ => none
def mergeU (kvs more : List (Key × U)) : List (Key × U) := more.foldl (fun acc kv => putKU acc kv.1 kv.2) kvs
def cDisp (mu : Bool) (prs : List (Cm U × Cm U)) : Cm U := fun env S => match cPairs prs env S with
  | none => none
  | some (ps, S1) => match keysU ps with
    | none => none
    | some kvs => if kvs.length ≤ 15 then (if mu then some (.ref S1.length, S1 ++ [.dct (mergeU [] kvs)]) else some (.dct (mergeU [] kvs), S1)) else none
section
variable {K : PySem.W.Frag} {m m' : Mp} {H H' : Hp} {S S' : Sto}
/-- a reserved address becomes a cell -/
theorem res_cell {D : Addr} {o : O} {ho : HO} (x : Ext m H m' H') (hD : H D = none) (nx : D ∉ m'.x) (st' : Rst K G ⟨m'.c, D :: m'.x⟩ H' S') (hd : H' D = some ho) (r : RO K G ⟨m'.c, D :: m'.x⟩ H' o ho) :
    Ext m H ⟨m'.c ++ [D], m'.x⟩ H' ∧ Rst K G ⟨m'.c ++ [D], m'.x⟩ H' (S' ++ [o]) ∧ RU K G ⟨m'.c ++ [D], m'.x⟩ H' (.ref S'.length) (.ref D) := by
  have k : Keeps ⟨m'.c, D :: m'.x⟩ H' ⟨m'.c ++ [D], m'.x⟩ H' := ⟨fun a u r n nx => ⟨r, by
    intro h
    rcases List.mem_append.mp h with h | h
    · exact n h
    · exact nx (by simp at h; simp [h]), fun h => nx (List.mem_cons_of_mem _ h)⟩, fun n a h => by
    show (m'.c ++ [D])[n]? = some a
    rw [List.getElem?_append_left (List.getElem?_eq_some_iff.mp h).1]; exact h⟩
  have hDc : D ∉ m'.c := st'.nx D (by simp)
  refine ⟨⟨?_, x.x, x.keep, x.cells, fun a ha n => ?_⟩, ⟨?_, by simp [st'.len], fun n ob a h1 h2 => ?_, fun a ha => st'.xs a (List.mem_cons_of_mem _ ha), fun a ha h => ?_⟩, RU.cell ?_⟩
  · obtain ⟨r, hr⟩ := x.pre
    exact ⟨r ++ [D], by rw [← List.append_assoc, ← hr]⟩
  · rcases List.mem_append.mp ha with h | h
    · exact x.new a h n
    · have : a = D := by simpa using h
      rw [this]; exact hD
  · refine List.nodup_append.mpr ⟨st'.nd, by simp, fun a ha b hb => ?_⟩
    have : b = D := by simpa using hb
    subst this
    intro e; subst e
    exact hDc ha
  · by_cases hn : n < S'.length
    · rw [List.getElem?_append_left hn] at h1
      have h2' : m'.c[n]? = some a := by
        have h2'' : (m'.c ++ [D])[n]? = some a := h2
        rw [List.getElem?_append_left (by have := st'.len; simp at this; omega)] at h2''
        exact h2''
      obtain ⟨ho, e, r⟩ := st'.ob n ob a h1 h2'
      exact ⟨ho, e, RO.keep k _ _ r⟩
    · rw [List.getElem?_append_right (by omega)] at h1
      have e0 : n - S'.length = 0 := by
        have := (List.getElem?_eq_some_iff.mp h1).1
        simp at this; omega
      rw [e0] at h1
      cases h1
      have hlen : m'.c.length = S'.length := st'.len
      have h2'' : (m'.c ++ [D])[n]? = some a := h2
      rw [List.getElem?_append_right (by omega), hlen, e0] at h2''
      cases h2''
      exact ⟨_, hd, RO.keep k _ _ r⟩
  · rcases List.mem_append.mp h with h | h
    · exact st'.nx a (List.mem_cons_of_mem _ ha) h
    · have : a = D := by simpa using h
      subst this
      exact nx ha
  · have hlen : m'.c.length = S'.length := st'.len
    show (m'.c ++ [D])[S'.length]? = some D
    rw [← hlen]; simp
theorem re_pairs : ∀ (prs : List (Cm U × Cm U)) {m : Mp} {H : Hp} {S S' : Sto} {env : Env'} {σ : L2.St} {ps : List (U × U)} {Q : List (V × V) → Hp → Prop}, Rst K G m H S → Renv K G m H env σ → cPairs prs env S = some (ps, S') →
    (∀ m' H' vs, Ext m H m' H' → Rst K G m' H' S' → RUs K G m' H' (ps.map (·.1)) (vs.map (·.1)) → RUs K G m' H' (ps.map (·.2)) (vs.map (·.2)) → Q vs H') → tPairs (prs.map fun p => (RE K G p.1, RE K G p.2)) σ H Q
  | [], m, H, S, S', env, σ, ps, Q, st, re, hc, q => by
    unfold cPairs at hc
    cases hc
    exact q m H [] (Ext.refl m H) st RUs.nil RUs.nil
  | (k, v) :: r, m, H, S, S', env, σ, ps, Q, st, re, hc, q => by
    unfold cPairs at hc
    split at hc
    · cases hc
    · rename_i a S1 e1
      split at hc
      · cases hc
      · rename_i b S2 e2
        split at hc
        · cases hc
        · rename_i ps' S3 e3
          cases hc
          show tPairs ((RE K G k, RE K G v) :: r.map fun p => (RE K G p.1, RE K G p.2)) σ H Q
          refine ⟨m, S, env, a, S1, st, re, e1, fun m1 H1 x x1 st1 r1 => ⟨m1, S1, env, b, S2, st1, re.keep x1.keeps, e2, fun m2 H2 y x2 st2 r2 => ?_⟩⟩
          refine re_pairs r st2 ((re.keep x1.keeps).keep x2.keeps) e3 fun m3 H3 vs x3 st3 r3 r4 => ?_
          exact q m3 H3 ((x, y) :: vs) (x1.trans (x2.trans x3)) st3 (RUs.cons (RU.keep (x2.trans x3).keeps _ _ r1) r3) (RUs.cons (RU.keep x3.keeps _ _ r2) r4)
theorem keysU_ok : ∀ {ps : List (U × U)} {kvs : List (Key × U)} {vs : List (V × V)}, keysU ps = some kvs → RUs K G m H (ps.map (·.1)) (vs.map (·.1)) → RUs K G m H (ps.map (·.2)) (vs.map (·.2)) →
    ∃ ws : List (Key × V), vs = ws.map (fun kv => (kV kv.1, kv.2)) ∧ RKs K G m H kvs ws ∧ ws.length = kvs.length
  | [], kvs, vs, h, r1, r2 => by
    unfold keysU at h
    cases h
    have := r1.eqnil
    have hv : vs = [] := by cases vs with
      | nil => rfl
      | cons _ _ => simp at this
    subst hv
    exact ⟨[], rfl, RKs.nil, rfl⟩
  | (k, v) :: ps, kvs, vs, h, r1, r2 => by
    unfold keysU at h
    split at h
    · rename_i k' t h1 h2
      cases h
      cases vs with
      | nil => obtain ⟨_, _, e, _⟩ := r1.uncons; cases e
      | cons p vs =>
        obtain ⟨a, ra, e1, q1, t1⟩ := r1.uncons
        obtain ⟨b, rb, e2, q2, t2⟩ := r2.uncons
        simp only [List.map_cons, List.cons.injEq] at e1 e2
        obtain ⟨rfl, rfl⟩ := e1
        obtain ⟨rfl, rfl⟩ := e2
        obtain ⟨ws, ew, rw', hl⟩ := keysU_ok h2 t1 t2
        refine ⟨(k', p.2) :: ws, ?_, RKs.cons q2 rw', by simp [hl]⟩
        rw [List.map_cons, ← ew, ← keyU_ok q1 h1]
    · cases h
theorem mergeU_ok : ∀ {more : List (Key × U)} {ws : List (Key × V)} {kvs : List (Key × U)} {vs : List (Key × V)}, RKs K G m H more ws → RKs K G m H kvs vs → RKs K G m H (mergeU kvs more) (mergeK vs ws)
  | [], ws, kvs, vs, r, r0 => by have := r.eqnil; subst this; exact r0
  | (k, u) :: more, ws, kvs, vs, r, r0 => by
    obtain ⟨v, t, rfl, q, tl⟩ := r.uncons
    exact mergeU_ok (more := more) (kvs := putKU kvs k u) (vs := putK vs k v) tl (r0.put q)
end
abbrev EDs (G : Gx) (X : Cx) (pos : Pos) (keys : List (Option Expr)) (values : List Expr) (prs : List (Cm U × Cm U)) : Prop := PPs X pos keys values (prs.map fun p => (RE X.K G p.1, RE X.K G p.2))
theorem ed_nil {pos : Pos} : EDs G X pos [] [] [] := pps_nil
theorem ed_cons {pos : Pos} {k v : Expr} {ks : List (Option Expr)} {vs : List Expr} {ck cv : Cm U} {prs : List (Cm U × Cm U)} (hk : EE G X k ck) (hv : EE G X v cv) (hr : EDs G X pos ks vs prs) : EDs G X pos (some k :: ks) (v :: vs) ((ck, cv) :: prs) := pps_cons hk hv hr
theorem ee_disp {pos : Pos} {keys : List (Option Expr)} {values : List Expr} {prs : List (Cm U × Cm U)} (mu : Bool) (h : EDs G X pos keys values prs) (hall : keys.all (·.isSome) = true := by rfl) (hl : keys.length = values.length := by rfl) (h0 : keys ≠ [] := by simp)
    (h15 : keys.length ≤ 15 := by decide) : EE G X (.Dict keys values pos) (cDisp mu prs) := (pe_disp h hall hl h0 h15).imp fun σ H Q ⟨m, S, env, z, S', st, re, hc, q⟩ => by
  unfold cDisp at hc
  split at hc
  · cases hc
  · rename_i ps S1 e1
    split at hc
    · cases hc
    · rename_i kvs hk
      split at hc
      · rename_i hl15
        intro D hD
        refine re_pairs prs (st.res (o := .dK []) hD) (re.keep (Ext.res (o := .dK []) hD).keeps) e1 fun m' H' vs x' st' r1 r2 => ?_
        have hx : D ∈ m'.x := x'.xmem (by simp)
        have nc : D ∉ m'.c := st'.nx D hx
        have hd : H' D = some (.dK []) := x'.keep D _ upd_same (st.none_c hD)
        obtain ⟨ws, ew, rk, hw⟩ := keysU_ok hk r1 r2
        refine ⟨hd, ws, ew, by omega, ?_⟩
        have rm := mergeU_ok rk (RKs.nil (K := X.K) (G := G) (m := m') (H := H'))
        have st2 : Rst X.K G m' (upd H' D (.dK (mergeK [] ws))) S1 := st'.setx hx
        have k2 : Keeps m' H' m' (upd H' D (.dK (mergeK [] ws))) := keeps_x hx
        have rm2 := RKs.keep k2 _ _ rm
        -- forget all that is reserved here but D
        have hsub : ∀ a ∈ D :: m.x, a ∈ m'.x := fun a ha => x'.xmem ha
        have st3 : Rst X.K G ⟨m'.c, D :: m.x⟩ (upd H' D (.dK (mergeK [] ws))) S1 := Rst.forget (x := m'.x) st2 hsub
        have rm3 := RKs.keep (keeps_forget (c := m'.c) (x := m'.x) (H := upd H' D (.dK (mergeK [] ws))) hsub) _ _ rm2
        have x0 := (Ext.res (m := m) (o := .dK []) hD).trans x'
        have x3 : Ext m H ⟨m'.c, m.x⟩ (upd H' D (.dK (mergeK [] ws))) := by
          have x5 := x0.forget
          refine ⟨x5.pre, x5.x, fun a o h n => ?_, fun a ha h => ?_, x5.new⟩
          · have : a ≠ D := ne_of_none h hD
            rw [upd_ne this]; exact x5.keep a o h n
          · by_cases e : a = D
            · subst e; rw [upd_same]; rfl
            · rw [upd_ne e]; exact x5.cells a ha h
        split at hc
        · cases hc
          obtain ⟨y1, y2, y3⟩ := res_cell (o := .dct (mergeU [] kvs)) x3 hD (st.none_x hD) st3 upd_same ⟨_, rfl, rm3⟩
          exact q _ _ _ y1 y2 y3
        · cases hc
          have hs2 : ∀ a ∈ m.x, a ∈ D :: m.x := fun a ha => List.mem_cons_of_mem _ ha
          refine q ⟨m'.c, m.x⟩ _ (.ref D) x3 (Rst.forget (x := D :: m.x) st3 hs2) ?_
          unfold RU
          exact ⟨D, _, rfl, .inl upd_same, nc, st.none_x hD, RKs.keep (keeps_forget (x := D :: m.x) hs2) _ _ rm3⟩
      · cases hc
/-! unfolding, for simp -/
@[simp] theorem inU_ap (neg : Bool) (a b : U) (S : Sto) : inU neg a b S = match inB S a b with
  | some k => some (.bl (if neg then !k else k), S)
  | none => none := rfl
@[simp] theorem inB_tup (S : Sto) (a : U) (us : List U) : inB S a (.tup us) = if flatU a = true ∧ us.all flatU = true then some (us.any fun y => eqF y a) else none := rfl
@[simp] theorem inB_lst (S : Sto) (a : U) (us : List U) : inB S a (.lst us) = if flatU a = true ∧ us.all flatU = true then some (us.any fun y => eqF y a) else none := rfl
@[simp] theorem inB_dct (S : Sto) (a : U) (kvs : List (Key × U)) : inB S a (.dct kvs) = match keyU a with
  | some k => some (getK kvs k).isSome
  | none => none := by
  show (match dctU S (.dct kvs), keyU a with | some kvs, some k => some (getK kvs k).isSome | _, _ => none) = _
  simp only [dctU]
  cases keyU a <;> rfl
theorem inB_refL (S : Sto) (a : U) (n : Nat) (us : List U) (h : S[n]? = some (.lst us)) : inB S a (.ref n) = if flatU a = true ∧ us.all flatU = true then some (us.any fun y => eqF y a) else none := by
  simp [inB, itmU, h]
theorem inB_refD (S : Sto) (a : U) (n : Nat) (kvs : List (Key × U)) (h : S[n]? = some (.dct kvs)) : inB S a (.ref n) = match keyU a with
  | some k => some (getK kvs k).isSome
  | none => none := by
  simp only [inB, itmU, h, dctU]
  cases keyU a <;> rfl
@[simp] theorem cPairs_nil (env : Env') (S : Sto) : cPairs [] env S = some ([], S) := rfl
@[simp] theorem cPairs_cons (k v : Cm U) (r : List (Cm U × Cm U)) (env : Env') (S : Sto) : cPairs ((k, v) :: r) env S = match k env S with
    | none => none
    | some (a, S1) => match v env S1 with
      | none => none
      | some (b, S2) => match cPairs r env S2 with
        | none => none
        | some (ps, S3) => some ((a, b) :: ps, S3) := rfl
@[simp] theorem cDisp_ap (mu : Bool) (prs : List (Cm U × Cm U)) (env : Env') (S : Sto) : cDisp mu prs env S = match cPairs prs env S with
  | none => none
  | some (ps, S1) => match keysU ps with
    | none => none
    | some kvs => if kvs.length ≤ 15 then (if mu then some (.ref S1.length, S1 ++ [.dct (mergeU [] kvs)]) else some (.dct (mergeU [] kvs), S1)) else none := rfl
@[simp] theorem keysU_nil : keysU [] = some [] := rfl
@[simp] theorem keysU_cons (k v : U) (r : List (U × U)) : keysU ((k, v) :: r) = match keyU k, keysU r with
    | some k, some t => some ((k, v) :: t)
    | _, _ => none := rfl
@[simp] theorem mergeU_nil (kvs : List (Key × U)) : mergeU kvs [] = kvs := rfl
@[simp] theorem mergeU_cons (kvs : List (Key × U)) (k : Key) (v : U) (r : List (Key × U)) : mergeU kvs ((k, v) :: r) = mergeU (putKU kvs k v) r := rfl
theorem hu70 {A : Around} {k : Nat} (hr : Room k A) : A.units + 70 < cLine := by have := hr.un; omega
end OF

namespace OF
open PySem PySem.Spec PyProof.Rows L2
/-! what can be shown, and that it isn't too long -/
mutual
def bkU : U → Nat
  | .str x => x.cps.size
  | .tup us => bkUs us
  | .lst us => bkUs us
  | _ => 0
def bkUs : List U → Nat
  | [] => 0
  | u :: us => bkU u + 1 + bkUs us
end
mutual
def shU : U → Bool
  | .int i => decide (i.natAbs.log2 < 400)
  | .tup us => shUs us
  | .lst us => shUs us
  | _ => true
def shUs : List U → Bool
  | [] => true
  | u :: us => shU u && shUs us
end
theorem strOk_short {x : Str} (h : PyData.strOk x = true) : (x.cps.toList.all fun c => decide (c < 16 ^ 8)) = true := by
  rw [List.all_eq_true]
  intro c hc
  unfold PyData.strOk at h
  rw [Array.all_eq_true'] at h
  have := h c (by simpa using hc)
  simp at this ⊢
  omega
mutual
theorem shU_ok : ∀ (n : Nat) (u : U) (d : PyData), okU n u = true → shU u = true → toD u = some d → d.leavesShort 401 = true ∧ d.showable = true ∧ d.bulk = bkU u
  | n, .non, d, _, _, e => by simp only [toD] at e; cases e; exact ⟨rfl, rfl, rfl⟩
  | n, .bl b, d, _, _, e => by simp only [toD] at e; cases e; exact ⟨rfl, rfl, rfl⟩
  | n, .int i, d, _, h, e => by
    simp only [toD] at e
    cases e
    simp only [shU, decide_eq_true_eq] at h
    refine ⟨?_, ?_, rfl⟩
    · have := int_text_length_le (a := i) (k := 400) (by decide) h
      show decide ((Str.ofString (toString i)).length ≤ 401) = true
      rw [PySem.ofString_length]
      exact decide_eq_true this
    · simp only [PyData.showable, decide_eq_true_eq]
      omega
  | n, .str x, d, h, _, e => by
    simp only [toD] at e
    cases e
    have h' : PyData.strOk x = true := by simpa [okU] using h
    exact ⟨by simpa only [PyData.leavesShort] using strOk_short h', rfl, rfl⟩
  | 0, .tup us, d, h, _, _ => by simp [okU] at h
  | 0, .lst us, d, h, _, _ => by simp [okU] at h
  | n + 1, .tup us, d, h, s, e => by
    simp only [toD] at e
    split at e
    · rename_i ds hd
      cases e
      obtain ⟨a, b, c⟩ := shUs_ok n us ds (by simpa [okU] using h) (by simpa [shU] using s) hd
      exact ⟨by simpa only [PyData.leavesShort] using a, by simpa only [PyData.showable] using b, by simpa only [PyData.bulk, bkU] using c⟩
    · cases e
  | n + 1, .lst us, d, h, s, e => by
    simp only [toD] at e
    split at e
    · rename_i ds hd
      cases e
      obtain ⟨a, b, c⟩ := shUs_ok n us ds (by simpa [okU] using h) (by simpa [shU] using s) hd
      exact ⟨by simpa only [PyData.leavesShort] using a, by simpa only [PyData.showable] using b, by simpa only [PyData.bulk, bkU] using c⟩
    · cases e
  | n, .scr us, d, h, _, _ => by simp [okU] at h
  | n, .dct us, d, h, _, _ => by simp [okU] at h
  | n, .fn us, d, h, _, _ => by simp [okU] at h
  | n, .ref us, d, h, _, _ => by simp [okU] at h
theorem shUs_ok : ∀ (n : Nat) (us : List U) (ds : List PyData), okUs n us = true → shUs us = true → toDs us = some ds → PyData.leavesShortAll 401 ds = true ∧ PyData.showableAll ds = true ∧ PyData.bulkAll ds = bkUs us
  | n, [], ds, _, _, e => by simp only [toDs] at e; cases e; exact ⟨rfl, rfl, rfl⟩
  | n, u :: us, ds, h, s, e => by
    simp only [toDs] at e
    simp only [okUs, Bool.and_eq_true] at h
    simp only [shUs, Bool.and_eq_true] at s
    split at e
    · cases e
    · rename_i d h1
      split at e
      · cases e
      · rename_i ds' h2
        cases e
        obtain ⟨a, b, c⟩ := shU_ok n u d h.1 s.1 h1
        obtain ⟨a', b', c'⟩ := shUs_ok n us ds' h.2 s.2 h2
        exact ⟨by simp only [PyData.leavesShortAll, a, a', Bool.and_self], by simp only [PyData.showableAll, b, b', Bool.and_self], by simp only [PyData.bulkAll, bkUs, c, c']⟩
end
/-- what may be shown -/
structure Shw (u : U) : Prop where
  ok : okU 60 u = true
  box : (∃ us, u = .tup us) ∨ ∃ us, u = .lst us
  sh : shU u = true
  bk : bkU u ≤ 40000
theorem repr_same {u : U} (h : Shw u) : ∃ t : Str, ∀ S : Sto, reprU u S = some (.str t, S) := by
  obtain ⟨d, e, h1, h2⟩ := okU_toD 60 u h.ok
  obtain ⟨a, b, c⟩ := shU_ok 60 u d h.ok h.sh e
  have hb : isBox d = true := by
    rcases h.box with ⟨us, rfl⟩ | ⟨us, rfl⟩
    · simp only [toD] at e
      split at e
      · cases e; rfl
      · cases e
    · simp only [toD] at e
      split at e
      · cases e; rfl
      · cases e
  have hl := PyData.shown_le_bulk 401 (by decide) d a
  have hk := h.bk
  have hs : shownOk d = true := by
    simp only [shownOk, SeqAt.shaped, Bool.and_eq_true, decide_eq_true_eq]
    refine ⟨⟨h1, by omega⟩, b, le_size _ (by rw [c] at hl; omega)⟩
  refine ⟨d.shown, fun S => ?_⟩
  unfold reprU
  rw [toDS_noref h.ok, e]
  simp [hb, hs]
theorem bkUs_le {c : Nat} : ∀ {us : List U}, (∀ u ∈ us, bkU u ≤ c) → bkUs us ≤ us.length * (c + 1)
  | [], _ => Nat.zero_le _
  | u :: us, h => by
    have h1 := h u (by simp)
    have h2 := bkUs_le (c := c) (us := us) fun w hw => h w (by simp [hw])
    simp only [bkUs, List.length_cons, Nat.succ_mul]
    omega
theorem shUs_all : ∀ {us : List U}, (∀ u ∈ us, shU u = true) → shUs us = true
  | [], _ => rfl
  | u :: us, h => by
    have h2 := shUs_all (us := us) fun w hw => h w (by simp [hw])
    simp only [shUs, h u (by simp), h2, Bool.and_self]
theorem okUs_all {n : Nat} : ∀ {us : List U}, (∀ u ∈ us, okU n u = true) → okUs n us = true
  | [], _ => by simp [okUs]
  | u :: us, h => by
    have h2 := okUs_all (n := n) (us := us) fun w hw => h w (by simp [hw])
    simp only [okUs, h u (by simp), h2, Bool.and_self]
end OF

namespace OF
open PySem PySem.Spec PyProof.Rows L2
variable {X : Cx} {G : Gx}
variable {e o tg iter : Expr} {es : List Expr} {ca cb : Cm U} {cl ck : Cm (List U)} {pos apos p : Pos}
/-! walks over a cell's list, which must stay as it is while it is walked -/
abbrev CmG := Env' → Sto → Option ((List U × Option Nat) × Sto)
def gok (g : Option Nat) (us : List U) (S : Sto) : Prop := match g with
  | none => True
  | some n => S[n]? = some (.lst us)
@[simp] theorem gok_none (us : List U) (S : Sto) : gok none us S = True := rfl
@[simp] theorem gok_some (n : Nat) (us : List U) (S : Sto) : gok (some n) us S = (S[n]? = some (.lst us)) := rfl
def ItOkG (K : PySem.W.Frag) (G : Gx) (m1 : Mp) (H1 : Hp) (us : List U) (g : Option Nat) (J : It) : Prop := ∃ Gd Y, Walk J us.length Gd Y ∧ (∀ m2 H2 S2, Ext m1 H1 m2 H2 → Rst K G m2 H2 S2 → gok g us S2 → Gd H2) ∧
  ∀ i m2 S2 H2 x H3, Ext m1 H1 m2 H2 → Rst K G m2 H2 S2 → gok g us S2 → i < us.length → Y i H2 x H3 → ∃ u, us[i]? = some u ∧ Ext m2 H2 m2 H3 ∧ Rst K G m2 H3 S2 ∧ RU K G m2 H3 u x
def RIG (K : PySem.W.Frag) (G : Gx) (it : CmG) : TI := fun σ H R => ∃ m S env us g S', Rst K G m H S ∧ Renv K G m H env σ ∧ it env S = some ((us, g), S') ∧ ∀ m1 H1, Ext m H m1 H1 → Rst K G m1 H1 S' → ∀ J, ItOkG K G m1 H1 us g J → R J H1
abbrev EIG (G : Gx) (X : Cx) (tg iter : Expr) (it : CmG) : Prop := PI X tg iter (RIG X.K G it)
open Classical in
noncomputable def loopG (pt : Pat) (b : Sm) (g : Option Nat) (us0 : List U) : List U → Sm
  | [], env, S => if gok g us0 S then some (.nx, env, S) else none
  | u :: us, env, S => if gok g us0 S then (match bindP pt u with
    | none => none
    | some bs => match b (setAll env bs) S with
      | none => none
      | some (.nx, env2, S2) => loopG pt b g us0 us env2 S2
      | some (.ct, env2, S2) => loopG pt b g us0 us env2 S2
      | some (.brk, env2, S2) => some (.nx, env2, S2)
      | some (.ret z, env2, S2) => some (.ret z, env2, S2)) else none
theorem loopG_gok {pt : Pat} {b : Sm} {g : Option Nat} {us0 us : List U} {env : Env'} {S : Sto} {r : Fl × Env' × Sto} (h : loopG pt b g us0 us env S = some r) : gok g us0 S := by
  cases us <;> (unfold loopG at h; split at h; assumption; cases h)
noncomputable def sForG (it : CmG) (pt : Pat) (b : Sm) : Sm := fun env S => match it env S with
  | none => none
  | some ((us, g), S1) => loopG pt b g us us env S1
theorem rs_forG {K : PySem.W.Frag} {it : CmG} {pt : Pat} {b : Sm} {D : Ends} {σ : L2.St} {H : Hp} (h : RS K G (sForG it pt b) D σ H) : tFor (RIG K G it) (tPat K pt) (RS K G b) D σ H := by
  obtain ⟨m, S, env, fl, env', S', st, re, hc, q⟩ := h
  unfold sForG at hc
  split at hc
  · cases hc
  · rename_i us g S1 e1
    refine ⟨m, S, env, us, g, S1, st, re, e1, fun m1 H1 x1 st1 J hJ => ?_⟩
    obtain ⟨Gd, Y, w, hG, hY⟩ := hJ
    refine for_it w (fun i σ H => ∃ m S env fl env' S', Ext m1 H1 m H ∧ Rst K G m H S ∧ Renv K G m H env σ ∧ loopG pt b g us (us.drop i) env S = some (fl, env', S') ∧ AfterS K G m H fl env' S' D)
      ⟨m1, S1, env, fl, env', S', Ext.refl _ _, st1, re.keep x1.keeps, hc, q.mono x1⟩ (fun i σ H _ ⟨m, S, env, fl, env', S', x, st, _, hl, _⟩ => hG m H S x st (loopG_gok hl)) (fun i y σ H H' hi ⟨m, S, env, fl, env', S', x, st, re, hl, q⟩ hy => ?_) (fun σ H ⟨m, S, env, fl, env', S', x, st, re, hl, q⟩ => ?_)
    · obtain ⟨u, hu, x2, st2, ru⟩ := hY i m S H y H' x st (loopG_gok hl) hi hy
      rw [drop_cons hu] at hl
      have hk := loopG_gok hl
      unfold loopG at hl
      rw [if_pos hk] at hl
      split at hl
      · cases hl
      · rename_i bs eb
        obtain ⟨bv, h1, h2⟩ := bindP_ok _ _ _ _ eb ru
        refine ⟨bv, h1, ?_⟩
        have re2 := (re.keep x2.keeps).setAll h2
        split at hl
        · cases hl
        · rename_i env2 S2 e2
          exact ⟨m, S, _, _, env2, S2, st2, re2, e2, fun m3 H3 σ3 x3 st3 re3 => ⟨m3, S2, env2, fl, env', S', (x.trans x2).trans x3, st3, re3, hl, (q.mono x2).mono x3⟩⟩
        · rename_i env2 S2 e2
          exact ⟨m, S, _, _, env2, S2, st2, re2, e2, fun m3 H3 σ3 x3 st3 re3 => ⟨m3, S2, env2, fl, env', S', (x.trans x2).trans x3, st3, re3, hl, (q.mono x2).mono x3⟩⟩
        · rename_i env2 S2 e2
          cases hl
          exact ⟨m, S, _, _, _, _, st2, re2, e2, AfterE.mono q x2⟩
        · rename_i z env2 S2 e2
          cases hl
          exact ⟨m, S, _, _, _, _, st2, re2, e2, After.mono q x2⟩
    · rw [List.drop_length] at hl
      have hk := loopG_gok hl
      unfold loopG at hl
      rw [if_pos hk] at hl
      cases hl
      exact q m H σ (Ext.refl m H) st re
theorem es_forG {body : List Stmt} {it : CmG} {pt : Pat} {b : Sm} (hp : PassesOwn (model X.prog X.w) X.A X.env X.xe) (hc : X.calm = true) (hi : EIG G X tg iter it) (hg : EPt X tg pt) (hb : ESs G X body b)
    (hs : ∀ x, foldedSetIterable iter X.env x = pure x := by intro _; rfl) : ES G X (.For tg iter body [] pos) (sForG it pt b) := (ps_for hp hc hi hg hb hs).imp fun _ _ _ => rs_forG
/-! while -/
open Classical in
noncomputable def mapG (pt : Pat) (t : Cm Bool) (c : Cm U) (env : Env') (g : Option Nat) (us0 : List U) : List U → Sto → Option (List U × Sto)
  | [], S => if gok g us0 S then some ([], S) else none
  | u :: us, S => if gok g us0 S then (match bindP pt u with
    | none => none
    | some bs => match t (setAll env bs) S with
      | none => none
      | some (false, S1) => mapG pt t c env g us0 us S1
      | some (true, S1) => match c (setAll env bs) S1 with
        | none => none
        | some (y, S2) => match mapG pt t c env g us0 us S2 with
          | none => none
          | some (ys, S3) => some (y :: ys, S3)) else none
theorem mapG_gok {pt : Pat} {t : Cm Bool} {c : Cm U} {env : Env'} {g : Option Nat} {us0 us : List U} {S : Sto} {r : List U × Sto} (h : mapG pt t c env g us0 us S = some r) : gok g us0 S := by
  cases us <;> (unfold mapG at h; split at h; assumption; cases h)
noncomputable def cLcGL (it : CmG) (pt : Pat) (t : Cm Bool) (c : Cm U) (vs : List Nat) : Cm (List U) := fun env S => match it env S with
  | none => none
  | some ((us, g), S1) => match mapG pt t c (wipeE env vs) g us us S1 with
    | none => none
    | some (ys, S2) => if ys.length ≤ sizeLine then some (ys, S2) else none
noncomputable def cLcG (it : CmG) (pt : Pat) (t : Cm Bool) (c : Cm U) (vs : List Nat) : Cm U := fun env S => match cLcGL it pt t c vs env S with
  | none => none
  | some (ys, S2) => some (.lst ys, S2)
noncomputable def cLcGM (it : CmG) (pt : Pat) (t : Cm Bool) (c : Cm U) (vs : List Nat) : Cm U := fun env S => match cLcGL it pt t c vs env S with
  | none => none
  | some (ys, S2) => some (.ref S2.length, S2 ++ [.lst ys])
theorem re_lcG {K : PySem.W.Frag} {it : CmG} {pt : Pat} {t : Cm Bool} {c : Cm U} {vs : List Nat} {σ : L2.St} {H : Hp} {Q : VK} (hsl : ∀ i ∈ pt.slots, i ∈ vs)
    {m : Mp} {S : Sto} {env : Env'} {ys : List U} {S' : Sto} (st : Rst K G m H S) (re : Renv K G m H env σ) (hc : cLcGL it pt t c vs env S = some (ys, S'))
    (q : ∀ m' H' D zs, Ext m H m' H' → H D = none → D ∉ m'.x → Rst K G ⟨m'.c, D :: m'.x⟩ H' S' → H' D = some (.lst zs) → RUs K G ⟨m'.c, D :: m'.x⟩ H' ys zs → Q (.ref D) H') :
    tLc (RIG K G it) (tPat K pt) (RT K G t) (RE K G c) vs σ H Q := by
  unfold cLcGL at hc
  split at hc
  · cases hc
  · rename_i us g S1 e1
    split at hc
    · cases hc
    · rename_i ys' S2 e2
      split at hc
      · rename_i hsz
        cases hc
        refine ⟨m, S, env, us, g, S1, st, re, e1, fun m1 H1 x1 st1 J hJ D hD => ?_⟩
        obtain ⟨Gd, Y, w, hG, hY⟩ := hJ
        have reW := (re.keep x1.keeps).wipe vs
        refine lc_it w (fun i H => ∃ m S acc zs rest, Ext m1 H1 m H ∧ D ∈ m.x ∧ Rst K G m H S ∧ H D = some (.lst zs) ∧ RUs K G m H acc zs ∧ mapG pt t c (wipeE env vs) g us (us.drop i) S = some (rest, S') ∧ ys = acc ++ rest)
          ⟨⟨m1.c, D :: m1.x⟩, S1, [], [], ys, Ext.res hD, by simp, st1.res hD, upd_same, RUs.nil, e2, rfl⟩ (fun i H _ ⟨m, S, acc, zs, rest, x, _, st, _, _, hm, _⟩ => hG m H S x st (mapG_gok hm)) (fun i y H H' hi ⟨m, S, acc, zs, rest, x, hx, st, hd, ra, hm, ey⟩ hy => ?_) (fun H ⟨m, S, acc, zs, rest, x, hx, st, hd, ra, hm, ey⟩ => ?_)
        · obtain ⟨u, hu, x2, st2, ru⟩ := hY i m S H y H' x st (mapG_gok hm) hi hy
          rw [drop_cons hu] at hm
          have hk := mapG_gok hm
          unfold mapG at hm
          rw [if_pos hk] at hm
          split at hm
          · cases hm
          · rename_i bs eb
            obtain ⟨bv, h1, h2⟩ := bindP_ok _ _ _ _ eb ru
            have re2 := ((reW.keep x.keeps).keep x2.keeps).setAll h2
            have nc : D ∉ m.c := st.nx D hx
            refine ⟨bv, h1, wipe_setAll_wipe (fun i hi => hsl i (by rw [PatV.slots _ _ _ h1] at hi; exact hi)), ?_⟩
            split at hm
            · cases hm
            · rename_i S3 e3
              refine ⟨m, S, _, false, S3, st2, re2, e3, fun m3 H3 x3 st3 => iteF ?_⟩
              exact ⟨m3, S3, acc, zs, rest, (x.trans x2).trans x3, x3.xmem hx, st3, x3.keep D _ (x2.keep D _ hd nc) nc, RUs.keep (x2.trans x3).keeps _ _ ra, hm, ey⟩
            · rename_i S3 e3
              refine ⟨m, S, _, true, S3, st2, re2, e3, fun m3 H3 x3 st3 => iteT ?_⟩
              split at hm
              · cases hm
              · rename_i z S4 e4
                split at hm
                · cases hm
                · rename_i zs' S5 e5
                  cases hm
                  have d3 : H3 D = some (.lst zs) := x3.keep D _ (x2.keep D _ hd nc) nc
                  have nc3 : D ∉ m3.c := st3.nx D (x3.xmem hx)
                  refine ⟨m3, S3, _, z, S4, st3, re2.keep x3.keeps, e4, fun m4 H4 v x4 st4 r4 => ?_⟩
                  have hx4 : D ∈ m4.x := x4.xmem (x3.xmem hx)
                  have d4 : H4 D = some (.lst zs) := x4.keep D _ d3 nc3
                  have k4 : Keeps m4 H4 m4 (L2.upd H4 D (.lst (zs ++ [v]))) := keeps_x hx4
                  have ra4 := RUs.keep ((x2.trans x3).trans x4).keeps _ _ ra
                  have hl : zs.length < sizeLine := by
                    have h1 := ra.length
                    have h2 : ys.length ≤ sizeLine := hsz
                    rw [ey] at h2
                    simp at h2
                    omega
                  refine ⟨zs, d4, hl, m4, S4, acc ++ [z], zs ++ [v], zs', ?_, hx4, st4.setx hx4, upd_same, RUs.keep k4 _ _ (ra4.append (RUs.one r4)), e5, by rw [ey]; simp⟩
                  have x5 := ((x.trans x2).trans x3).trans x4
                  refine ⟨x5.pre, x5.x, fun a o h n => ?_, fun a ha h => ?_, x5.new⟩
                  · have : a ≠ D := ne_of_none h hD
                    rw [upd_ne this]; exact x5.keep a o h n
                  · by_cases e : a = D
                    · subst e; rw [upd_same]; rfl
                    · rw [upd_ne e]; exact x5.cells a ha h
        · rw [List.drop_length] at hm
          have hk := mapG_gok hm
          unfold mapG at hm
          rw [if_pos hk] at hm
          cases hm
          rw [List.append_nil] at ey
          subst ey
          have hsub : ∀ a ∈ D :: m1.x, a ∈ m.x := fun a ha => by
            rcases List.mem_cons.mp ha with h | h
            · rw [h]; exact hx
            · exact x.xmem h
          exact q ⟨m.c, m1.x⟩ H D zs (x1.trans x.forget) (x1.back hD) (st1.none_x hD) (Rst.forget (x := m.x) st hsub) hd (RUs.keep (keeps_forget (x := m.x) hsub) _ _ ra)
      · cases hc
theorem ee_lcG {elt : Expr} {ifs : List Expr} {scope : Scope} {own : List (Str × Nat)} {it : CmG} {pt : Pat} {t : Cm Bool} {c : Cm U} (hc : X.calm = true) (hN : X.N.Nodup) (hi : EIG G X tg iter it) (ok : BlkOk X.N X.env.scope scope own)
    (hg : ∀ (s : Shared) (H : Hp) (C : Addr) (cl : List (Str × Addr)) (fp : List Addr), EPt (X.blk s H scope (compEnvC scope cl C X.env) fp) tg pt) (ht : ∀ (s : Shared) (H : Hp) (C : Addr) (cl : List (Str × Addr)) (fp : List Addr), ETs G (X.blk s H scope (compEnvC scope cl C X.env) fp) ifs t)
    (he : ∀ (s : Shared) (H : Hp) (C : Addr) (cl : List (Str × Addr)) (fp : List Addr), EE G (X.blk s H scope (compEnvC scope cl C X.env) fp) elt c) (hsl : ∀ i ∈ pt.slots, i ∈ own.map (·.2)) (hs : ∀ x, foldedSetIterable iter X.env x = pure x := by intro _; rfl) :
    EE G X (.ListComp elt [⟨tg, iter, ifs, 0⟩] scope pos) (cLcG it pt t c (own.map (·.2))) := (pe_lc hc hN hi ok hg ht he hs).imp fun σ H Q ⟨m, S, env, z, S', st, re, hc, q⟩ => by
  unfold cLcG at hc
  split at hc
  · cases hc
  · rename_i ys S2 e1
    cases hc
    refine re_lcG hsl st re e1 fun m' H' D zs x hD nx st' hd r => ?_
    have st2 : Rst X.K G m' H' S' := Rst.forget (c := m'.c) (x := D :: m'.x) st' fun a ha => List.mem_cons_of_mem _ ha
    refine q m' H' _ x st2 ?_
    unfold RU
    exact ⟨D, zs, rfl, .inl hd, st'.nx D (by simp), nx, RUs.keep (keeps_forget fun a ha => List.mem_cons_of_mem _ ha) _ _ r⟩
theorem re_lcGM {K : PySem.W.Frag} {it : CmG} {pt : Pat} {t : Cm Bool} {c : Cm U} {vs : List Nat} {σ : L2.St} {H : Hp} {Q : VK} (hsl : ∀ i ∈ pt.slots, i ∈ vs) (h : RE K G (cLcGM it pt t c vs) σ H Q) : tLc (RIG K G it) (tPat K pt) (RT K G t) (RE K G c) vs σ H Q := by
  obtain ⟨m, S, env, z, S', st, re, hc, q⟩ := h
  unfold cLcGM at hc
  split at hc
  · cases hc
  · rename_i ys S2 e1
    cases hc
    refine re_lcG hsl st re e1 fun m' H' D zs x hD nx st' hd r => ?_
    have k : Keeps ⟨m'.c, D :: m'.x⟩ H' ⟨m'.c ++ [D], m'.x⟩ H' := ⟨fun a u r n nx => ⟨r, by
      intro h
      rcases List.mem_append.mp h with h | h
      · exact n h
      · exact nx (by simp at h; simp [h]), fun h => nx (List.mem_cons_of_mem _ h)⟩, fun n a h => by
      show (m'.c ++ [D])[n]? = some a
      rw [List.getElem?_append_left (List.getElem?_eq_some_iff.mp h).1]; exact h⟩
    have hDc : D ∉ m'.c := st'.nx D (by simp)
    refine q ⟨m'.c ++ [D], m'.x⟩ H' _ ⟨?_, x.x, x.keep, x.cells, fun a ha n => ?_⟩ ⟨?_, by simp [st'.len], fun n ob a h1 h2 => ?_, fun a ha => st'.xs a (List.mem_cons_of_mem _ ha), fun a ha h => ?_⟩ (RU.cell ?_)
    · obtain ⟨r, hr⟩ := x.pre
      exact ⟨r ++ [D], by rw [← List.append_assoc, ← hr]⟩
    · rcases List.mem_append.mp ha with h | h
      · exact x.new a h n
      · have : a = D := by simpa using h
        rw [this]; exact hD
    · refine List.nodup_append.mpr ⟨st'.nd, by simp, fun a ha b hb => ?_⟩
      have : b = D := by simpa using hb
      subst this
      intro e; subst e
      exact hDc ha
    · by_cases hn : n < S2.length
      · rw [List.getElem?_append_left hn] at h1
        have h2' : m'.c[n]? = some a := by
          have h2'' : (m'.c ++ [D])[n]? = some a := h2
          rw [List.getElem?_append_left (by have := st'.len; simp at this; omega)] at h2''
          exact h2''
        obtain ⟨ho, e, r⟩ := st'.ob n ob a h1 h2'
        exact ⟨ho, e, RO.keep k _ _ r⟩
      · rw [List.getElem?_append_right (by omega)] at h1
        have e0 : n - S2.length = 0 := by
          have := (List.getElem?_eq_some_iff.mp h1).1
          simp at this; omega
        rw [e0] at h1
        cases h1
        have hlen : m'.c.length = S2.length := st'.len
        have h2'' : (m'.c ++ [D])[n]? = some a := h2
        rw [List.getElem?_append_right (by omega), hlen, e0] at h2''
        cases h2''
        exact ⟨_, hd, zs, rfl, RUs.keep k _ _ r⟩
    · rcases List.mem_append.mp h with h | h
      · exact st'.nx a (List.mem_cons_of_mem _ ha) h
      · have : a = D := by simpa using h
        subst this
        exact nx ha
    · have hlen : m'.c.length = S2.length := st'.len
      show (m'.c ++ [D])[S2.length]? = some D
      rw [← hlen]; simp
theorem ee_lcGM {elt : Expr} {ifs : List Expr} {scope : Scope} {own : List (Str × Nat)} {it : CmG} {pt : Pat} {t : Cm Bool} {c : Cm U} (hc : X.calm = true) (hN : X.N.Nodup) (hi : EIG G X tg iter it) (ok : BlkOk X.N X.env.scope scope own)
    (hg : ∀ (s : Shared) (H : Hp) (C : Addr) (cl : List (Str × Addr)) (fp : List Addr), EPt (X.blk s H scope (compEnvC scope cl C X.env) fp) tg pt) (ht : ∀ (s : Shared) (H : Hp) (C : Addr) (cl : List (Str × Addr)) (fp : List Addr), ETs G (X.blk s H scope (compEnvC scope cl C X.env) fp) ifs t)
    (he : ∀ (s : Shared) (H : Hp) (C : Addr) (cl : List (Str × Addr)) (fp : List Addr), EE G (X.blk s H scope (compEnvC scope cl C X.env) fp) elt c) (hsl : ∀ i ∈ pt.slots, i ∈ own.map (·.2)) (hs : ∀ x, foldedSetIterable iter X.env x = pure x := by intro _; rfl) :
    EE G X (.ListComp elt [⟨tg, iter, ifs, 0⟩] scope pos) (cLcGM it pt t c (own.map (·.2))) := (pe_lc hc hN hi ok hg ht he hs).imp fun σ H Q h => re_lcGM hsl h
/-- a tuple, a list, a text, or a cell's list -/
def itAny (c : Cm U) : CmG := fun env S => match c env S with
  | none => none
  | some (u, S1) => match u with
    | .ref n => match S1[n]? with
      | some (.lst us) => some ((us, some n), S1)
      | _ => none
    | u => match seqU u with
      | none => none
      | some us => some ((us, none), S1)
theorem itok_g {K : PySem.W.Frag} {m : Mp} {H : Hp} {us : List U} {J : It} (h : ItOk K G m H us J) : ItOkG K G m H us none J := by
  obtain ⟨Gd, Y, w, hG, hY⟩ := h
  exact ⟨Gd, Y, w, fun m2 H2 S2 x _ _ => hG m2 H2 x, fun i m2 S2 H2 y H3 x st _ hi hy => hY i m2 S2 H2 y H3 x st hi hy⟩
theorem walk_cell {K : PySem.W.Frag} {a : Addr} {n : Nat} : Walk (Itl K a) n (fun H => ∃ vs, H a = some (.lst vs) ∧ vs.length = n) (fun i H x H' => H' = H ∧ ∀ vs, H a = some (.lst vs) → vs[i]? = some x) :=
  ⟨fun i H hi ⟨vs, h, hl⟩ => ⟨vs, vs[i]'(by omega), .inl (.inl h), by simp [hl, hi]⟩, fun H ⟨vs, h, hl⟩ => ⟨vs, .inl (.inl h), by omega⟩, fun i H x H' hi ⟨vs, h, hl⟩ y => ⟨y.1, fun ws hw => y.2 ws (.inl (.inl hw))⟩⟩
theorem itok_cell {K : PySem.W.Frag} {m : Mp} {H : Hp} {n : Nat} {us : List U} {a : Addr} (hm : m.c[n]? = some a) : ItOkG K G m H us (some n) (Itl K a) := by
  have look : ∀ m2 H2 S2, Ext m H m2 H2 → Rst K G m2 H2 S2 → gok (some n) us S2 → ∃ vs, H2 a = some (.lst vs) ∧ RUs K G m2 H2 us vs := by
    intro m2 H2 S2 x st g
    obtain ⟨ho, e, vs, rfl, r⟩ := st.ob n _ a g (x.at hm)
    exact ⟨vs, e, r⟩
  refine ⟨_, _, walk_cell, fun m2 H2 S2 x st g => ?_, fun i m2 S2 H2 y H3 x st g hi ⟨e, hy⟩ => ?_⟩
  · obtain ⟨vs, h, r⟩ := look m2 H2 S2 x st g
    exact ⟨vs, h, r.length⟩
  · subst e
    obtain ⟨vs, h, r⟩ := look m2 H3 S2 x st g
    obtain ⟨v, e', q⟩ := r.get (List.getElem?_eq_getElem hi)
    rw [hy vs h] at e'
    cases e'
    exact ⟨_, List.getElem?_eq_getElem hi, Ext.refl _ _, st, q⟩
theorem ei_any (he : EE G X e ca) : EIG G X tg e (itAny ca) := (PI.or3 (pi_tup he) (pi_list he) (pi_str he)).imp fun σ H R ⟨m, S, env, us, g, S', st, re, hc, q⟩ => by
  unfold itAny at hc
  split at hc
  · cases hc
  · rename_i u S1 e1
    split at hc
    · rename_i n
      split at hc
      · rename_i us' hn
        cases hc
        refine .inr (.inl ⟨m, S, env, _, S', st, re, e1, fun m1 H1 v x1 st1 r1 => ?_⟩)
        unfold RU at r1
        obtain ⟨a, ev, ha⟩ := r1
        obtain ⟨ho, e, vs, rfl, r⟩ := st1.ob n _ a hn ha
        exact ⟨a, ev, ⟨vs, .inl (.inl e)⟩, q m1 H1 x1 st1 _ (itok_cell ha)⟩
      · cases hc
    · split at hc
      · cases hc
      · rename_i us' e2
        cases hc
        cases u with
        | tup us' =>
          cases e2
          refine .inl ⟨m, S, env, _, S', st, re, e1, fun m1 H1 v x1 st1 r1 => ?_⟩
          obtain ⟨a, vs, ev, rv, hq⟩ := r1.tupSt
          exact ⟨a, ev, ⟨vs, hq m1 H1 (Ext.refl _ _)⟩, q m1 H1 x1 st1 _ (itok_g (itok_at rv walk_tup hq))⟩
        | lst us' =>
          cases e2
          refine .inr (.inl ⟨m, S, env, _, S', st, re, e1, fun m1 H1 v x1 st1 r1 => ?_⟩)
          obtain ⟨a, vs, ev, rv, hq⟩ := r1.lstSt
          exact ⟨a, ev, ⟨vs, hq m1 H1 (Ext.refl _ _)⟩, q m1 H1 x1 st1 _ (itok_g (itok_at rv walk_list hq))⟩
        | scr us' =>
          cases e2
          refine .inr (.inl ⟨m, S, env, _, S', st, re, e1, fun m1 H1 v x1 st1 r1 => ?_⟩)
          obtain ⟨a, vs, ev, rv, hq⟩ := r1.scrSt
          exact ⟨a, ev, ⟨vs, hq m1 H1 (Ext.refl _ _)⟩, q m1 H1 x1 st1 _ (itok_g (itok_at rv walk_list hq))⟩
        | str x =>
          cases e2
          refine .inr (.inr ⟨m, S, env, _, S', st, re, e1, fun m1 H1 v x1 st1 r1 => ?_⟩)
          exact ⟨x, r1, q m1 H1 x1 st1 _ (itok_g (itok_at (RUs.signs x) walk_strV fun _ _ _ => trivial))⟩
        | _ => cases e2
end OF

namespace OF
open PySem PySem.Spec PyProof.Rows L2
variable {X : Cx} {G : Gx}
variable {e o tg iter : Expr} {es : List Expr} {ca cb : Cm U} {cl ck : Cm (List U)} {pos apos p : Pos}
/-! "".join(xs) -/
def strsU : List U → Option (List Str)
  | [] => some []
  | .str x :: us => match strsU us with
    | some xs => some (x :: xs)
    | none => none
  | _ => none
theorem strsU_ok {K : PySem.W.Frag} {m : Mp} {H : Hp} : ∀ {us : List U} {vs : List V} {ys : List Str}, RUs K G m H us vs → strsU us = some ys → vs = ys.map V.str
  | [], vs, ys, r, h => by cases h; exact r.eqnil
  | .str x :: us, vs, ys, r, h => by
    obtain ⟨v, t, rfl, rv, rt⟩ := r.uncons
    unfold strsU at h
    split at h
    · rename_i xs hx
      cases h
      cases rv
      rw [strsU_ok rt hx]; rfl
    · cases h
  | .non :: us, vs, ys, r, h => by cases h
  | .bl _ :: us, vs, ys, r, h => by cases h
  | .int _ :: us, vs, ys, r, h => by cases h
  | .tup _ :: us, vs, ys, r, h => by cases h
  | .lst _ :: us, vs, ys, r, h => by cases h
  | .scr _ :: us, vs, ys, r, h => by cases h
  | .dct _ :: us, vs, ys, r, h => by cases h
  | .fn _ :: us, vs, ys, r, h => by cases h
  | .ref _ :: us, vs, ys, r, h => by cases h
def joinU : U → OpN := fun u us S => match u, us with
  | .str a, [w] => match itmU S w with
    | some xs => match strsU xs with
      | some ys => if (ys.map (·.length)).sum + ys.length * a.length ≤ 16777216 then some (.str (Txt.join a ys), S) else none
      | none => none
    | none => none
  | _, _ => none
theorem mu_join : MtU G X "str.join" joinU := MtR.imp mt_join fun x xs H Q ⟨m, S, u, us, z, S', st, r, rs, e, q⟩ => by
  unfold joinU at e
  split at e
  · rename_i a w
    split at e
    · rename_i ws hw
      split at e
      · rename_i ys hy
        split at e
        · rename_i hz
          cases e
          obtain ⟨v, rfl, rv⟩ := rs.one1
          cases r
          obtain ⟨b, vs, rfl, hq, rr⟩ := itmU_ok st rv hw
          have := strsU_ok rr hy
          subst this
          exact ⟨_, b, ys, rfl, rfl, hq.symm, hz, q.here st rfl⟩
        · cases e
      · cases e
    · cases e
  · cases e
/-! xs[::-1] -/
theorem RUs.reverse {K : PySem.W.Frag} {m : Mp} {H : Hp} : ∀ {us : List U} {vs : List V}, RUs K G m H us vs → RUs K G m H us.reverse vs.reverse
  | [], vs, r => by have := r.eqnil; subst this; exact RUs.nil
  | u :: us, vs, r => by
    obtain ⟨v, t, rfl, rv, rt⟩ := r.uncons
    rw [List.reverse_cons, List.reverse_cons]
    exact (RUs.reverse rt).append (RUs.one rv)
def revU (mu : Bool) : Op1 := fun u S => match lstU S u with
  | some us => if mu then some (.ref S.length, S ++ [.lst us.reverse]) else some (.lst us.reverse, S)
  | none => none
theorem ee_rev {k : Nat} {p1 p2 p3 : Pos} (mu : Bool) (he : EE G X e ca) : EE G X (.Subscript e (.Slice none none (some (.UnaryOp .USub (.Constant (.int 1) k p1) p2)) p3) pos) (cUn (revU mu) ca) := (pe_revL he).imp fun σ H Q ⟨m, S, env, z, S', st, re, hc, q⟩ => by
  obtain ⟨u, S1, e1, e2⟩ := cUn_some hc
  refine ⟨m, S, env, u, S1, st, re, e1, fun m1 H1 v x1 st1 r1 => ?_⟩
  unfold revU at e2
  split at e2
  · rename_i us hl
    obtain ⟨a, vs, rfl, hr, rv⟩ := lstU_ok st1 r1 hl
    refine ⟨a, vs, rfl, .inl hr, ?_⟩
    split at e2
    · cases e2
      exact After.cell (o := .lst us.reverse) (q.mono x1) st1 ⟨_, rfl, rv.reverse⟩
    · cases e2
      exact (q.mono x1).lst st1 rv.reverse
  · cases e2
/-! list(range(n)) -/
def lrgK (mu : Bool) (S : Sto) (u : U) : Option (U × Sto) := match u with
  | .int n => if 0 ≤ n ∧ n ≤ 16777216 then (if mu then some (.ref S.length, S ++ [.lst (rangeU 0 n.toNat)]) else some (.lst (rangeU 0 n.toNat), S)) else none
  | _ => none
def cLrg (mu : Bool) (c : Cm U) : Cm U := cUn (fun u S => lrgK mu S u) c
theorem RUs.rg {K : PySem.W.Frag} {m : Mp} {H : Hp} (n : Int) : RUs K G m H (rangeU 0 n.toNat) (rgV 0 n) := by
  unfold rangeU rgV
  rw [show (n - 0).toNat = n.toNat by simp]
  induction List.range n.toNat with
  | nil => exact RUs.nil
  | cons i t ih => exact RUs.cons rfl ih
theorem ee_lrg {p1 p2 pos2 : Pos} (mu : Bool) (hc0 : X.calm = true) (hg : Gl X "list") (hm : X.mg "list" = none) (hg2 : Gl X "range") (hm2 : X.mg "range" = none) (he : EE G X e ca) (na : starEach [e] X.env = (false, eval e X.env) :: starEach [] X.env := by rfl)
    (nb : starEach [Expr.Call (.Name "range" p2) [e] [] pos2] X.env = (false, eval (.Call (.Name "range" p2) [e] [] pos2) X.env) :: starEach [] X.env := by rfl) :
    EE G X (.Call (.Name "list" p1) [.Call (.Name "range" p2) [e] [] pos2] [] pos) (cLrg mu ca) := (pe_listRg hc0 hg hm (prg_1 hg2 hm2 he na) nb).imp fun σ H Q ⟨m, S, env, z, S', st, re, hc, q⟩ => by
  obtain ⟨u, S1, e1, e2⟩ := cUn_some hc
  refine ⟨m, S, env, u, S1, st, re, e1, fun m1 H1 v x1 st1 r1 => ?_⟩
  unfold lrgK at e2
  split at e2
  · rename_i n
    split at e2
    · rename_i hn
      cases r1
      refine ⟨n, rfl, RgOk.of_le (by omega) (by omega) (by omega) (by omega), ?_⟩
      split at e2
      · cases e2
        exact After.cell (o := .lst (rangeU 0 n.toNat)) (q.mono x1) st1 ⟨_, rfl, RUs.rg n⟩
      · cases e2
        exact (q.mono x1).lst st1 (RUs.rg n)
    · cases e2
  · cases e2
/-! a cell's list times an int -/
def repU (mu : Bool) : Op2 := fun a b S => match a, b with
  | .ref n, .int k => match S[n]? with
    | some (.lst us) => if (-(2 ^ 63) ≤ k ∧ k < 2 ^ 63) ∧ us.length * k.toNat ≤ sizeLine then (if mu then some (.ref S.length, S ++ [.lst (List.replicate k.toNat us).flatten]) else some (.lst (List.replicate k.toNat us).flatten, S)) else none
    | _ => none
  | _, _ => none
theorem RUs.rep {K : PySem.W.Frag} {m : Mp} {H : Hp} {us : List U} {vs : List V} (r : RUs K G m H us vs) : ∀ n : Nat, RUs K G m H (List.replicate n us).flatten (List.replicate n vs).flatten
  | 0 => RUs.nil
  | n + 1 => by
    rw [List.replicate_succ, List.replicate_succ, List.flatten_cons, List.flatten_cons]
    exact r.append (RUs.rep r n)
theorem ou_rep (mu : Bool) : OpU G X (binaryOp .Mult) (repU mu) := OpR.imp op_rep fun x y H Q ⟨m, S, u1, u2, z, S', st, r1, r2, e, q⟩ => by
  unfold repU at e
  split at e
  · rename_i n k
    split at e
    · rename_i us hn
      split at e
      · rename_i hk
        unfold RU at r1
        obtain ⟨a, rfl, ha⟩ := r1
        obtain ⟨ho, hH, vs, rfl, rv⟩ := st.ob n _ a hn ha
        cases r2
        refine ⟨a, k, vs, rfl, rfl, hH, hk.1.1, hk.1.2, by rw [rv.length]; exact hk.2, ?_⟩
        split at e
        · cases e
          exact After.cell (o := .lst (List.replicate k.toNat us).flatten) q st ⟨_, rfl, rv.rep _⟩
        · cases e
          exact q.lst st (rv.rep _)
      · cases e
    · cases e
  · cases e
/-! x += e, x -= e -/
def sAug (i : Nat) (f : Op2) (c : Cm U) : Sm := fun env S => match env[i]? with
  | some (some u) => match c env S with
    | some (w, S1) => match f u w S1 with
      | some (z, S2) => some (.nx, env.set i (some z), S2)
      | none => none
    | none => none
  | _ => none
abbrev IpU (G : Gx) (X : Cx) (op : Operator) (f : Op2) : Prop := PIp X op (r2U X.K G f)
theorem es_aug {i : Nat} {x : Str} {op : Operator} {f : Op2} {pos' : Pos} (hN : X.N.Nodup) (hi : X.N[i]? = some x) (hx : Loc X.env.scope x) (he : EE G X e ca) (ho : IpU G X op f) (hf : X.fn x = true ∨ X.env.scope.names.lookup x = some .local := by first | exact .inl rfl | exact .inr rfl | assumption) :
    ES G X (.AugAssign (.Name x pos') op e pos) (sAug i f ca) := (ps_aug hN hi hx he ho hf).imp fun D σ H ⟨m, S, env, fl, env', S', st, re, hc, q⟩ => by
  unfold sAug at hc
  split at hc
  · rename_i u hu
    split at hc
    · rename_i w S1 e1
      split at hc
      · rename_i z S2 e2
        cases hc
        obtain ⟨v, ev, rv⟩ := re.2 i u hu
        refine ⟨v, ev, m, S, env, w, S1, st, re, e1, fun m1 H1 y x1 st1 r1 => ?_⟩
        refine ⟨m1, S1, u, w, z, _, st1, RU.keep x1.keeps _ _ rv, r1, e2, fun m2 H2 t x2 st2 r2 => ?_⟩
        exact q m2 H2 _ (x1.trans x2) st2 ((re.keep (x1.trans x2).keeps).set i r2)
      · cases hc
    · cases hc
  · cases hc
theorem iu_add : IpU G X .Add (o2I fun i j => some (.int (i + j))) := fun pins s σ H x y v u Q I r1 r2 ⟨m, S, u1, u2, z, S', st, q1, q2, e, q⟩ => by
  obtain ⟨i, j, w, rfl, rfl, e', er⟩ := o2I_some e
  cases er
  cases e'
  exact ip_add pins s σ H x y v u Q I r1 r2 ⟨i, j, q1, q2, q.here st rfl⟩
theorem iu_sub : IpU G X .Sub (o2I fun i j => some (.int (i - j))) := fun pins s σ H x y v u Q I r1 r2 ⟨m, S, u1, u2, z, S', st, q1, q2, e, q⟩ => by
  obtain ⟨i, j, w, rfl, rfl, e', er⟩ := o2I_some e
  cases er
  cases e'
  exact ip_sub pins s σ H x y v u Q I r1 r2 ⟨i, j, q1, q2, q.here st rfl⟩
/-! xs.extend(ys): both cells -/
def extU : U → OpN := fun u us S => match us with
  | [.ref k] => cellL S u fun n xs => match S[k]? with
    | some (.lst ys) => if xs.length + ys.length ≤ sizeLine then some (.non, S.set n (.lst (xs ++ ys))) else none
    | _ => none
  | _ => none
theorem mu_extend : MtU G X "list.extend" extU := MtR.imp mt_extend fun x xs H Q ⟨m, S, u, us, z, S', st, r, rs, e, q⟩ => by
  unfold extU at e
  split at e
  · rename_i k
    obtain ⟨n, ws, rfl, es, e1⟩ := cellL_some e
    replace e := e1
    split at e
    · rename_i ys hk
      split at e
      · rename_i hz
        cases e
        obtain ⟨a, rfl, ha⟩ := r.cellAt
        obtain ⟨a', ho, ha', hH, vs, rfl, rv⟩ := st.at es
        rw [ha] at ha'; cases ha'
        obtain ⟨w, rfl, rw'⟩ := rs.one1
        obtain ⟨b, rfl, hb⟩ := rw'.cellAt
        obtain ⟨b', ho2, hb', hH2, vs2, rfl, rv2⟩ := st.at hk
        rw [hb] at hb'; cases hb'
        exact ⟨a, b, vs, vs2, rfl, rfl, hH, hH2, by rw [rv.length, rv2.length]; exact hz, q.setc st ha ⟨_, rfl, rv.append rv2⟩ rfl⟩
      · cases e
    · cases e
  · cases e
end OF

namespace OF
open PySem PySem.Spec PyProof.Rows L2
variable {X : Cx} {G : Gx}
variable {e o tg iter : Expr} {es : List Expr} {ca cb : Cm U} {cl ck : Cm (List U)} {pos apos p : Pos}
def liftIt (it : Cm (List U)) : CmG := fun env S => match it env S with
  | none => none
  | some (us, S1) => some ((us, none), S1)
theorem ei_lift {it : Cm (List U)} (h : EI G X tg iter it) : EIG G X tg iter (liftIt it) := h.imp fun σ H R ⟨m, S, env, us, g, S', st, re, hc, q⟩ => by
  unfold liftIt at hc
  split at hc
  · cases hc
  · rename_i us' S1 e1
    cases hc
    exact ⟨m, S, env, us, S', st, re, e1, fun m1 H1 x1 st1 J hJ => q m1 H1 x1 st1 J (itok_g hJ)⟩
/-! {k: v for .. in ..} -/
open Classical in
noncomputable def mapD (pt : Pat) (t : Cm Bool) (ck cv : Cm U) (env : Env') (g : Option Nat) (us0 : List U) : List U → List (Key × U) → Sto → Option (List (Key × U) × Sto)
  | [], acc, S => if gok g us0 S then some (acc, S) else none
  | u :: us, acc, S => if gok g us0 S then (match bindP pt u with
    | none => none
    | some bs => match t (setAll env bs) S with
      | none => none
      | some (false, S1) => mapD pt t ck cv env g us0 us acc S1
      | some (true, S1) => match ck (setAll env bs) S1 with
        | none => none
        | some (y, S2) => match cv (setAll env bs) S2 with
          | none => none
          | some (z, S3) => match keyU y with
            | none => none
            | some k => mapD pt t ck cv env g us0 us (putKU acc k z) S3) else none
theorem mapD_gok {pt : Pat} {t : Cm Bool} {ck cv : Cm U} {env : Env'} {g : Option Nat} {us0 us : List U} {acc : List (Key × U)} {S : Sto} {r : List (Key × U) × Sto} (h : mapD pt t ck cv env g us0 us acc S = some r) : gok g us0 S := by
  cases us <;> (unfold mapD at h; split at h; assumption; cases h)
noncomputable def cDc (mu : Bool) (it : CmG) (pt : Pat) (t : Cm Bool) (ck cv : Cm U) (vs : List Nat) : Cm U := fun env S => match it env S with
  | none => none
  | some ((us, g), S1) => match mapD pt t ck cv (wipeE env vs) g us us [] S1 with
    | none => none
    | some (kvs, S2) => if us.length < sizeLine then (if mu then some (.ref S2.length, S2 ++ [.dct kvs]) else some (.dct kvs, S2)) else none
theorem putKU_len {kvs : List (Key × U)} {k : Key} {u : U} : (putKU kvs k u).length ≤ kvs.length + 1 := by
  unfold putKU
  split <;> simp
theorem RKs.len {K : PySem.W.Frag} {m : Mp} {H : Hp} {us : List (Key × U)} {vs : List (Key × V)} (r : RKs K G m H us vs) : vs.length = us.length := RKs.length r
theorem dc_it {J : It} {n : Nat} {Gd : Hp → Prop} {Y : Nat → Hp → V → Hp → Prop} (w : Walk J n Gd Y) {g : TG} {tt : TT} {tk tv : TE} {vs : List Nat} {σ : L2.St} {H1 : Hp} {D : Addr} {Qd : Hp → Prop} (Pv : Nat → Hp → Prop) (h0 : Pv 0 (upd H1 D (.dK []))) (hG : ∀ i H, i ≤ n → Pv i H → Gd H)
    (hs : ∀ i x H H', i < n → Pv i H → Y i H x H' → g x (wipe σ vs) H' fun σ2 H2 => wipe σ2 vs = wipe σ vs ∧ tt σ2 H2 fun b H3 =>
      if b = true then tk σ2 H3 fun y H4 => tv σ2 H4 fun z H5 => ∃ kvs k, y = kV k ∧ H5 D = some (.dK kvs) ∧ kvs.length < sizeLine ∧ Pv (i + 1) (upd H5 D (.dK (putK kvs k z))) else Pv (i + 1) H3) (hd : ∀ H, Pv n H → Qd H) :
    ∃ W : Nat → Nat → Hp → Prop, (∃ m, W 0 m (upd H1 D (.dK []))) ∧ ∀ i m H, W i m H →
      (J.stop i H ∧ Qd H) ∨ (J.go i H ∧ ∃ Nx : Hp → Prop, (∀ H', Nx H' → ∃ m', m' < m ∧ W (i + 1) m' H') ∧ ∀ x H', J.yld i H x H' → g x (wipe σ vs) H' fun σ2 H2 => wipe σ2 vs = wipe σ vs ∧ tt σ2 H2 fun b H3 =>
        if b = true then tk σ2 H3 fun y H4 => tv σ2 H4 fun z H5 => ∃ kvs k, y = kV k ∧ H5 D = some (.dK kvs) ∧ kvs.length < sizeLine ∧ Nx (upd H5 D (.dK (putK kvs k z))) else Nx H3) := by
  refine ⟨fun i m H => (i ≤ n ∧ Pv i H) ∧ n - i = m, ⟨n, ⟨Nat.zero_le _, h0⟩, rfl⟩, fun i m H hw => ?_⟩
  obtain ⟨⟨hi, pv⟩, rfl⟩ := hw
  rcases Nat.lt_or_eq_of_le hi with hl | rfl
  · refine .inr ⟨w.goes i H hl (hG i H hi pv), Pv (i + 1), fun H' p' => ⟨n - (i + 1), by omega, ⟨hl, p'⟩, rfl⟩, fun x H' y => hs i x H H' hl pv (w.yields i H x H' hl (hG i H hi pv) y)⟩
  · exact .inl ⟨w.stops H (hG i H hi pv), hd H pv⟩
theorem re_dc {K : PySem.W.Frag} {it : CmG} {pt : Pat} {t : Cm Bool} {ck cv : Cm U} {mu : Bool} {vs : List Nat} {σ : L2.St} {H : Hp} {Q : VK} (hsl : ∀ i ∈ pt.slots, i ∈ vs) (h : RE K G (cDc mu it pt t ck cv vs) σ H Q) : tDc (RIG K G it) (tPat K pt) (RT K G t) (RE K G ck) (RE K G cv) vs σ H Q := by
  obtain ⟨m, S, env, z, S', st, re, hc, q⟩ := h
  unfold cDc at hc
  split at hc
  · cases hc
  · rename_i us g S1 e1
    split at hc
    · cases hc
    · rename_i kvs S2 e2
      split at hc
      · rename_i hsz
        refine ⟨m, S, env, us, g, S1, st, re, e1, fun m1 H1 x1 st1 J hJ D hD => ?_⟩
        obtain ⟨Gd, Y, w, hG, hY⟩ := hJ
        have reW := (re.keep x1.keeps).wipe vs
        refine dc_it w (fun i H => ∃ m S acc zs, Ext m1 H1 m H ∧ D ∈ m.x ∧ Rst K G m H S ∧ H D = some (.dK zs) ∧ RKs K G m H acc zs ∧ acc.length ≤ i ∧ mapD pt t ck cv (wipeE env vs) g us (us.drop i) acc S = some (kvs, S2))
          ⟨⟨m1.c, D :: m1.x⟩, S1, [], [], Ext.res hD, by simp, st1.res hD, upd_same, RKs.nil, Nat.le_refl _, e2⟩ (fun i H _ ⟨m, S, acc, zs, x, _, st, _, _, _, hm⟩ => hG m H S x st (mapD_gok hm)) (fun i y H H' hi ⟨m, S, acc, zs, x, hx, st, hd, ra, hl, hm⟩ hy => ?_) (fun H ⟨m, S, acc, zs, x, hx, st, hd, ra, hl, hm⟩ => ?_)
        · obtain ⟨u, hu, x2, st2, ru⟩ := hY i m S H y H' x st (mapD_gok hm) hi hy
          rw [drop_cons hu] at hm
          have hk := mapD_gok hm
          unfold mapD at hm
          rw [if_pos hk] at hm
          split at hm
          · cases hm
          · rename_i bs eb
            obtain ⟨bv, h1, h2⟩ := bindP_ok _ _ _ _ eb ru
            have re2 := ((reW.keep x.keeps).keep x2.keeps).setAll h2
            have nc : D ∉ m.c := st.nx D hx
            refine ⟨bv, h1, wipe_setAll_wipe (fun i hi => hsl i (by rw [PatV.slots _ _ _ h1] at hi; exact hi)), ?_⟩
            split at hm
            · cases hm
            · rename_i S3 e3
              refine ⟨m, S, _, false, S3, st2, re2, e3, fun m3 H3 x3 st3 => iteF ?_⟩
              exact ⟨m3, S3, acc, zs, (x.trans x2).trans x3, x3.xmem hx, st3, x3.keep D _ (x2.keep D _ hd nc) nc, RKs.keep (x2.trans x3).keeps _ _ ra, by omega, hm⟩
            · rename_i S3 e3
              refine ⟨m, S, _, true, S3, st2, re2, e3, fun m3 H3 x3 st3 => iteT ?_⟩
              split at hm
              · cases hm
              · rename_i y4 S4 e4
                split at hm
                · cases hm
                · rename_i z5 S5 e5
                  split at hm
                  · cases hm
                  · rename_i k hk5
                    have d3 : H3 D = some (.dK zs) := x3.keep D _ (x2.keep D _ hd nc) nc
                    have nc3 : D ∉ m3.c := st3.nx D (x3.xmem hx)
                    refine ⟨m3, S3, _, y4, S4, st3, re2.keep x3.keeps, e4, fun m4 H4 v4 x4 st4 r4 => ?_⟩
                    refine ⟨m4, S4, _, z5, S5, st4, re2.keep (x3.trans x4).keeps, e5, fun m5 H5 v5 x5 st5 r5 => ?_⟩
                    have hx5 : D ∈ m5.x := x5.xmem (x4.xmem (x3.xmem hx))
                    have nc4 : D ∉ m4.c := st4.nx D (x4.xmem (x3.xmem hx))
                    have d5 : H5 D = some (.dK zs) := x5.keep D _ (x4.keep D _ d3 nc3) nc4
                    have ra5 := RKs.keep (((x2.trans x3).trans x4).trans x5).keeps _ _ ra
                    have k5 : Keeps m5 H5 m5 (L2.upd H5 D (.dK (putK zs k v5))) := keeps_x hx5
                    refine ⟨zs, k, keyU_ok r4 hk5, d5, by rw [ra.len]; omega, m5, S5, putKU acc k z5, putK zs k v5, ?_, hx5, st5.setx hx5, upd_same, RKs.keep k5 _ _ (ra5.put r5), by have := putKU_len (kvs := acc) (k := k) (u := z5); omega, hm⟩
                    have x6 := (((x.trans x2).trans x3).trans x4).trans x5
                    refine ⟨x6.pre, x6.x, fun a o h n => ?_, fun a ha h => ?_, x6.new⟩
                    · have : a ≠ D := ne_of_none h hD
                      rw [upd_ne this]; exact x6.keep a o h n
                    · by_cases e : a = D
                      · subst e; rw [upd_same]; rfl
                      · rw [upd_ne e]; exact x6.cells a ha h
        · rw [List.drop_length] at hm
          have hk := mapD_gok hm
          unfold mapD at hm
          rw [if_pos hk] at hm
          cases hm
          have hsub : ∀ a ∈ D :: m1.x, a ∈ m.x := fun a ha => by
            rcases List.mem_cons.mp ha with h | h
            · rw [h]; exact hx
            · exact x.xmem h
          have st3 : Rst K G ⟨m.c, D :: m1.x⟩ H S2 := Rst.forget (x := m.x) st hsub
          have rm3 := RKs.keep (keeps_forget (c := m.c) (x := m.x) (H := H) hsub) _ _ ra
          have x3 := x1.trans x.forget
          have nx := st1.none_x hD
          split at hc
          · cases hc
            obtain ⟨y1, y2, y3⟩ := res_cell (o := .dct kvs) x3 (x1.back hD) nx st3 hd ⟨_, rfl, rm3⟩
            exact q _ _ _ y1 y2 y3
          · cases hc
            have hs2 : ∀ a ∈ m1.x, a ∈ D :: m1.x := fun a ha => List.mem_cons_of_mem _ ha
            refine q ⟨m.c, m1.x⟩ _ (.ref D) x3 (Rst.forget (x := D :: m1.x) st3 hs2) ?_
            unfold RU
            exact ⟨D, _, rfl, .inl hd, st3.nx D (by simp), nx, RKs.keep (keeps_forget (x := D :: m1.x) hs2) _ _ rm3⟩
      · cases hc
theorem ee_dc {kx vx : Expr} {ifs : List Expr} {scope : Scope} {own : List (Str × Nat)} {it : CmG} {pt : Pat} {t : Cm Bool} {ck cv : Cm U} (mu : Bool) (hc : X.calm = true) (hN : X.N.Nodup) (hi : EIG G X tg iter it) (ok : BlkOk X.N X.env.scope scope own)
    (hg : ∀ (s : Shared) (H : Hp) (C : Addr) (cl : List (Str × Addr)) (fp : List Addr), EPt (X.blk s H scope (compEnvC scope cl C X.env) fp) tg pt) (ht : ∀ (s : Shared) (H : Hp) (C : Addr) (cl : List (Str × Addr)) (fp : List Addr), ETs G (X.blk s H scope (compEnvC scope cl C X.env) fp) ifs t)
    (hk : ∀ (s : Shared) (H : Hp) (C : Addr) (cl : List (Str × Addr)) (fp : List Addr), EE G (X.blk s H scope (compEnvC scope cl C X.env) fp) kx ck) (hv : ∀ (s : Shared) (H : Hp) (C : Addr) (cl : List (Str × Addr)) (fp : List Addr), EE G (X.blk s H scope (compEnvC scope cl C X.env) fp) vx cv)
    (hsl : ∀ i ∈ pt.slots, i ∈ own.map (·.2)) (hs : ∀ x, foldedSetIterable iter X.env x = pure x := by intro _; rfl) :
    EE G X (.DictComp kx vx [⟨tg, iter, ifs, 0⟩] scope pos) (cDc mu it pt t ck cv (own.map (·.2))) := (pe_dc hc hN hi ok hg ht hk hv hs).imp fun σ H Q h => re_dc hsl h
end OF

namespace OF
open PySem PySem.Spec PyProof.Rows L2
/-! comprehensions of several clauses -/
def testsOf (ifs : List Expr) (env : Env) : Sem Bool := forIn ifs true fun c r => if r = true then (do let ok ← isTrue c env (eval c env); pure (ForInStep.yield ok)) else pure (ForInStep.yield r)
def turnG (C : Expr) (t i : Expr) (ifs : List Expr) (k : Nat) (it acc : Value) (env : Env) (yes : Sem Fin) : Sem Fin :=
  standAt i.pos >>= fun _ => pyNext it >>= fun r => match r with
    | none => pure (.done .next)
    | some v => letOwnedTupleGo t it v >>= fun _ => assign t env v >>= fun _ => testsOf ifs env >>= fun ok => if ok = true then yes else again (.compLoop C k it acc env)
def deeper (C : Expr) (i1 : Expr) (k : Nat) (it acc : Value) (env : Env) : Sem Fin :=
  eval i1 env >>= fun x => standAt i1.pos >>= fun _ => foldedSetIterable i1 env x >>= fun y => holding [y] (pyIter y) >>= fun it1 => runOwn (.compStart C (k + 1) it1 acc env) env >>= fun _ => again (.compLoop C k it acc env)
def putOut (kx vx : Expr) (C : Expr) (k : Nat) (it : Value) (D : Addr) (env : Env) : Sem Fin :=
  (eval kx env >>= fun kv => holding [kv] (eval vx env) >>= fun vv => standAt { kx.pos with endLine := vx.pos.endLine, endCol := vx.pos.endCol } >>= fun _ => holding [kv, vv] (dictSet D kv vv)) >>= fun _ => again (.compLoop C k it (.ref D) env)
def addOut (elt : Expr) (C : Expr) (k : Nat) (it acc : Value) (env : Env) : Sem Fin :=
  (eval elt env >>= fun x => call (.builtin "list.append") [acc, x] >>= fun _ => pure ()) >>= fun _ => again (.compLoop C k it acc env)
theorem turn_dm {kx vx t i t1 i1 : Expr} {ifs ifs1 : List Expr} {gs : List Comprehension} {scope : Scope} {pos : Pos} {k : Nat} {it acc : Value} {env : Env} (h : gs[k]? = some ⟨t, i, ifs, 0⟩) (h1 : gs[k + 1]? = some ⟨t1, i1, ifs1, 0⟩) :
    compTurn (.DictComp kx vx gs scope pos) k it acc env = turnG (.DictComp kx vx gs scope pos) t i ifs k it acc env (deeper (.DictComp kx vx gs scope pos) i1 k it acc env) := by
  unfold compTurn
  simp only [h, h1]
  rfl
theorem turn_dl {kx vx t i : Expr} {ifs : List Expr} {gs : List Comprehension} {scope : Scope} {pos : Pos} {k : Nat} {it : Value} {D : Addr} {env : Env} (h : gs[k]? = some ⟨t, i, ifs, 0⟩) (h1 : gs[k + 1]? = none) :
    compTurn (.DictComp kx vx gs scope pos) k it (.ref D) env = turnG (.DictComp kx vx gs scope pos) t i ifs k it (.ref D) env (putOut kx vx (.DictComp kx vx gs scope pos) k it D env) := by
  unfold compTurn
  simp only [h, h1]
  rfl
theorem turn_lm {elt t i t1 i1 : Expr} {ifs ifs1 : List Expr} {gs : List Comprehension} {scope : Scope} {pos : Pos} {k : Nat} {it acc : Value} {env : Env} (h : gs[k]? = some ⟨t, i, ifs, 0⟩) (h1 : gs[k + 1]? = some ⟨t1, i1, ifs1, 0⟩) :
    compTurn (.ListComp elt gs scope pos) k it acc env = turnG (.ListComp elt gs scope pos) t i ifs k it acc env (deeper (.ListComp elt gs scope pos) i1 k it acc env) := by
  unfold compTurn
  simp only [h, h1]
  rfl
theorem turn_ll {elt t i : Expr} {ifs : List Expr} {gs : List Comprehension} {scope : Scope} {pos : Pos} {k : Nat} {it acc : Value} {env : Env} (h : gs[k]? = some ⟨t, i, ifs, 0⟩) (h1 : gs[k + 1]? = none) :
    compTurn (.ListComp elt gs scope pos) k it acc env = turnG (.ListComp elt gs scope pos) t i ifs k it acc env (addOut elt (.ListComp elt gs scope pos) k it acc env) := by
  unfold compTurn
  simp only [h, h1]
  rfl
section
variable {prog : Program} {w : World} {A : Around} {R : Result → Shared → Prop} {s : Shared} {C t i : Expr} {ifs : List Expr} {k : Nat} {it acc : Value} {env : Env} {yes : Sem Fin}
abbrev NoX : Value → Shared → Prop := fun _ _ => False
theorem loopN (hU : ∀ it : Value, A.under (.compLoop C k it acc env) = A) (hD : ∀ it : Value, (model prog w).den (.compLoop C k it acc env) = Sem.onRaise (compTurn C k it acc env) (fun x => do noteFrame x env; theTreesLotGoes x)) (hT : compTurn C k it acc env = turnG C t i ifs k it acc env yes) (I : Nat → Shared → Prop)
    (turn : ∀ n s, I n s → wpAny (model prog w) A (pyNext it) (fun r s1 => match r with
      | none => R (.ok .next) s1
      | some v => wpAny (model prog w) A (letOwnedTupleGo t it v) (fun _ s2 => wpAny (model prog w) A (assign t env v) (fun _ s3 => wpAny (model prog w) A (testsOf ifs env) (fun ok s4 =>
          if ok = true then wpAny (model prog w) A yes (fun fin s' => fin = .again (.compLoop C k it acc env) ∧ ∃ m, m < n ∧ I m s') NoX s4 else ∃ m, m < n ∧ I m s4) NoX s3) NoX s2) NoX s1) NoX s)
    (n : Nat) (h : I n s) : codeAny (model prog w) A (.compLoop C k it acc env) R s := by
  refine codeAny_loop rfl I (fun n s hI => ?_) n h
  rw [hU it, hD it]
  refine wpAny_noted ?_
  rw [hT]
  unfold turnG
  refine wpAny_bind (wpAny_standAt (wpAny_bind (thnF (turn n s hI) fun r s1 h1 => ?_)))
  cases r with
  | none => exact wpAny_pure h1
  | some v =>
    refine wpAny_bind (thnF h1 fun _ s2 h2 => wpAny_bind (thnF h2 fun _ s3 h3 => wpAny_bind (thnF h3 fun ok s4 h4 => ?_)))
    cases ok with
    | false => exact wpAny_pure ⟨rfl, h4⟩
    | true =>
      refine thnF (show wpAny (model prog w) A yes _ NoX s4 from h4) fun fin s' hf => ?_
      obtain ⟨rfl, hm⟩ := hf
      exact ⟨rfl, hm⟩
end
section
variable {Y : Cx} {C : Expr} {acc : Value} {ow : List Nat}
/-- one clause by what it does -/
structure Cl where
  wi : TI
  g : TG
  tt : TT
  vs : List Nat
abbrev Em := L2.St → Hp → (Hp → Prop) → Prop
def tCl (J : It) (c : Cl) (σ : L2.St) (H1 : Hp) (Nx : Hp → Prop) (body : Em) : Prop := ∃ W : Nat → Nat → Hp → Prop, (∃ m, W 0 m H1) ∧ ∀ j m H, W j m H →
  (J.stop j H ∧ Nx H) ∨ (J.go j H ∧ ∃ N : Hp → Prop, (∀ H', N H' → ∃ m', m' < m ∧ W (j + 1) m' H') ∧ ∀ x H', J.yld j H x H' → c.g x (wipe σ c.vs) H' fun σ2 H2 => wipe σ2 c.vs = wipe σ c.vs ∧ c.tt σ2 H2 fun b H3 => if b = true then body σ2 H3 N else N H3)
def tNest (em : Em) : List Cl → Em
  | [], σ, H, Nx => em σ H Nx
  | c :: r, σ, H, Nx => c.wi σ H fun J H1 => tCl J c σ H1 Nx (tNest em r)
/-- behind a clause: what was known of slots that are not the comprehension's own is known -/
def Aft (Y : Cx) (ow : List Nat) (pins : List (Addr × Obj)) (σ : L2.St) (Nx : Hp → Prop) (s' : Shared) : Prop := ∃ σ9 H', Inv Y pins σ9 H' s' ∧ σ.length = σ9.length ∧ (∀ (j : Nat) v, (wipe σ ow)[j]? = some (some v) → σ9[j]? = some (some v)) ∧ Nx H'
def YesOk (Y : Cx) (C : Expr) (acc : Value) (ow : List Nat) (k : Nat) (yes : Value → Sem Fin) (em : Em) : Prop := ∀ (pins : List (Addr × Obj)) (s : Shared) (σ : L2.St) (H : Hp) (Nx : Hp → Prop) (it : Value), Inv Y pins σ H s → em σ H Nx →
  wpAny (model Y.prog Y.w) Y.A (yes it) (fun fin s' => fin = .again (.compLoop C k it acc Y.env) ∧ Aft Y ow pins σ Nx s') NoX s
/-- a clause's loop, from its iterator on -/
theorem clause_loop {t i : Expr} {ifs : List Expr} {k : Nat} {c : Cl} {yes : Value → Sem Fin} {body : Em} {pins : List (Addr × Obj)} {s : Shared} {σ : L2.St} {H1 : Hp} {Nx : Hp → Prop} {it : Addr} {fp : List Addr} {tn : Nat → Heap → Prop} {J : It}
    (hx : Y.xe = NoX) (hc : Y.calm = true) (hU : ∀ (k : Nat) (it : Value), Y.A.under (.compLoop C k it acc Y.env) = Y.A) (hD : ∀ (k : Nat) (it : Value), (model Y.prog Y.w).den (.compLoop C k it acc Y.env) = Sem.onRaise (compTurn C k it acc Y.env) (fun x => do noteFrame x Y.env; theTreesLotGoes x))
    (hT : compTurn C k (.ref it) acc Y.env = turnG C t i ifs k (.ref it) acc Y.env (yes (.ref it))) (hg : PG Y t c.g) (ht : PTs Y ifs c.tt) (hy : YesOk Y C acc ow k yes body) (hv : ∀ i ∈ ow, i ∈ c.vs)
    (I0 : Inv Y pins σ H1 s) (T : Turn Y.prog Y.w Y.K t J fp it tn) (st0 : tn 0 s.heap) (f0 : ∀ b ∈ fp, FpOk Y pins H1 b) (q : tCl J c σ H1 Nx body) :
    codeAny (model Y.prog Y.w) Y.A (.compLoop C k (.ref it) acc Y.env) (fun r s' => match r with
      | .ok _ => Aft Y c.vs pins σ Nx s'
      | .error _ => False) s := by
  obtain ⟨W, ⟨m0, w0⟩, turn⟩ := q
  have wl : (wipe σ c.vs).length = σ.length := wipe_length _ _
  have stat : ∀ {H' : Hp}, (∀ b ∈ fp, H' b = none) → ∀ b ∈ fp, FpOk Y pins H' b := fun hn b hb => ⟨hn b hb, (f0 b hb).2⟩
  refine loopN (yes := yes (.ref it)) (hU k) (hD k) hT (fun n s' => ∃ j H', Inv Y pins (wipe σ c.vs) H' s' ∧ tn j s'.heap ∧ (∀ b ∈ fp, H' b = none) ∧ W j n H') ?_ m0 ⟨0, H1, I0.weak wl (fun j v e => (wipe_some e).1), st0, fun b hb => (f0 b hb).1, w0⟩
  rintro n s1 ⟨j, Ha, Ia, sta, na, wa⟩
  rcases turn j n Ha wa with ⟨stop, nx⟩ | ⟨go, N, hN, step⟩
  · refine thnF (T.done Y rfl rfl rfl hc j _ s1 (wipe σ c.vs) Ha NoX Ia (stat na) sta stop) fun r s2 ⟨hr, Ib⟩ => ?_
    subst hr
    exact ⟨wipe σ c.vs, Ha, Ib, wl.symm, fun j v e => e, nx⟩
  · refine thnF (T.item Y rfl rfl rfl hc j _ s1 (wipe σ c.vs) Ha NoX Ia (stat na) sta go) fun r s2 ⟨u, hr, hb⟩ => ?_
    subst hr
    refine thnF hb fun _ s3 ⟨x, Hc, Ic, rc, yc, stc, nc⟩ => ?_
    have Ip := Ic.pinned (stat nc) (T.obj _ _ stc)
    have g1 := hg.run _ s3 (wipe σ c.vs) Hc x u _ Ip rc (step x Hc yc)
    rw [hx] at g1
    refine thnF g1 fun _ s4 ⟨σd, Hd, Id, hw, qd⟩ => ?_
    have g2 := ht.run _ s4 σd Hd _ Id qd
    rw [hx] at g2
    refine thnF g2 fun b s5 ⟨He, Ie, qe⟩ => ?_
    have back : ∀ {σ9 : L2.St} {s' : Shared} {H' : Hp}, Inv Y (pins ++ pinsAt fp s3.heap) σ9 H' s' → σd.length = σ9.length → (∀ (j : Nat) v, (wipe σ c.vs)[j]? = some (some v) → σ9[j]? = some (some v)) → N H' →
        ∃ m, m < n ∧ ∃ j H', Inv Y pins (wipe σ c.vs) H' s' ∧ tn j s'.heap ∧ (∀ b ∈ fp, H' b = none) ∧ W j m H' := fun {σ9 s' H'} I9 hl hk nn => by
      obtain ⟨m', hm, w'⟩ := hN H' nn
      have pin : ∀ b ∈ fp, ∀ o, s3.heap.get? b = some o → s'.heap.get? b = some o ∧ H' b = none := fun b hb o eo =>
        let zz := I9.pin (b, o) (List.mem_append_right _ (List.mem_append_right _ (mem_pinsAt hb eo)))
        ⟨zz.1, zz.2.1⟩
      refine ⟨m', hm, j + 1, H', I9.unpinned.weak ?_ hk, T.keep _ _ _ stc fun b hb o eo => (pin b hb o eo).1, fun b hb => ?_, w'⟩
      · rw [← hl, ← hw, wipe_length]
      · obtain ⟨oo, eo, _⟩ := T.obj _ _ stc b hb
        exact (pin b hb oo eo).2
    have kd : ∀ (j : Nat) v, (wipe σ c.vs)[j]? = some (some v) → σd[j]? = some (some v) := fun j v e => by
      rw [← hw] at e
      exact (wipe_some e).1
    cases b with
    | false =>
      simp only [Bool.false_eq_true, if_false] at qe ⊢
      exact back Ie rfl kd qe
    | true =>
      simp only [if_true] at qe ⊢
      refine thnF (hy _ s5 σd He N (.ref it) Ie qe) fun fin s6 ⟨ef, σ9, H9, I9, hl9, hk9, n9⟩ => ?_
      refine ⟨ef, back I9 hl9 (fun j v e => hk9 j v ?_) n9⟩
      have nin : j ∉ c.vs := (wipe_some e).2
      rw [wipe_out fun z => nin (hv j z)]
      exact kd j v e
/-- into the next clause -/
theorem deeper_ok {t1 i1 : Expr} {ifs1 : List Expr} {k : Nat} {c : Cl} {yes : Value → Sem Fin} {body : Em}
    (hx : Y.xe = NoX) (hc : Y.calm = true) (hU : ∀ (k : Nat) (it : Value), Y.A.under (.compLoop C k it acc Y.env) = Y.A) (hD : ∀ (k : Nat) (it : Value), (model Y.prog Y.w).den (.compLoop C k it acc Y.env) = Sem.onRaise (compTurn C k it acc Y.env) (fun x => do noteFrame x Y.env; theTreesLotGoes x))
    (hS : ∀ (it : Value) (R : Result → Shared → Prop) (s : Shared), codeAny (model Y.prog Y.w) Y.A (.compLoop C (k + 1) it acc Y.env) R s → wpAny (model Y.prog Y.w) Y.A (pyIter it) (fun it' s' => codeAny (model Y.prog Y.w) Y.A (.compLoop C (k + 1) it' acc Y.env) R s') (notedBy (model Y.prog Y.w) Y.A Y.env fun x s' => R (.error x) s') s → codeAny (model Y.prog Y.w) Y.A (.compStart C (k + 1) it acc Y.env) R s)
    (hT : ∀ it, compTurn C (k + 1) it acc Y.env = turnG C t1 i1 ifs1 (k + 1) it acc Y.env (yes it)) (hi : PI Y t1 i1 c.wi) (hg : PG Y t1 c.g) (ht : PTs Y ifs1 c.tt) (hs : ∀ x, foldedSetIterable i1 Y.env x = pure x)
    (hy : YesOk Y C acc ow (k + 1) yes body) (hv : ∀ i ∈ ow, i ∈ c.vs) : YesOk Y C acc c.vs k (fun it => deeper C i1 k it acc Y.env) (fun σ H Nx => c.wi σ H fun J H1 => tCl J c σ H1 Nx body) := by
  intro pins s σ H Nx it I q
  unfold deeper
  have g1 := hi.run pins s σ H _ I q
  rw [hx] at g1
  refine wpAny_bind (thnF g1 fun x s1 h1 => wpAny_bind (wpAny_standAt (wpAny_bind (wpAny_of_eq (hs x) (wpAny_bind (wpAny_holding (thnF h1 fun itv s2 h2 => ?_)))))))
  obtain ⟨ia, fp, tn, J, H2, ei, I2, T, st2, f2, q2⟩ := h2
  subst ei
  have lp := clause_loop hx hc hU hD (hT (.ref ia)) hg ht hy hv I2 T st2 f2 q2
  refine wpAny_bind (wpAny_runOwn ?_)
  rw [Around.mark_none]
  refine codeAny_mono (hS (.ref ia) _ s2 lp (T.self Y.A 0 _ _ _ st2 lp)) fun r s3 hr => ?_
  cases r with
  | ok f => exact wpAny_pure ⟨rfl, hr⟩
  | error e => exact hr.elim
end
/-! the start of a clause -/
section
variable {prog : Program} {w : World} {A : Around} {R : Result → Shared → Prop} {s : Shared} {k : Nat} {it acc : Value} {env : Env} {scope : Scope} {pos : Pos} {gs : List Comprehension} {t i : Expr} {ifs : List Expr}
theorem start_d {kx vx : Expr} (hg : gs[k]? = some ⟨t, i, ifs, 0⟩) (h0 : codeAny (model prog w) A (.compLoop (.DictComp kx vx gs scope pos) k it acc env) R s)
    (h : wpAny (model prog w) A (pyIter it) (fun it' s' => codeAny (model prog w) A (.compLoop (.DictComp kx vx gs scope pos) k it' acc env) R s') (notedBy (model prog w) A env fun x s' => R (.error x) s') s) :
    codeAny (model prog w) A (.compStart (.DictComp kx vx gs scope pos) k it acc env) R s := by
  refine codeAny_of_tree ?_
  show wpAny _ _ (Sem.onRaise (compStart (.DictComp kx vx gs scope pos) k it acc env) (fun x => do noteFrame x env; standAt theWindowsPlace)) _ _ s
  refine wpAny_notedAt ?_
  unfold compStart
  have e : (clausesOf (.DictComp kx vx gs scope pos))[k]? = some ⟨t, i, ifs, 0⟩ := hg
  simp only [e]
  show wpAny _ _ (ask >>= _) _ _ s
  refine wpAny_bind (wpAny_askSetting (wpAny_ite ?_))
  split
  · first
    | exact wpAny_pure (And.intro rfl h0)
    | exact wpAny_bind (wpAny_pure (wpAny_pure (And.intro rfl h0)))
  · refine wpAny_bind (wpAny_rule ?_)
    refine wpAny_bind (wpAny_standAt (wpAny_bind (wpAny_mono h (fun it' s' h' => wpAny_pure (And.intro rfl h')) fun _ _ x => x)))
theorem start_l {elt : Expr} (hg : gs[k]? = some ⟨t, i, ifs, 0⟩) (h0 : codeAny (model prog w) A (.compLoop (.ListComp elt gs scope pos) k it acc env) R s)
    (h : wpAny (model prog w) A (pyIter it) (fun it' s' => codeAny (model prog w) A (.compLoop (.ListComp elt gs scope pos) k it' acc env) R s') (notedBy (model prog w) A env fun x s' => R (.error x) s') s) :
    codeAny (model prog w) A (.compStart (.ListComp elt gs scope pos) k it acc env) R s := by
  refine codeAny_of_tree ?_
  show wpAny _ _ (Sem.onRaise (compStart (.ListComp elt gs scope pos) k it acc env) (fun x => do noteFrame x env; standAt theWindowsPlace)) _ _ s
  refine wpAny_notedAt ?_
  unfold compStart
  have e : (clausesOf (.ListComp elt gs scope pos))[k]? = some ⟨t, i, ifs, 0⟩ := hg
  simp only [e]
  show wpAny _ _ (ask >>= _) _ _ s
  refine wpAny_bind (wpAny_askSetting (wpAny_ite ?_))
  split
  · first
    | exact wpAny_pure (And.intro rfl h0)
    | exact wpAny_bind (wpAny_pure (wpAny_pure (And.intro rfl h0)))
  · refine wpAny_bind (wpAny_rule ?_)
    refine wpAny_bind (wpAny_standAt (wpAny_bind (wpAny_mono h (fun it' s' h' => wpAny_pure (And.intro rfl h')) fun _ _ x => x)))
end
/-! what is put out -/
section
variable {Y : Cx}
def emD (D : Addr) (tk tv : TE) : Em := fun σ H Nx => tk σ H fun y H4 => tv σ H4 fun z H5 => ∃ kvs kk, y = kV kk ∧ H5 D = some (.dK kvs) ∧ kvs.length < sizeLine ∧ Nx (upd H5 D (.dK (putK kvs kk z)))
def emL (D : Addr) (te : TE) : Em := fun σ H Nx => te σ H fun y H4 => ∃ acc, H4 D = some (.lst acc) ∧ acc.length < sizeLine ∧ Nx (upd H4 D (.lst (acc ++ [y])))
theorem yes_d {C kx vx : Expr} {k : Nat} {D : Addr} {tk tv : TE} (hx : Y.xe = NoX) (pk : PE Y kx tk) (pv : PE Y vx tv) : YesOk Y C (.ref D) [] k (fun it => putOut kx vx C k it D Y.env) (emD D tk tv) := by
  intro pins s σ H Nx it I q
  unfold putOut
  have g1 := pk.run pins s σ H _ I q
  rw [hx] at g1
  refine wpAny_bind (wpAny_bind (thnF g1 fun a s1 ⟨y, H1, I1, r1, q1⟩ => ?_))
  have g2 := pv.run pins s1 σ H1 _ I1 q1
  rw [hx] at g2
  refine wpAny_bind (wpAny_holding (thnF g2 fun b s2 ⟨z, H2, I2, r2, kvs, kk, ek, hd, hz, nx⟩ => ?_))
  subst ek
  refine wpAny_bind (wpAny_standAt (wpAny_holding (d_dictSet I2 hd hz r1 r2 fun s3 I3 => ?_)))
  exact wpAny_pure ⟨rfl, σ, _, I3, rfl, fun j v e => e, nx⟩
theorem yes_l {C elt : Expr} {k : Nat} {D : Addr} {te : TE} (hx : Y.xe = NoX) (pe : PE Y elt te) : YesOk Y C (.ref D) [] k (fun it => addOut elt C k it (.ref D) Y.env) (emL D te) := by
  intro pins s σ H Nx it I q
  unfold addOut
  have g1 := pe.run pins s σ H _ I q
  rw [hx] at g1
  refine wpAny_bind (wpAny_bind (thnF g1 fun a s1 ⟨y, H1, I1, r1, xs, hd, hz, nx⟩ => ?_))
  refine wpAny_bind (app_ok I1 hd hz r1 fun s3 I3 => wpAny_pure ?_)
  exact wpAny_pure ⟨rfl, σ, _, I3, rfl, fun j v e => e, nx⟩
end
end OF

namespace OF
open PySem PySem.Spec PyProof.Rows L2
section
variable {X : Cx}
/-- {k: v for .. in .. for ..}: D the new dict -/
def tDcN (c : Cl) (em : Addr → Em) : TE := fun σ H Q => c.wi σ H fun J H1 => ∀ D, H1 D = none → tCl J c σ (upd H1 D (.dK [])) (fun H9 => Q (.ref D) H9) (em D)
theorem pe_dcN {kx vx tg iter : Expr} {ifs : List Expr} {rest : List Comprehension} {scope : Scope} {own : List (Str × Nat)} {pos : Pos} {c : Cl} {em : Addr → Em} {yes : Addr → Env → Value → Sem Fin} {ow : List Nat} (hc : X.calm = true) (hN : X.N.Nodup) (hi : PI X tg iter c.wi) (ok : BlkOk X.N X.env.scope scope own) (hvs : c.vs = own.map (·.2))
    (hT : ∀ (D : Addr) (it : Value) (env : Env), compTurn (.DictComp kx vx (⟨tg, iter, ifs, 0⟩ :: rest) scope pos) 0 it (.ref D) env = turnG (.DictComp kx vx (⟨tg, iter, ifs, 0⟩ :: rest) scope pos) tg iter ifs 0 it (.ref D) env (yes D env it))
    (hg : ∀ (s : Shared) (H : Hp) (C : Addr) (cl : List (Str × Addr)) (fp : List Addr), PG (X.blk s H scope (compEnvC scope cl C X.env) fp) tg c.g) (ht : ∀ (s : Shared) (H : Hp) (C : Addr) (cl : List (Str × Addr)) (fp : List Addr), PTs (X.blk s H scope (compEnvC scope cl C X.env) fp) ifs c.tt)
    (hy : ∀ (s : Shared) (H : Hp) (C : Addr) (cl : List (Str × Addr)) (fp : List Addr) (D : Addr), YesOk (X.blk s H scope (compEnvC scope cl C X.env) fp) (.DictComp kx vx (⟨tg, iter, ifs, 0⟩ :: rest) scope pos) (.ref D) ow 0 (yes D (compEnvC scope cl C X.env)) (em D)) (hv : ∀ i ∈ ow, i ∈ c.vs)
    (hs : ∀ x, foldedSetIterable iter X.env x = pure x := by intro _; rfl) : PE X (.DictComp kx vx (⟨tg, iter, ifs, 0⟩ :: rest) scope pos) (tDcN c em) := by
  refine ⟨fun pins s σ H Q I h => ?_⟩
  rw [arm_eval_DictComp]
  have free : ∀ y ∈ scope.names, y.2 = .free → ∃ z, X.env.cells.lookup y.1 = some z := fun y hm hf => by
    rcases ok.free y hm hf with z | z
    · exact I.ok.has _ (.inl z)
    · exact I.ok.has _ (.inr z)
  refine wpAny_comprehension_free rfl hs (closure_ok free) ok.kind (fun y hm hf => by rw [ok.uniq y hm, hf]) (thn (hi.run pins s σ H _ I h) fun xv sa ha => thn ha fun iv sb hb => ?_)
  obtain ⟨ia, fp, tn, J, Hb, ei, Ib, T, stb, fb, q⟩ := hb
  subst ei
  refine wpAny_newObj_type (newEnv_comp ?_)
  generalize eD : sb.heap.objs.size = D
  have nD : Hb D = none := Ib.hok.fresh (Nat.le_of_eq eD)
  have tq := q D nD
  generalize esc : ({ sb with heap := sb.heap.push { cls := .type "dict", data := .dict #[] } } : Shared) = sc
  have hp : sc.heap = sb.heap.push { cls := .type "dict", data := .dict #[] } := by rw [← esc]
  have Ic : Inv X pins σ (upd Hb D (.dK [])) sc := by
    rw [← esc]
    refine Ib.laid (t' := sb.toks) (fun b o eo => Heap.get?_push_of_some _ eo) (Nat.le_of_eq eD) ?_
    rw [← eD]
    exact dk_empty sb.heap Ib.big
  have small : ∀ b ∈ fp, b < sb.heap.objs.size := fun b hm => by
    obtain ⟨oo, eo, _⟩ := T.obj _ _ stb b hm
    exact Heap.lt_size eo
  have fc : ∀ b ∈ fp, FpOk X pins (upd Hb D (.dK [])) b ∧ b < sc.heap.objs.size := fun b hm => by
    have lt := small b hm
    refine ⟨⟨?_, (fb b hm).2⟩, by rw [hp, Heap.size_push]; exact Nat.lt_succ_of_lt lt⟩
    rw [upd_ne (by rw [← eD]; exact Nat.ne_of_lt lt)]
    exact (fb b hm).1
  have stc : tn 0 sc.heap := T.keep _ _ _ stb fun b _ o eo => by rw [hp]; exact Heap.get?_push_of_some _ eo
  have Id := block_start Ic ok hN fc
  generalize eH : upd Hb D (.dK []) = Hc at Ic Id fc tq
  have pg := hg sc Hc sc.heap.objs.size (cellsFrom (sc.heap.objs.size + 1) scope.names (cloFrom X.env.cells scope.names [])) fp
  have pt := ht sc Hc sc.heap.objs.size (cellsFrom (sc.heap.objs.size + 1) scope.names (cloFrom X.env.cells scope.names [])) fp
  have py := hy sc Hc sc.heap.objs.size (cellsFrom (sc.heap.objs.size + 1) scope.names (cloFrom X.env.cells scope.names [])) fp D
  generalize ece : compEnvC scope (cellsFrom (sc.heap.objs.size + 1) scope.names (cloFrom X.env.cells scope.names [])) sc.heap.objs.size X.env = ce at Id pg pt py
  have cl : ce.locals = sc.heap.objs.size := by subst ece; rfl
  generalize esd : ({ sc with heap := pushCells (sc.heap.push { cls := .type "dict", data := .dict #[] }) scope.names } : Shared) = sd at Id
  have std : tn 0 sd.heap := T.keep _ _ _ stc fun b _ o eo => by rw [← esd]; exact pushCells_keeps _ _ _ _ (Heap.get?_push_of_some _ eo)
  have nfp : ∀ b ∈ fp, Hc b = none := fun b hm => (fc b hm).1.1
  have fd : ∀ b ∈ fp, FpOk (X.blk sc Hc scope ce fp) [] Hc b := fun b hm => ⟨nfp b hm, (Id.ok.exf b hm).1, Id.ok.exfs b hm, .inl hm, fun x z e => (Id.ok.exf b hm).2 x z e, fun p hq => absurd (show p ∈ ([] : List (Addr × Obj)) ++ [] from hq) (by simp)⟩
  have Id' : Inv (X.blk sc Hc scope ce fp) [] (wipe σ c.vs) Hc sd := by rw [hvs]; exact Id
  have tq' : tCl J c (wipe σ c.vs) Hc (fun H9 => Q (.ref D) H9) (em D) := by
    have ww : wipe (wipe σ c.vs) c.vs = wipe σ c.vs := wipe_wipe
    unfold tCl at tq ⊢
    rw [ww]
    exact tq
  have lp := clause_loop (Y := X.blk sc Hc scope ce fp) (C := .DictComp kx vx (⟨tg, iter, ifs, 0⟩ :: rest) scope pos) (acc := .ref D) (ow := ow) (k := 0) (c := c) (yes := yes D ce) (Nx := fun H9 => Q (.ref D) H9) rfl hc (fun _ _ => rfl) (fun _ _ => rfl) (hT D (.ref ia) ce) pg pt py hv Id' T std fd tq'
  have fin : ∀ r s', (match r with
      | .ok _ => Aft (X.blk sc Hc scope ce fp) c.vs [] (wipe σ c.vs) (fun H9 => Q (.ref D) H9) s'
      | .error _ => False : Prop) → compPost (model X.prog X.w) X.A X.xe none (EP X pins σ Q) (.ref D) sc.heap.objs.size r s' := by
    intro r s' hr
    cases r with
    | error x => exact hr.elim
    | ok f =>
      obtain ⟨σ9, H9, I9, hl, hk, q9⟩ := hr
      have Ie : Inv X pins σ H9 s' := Ic.call' (ch := fp) I9.os I9.base I9.hok I9.bare fun b hm => ⟨(fc b hm).1.2.2.2.1, (fc b hm).1.2.1, (fc b hm).1.2.2.2.2.1, (fc b hm).1.2.2.2.2.2⟩
      have nC : H9 sc.heap.objs.size = none := by
        have zz : H9 ce.locals = none := I9.free
        rw [cl] at zz
        exact zz
      obtain ⟨mm, hn, _⟩ := I9.loc
      have hn' : s'.heap.Ns ce.locals mm := hn
      rw [cl] at hn'
      obtain ⟨f0, f1, f2, f3, f4, f5⟩ := Ic.fpOk (b := sc.heap.objs.size) (Nat.le_refl _) nC
      exact ⟨mm, hn', fun h9 sm => ⟨.ref D, H9, Ie.turned (t' := s'.toks) (fun b o hb eo => (sm.2 b hb).trans eo) f0 f1 f3 f4 f5, rfl, q9⟩⟩
  have all := codeAny_mono lp fin
  have done := start_d (k := 0) (t := tg) (i := iter) (ifs := ifs) rfl all (T.self X.A 0 _ _ _ std all)
  subst ece
  subst esd
  subst eH
  subst esc
  subst eD
  exact done
/-- [x for .. in .. for ..]: D the new list -/
def tLcN (c : Cl) (em : Addr → Em) : TE := fun σ H Q => c.wi σ H fun J H1 => ∀ D, H1 D = none → tCl J c σ (upd H1 D (.lst [])) (fun H9 => Q (.ref D) H9) (em D)
theorem pe_lcN {elt tg iter : Expr} {ifs : List Expr} {rest : List Comprehension} {scope : Scope} {own : List (Str × Nat)} {pos : Pos} {c : Cl} {em : Addr → Em} {yes : Addr → Env → Value → Sem Fin} {ow : List Nat} (hc : X.calm = true) (hN : X.N.Nodup) (hi : PI X tg iter c.wi) (ok : BlkOk X.N X.env.scope scope own) (hvs : c.vs = own.map (·.2))
    (hT : ∀ (D : Addr) (it : Value) (env : Env), compTurn (.ListComp elt (⟨tg, iter, ifs, 0⟩ :: rest) scope pos) 0 it (.ref D) env = turnG (.ListComp elt (⟨tg, iter, ifs, 0⟩ :: rest) scope pos) tg iter ifs 0 it (.ref D) env (yes D env it))
    (hg : ∀ (s : Shared) (H : Hp) (C : Addr) (cl : List (Str × Addr)) (fp : List Addr), PG (X.blk s H scope (compEnvC scope cl C X.env) fp) tg c.g) (ht : ∀ (s : Shared) (H : Hp) (C : Addr) (cl : List (Str × Addr)) (fp : List Addr), PTs (X.blk s H scope (compEnvC scope cl C X.env) fp) ifs c.tt)
    (hy : ∀ (s : Shared) (H : Hp) (C : Addr) (cl : List (Str × Addr)) (fp : List Addr) (D : Addr), YesOk (X.blk s H scope (compEnvC scope cl C X.env) fp) (.ListComp elt (⟨tg, iter, ifs, 0⟩ :: rest) scope pos) (.ref D) ow 0 (yes D (compEnvC scope cl C X.env)) (em D)) (hv : ∀ i ∈ ow, i ∈ c.vs)
    (hs : ∀ x, foldedSetIterable iter X.env x = pure x := by intro _; rfl) : PE X (.ListComp elt (⟨tg, iter, ifs, 0⟩ :: rest) scope pos) (tLcN c em) := by
  refine ⟨fun pins s σ H Q I h => ?_⟩
  rw [eval_ListComp]
  have free : ∀ y ∈ scope.names, y.2 = .free → ∃ z, X.env.cells.lookup y.1 = some z := fun y hm hf => by
    rcases ok.free y hm hf with z | z
    · exact I.ok.has _ (.inl z)
    · exact I.ok.has _ (.inr z)
  refine wpAny_comprehension_free rfl hs (closure_ok free) ok.kind (fun y hm hf => by rw [ok.uniq y hm, hf]) (thn (hi.run pins s σ H _ I h) fun xv sa ha => thn ha fun iv sb hb => ?_)
  obtain ⟨ia, fp, tn, J, Hb, ei, Ib, T, stb, fb, q⟩ := hb
  subst ei
  refine wpAny_newObj_type (newEnv_comp ?_) (by show 0 ≤ sizeLine; decide)
  generalize eD : sb.heap.objs.size = D
  have nD : Hb D = none := Ib.hok.fresh (Nat.le_of_eq eD)
  have tq := q D nD
  generalize esc : ({ sb with heap := sb.heap.push { cls := .type "list", data := .seq ([] : List Value).toArray } } : Shared) = sc
  have hp : sc.heap = sb.heap.push { cls := .type "list", data := .seq ([] : List Value).toArray } := by rw [← esc]
  have Ic : Inv X pins σ (upd Hb D (.lst [])) sc := by
    rw [← esc]
    refine Ib.laid (t' := sb.toks) (fun b o eo => Heap.get?_push_of_some _ eo) (Nat.le_of_eq eD) ⟨Nat.zero_le _, [], 0, .nil, ?_⟩
    rw [← eD]
    exact Heap.get?_push_size _ rfl
  have small : ∀ b ∈ fp, b < sb.heap.objs.size := fun b hm => by
    obtain ⟨oo, eo, _⟩ := T.obj _ _ stb b hm
    exact Heap.lt_size eo
  have fc : ∀ b ∈ fp, FpOk X pins (upd Hb D (.lst [])) b ∧ b < sc.heap.objs.size := fun b hm => by
    have lt := small b hm
    refine ⟨⟨?_, (fb b hm).2⟩, by rw [hp, Heap.size_push]; exact Nat.lt_succ_of_lt lt⟩
    rw [upd_ne (by rw [← eD]; exact Nat.ne_of_lt lt)]
    exact (fb b hm).1
  have stc : tn 0 sc.heap := T.keep _ _ _ stb fun b _ o eo => by rw [hp]; exact Heap.get?_push_of_some _ eo
  have Id := block_start Ic ok hN fc
  generalize eH : upd Hb D (.lst []) = Hc at Ic Id fc tq
  have pg := hg sc Hc sc.heap.objs.size (cellsFrom (sc.heap.objs.size + 1) scope.names (cloFrom X.env.cells scope.names [])) fp
  have pt := ht sc Hc sc.heap.objs.size (cellsFrom (sc.heap.objs.size + 1) scope.names (cloFrom X.env.cells scope.names [])) fp
  have py := hy sc Hc sc.heap.objs.size (cellsFrom (sc.heap.objs.size + 1) scope.names (cloFrom X.env.cells scope.names [])) fp D
  generalize ece : compEnvC scope (cellsFrom (sc.heap.objs.size + 1) scope.names (cloFrom X.env.cells scope.names [])) sc.heap.objs.size X.env = ce at Id pg pt py
  have cl : ce.locals = sc.heap.objs.size := by subst ece; rfl
  generalize esd : ({ sc with heap := pushCells (sc.heap.push { cls := .type "dict", data := .dict #[] }) scope.names } : Shared) = sd at Id
  have std : tn 0 sd.heap := T.keep _ _ _ stc fun b _ o eo => by rw [← esd]; exact pushCells_keeps _ _ _ _ (Heap.get?_push_of_some _ eo)
  have nfp : ∀ b ∈ fp, Hc b = none := fun b hm => (fc b hm).1.1
  have fd : ∀ b ∈ fp, FpOk (X.blk sc Hc scope ce fp) [] Hc b := fun b hm => ⟨nfp b hm, (Id.ok.exf b hm).1, Id.ok.exfs b hm, .inl hm, fun x z e => (Id.ok.exf b hm).2 x z e, fun p hq => absurd (show p ∈ ([] : List (Addr × Obj)) ++ [] from hq) (by simp)⟩
  have Id' : Inv (X.blk sc Hc scope ce fp) [] (wipe σ c.vs) Hc sd := by rw [hvs]; exact Id
  have tq' : tCl J c (wipe σ c.vs) Hc (fun H9 => Q (.ref D) H9) (em D) := by
    have ww : wipe (wipe σ c.vs) c.vs = wipe σ c.vs := wipe_wipe
    unfold tCl at tq ⊢
    rw [ww]
    exact tq
  have lp := clause_loop (Y := X.blk sc Hc scope ce fp) (C := .ListComp elt (⟨tg, iter, ifs, 0⟩ :: rest) scope pos) (acc := .ref D) (ow := ow) (k := 0) (c := c) (yes := yes D ce) (Nx := fun H9 => Q (.ref D) H9) rfl hc (fun _ _ => rfl) (fun _ _ => rfl) (hT D (.ref ia) ce) pg pt py hv Id' T std fd tq'
  have fin : ∀ r s', (match r with
      | .ok _ => Aft (X.blk sc Hc scope ce fp) c.vs [] (wipe σ c.vs) (fun H9 => Q (.ref D) H9) s'
      | .error _ => False : Prop) → compPost (model X.prog X.w) X.A X.xe none (EP X pins σ Q) (.ref D) sc.heap.objs.size r s' := by
    intro r s' hr
    cases r with
    | error x => exact hr.elim
    | ok f =>
      obtain ⟨σ9, H9, I9, hl, hk, q9⟩ := hr
      have Ie : Inv X pins σ H9 s' := Ic.call' (ch := fp) I9.os I9.base I9.hok I9.bare fun b hm => ⟨(fc b hm).1.2.2.2.1, (fc b hm).1.2.1, (fc b hm).1.2.2.2.2.1, (fc b hm).1.2.2.2.2.2⟩
      have nC : H9 sc.heap.objs.size = none := by
        have zz : H9 ce.locals = none := I9.free
        rw [cl] at zz
        exact zz
      obtain ⟨mm, hn, _⟩ := I9.loc
      have hn' : s'.heap.Ns ce.locals mm := hn
      rw [cl] at hn'
      obtain ⟨f0, f1, f2, f3, f4, f5⟩ := Ic.fpOk (b := sc.heap.objs.size) (Nat.le_refl _) nC
      exact ⟨mm, hn', fun h9 sm => ⟨.ref D, H9, Ie.turned (t' := s'.toks) (fun b o hb eo => (sm.2 b hb).trans eo) f0 f1 f3 f4 f5, rfl, q9⟩⟩
  have all := codeAny_mono lp fin
  have done := start_l (k := 0) (t := tg) (i := iter) (ifs := ifs) rfl all (T.self X.A 0 _ _ _ std all)
  subst ece
  subst esd
  subst eH
  subst esc
  subst eD
  exact done
end
end OF

namespace OF
open PySem PySem.Spec PyProof.Rows L2
variable {X : Cx} {G : Gx}
variable {e o tg iter : Expr} {es : List Expr} {ca cb : Cm U} {cl ck : Cm (List U)} {pos apos p : Pos}
theorem Keeps.trans {m m1 m2 : Mp} {H H1 H2 : Hp} (a : Keeps m H m1 H1) (b : Keeps m1 H1 m2 H2) : Keeps m H m2 H2 :=
  ⟨fun z u h n nx => let ⟨q, n', nx'⟩ := a.rd z u h n nx; b.rd z u q n' nx', fun n z h => b.at' n z (a.at' n z h)⟩
theorem Keeps.refl (m : Mp) (H : Hp) : Keeps m H m H := ⟨fun _ _ h n nx => ⟨h, n, nx⟩, fun _ _ h => h⟩
/-! what is walked, where a reserved address may turn -/
def ItOkK (K : PySem.W.Frag) (G : Gx) (m1 : Mp) (H1 : Hp) (us : List U) (g : Option Nat) (J : It) : Prop := ∃ Gd Y, Walk J us.length Gd Y ∧ (∀ m2 H2 S2, Keeps m1 H1 m2 H2 → Rst K G m2 H2 S2 → gok g us S2 → Gd H2) ∧
  ∀ i m2 S2 H2 x H3, Keeps m1 H1 m2 H2 → Rst K G m2 H2 S2 → gok g us S2 → i < us.length → Y i H2 x H3 → ∃ u, us[i]? = some u ∧ Ext m2 H2 m2 H3 ∧ Rst K G m2 H3 S2 ∧ RU K G m2 H3 u x
def RIK (K : PySem.W.Frag) (G : Gx) (it : CmG) : TI := fun σ H R => ∃ m S env us g S', Rst K G m H S ∧ Renv K G m H env σ ∧ it env S = some ((us, g), S') ∧ ∀ m1 H1, Ext m H m1 H1 → Rst K G m1 H1 S' → ∀ J, ItOkK K G m1 H1 us g J → R J H1
abbrev EIK (G : Gx) (X : Cx) (tg iter : Expr) (it : CmG) : Prop := PI X tg iter (RIK X.K G it)
theorem itok_atK {K : PySem.W.Frag} {m : Mp} {H : Hp} {us : List U} {vs : List V} {J : It} {Gd : Hp → Prop} (r : RUs K G m H us vs) (w : Walk J vs.length Gd (YAt vs)) (hG : ∀ m2 H2, Keeps m H m2 H2 → Gd H2) : ItOkK K G m H us none J := by
  refine ⟨Gd, YAt vs, by rw [← r.length]; exact w, fun m2 H2 _ k _ _ => hG m2 H2 k, fun i m2 S2 H2 x H3 k2 st2 _ hi ⟨e, hx⟩ => ?_⟩
  subst e
  obtain ⟨v, e', q⟩ := (RUs.keep k2 _ _ r).get (List.getElem?_eq_getElem hi)
  rw [hx] at e'; cases e'
  exact ⟨_, List.getElem?_eq_getElem hi, Ext.refl _ _, st2, q⟩
theorem itok_cellK {K : PySem.W.Frag} {m : Mp} {H : Hp} {n : Nat} {us : List U} {a : Addr} (hm : m.c[n]? = some a) : ItOkK K G m H us (some n) (Itl K a) := by
  have look : ∀ m2 H2 S2, Keeps m H m2 H2 → Rst K G m2 H2 S2 → gok (some n) us S2 → ∃ vs, H2 a = some (.lst vs) ∧ RUs K G m2 H2 us vs := by
    intro m2 H2 S2 k st g
    obtain ⟨ho, e, vs, rfl, r⟩ := st.ob n _ a g (k.at' n a hm)
    exact ⟨vs, e, r⟩
  refine ⟨_, _, walk_cell, fun m2 H2 S2 k st g => ?_, fun i m2 S2 H2 y H3 k st g hi ⟨e, hy⟩ => ?_⟩
  · obtain ⟨vs, h, r⟩ := look m2 H2 S2 k st g
    exact ⟨vs, h, r.length⟩
  · subst e
    obtain ⟨vs, h, r⟩ := look m2 H3 S2 k st g
    obtain ⟨v, e', q⟩ := r.get (List.getElem?_eq_getElem hi)
    rw [hy vs h] at e'
    cases e'
    exact ⟨_, List.getElem?_eq_getElem hi, Ext.refl _ _, st, q⟩
theorem RU.tupK {K : PySem.W.Frag} {m : Mp} {H : Hp} {us : List U} {v : V} (h : RU K G m H (.tup us) v) : ∃ a vs, v = .ref a ∧ RUs K G m H us vs ∧ ∀ m2 H2, Keeps m H m2 H2 → SqT K H2 a vs := by
  unfold RU at h
  obtain ⟨a, vs, rfl, q, r⟩ := h
  refine ⟨a, vs, rfl, r, fun m2 H2 k => ?_⟩
  rcases q with ⟨q, n, nx⟩ | q
  · exact .inl (k.rd a _ q n nx).1
  · exact .inr q
theorem RU.lstK {K : PySem.W.Frag} {m : Mp} {H : Hp} {us : List U} {v : V} (h : RU K G m H (.lst us) v) : ∃ a vs, v = .ref a ∧ RUs K G m H us vs ∧ ∀ m2 H2, Keeps m H m2 H2 → SqL K H2 a vs := by
  unfold RU at h
  obtain ⟨a, vs, rfl, q, n, nx, r⟩ := h
  exact ⟨a, vs, rfl, r, fun m2 H2 k => .inl (k.rd a _ q n nx).1⟩
theorem RU.scrK {K : PySem.W.Frag} {m : Mp} {H : Hp} {us : List U} {v : V} (h : RU K G m H (.scr us) v) : ∃ a vs, v = .ref a ∧ RUs K G m H us vs ∧ ∀ m2 H2, Keeps m H m2 H2 → SqL K H2 a vs := by
  unfold RU at h
  obtain ⟨a, vs, rfl, q, r⟩ := h
  refine ⟨a, vs, rfl, r, fun m2 H2 k => ?_⟩
  rcases q with ⟨q, n, nx⟩ | q
  · exact .inl (k.rd a _ q n nx).1
  · exact .inr q
theorem ei_anyK (he : EE G X e ca) : EIK G X tg e (itAny ca) := (PI.or3 (pi_tup he) (pi_list he) (pi_str he)).imp fun σ H R ⟨m, S, env, us, g, S', st, re, hc, q⟩ => by
  unfold itAny at hc
  split at hc
  · cases hc
  · rename_i u S1 e1
    split at hc
    · rename_i n
      split at hc
      · rename_i us' hn
        cases hc
        refine .inr (.inl ⟨m, S, env, _, S', st, re, e1, fun m1 H1 v x1 st1 r1 => ?_⟩)
        unfold RU at r1
        obtain ⟨a, ev, ha⟩ := r1
        obtain ⟨ho, e, vs, rfl, r⟩ := st1.ob n _ a hn ha
        exact ⟨a, ev, ⟨vs, .inl (.inl e)⟩, q m1 H1 x1 st1 _ (itok_cellK ha)⟩
      · cases hc
    · split at hc
      · cases hc
      · rename_i us' e2
        cases hc
        cases u with
        | tup us' =>
          cases e2
          refine .inl ⟨m, S, env, _, S', st, re, e1, fun m1 H1 v x1 st1 r1 => ?_⟩
          obtain ⟨a, vs, ev, rv, hq⟩ := r1.tupK
          exact ⟨a, ev, ⟨vs, hq m1 H1 (Keeps.refl _ _)⟩, q m1 H1 x1 st1 _ (itok_atK rv walk_tup hq)⟩
        | lst us' =>
          cases e2
          refine .inr (.inl ⟨m, S, env, _, S', st, re, e1, fun m1 H1 v x1 st1 r1 => ?_⟩)
          obtain ⟨a, vs, ev, rv, hq⟩ := r1.lstK
          exact ⟨a, ev, ⟨vs, hq m1 H1 (Keeps.refl _ _)⟩, q m1 H1 x1 st1 _ (itok_atK rv walk_list hq)⟩
        | scr us' =>
          cases e2
          refine .inr (.inl ⟨m, S, env, _, S', st, re, e1, fun m1 H1 v x1 st1 r1 => ?_⟩)
          obtain ⟨a, vs, ev, rv, hq⟩ := r1.scrK
          exact ⟨a, ev, ⟨vs, hq m1 H1 (Keeps.refl _ _)⟩, q m1 H1 x1 st1 _ (itok_atK rv walk_list hq)⟩
        | str x =>
          cases e2
          refine .inr (.inr ⟨m, S, env, _, S', st, re, e1, fun m1 H1 v x1 st1 r1 => ?_⟩)
          exact ⟨x, r1, q m1 H1 x1 st1 _ (itok_atK (RUs.signs x) walk_strV fun _ _ _ => trivial)⟩
        | _ => cases e2
/-! the plain programs -/
structure ClU where
  it : CmG
  pt : Pat
  t : Cm Bool
  vs : List Nat
abbrev Bd (α : Type) := Env' → α → Sto → Option (α × Sto)
open Classical in
noncomputable def loopA {α : Type} (pt : Pat) (t : Cm Bool) (env : Env') (g : Option Nat) (us0 : List U) (body : Bd α) : List U → α → Sto → Option (α × Sto)
  | [], acc, S => if gok g us0 S then some (acc, S) else none
  | u :: us, acc, S => if gok g us0 S then (match bindP pt u with
    | none => none
    | some bs => match t (setAll env bs) S with
      | none => none
      | some (false, S1) => loopA pt t env g us0 body us acc S1
      | some (true, S1) => match body (setAll env bs) acc S1 with
        | none => none
        | some (acc2, S2) => loopA pt t env g us0 body us acc2 S2) else none
theorem loopA_gok {α : Type} {pt : Pat} {t : Cm Bool} {env : Env'} {g : Option Nat} {us0 us : List U} {body : Bd α} {acc : α} {S : Sto} {r : α × Sto} (h : loopA pt t env g us0 body us acc S = some r) : gok g us0 S := by
  cases us <;> (unfold loopA at h; split at h; assumption; cases h)
noncomputable def clauseA {α : Type} (c : ClU) (body : Bd α) : Bd α := fun env acc S => match c.it env S with
  | none => none
  | some ((us, g), S1) => loopA c.pt c.t (wipeE env c.vs) g us body us acc S1
def outD (ck cv : Cm U) : Bd (List (Key × U)) := fun env acc S => match ck env S with
  | none => none
  | some (y, S1) => match cv env S1 with
    | none => none
    | some (z, S2) => match keyU y with
      | none => none
      | some k => if acc.length < sizeLine then some (putKU acc k z, S2) else none
def outL (c : Cm U) : Bd (List U) := fun env acc S => match c env S with
  | none => none
  | some (y, S1) => if acc.length < sizeLine then some (acc ++ [y], S1) else none
def Hold (K : PySem.W.Frag) (G : Gx) (m : Mp) (H : Hp) (D : Addr) (o : O) : Prop := ∃ ho, H D = some ho ∧ RO K G m H o ho
/-- what a body does, from the state in which the new thing is not yet there -/
def BOk (K : PySem.W.Frag) (G : Gx) (m1 : Mp) (H1 : Hp) (D : Addr) {α : Type} (wrap : α → O) (body : Bd α) (em : Em) : Prop := ∀ m S H env σ acc acc' S' Nx, Ext m1 H1 m H → D ∈ m.x → Rst K G m H S → Renv K G m H env σ → Hold K G m H D (wrap acc) → body env acc S = some (acc', S') →
  (∀ m' H', Ext m1 H1 m' H' → Keeps m H m' H' → D ∈ m'.x → Rst K G m' H' S' → Hold K G m' H' D (wrap acc') → Nx H') → em σ H Nx
theorem ext_upd {m1 m : Mp} {H1 H : Hp} {D : Addr} {ho : HO} (x : Ext m1 H1 m H) (hD : H1 D = none) : Ext m1 H1 m (L2.upd H D ho) := by
  refine ⟨x.pre, x.x, fun a o h n => ?_, fun a ha h => ?_, x.new⟩
  · have : a ≠ D := ne_of_none h hD
    rw [upd_ne this]; exact x.keep a o h n
  · by_cases e : a = D
    · subst e; rw [upd_same]; rfl
    · rw [upd_ne e]; exact x.cells a ha h
theorem Hold.ext {K : PySem.W.Frag} {m m' : Mp} {H H' : Hp} {D : Addr} {o : O} (h : Hold K G m H D o) (x : Ext m H m' H') (nc : D ∉ m.c) : Hold K G m' H' D o :=
  let ⟨ho, e, r⟩ := h; ⟨ho, x.keep D _ e nc, RO.keep x.keeps _ _ r⟩
theorem bok_d {K : PySem.W.Frag} {m1 : Mp} {H1 : Hp} {D : Addr} {ck cv : Cm U} (hD : H1 D = none) : BOk K G m1 H1 D O.dct (outD ck cv) (emD D (RE K G ck) (RE K G cv)) := by
  intro m S H env σ acc acc' S' Nx x hx st re hh hb q
  unfold outD at hb
  split at hb
  · cases hb
  · rename_i y S2 e1
    split at hb
    · cases hb
    · rename_i z S3 e2
      split at hb
      · cases hb
      · rename_i k hk
        split at hb
        · rename_i hl
          cases hb
          have nc : D ∉ m.c := st.nx D hx
          refine ⟨m, S, env, y, S2, st, re, e1, fun m2 H2 v2 x2 st2 r2 => ?_⟩
          have nc2 : D ∉ m2.c := st2.nx D (x2.xmem hx)
          refine ⟨m2, S2, env, z, S', st2, re.keep x2.keeps, e2, fun m3 H3 v3 x3 st3 r3 => ?_⟩
          obtain ⟨ho, eh, zs, rfl, rk⟩ := (hh.ext x2 nc).ext x3 nc2
          have hx3 : D ∈ m3.x := x3.xmem (x2.xmem hx)
          have k3 : Keeps m3 H3 m3 (L2.upd H3 D (.dK (putK zs k v3))) := keeps_x hx3
          refine ⟨zs, k, keyU_ok r2 hk, eh, by rw [rk.len]; exact hl, ?_⟩
          exact q m3 _ (ext_upd ((x.trans x2).trans x3) hD) ((x2.trans x3).keeps.trans k3) hx3 (st3.setx hx3) ⟨_, upd_same, _, rfl, RKs.keep k3 _ _ (rk.put r3)⟩
        · cases hb
theorem bok_l {K : PySem.W.Frag} {m1 : Mp} {H1 : Hp} {D : Addr} {c : Cm U} (hD : H1 D = none) : BOk K G m1 H1 D O.lst (outL c) (emL D (RE K G c)) := by
  intro m S H env σ acc acc' S' Nx x hx st re hh hb q
  unfold outL at hb
  split at hb
  · cases hb
  · rename_i y S2 e1
    split at hb
    · rename_i hl
      cases hb
      have nc : D ∉ m.c := st.nx D hx
      refine ⟨m, S, env, y, S', st, re, e1, fun m2 H2 v2 x2 st2 r2 => ?_⟩
      obtain ⟨ho, eh, zs, rfl, rk⟩ := hh.ext x2 nc
      have hx2 : D ∈ m2.x := x2.xmem hx
      have k3 : Keeps m2 H2 m2 (L2.upd H2 D (.lst (zs ++ [v2]))) := keeps_x hx2
      refine ⟨zs, eh, by rw [rk.length]; exact hl, ?_⟩
      exact q m2 _ (ext_upd (x.trans x2) hD) (x2.keeps.trans k3) hx2 (st2.setx hx2) ⟨_, upd_same, _, rfl, RUs.keep k3 _ _ (rk.append (RUs.one r2))⟩
    · cases hb
def clOf (K : PySem.W.Frag) (G : Gx) (c : ClU) : Cl := ⟨RIK K G c.it, tPat K c.pt, RT K G c.t, c.vs⟩
/-- one clause's walk -/
theorem walk_ok {K : PySem.W.Frag} {m1 : Mp} {H1 : Hp} {D : Addr} {α : Type} {wrap : α → O} {body : Bd α} {em : Em} {c : ClU} (hb : BOk K G m1 H1 D wrap body em) (hsl : ∀ i ∈ c.pt.slots, i ∈ c.vs)
    {m0 : Mp} {H0 : Hp} {S0 : Sto} {env : Env'} {σ : L2.St} {us : List U} {g : Option Nat} {J : It} {acc acc' : α} {S' : Sto} {Nx : Hp → Prop} (x0 : Ext m1 H1 m0 H0) (hx0 : D ∈ m0.x) (st0 : Rst K G m0 H0 S0) (re : Renv K G m0 H0 env σ) (hh : Hold K G m0 H0 D (wrap acc)) (hJ : ItOkK K G m0 H0 us g J)
    (hl : loopA c.pt c.t (wipeE env c.vs) g us body us acc S0 = some (acc', S')) (q : ∀ m' H', Ext m1 H1 m' H' → Keeps m0 H0 m' H' → D ∈ m'.x → Rst K G m' H' S' → Hold K G m' H' D (wrap acc') → Nx H') : tCl J (clOf K G c) σ H0 Nx em := by
  obtain ⟨Gd, Y, w, hG, hY⟩ := hJ
  have reW := re.wipe c.vs
  refine ⟨fun j n H => (j ≤ us.length ∧ ∃ m S acc, Ext m1 H1 m H ∧ Keeps m0 H0 m H ∧ D ∈ m.x ∧ Rst K G m H S ∧ Hold K G m H D (wrap acc) ∧ loopA c.pt c.t (wipeE env c.vs) g us body (us.drop j) acc S = some (acc', S')) ∧ us.length - j = n, ⟨us.length, ⟨Nat.zero_le _, m0, S0, acc, x0, Keeps.refl _ _, hx0, st0, hh, hl⟩, rfl⟩, ?_⟩
  rintro j n H ⟨⟨hj, m, S, acc, x, k, hx, st, hh, hl⟩, rfl⟩
  have hg := hG m H S k st (loopA_gok hl)
  rcases Nat.lt_or_eq_of_le hj with hlt | rfl
  · refine .inr ⟨w.goes j H hlt hg, fun H' => ∃ m S acc, Ext m1 H1 m H' ∧ Keeps m0 H0 m H' ∧ D ∈ m.x ∧ Rst K G m H' S ∧ Hold K G m H' D (wrap acc) ∧ loopA c.pt c.t (wipeE env c.vs) g us body (us.drop (j + 1)) acc S = some (acc', S'), fun H' h' => ⟨us.length - (j + 1), by omega, ⟨hlt, h'⟩, rfl⟩, fun y H' hy => ?_⟩
    obtain ⟨u, hu, x2, st2, ru⟩ := hY j m S H y H' k st (loopA_gok hl) hlt (w.yields j H y H' hlt hg hy)
    rw [drop_cons hu] at hl
    have hk := loopA_gok hl
    unfold loopA at hl
    rw [if_pos hk] at hl
    split at hl
    · cases hl
    · rename_i bs eb
      obtain ⟨bv, h1, h2⟩ := bindP_ok _ _ _ _ eb ru
      have re2 := (reW.keep (k.trans x2.keeps)).setAll h2
      have nc : D ∉ m.c := st.nx D hx
      refine ⟨bv, h1, wipe_setAll_wipe (fun i hi => hsl i (by rw [PatV.slots _ _ _ h1] at hi; exact hi)), ?_⟩
      split at hl
      · cases hl
      · rename_i S3 e3
        refine ⟨m, S, _, false, S3, st2, re2, e3, fun m3 H3 x3 st3 => iteF ?_⟩
        exact ⟨m3, S3, acc, (x.trans x2).trans x3, k.trans (x2.trans x3).keeps, x3.xmem hx, st3, (hh.ext x2 nc).ext x3 nc, hl⟩
      · rename_i S3 e3
        split at hl
        · cases hl
        · rename_i acc2 S4 e4
          refine ⟨m, S, _, true, S3, st2, re2, e3, fun m3 H3 x3 st3 => iteT ?_⟩
          refine hb m3 S3 H3 _ _ acc acc2 S4 _ ((x.trans x2).trans x3) (x3.xmem hx) st3 (re2.keep x3.keeps) ((hh.ext x2 nc).ext x3 nc) e4 fun m4 H4 x4 k4 hx4 st4 hh4 => ?_
          exact ⟨m4, S4, acc2, x4, (k.trans (x2.trans x3).keeps).trans k4, hx4, st4, hh4, hl⟩
  · rw [List.drop_length] at hl
    have hk := loopA_gok hl
    unfold loopA at hl
    rw [if_pos hk] at hl
    cases hl
    exact .inl ⟨w.stops H hg, q m H x k hx st hh⟩
theorem bok_c {K : PySem.W.Frag} {m1 : Mp} {H1 : Hp} {D : Addr} {α : Type} {wrap : α → O} {body : Bd α} {em : Em} {c : ClU} (hD : H1 D = none) (hb : BOk K G m1 H1 D wrap body em) (hsl : ∀ i ∈ c.pt.slots, i ∈ c.vs) :
    BOk K G m1 H1 D wrap (clauseA c body) (fun σ H Nx => (clOf K G c).wi σ H fun J H9 => tCl J (clOf K G c) σ H9 Nx em) := by
  intro m S H env σ acc acc' S' Nx x hx st re hh hc q
  unfold clauseA at hc
  split at hc
  · cases hc
  · rename_i us g S1 e1
    have nc : D ∉ m.c := st.nx D hx
    refine ⟨m, S, env, us, g, S1, st, re, e1, fun m2 H2 x2 st2 J hJ => ?_⟩
    exact walk_ok hb hsl (x.trans x2) (x2.xmem hx) st2 (re.keep x2.keeps) (hh.ext x2 nc) hJ hc fun m' H' x' k' hx' st' hh' => q m' H' x' (x2.keeps.trans k') hx' st' hh'
end OF

namespace OF
open PySem PySem.Spec PyProof.Rows L2
variable {X : Cx} {G : Gx}
variable {e o tg iter : Expr} {es : List Expr} {ca cb : Cm U} {cl ck : Cm (List U)} {pos apos p : Pos}
theorem ItOkK.mono {K : PySem.W.Frag} {m1 m2 : Mp} {H1 H2 : Hp} {us : List U} {g : Option Nat} {J : It} (h : ItOkK K G m1 H1 us g J) (k : Keeps m1 H1 m2 H2) : ItOkK K G m2 H2 us g J := by
  obtain ⟨Gd, Y, w, hG, hY⟩ := h
  exact ⟨Gd, Y, w, fun m3 H3 S3 k3 => hG m3 H3 S3 (k.trans k3), fun i m3 S3 H3 x H4 k3 => hY i m3 S3 H3 x H4 (k.trans k3)⟩
noncomputable def cDcN (mu : Bool) (c : ClU) (body : Bd (List (Key × U))) : Cm U := fun env S => match clauseA c body env [] S with
  | none => none
  | some (kvs, S2) => if mu then some (.ref S2.length, S2 ++ [.dct kvs]) else some (.dct kvs, S2)
noncomputable def cLcN (mu : Bool) (c : ClU) (body : Bd (List U)) : Cm U := fun env S => match clauseA c body env [] S with
  | none => none
  | some (us, S2) => if mu then some (.ref S2.length, S2 ++ [.lst us]) else some (.lst us, S2)
theorem re_dcN {K : PySem.W.Frag} {mu : Bool} {c : ClU} {body : Bd (List (Key × U))} {em : Addr → Em} {σ : L2.St} {H : Hp} {Q : VK} (hB : ∀ m1 H1 D, H1 D = none → BOk K G m1 H1 D O.dct body (em D)) (hsl : ∀ i ∈ c.pt.slots, i ∈ c.vs) (h : RE K G (cDcN mu c body) σ H Q) : tDcN (clOf K G c) em σ H Q := by
  obtain ⟨m, S, env, z, S', st, re, hc, q⟩ := h
  unfold cDcN at hc
  split at hc
  · cases hc
  · rename_i kvs S2 e0
    unfold clauseA at e0
    split at e0
    · cases e0
    · rename_i us g S1 e1
      refine ⟨m, S, env, us, g, S1, st, re, e1, fun m1 H1 x1 st1 J hJ D hD => ?_⟩
      have xr : Ext m1 H1 ⟨m1.c, D :: m1.x⟩ (L2.upd H1 D (.dK [])) := Ext.res hD
      refine walk_ok (hB m1 H1 D hD) hsl xr (by simp) (st1.res hD) ((re.keep x1.keeps).keep xr.keeps) ⟨_, upd_same, _, rfl, RKs.nil⟩ (hJ.mono xr.keeps) e0 fun m' H' x' k' hx' st' hh' => ?_
      obtain ⟨ho, hd, zs, rfl, rk⟩ := hh'
      have hsub : ∀ a ∈ D :: m1.x, a ∈ m'.x := fun a ha => by
        rcases List.mem_cons.mp ha with h | h
        · rw [h]; exact hx'
        · exact x'.xmem h
      have st3 : Rst K G ⟨m'.c, D :: m1.x⟩ H' S2 := Rst.forget (x := m'.x) st' hsub
      have rm3 := RKs.keep (keeps_forget (c := m'.c) (x := m'.x) (H := H') hsub) _ _ rk
      have x3 := x1.trans x'.forget
      have nx := st1.none_x hD
      split at hc
      · cases hc
        obtain ⟨y1, y2, y3⟩ := res_cell (o := .dct kvs) x3 (x1.back hD) nx st3 hd ⟨_, rfl, rm3⟩
        exact q _ _ _ y1 y2 y3
      · cases hc
        have hs2 : ∀ a ∈ m1.x, a ∈ D :: m1.x := fun a ha => List.mem_cons_of_mem _ ha
        refine q ⟨m'.c, m1.x⟩ _ (.ref D) x3 (Rst.forget (x := D :: m1.x) st3 hs2) ?_
        unfold RU
        exact ⟨D, _, rfl, .inl hd, st3.nx D (by simp), nx, RKs.keep (keeps_forget (x := D :: m1.x) hs2) _ _ rm3⟩
theorem re_lcN {K : PySem.W.Frag} {mu : Bool} {c : ClU} {body : Bd (List U)} {em : Addr → Em} {σ : L2.St} {H : Hp} {Q : VK} (hB : ∀ m1 H1 D, H1 D = none → BOk K G m1 H1 D O.lst body (em D)) (hsl : ∀ i ∈ c.pt.slots, i ∈ c.vs) (h : RE K G (cLcN mu c body) σ H Q) : tLcN (clOf K G c) em σ H Q := by
  obtain ⟨m, S, env, z, S', st, re, hc, q⟩ := h
  unfold cLcN at hc
  split at hc
  · cases hc
  · rename_i kvs S2 e0
    unfold clauseA at e0
    split at e0
    · cases e0
    · rename_i us g S1 e1
      refine ⟨m, S, env, us, g, S1, st, re, e1, fun m1 H1 x1 st1 J hJ D hD => ?_⟩
      have xr : Ext m1 H1 ⟨m1.c, D :: m1.x⟩ (L2.upd H1 D (.lst [])) := Ext.res hD
      refine walk_ok (hB m1 H1 D hD) hsl xr (by simp) (st1.res hD) ((re.keep x1.keeps).keep xr.keeps) ⟨_, upd_same, _, rfl, RUs.nil⟩ (hJ.mono xr.keeps) e0 fun m' H' x' k' hx' st' hh' => ?_
      obtain ⟨ho, hd, zs, rfl, rk⟩ := hh'
      have hsub : ∀ a ∈ D :: m1.x, a ∈ m'.x := fun a ha => by
        rcases List.mem_cons.mp ha with h | h
        · rw [h]; exact hx'
        · exact x'.xmem h
      have st3 : Rst K G ⟨m'.c, D :: m1.x⟩ H' S2 := Rst.forget (x := m'.x) st' hsub
      have rm3 := RUs.keep (keeps_forget (c := m'.c) (x := m'.x) (H := H') hsub) _ _ rk
      have x3 := x1.trans x'.forget
      have nx := st1.none_x hD
      split at hc
      · cases hc
        obtain ⟨y1, y2, y3⟩ := res_cell (o := .lst kvs) x3 (x1.back hD) nx st3 hd ⟨_, rfl, rm3⟩
        exact q _ _ _ y1 y2 y3
      · cases hc
        have hs2 : ∀ a ∈ m1.x, a ∈ D :: m1.x := fun a ha => List.mem_cons_of_mem _ ha
        refine q ⟨m'.c, m1.x⟩ _ (.ref D) x3 (Rst.forget (x := D :: m1.x) st3 hs2) ?_
        unfold RU
        exact ⟨D, _, rfl, .inl hd, st3.nx D (by simp), nx, RUs.keep (keeps_forget (x := D :: m1.x) hs2) _ _ rm3⟩
section
variable {kx vx elt t1 i1 t2 i2 : Expr} {ifs ifs1 ifs2 : List Expr} {scope : Scope} {own : List (Str × Nat)} {c c1 c2 : ClU} {dk dv : Cm U}
theorem ee_dc2 (mu : Bool) (hc : X.calm = true) (hN : X.N.Nodup) (hi : EIK G X tg iter c.it) (ok : BlkOk X.N X.env.scope scope own) (hvs : c.vs = own.map (·.2))
    (hg : ∀ (s : Shared) (H : Hp) (C : Addr) (cl : List (Str × Addr)) (fp : List Addr), EPt (X.blk s H scope (compEnvC scope cl C X.env) fp) tg c.pt) (ht : ∀ (s : Shared) (H : Hp) (C : Addr) (cl : List (Str × Addr)) (fp : List Addr), ETs G (X.blk s H scope (compEnvC scope cl C X.env) fp) ifs c.t)
    (hi1 : ∀ (s : Shared) (H : Hp) (C : Addr) (cl : List (Str × Addr)) (fp : List Addr), EIK G (X.blk s H scope (compEnvC scope cl C X.env) fp) t1 i1 c1.it)
    (hg1 : ∀ (s : Shared) (H : Hp) (C : Addr) (cl : List (Str × Addr)) (fp : List Addr), EPt (X.blk s H scope (compEnvC scope cl C X.env) fp) t1 c1.pt) (ht1 : ∀ (s : Shared) (H : Hp) (C : Addr) (cl : List (Str × Addr)) (fp : List Addr), ETs G (X.blk s H scope (compEnvC scope cl C X.env) fp) ifs1 c1.t)
    (hk : ∀ (s : Shared) (H : Hp) (C : Addr) (cl : List (Str × Addr)) (fp : List Addr), EE G (X.blk s H scope (compEnvC scope cl C X.env) fp) kx dk) (hv : ∀ (s : Shared) (H : Hp) (C : Addr) (cl : List (Str × Addr)) (fp : List Addr), EE G (X.blk s H scope (compEnvC scope cl C X.env) fp) vx dv)
    (hsl : ∀ i ∈ c.pt.slots, i ∈ c.vs) (hsl1 : ∀ i ∈ c1.pt.slots, i ∈ c1.vs) (hvs1 : ∀ i ∈ c1.vs, i ∈ c.vs) (hs : ∀ x, foldedSetIterable iter X.env x = pure x := by intro _; rfl) (hs1 : ∀ env x, foldedSetIterable i1 env x = pure x := by intro _ _; rfl) :
    EE G X (.DictComp kx vx [⟨tg, iter, ifs, 0⟩, ⟨t1, i1, ifs1, 0⟩] scope pos) (cDcN mu c (clauseA c1 (outD dk dv))) :=
  (pe_dcN (c := clOf X.K G c) (ow := c1.vs) (em := fun D σ H Nx => (clOf X.K G c1).wi σ H fun J H9 => tCl J (clOf X.K G c1) σ H9 Nx (emD D (RE X.K G dk) (RE X.K G dv))) (yes := fun D env it => deeper (.DictComp kx vx [⟨tg, iter, ifs, 0⟩, ⟨t1, i1, ifs1, 0⟩] scope pos) i1 0 it (.ref D) env) hc hN hi ok hvs (fun D it env => turn_dm rfl rfl) hg ht
    (fun s H C cl fp D => deeper_ok (Y := X.blk s H scope (compEnvC scope cl C X.env) fp) (c := clOf X.K G c1) (ow := []) (yes := fun it => putOut kx vx (.DictComp kx vx [⟨tg, iter, ifs, 0⟩, ⟨t1, i1, ifs1, 0⟩] scope pos) 1 it D _) rfl hc (fun _ _ => rfl) (fun _ _ => rfl) (fun it R s h0 h => start_d rfl h0 h) (fun it => turn_dl rfl rfl) (hi1 s H C cl fp) (hg1 s H C cl fp) (ht1 s H C cl fp) (hs1 _) (yes_d rfl (hk s H C cl fp) (hv s H C cl fp)) (fun i h => nomatch h)) hvs1 hs).imp
    fun σ H Q h => re_dcN (fun m1 H1 D hD => bok_c hD (bok_d hD) hsl1) hsl h
theorem ee_dc3 (mu : Bool) (hc : X.calm = true) (hN : X.N.Nodup) (hi : EIK G X tg iter c.it) (ok : BlkOk X.N X.env.scope scope own) (hvs : c.vs = own.map (·.2))
    (hg : ∀ (s : Shared) (H : Hp) (C : Addr) (cl : List (Str × Addr)) (fp : List Addr), EPt (X.blk s H scope (compEnvC scope cl C X.env) fp) tg c.pt) (ht : ∀ (s : Shared) (H : Hp) (C : Addr) (cl : List (Str × Addr)) (fp : List Addr), ETs G (X.blk s H scope (compEnvC scope cl C X.env) fp) ifs c.t)
    (hi1 : ∀ (s : Shared) (H : Hp) (C : Addr) (cl : List (Str × Addr)) (fp : List Addr), EIK G (X.blk s H scope (compEnvC scope cl C X.env) fp) t1 i1 c1.it)
    (hg1 : ∀ (s : Shared) (H : Hp) (C : Addr) (cl : List (Str × Addr)) (fp : List Addr), EPt (X.blk s H scope (compEnvC scope cl C X.env) fp) t1 c1.pt) (ht1 : ∀ (s : Shared) (H : Hp) (C : Addr) (cl : List (Str × Addr)) (fp : List Addr), ETs G (X.blk s H scope (compEnvC scope cl C X.env) fp) ifs1 c1.t)
    (hi2 : ∀ (s : Shared) (H : Hp) (C : Addr) (cl : List (Str × Addr)) (fp : List Addr), EIK G (X.blk s H scope (compEnvC scope cl C X.env) fp) t2 i2 c2.it)
    (hg2 : ∀ (s : Shared) (H : Hp) (C : Addr) (cl : List (Str × Addr)) (fp : List Addr), EPt (X.blk s H scope (compEnvC scope cl C X.env) fp) t2 c2.pt) (ht2 : ∀ (s : Shared) (H : Hp) (C : Addr) (cl : List (Str × Addr)) (fp : List Addr), ETs G (X.blk s H scope (compEnvC scope cl C X.env) fp) ifs2 c2.t)
    (hk : ∀ (s : Shared) (H : Hp) (C : Addr) (cl : List (Str × Addr)) (fp : List Addr), EE G (X.blk s H scope (compEnvC scope cl C X.env) fp) kx dk) (hv : ∀ (s : Shared) (H : Hp) (C : Addr) (cl : List (Str × Addr)) (fp : List Addr), EE G (X.blk s H scope (compEnvC scope cl C X.env) fp) vx dv)
    (hsl : ∀ i ∈ c.pt.slots, i ∈ c.vs) (hsl1 : ∀ i ∈ c1.pt.slots, i ∈ c1.vs) (hsl2 : ∀ i ∈ c2.pt.slots, i ∈ c2.vs) (hvs1 : ∀ i ∈ c1.vs, i ∈ c.vs) (hvs2 : ∀ i ∈ c2.vs, i ∈ c1.vs) (hs : ∀ x, foldedSetIterable iter X.env x = pure x := by intro _; rfl) (hs1 : ∀ env x, foldedSetIterable i1 env x = pure x := by intro _ _; rfl) (hs2 : ∀ env x, foldedSetIterable i2 env x = pure x := by intro _ _; rfl) :
    EE G X (.DictComp kx vx [⟨tg, iter, ifs, 0⟩, ⟨t1, i1, ifs1, 0⟩, ⟨t2, i2, ifs2, 0⟩] scope pos) (cDcN mu c (clauseA c1 (clauseA c2 (outD dk dv)))) :=
  (pe_dcN (c := clOf X.K G c) (ow := c1.vs) (em := fun D σ H Nx => (clOf X.K G c1).wi σ H fun J H9 => tCl J (clOf X.K G c1) σ H9 Nx (fun σ H Nx => (clOf X.K G c2).wi σ H fun J H9 => tCl J (clOf X.K G c2) σ H9 Nx (emD D (RE X.K G dk) (RE X.K G dv)))) (yes := fun D env it => deeper (.DictComp kx vx [⟨tg, iter, ifs, 0⟩, ⟨t1, i1, ifs1, 0⟩, ⟨t2, i2, ifs2, 0⟩] scope pos) i1 0 it (.ref D) env) hc hN hi ok hvs (fun D it env => turn_dm rfl rfl) hg ht
    (fun s H C cl fp D => deeper_ok (Y := X.blk s H scope (compEnvC scope cl C X.env) fp) (c := clOf X.K G c1) (ow := c2.vs) (yes := fun it => deeper (.DictComp kx vx [⟨tg, iter, ifs, 0⟩, ⟨t1, i1, ifs1, 0⟩, ⟨t2, i2, ifs2, 0⟩] scope pos) i2 1 it (.ref D) _) rfl hc (fun _ _ => rfl) (fun _ _ => rfl) (fun it R s h0 h => start_d rfl h0 h) (fun it => turn_dm rfl rfl) (hi1 s H C cl fp) (hg1 s H C cl fp) (ht1 s H C cl fp) (hs1 _)
      (deeper_ok (Y := X.blk s H scope (compEnvC scope cl C X.env) fp) (c := clOf X.K G c2) (ow := []) (yes := fun it => putOut kx vx (.DictComp kx vx [⟨tg, iter, ifs, 0⟩, ⟨t1, i1, ifs1, 0⟩, ⟨t2, i2, ifs2, 0⟩] scope pos) 2 it D _) rfl hc (fun _ _ => rfl) (fun _ _ => rfl) (fun it R s h0 h => start_d rfl h0 h) (fun it => turn_dl rfl rfl) (hi2 s H C cl fp) (hg2 s H C cl fp) (ht2 s H C cl fp) (hs2 _) (yes_d rfl (hk s H C cl fp) (hv s H C cl fp)) (fun i h => nomatch h)) hvs2) hvs1 hs).imp
    fun σ H Q h => re_dcN (fun m1 H1 D hD => bok_c hD (bok_c hD (bok_d hD) hsl2) hsl1) hsl h
theorem ee_lc2 (mu : Bool) (hc : X.calm = true) (hN : X.N.Nodup) (hi : EIK G X tg iter c.it) (ok : BlkOk X.N X.env.scope scope own) (hvs : c.vs = own.map (·.2))
    (hg : ∀ (s : Shared) (H : Hp) (C : Addr) (cl : List (Str × Addr)) (fp : List Addr), EPt (X.blk s H scope (compEnvC scope cl C X.env) fp) tg c.pt) (ht : ∀ (s : Shared) (H : Hp) (C : Addr) (cl : List (Str × Addr)) (fp : List Addr), ETs G (X.blk s H scope (compEnvC scope cl C X.env) fp) ifs c.t)
    (hi1 : ∀ (s : Shared) (H : Hp) (C : Addr) (cl : List (Str × Addr)) (fp : List Addr), EIK G (X.blk s H scope (compEnvC scope cl C X.env) fp) t1 i1 c1.it)
    (hg1 : ∀ (s : Shared) (H : Hp) (C : Addr) (cl : List (Str × Addr)) (fp : List Addr), EPt (X.blk s H scope (compEnvC scope cl C X.env) fp) t1 c1.pt) (ht1 : ∀ (s : Shared) (H : Hp) (C : Addr) (cl : List (Str × Addr)) (fp : List Addr), ETs G (X.blk s H scope (compEnvC scope cl C X.env) fp) ifs1 c1.t)
    (he : ∀ (s : Shared) (H : Hp) (C : Addr) (cl : List (Str × Addr)) (fp : List Addr), EE G (X.blk s H scope (compEnvC scope cl C X.env) fp) elt dk)
    (hsl : ∀ i ∈ c.pt.slots, i ∈ c.vs) (hsl1 : ∀ i ∈ c1.pt.slots, i ∈ c1.vs) (hvs1 : ∀ i ∈ c1.vs, i ∈ c.vs) (hs : ∀ x, foldedSetIterable iter X.env x = pure x := by intro _; rfl) (hs1 : ∀ env x, foldedSetIterable i1 env x = pure x := by intro _ _; rfl) :
    EE G X (.ListComp elt [⟨tg, iter, ifs, 0⟩, ⟨t1, i1, ifs1, 0⟩] scope pos) (cLcN mu c (clauseA c1 (outL dk))) :=
  (pe_lcN (c := clOf X.K G c) (ow := c1.vs) (em := fun D σ H Nx => (clOf X.K G c1).wi σ H fun J H9 => tCl J (clOf X.K G c1) σ H9 Nx (emL D (RE X.K G dk))) (yes := fun D env it => deeper (.ListComp elt [⟨tg, iter, ifs, 0⟩, ⟨t1, i1, ifs1, 0⟩] scope pos) i1 0 it (.ref D) env) hc hN hi ok hvs (fun D it env => turn_lm rfl rfl) hg ht
    (fun s H C cl fp D => deeper_ok (Y := X.blk s H scope (compEnvC scope cl C X.env) fp) (c := clOf X.K G c1) (ow := []) (yes := fun it => addOut elt (.ListComp elt [⟨tg, iter, ifs, 0⟩, ⟨t1, i1, ifs1, 0⟩] scope pos) 1 it (.ref D) _) rfl hc (fun _ _ => rfl) (fun _ _ => rfl) (fun it R s h0 h => start_l rfl h0 h) (fun it => turn_ll rfl rfl) (hi1 s H C cl fp) (hg1 s H C cl fp) (ht1 s H C cl fp) (hs1 _) (yes_l rfl (he s H C cl fp)) (fun i h => nomatch h)) hvs1 hs).imp
    fun σ H Q h => re_lcN (fun m1 H1 D hD => bok_c hD (bok_l hD) hsl1) hsl h
end
end OF

namespace OF
open PySem PySem.Spec PyProof.Rows L2
variable {X : Cx} {G : Gx}
variable {e o tg iter : Expr} {es : List Expr} {ca cb : Cm U} {cl ck : Cm (List U)} {pos apos p : Pos}
/-! d.update(e): keys texts or ints -/
theorem mt_updateK : MtR X "dict.update" (fun x xs H Q => ∃ d b kvs more, x = .ref d ∧ xs = [.ref b] ∧ d ≠ b ∧ H d = some (.dK kvs) ∧ Rd H b (.dK more) ∧ kvs.length + more.length ≤ sizeLine ∧ Q .non (upd H d (.dK (mergeK kvs more)))) := by
  intro pins s σ H x xs v us Q I rx rs h
  obtain ⟨d, b, kvs, more, rfl, rfl, hne, hd, hb, hz, q⟩ := h
  cases rx
  obtain ⟨u, rfl, ru⟩ := rs.one
  cases ru
  obtain ⟨z1, hm1, vs, rel, dd⟩ := dk_of I.hok hd
  obtain ⟨z2, hm2, ws, rel2, dd2⟩ := hb.ok I.hok
  refine call_meetsIn F.slot_dict_update dd.typeIs F.entry_dict_update (F.args_dict_update_2 _ _) (meets_dict_update _ d b hne hm2) ⟨vs, ws, dd, dd2, by rw [← rel.length, ← rel2.length]; exact hz, fun h' dd' _ hs => ?_⟩
  have he : ∃ q, h'.get? d = some q := let ⟨q, _, _, hq, _⟩ := dd'; ⟨q, hq⟩
  have hl : (mergeK kvs more).length ≤ sizeLine := Nat.le_trans (length_mergeK more kvs) hz
  exact ⟨.non, _, d_write I (by rw [hd]; exact True.intro) hs he (dk_new hl hm1 (KV.merge rel2 rel) dd'), rfl, q⟩
def updU : U → OpN := fun u us S => match u, us with
  | .ref n, [w] => match S[n]? with
    | some (.dct kvs) => match dctU S w with
      | some more => match w with
        | .dct _ => if kvs.length + more.length ≤ sizeLine then some (.non, S.set n (.dct (mergeU kvs more))) else none
        | .ref k => if k ≠ n ∧ kvs.length + more.length ≤ sizeLine then some (.non, S.set n (.dct (mergeU kvs more))) else none
        | _ => none
      | none => none
    | _ => none
  | _, _ => none
theorem mu_update : MtU G X "dict.update" updU := MtR.imp mt_updateK fun x xs H Q ⟨m, S, u, us, z, S', st, r, rs, e, q⟩ => by
  unfold updU at e
  split at e
  · rename_i n w
    split at e
    · rename_i kvs hn
      split at e
      · rename_i more hw
        obtain ⟨a, rfl, ha⟩ := r.cellAt
        obtain ⟨a', ho, ha', hH, vs, rfl, rv⟩ := st.at hn
        rw [ha] at ha'; cases ha'
        obtain ⟨y, rfl, ry⟩ := rs.one1
        split at e
        · rename_i kk
          split at e
          · rename_i hz
            cases e
            cases hw
            have ry' := ry
            unfold RU at ry'
            obtain ⟨b, ws, rfl, hb, nb, nx, rw'⟩ := ry'
            refine ⟨a, b, vs, ws, rfl, rfl, ?_, hH, hb, by rw [rv.len, rw'.len]; exact hz, q.setc st ha ⟨_, rfl, mergeU_ok rw' rv⟩ rfl⟩
            intro z
            subst z
            exact nb (List.mem_of_getElem? ha)
          · cases e
        · rename_i k
          split at e
          · rename_i hz
            cases e
            obtain ⟨b, ws, ev, hb, rw'⟩ := dctU_ok st ry hw
            subst ev
            have ry' := ry
            unfold RU at ry'
            obtain ⟨b', eb, hb'⟩ := ry'
            cases eb
            refine ⟨a, b, vs, ws, rfl, rfl, ?_, hH, hb, by rw [rv.len, rw'.len]; exact hz.2, q.setc st ha ⟨_, rfl, mergeU_ok rw' rv⟩ rfl⟩
            intro z
            subst z
            have hnd := List.pairwise_iff_getElem.mp st.nd
            obtain ⟨h1, e1⟩ := List.getElem?_eq_some_iff.mp ha
            obtain ⟨h2, e2⟩ := List.getElem?_eq_some_iff.mp hb'
            rcases Nat.lt_trichotomy k n with hlt | heq | hlt
            · exact hnd k n h2 h1 hlt (e2.trans e1.symm)
            · exact hz.1 heq
            · exact hnd n k h1 h2 hlt (e1.trans e2.symm)
          · cases e
        · cases e
      · cases e
    · cases e
  · cases e
/-! dict(list of pairs) -/
def pairsU : List U → Option (List (Key × U))
  | [] => some []
  | .tup [k, v] :: r => match keyU k, pairsU r with
    | some k, some t => some ((k, v) :: t)
    | _, _ => none
  | _ => none
theorem pairsU_ok {m : Mp} {H : Hp} : ∀ {us : List U} {vs : List V} {kvs : List (Key × U)}, RUs X.K G m H us vs → pairsU us = some kvs → ∃ (ps : List Addr) (ws : List (Key × V)), vs = ps.map V.ref ∧ Paired (fun p kv => SqT X.K H p [kV kv.1, kv.2]) ps ws ∧ RKs X.K G m H kvs ws
  | [], vs, kvs, r, h => by
    cases h
    have := r.eqnil
    subst this
    exact ⟨[], [], rfl, .nil, RKs.nil⟩
  | u :: us, vs, kvs, r, h => by
    obtain ⟨v, t, rfl, rv, rt⟩ := r.uncons
    unfold pairsU at h
    split at h
    · rename_i h0
      cases h0
    · rename_i k0 v0 r0 e0
      cases e0
      split at h
      · rename_i k t' hk ht
        cases h
        obtain ⟨ps, ws, rfl, pp, rk⟩ := pairsU_ok rt ht
        obtain ⟨a, xs, rfl, hq, rx⟩ := rv.tupT
        obtain ⟨y1, y2, rfl, q1, q2⟩ := rx.two
        have := keyU_ok q1 hk
        subst this
        exact ⟨a :: ps, (k, y2) :: ws, rfl, .cons hq pp, RKs.cons q2 rk⟩
      · cases h
    · cases h
def dictU (mu : Bool) : Op1 := fun u S => match itmU S u with
  | some us => match pairsU us, u with
    | some kvs, .lst _ => if mu then some (.ref S.length, S ++ [.dct (mergeU [] kvs)]) else some (.dct (mergeU [] kvs), S)
    | some kvs, .ref _ => if mu then some (.ref S.length, S ++ [.dct (mergeU [] kvs)]) else some (.dct (mergeU [] kvs), S)
    | _, _ => none
  | none => none
theorem After.dct {K : PySem.W.Frag} {m : Mp} {H : Hp} {S : Sto} {us : List (Key × U)} {vs : List (Key × V)} {Q : VK} (q : After K G m H (.dct us) S Q) (st : Rst K G m H S) (r : RKs K G m H us vs) : ∀ p, H p = none → Q (.ref p) (L2.upd H p (.dK vs)) := fun p hp =>
  q m _ _ (Ext.upd hp) (st.new hp) (by unfold RU; exact ⟨p, vs, rfl, .inl upd_same, st.none_c hp, st.none_x hp, RKs.keep (keeps_upd hp) _ _ r⟩)
theorem cu_dict (mu : Bool) (hc : X.calm = true) : CallU G X (.type "dict") (on1 (dictU mu)) := CallR.imp (call_dictP hc) fun xs H Q ⟨m, S, us, z, S', st, r0, e0, q⟩ => by
  obtain ⟨u, rfl, e⟩ := on1_some e0
  obtain ⟨v, rfl, r⟩ := r0.one1
  unfold dictU at e
  split at e
  · rename_i ws hw
    have key : ∀ kvs, pairsU ws = some kvs → (∃ l, u = .lst l) ∨ (∃ n, u = .ref n) → (if mu then some (.ref S.length, S ++ [.dct (mergeU [] kvs)]) else some (.dct (mergeU [] kvs), S)) = some (z, S') → ∃ (a : Addr) (ps : List Addr) (kvs : List (Key × V)), [v] = [.ref a] ∧ SqL X.K H a (ps.map V.ref) ∧ Paired (fun p kv => SqT X.K H p [kV kv.1, kv.2]) ps kvs ∧ ∀ p, H p = none → Q (.ref p) (upd H p (.dK (mergeK [] kvs))) := by
      intro kvs hp hu e
      have hq : ∃ a vs, v = .ref a ∧ SqL X.K H a vs ∧ RUs X.K G m H ws vs := by
        rcases hu with ⟨l, rfl⟩ | ⟨n, rfl⟩
        · cases hw
          exact r.lstL
        · obtain ⟨a, vs, rfl, hq, rv⟩ := lstU_ok st (us := ws) r (by
            unfold itmU at hw
            unfold lstU
            exact hw)
          exact ⟨a, vs, rfl, .inl hq, rv⟩
      obtain ⟨a, vs, rfl, hq, rv⟩ := hq
      obtain ⟨ps, kw, rfl, pp, rk⟩ := pairsU_ok rv hp
      refine ⟨a, ps, kw, rfl, hq, pp, ?_⟩
      have rm := mergeU_ok rk (RKs.nil (K := X.K) (G := G) (m := m) (H := H))
      split at e
      · cases e
        exact After.cell (o := .dct (mergeU [] kvs)) q st ⟨_, rfl, rm⟩
      · cases e
        exact q.dct st rm
    split at e
    · rename_i kvs l hp
      exact key kvs hp (.inl ⟨_, rfl⟩) e
    · rename_i kvs l hp
      exact key kvs hp (.inr ⟨_, rfl⟩) e
    · cases e
  · cases e
end OF

namespace OF
open PySem PySem.Spec PyProof.Rows L2
variable {X : Cx} {G : Gx}
/-! arguments by names, in any order -/
def pickL {α : Type} (ix : List Nat) (l : List α) : List α := ix.filterMap fun i => l[i]?
theorem vals_at : ∀ {vs : List V} {us : List Value} (i : Nat), Vals vs us → (vs[i]? = none ∧ us[i]? = none) ∨ ∃ v u, vs[i]? = some v ∧ us[i]? = some u ∧ RelV v u
  | [], _, i, .nil => .inl ⟨rfl, rfl⟩
  | v :: vs, u :: us, 0, .cons r t => .inr ⟨v, u, rfl, rfl, r⟩
  | v :: vs, u :: us, i + 1, .cons r t => by
    rcases vals_at i t with ⟨h1, h2⟩ | ⟨a, b, h1, h2, h3⟩
    · exact .inl ⟨by simpa using h1, by simpa using h2⟩
    · exact .inr ⟨a, b, by simpa using h1, by simpa using h2, h3⟩
theorem vals_pick {vs : List V} {us : List Value} (r : Vals vs us) : ∀ ix : List Nat, Vals (pickL ix vs) (pickL ix us)
  | [] => .nil
  | i :: ix => by
    have ih := vals_pick r ix
    unfold pickL at ih ⊢
    rcases vals_at i r with ⟨h1, h2⟩ | ⟨a, b, h1, h2, h3⟩
    · simp only [List.filterMap_cons, h1, h2]; exact ih
    · simp only [List.filterMap_cons, h1, h2]; exact .cons h3 ih
theorem RUs.pick {K : PySem.W.Frag} {m : Mp} {H : Hp} {us : List U} {vs : List V} (r : RUs K G m H us vs) : ∀ ix : List Nat, RUs K G m H (pickL ix us) (pickL ix vs)
  | [] => RUs.nil
  | i :: ix => by
    have ih := RUs.pick r ix
    unfold pickL at ih ⊢
    cases hu : us[i]? with
    | none =>
      have hv : vs[i]? = none := by
        rw [List.getElem?_eq_none_iff] at hu ⊢
        rw [r.length]; exact hu
      simp only [List.filterMap_cons, hu, hv]; exact ih
    | some u =>
      obtain ⟨v, hv, q⟩ := r.get hu
      simp only [List.filterMap_cons, hu, hv]; exact RUs.cons q ih
section
variable {k n : Nat} {f : Addr} {fd : FuncData} {ps ks : List Str} {sp : Sp} {x : Str} {p pos : Pos} {kws : List Keyword} {tk : TA} {g : List Value → List Value → List Value} {gV : List V → List V → List V} {F : OpN} {ck : Cm (List U)}
theorem pe_callN0 (Fo : FnOk X.prog X.w X.K X.mg X.base CX0 k f fd ps sp) (hr : Room k X.A) (hg : Gl X x) (hm : X.mg x = some (.ref f)) (hk : PySem.W.keepIn X.K (.ref f) = true) (hb : KBn X.K fd ps 0 ks g gV) (hkw : PK X kws tk)
    (hall : (backToKw pos (keywordEach kws X.env)).all (·.1.isSome) = true := by rfl) (hks : (backToKw pos (keywordEach kws X.env)).filterMap (·.1) = ks := by rfl) (hdb : (x == ("__debug__" : Str)) = false := by decide)
    (hpl : ((backTo pos (starEach [] X.env)).any (·.1) || (backToKw pos (keywordEach kws X.env)).any (·.1.isNone)) = false := by rfl) : PE X (.Call (.Name x p) [] kws pos) (fun σ H Q => tk σ H fun zs H2 => zs.length = ks.length ∧ sp (gV [] zs) H2 Q E0) := by
  refine ⟨fun pins s σ H Q I h => ?_⟩
  refine wpAny_Call_Name_kw (ld_glob I hg hm ?_ hdb)
  refine PySem.W.callWith_KW0 (h₀ := X.base) I.ok.mod.kin hk hall ?_ hpl
  refine thn (hkw.run pos pins s σ H _ I h) fun ws s2 ⟨zs, H2, I2, rz, l2, q2⟩ => ⟨I2.kIn, ?_⟩
  rw [hks]
  exact run_fnN (us := []) (vs := []) Fo hr hb pass0 I2 .nil rz rfl l2 q2
theorem ee_callN0 (gU : List U → List U → List U) (h : FnOk X.prog X.w X.K X.mg X.base CX0 k f fd ps (spU X.K G F)) (hr : Room k X.A) (hg : Gl X x) (hm : X.mg x = some (.ref f)) (hk : PySem.W.keepIn X.K (.ref f) = true) (hb : KBn X.K fd ps 0 ks g gV)
    (hu : ∀ m H us vs ws zs, us.length = 0 → ws.length = ks.length → RUs X.K G m H us vs → RUs X.K G m H ws zs → RUs X.K G m H (gU us ws) (gV vs zs)) (hkw : EK G X kws ck)
    (hall : (backToKw pos (keywordEach kws X.env)).all (·.1.isSome) = true := by rfl) (hks : (backToKw pos (keywordEach kws X.env)).filterMap (·.1) = ks := by rfl) (hdb : (x == ("__debug__" : Str)) = false := by decide)
    (hpl : ((backTo pos (starEach [] X.env)).any (·.1) || (backToKw pos (keywordEach kws X.env)).any (·.1.isNone)) = false := by rfl) :
    EE G X (.Call (.Name x p) [] kws pos) (cArg2 (fun us ws S => if us.length = 0 ∧ ws.length = ks.length then F (gU us ws) S else none) cNil ck) := by
  refine (pe_callN0 h hr hg hm hk hb hkw hall hks hdb hpl).imp fun σ H Q h => ?_
  obtain ⟨m, S, env, z, S', st, re, hc, q⟩ := h
  obtain ⟨us, S1, ws, S2, e1, e2, e3⟩ := cArg2_some hc
  cases e1
  split at e3
  · rename_i hl
    refine ⟨m, S, env, ws, S2, st, re, e2, fun m2 H2 zs x2 st2 r2 => ?_⟩
    exact ⟨by rw [r2.length]; exact hl.2, m2, S2, gU [] ws, z, S', st2, hu m2 H2 [] [] ws zs rfl hl.2 RUs.nil r2, e3, q.mono x2⟩
  · cases e3
end
/-- a def without defaults -/
theorem fun_kb {K : PySem.W.Frag} {x qual : Str} {st : Stmt} {f : Addr} {fd : FuncData} {ps : List Str} (F : Fun K x qual st f fd) (n : Nat) (ks : List Str) (ix : List Nat)
    (h : ∀ (kV doc pm : Value) (an : Option Addr) (cdv ct : Value) (us ws : List Value), us.length = n → ws.length = ks.length → bindArgs (PySem.W.fnOf x qual (defArgs st) (defBody st) (defScope st) .none kV doc pm an cdv ct) ⟨us, ks.zip ws⟩ = pure (ps.zip (us ++ pickL ix ws))) :
    KBn K fd ps n ks (fun us ws => us ++ pickL ix ws) (fun vs zs => vs ++ pickL ix zs) := by
  obtain ⟨oc, od, kV, doc, pm, an, cdv, ct, osl, rfl, lk, hcd⟩ := F.ex
  exact ⟨fun s us ws _ h1 h2 => .of_eq (h kV doc pm an cdv ct us ws h1 h2), fun r1 r2 => r1.append (vals_pick r2 ix)⟩
/-! powers of great numbers -/
def powJ (i j : Int) : Option U := if 0 ≤ j ∧ (Builtin.Int.intBits i : Int) * j ≤ 2 ^ 27 then some (.int (i ^ j.toNat)) else none
theorem ou_powJ : OpU G X (binaryOp .Pow) (o2I powJ) := by
  intro pins s σ H x y v u Q I rx ry ⟨m, S, u1, u2, z, S', st, r1, r2, e, q⟩
  obtain ⟨i, j, w, rfl, rfl, e', er⟩ := o2I_some e
  cases er
  unfold powJ at e'
  split at e'
  · rename_i h
    cases e'
    cases r1
    cases r2
    obtain ⟨t1, rfl⟩ := rx
    obtain ⟨t2, rfl⟩ := ry
    exact PyProof.Rows.pow_int h.1 h.2 ⟨.int _, H, I.tok _, ⟨_, rfl⟩, q.here st rfl⟩
  · cases e'
end OF

namespace OF
open PySem PySem.Spec PyProof.Rows L2
/-! sorted -/
def leS (a b : Str) : Bool := !ltCps b.cps.toList a.cps.toList
def sortS (ks : List Str) : List Str := ks.mergeSort leS
def leZ (a b : Int) : Bool := decide (a ≤ b)
def sortZ (ks : List Int) : List Int := ks.mergeSort leZ
theorem leS_iff (a b : Str) : leS a b = true ↔ a.cps.toList ≤ b.cps.toList := by
  unfold leS
  rw [PyProof.Rows.ltCps_eq]
  simp
theorem leS_trans (a b c : Str) (h1 : leS a b = true) (h2 : leS b c = true) : leS a c = true := by
  rw [leS_iff] at *
  exact List.le_trans h1 h2
theorem leS_total (a b : Str) : (leS a b || leS b a) = true := by
  rw [Bool.or_eq_true, leS_iff, leS_iff]
  exact List.le_total _ _
theorem leS_anti (a b : Str) (h1 : leS a b = true) (h2 : leS b a = true) : a = b := by
  rw [leS_iff] at *
  have := List.le_antisymm h1 h2
  cases a; cases b
  simp only at this
  congr 1
  exact Array.toList_inj.mp this
theorem rising_pw : ∀ (p : Str) (l : List Str), risingS p l = true → (p :: l).Pairwise (fun a b => leS a b = true)
  | p, [], _ => by simp
  | p, x :: r, h => by
    have h' : (!ltCps x.cps.toList p.cps.toList && risingS x r) = true := h
    rw [Bool.and_eq_true] at h'
    have ih := rising_pw x r h'.2
    refine List.pairwise_cons.mpr ⟨?_, ih⟩
    intro y hy
    rcases List.mem_cons.mp hy with rfl | hy
    · exact h'.1
    · exact leS_trans p x y h'.1 ((List.pairwise_cons.mp ih).1 y hy)
theorem sortS_uniq {ys ks : List Str} (hp : ys.Perm ks) (hs : sortedS ys = true) : ys = sortS ks := by
  have h1 : ys.Pairwise (fun a b => leS a b = true) := by
    cases ys with
    | nil => exact List.Pairwise.nil
    | cons x r => exact rising_pw x r hs
  have h2 : (sortS ks).Pairwise (fun a b => leS a b = true) := List.pairwise_mergeSort leS_trans leS_total ks
  exact List.Perm.eq_of_pairwise (le := fun a b => leS a b = true) (fun a b _ _ => leS_anti a b) h1 h2 (hp.trans (List.mergeSort_perm ks leS).symm)
theorem sortZ_uniq {ys ks : List Int} (hp : ys.Perm ks) (hs : ys.Pairwise (· ≤ ·)) : ys = sortZ ks := by
  have h1 : ys.Pairwise (fun a b => leZ a b = true) := hs.imp fun h => decide_eq_true h
  have h2 : (sortZ ks).Pairwise (fun a b => leZ a b = true) := List.pairwise_mergeSort (fun a b c h1 h2 => by simp [leZ] at *; omega) (fun a b => by simp [leZ]; omega) ks
  exact List.Perm.eq_of_pairwise (le := fun a b => leZ a b = true) (fun a b _ _ h1 h2 => by simp [leZ] at *; omega) h1 h2 (hp.trans (List.mergeSort_perm ks leZ).symm)
def strsV : List U → Option (List Str)
  | [] => some []
  | .str x :: r => (strsV r).map (x :: ·)
  | _ => none
def intsU : List U → Option (List Int)
  | [] => some []
  | .int x :: r => (intsU r).map (x :: ·)
  | _ => none
def strsK : List (Key × U) → Option (List Str)
  | [] => some []
  | (.inr x, _) :: r => (strsK r).map (x :: ·)
  | _ => none
theorem strsV_eq : ∀ {us : List U} {ks : List Str}, strsV us = some ks → us = ks.map .str
  | [], ks, h => by cases h; rfl
  | u :: us, ks, h => by
    cases u <;> simp only [strsV] at h <;> try (cases h; done)
    obtain ⟨t, e, rfl⟩ := Option.map_eq_some_iff.mp h
    rw [strsV_eq e]; rfl
theorem intsU_eq : ∀ {us : List U} {ks : List Int}, intsU us = some ks → us = ks.map .int
  | [], ks, h => by cases h; rfl
  | u :: us, ks, h => by
    cases u <;> simp only [intsU] at h <;> try (cases h; done)
    obtain ⟨t, e, rfl⟩ := Option.map_eq_some_iff.mp h
    rw [intsU_eq e]; rfl
theorem strsK_eq : ∀ {us : List (Key × U)} {ks : List Str}, strsK us = some ks → us.map (·.1) = ks.map Sum.inr
  | [], ks, h => by cases h; rfl
  | (k, u) :: us, ks, h => by
    cases k <;> simp only [strsK] at h <;> try (cases h; done)
    obtain ⟨t, e, rfl⟩ := Option.map_eq_some_iff.mp h
    rw [List.map_cons, strsK_eq e]; rfl
variable {G : Gx} {X : Cx}
theorem RUs.ofStrs {K : PySem.W.Frag} {m : Mp} {H : Hp} : ∀ {ks : List Str}, RUs K G m H (ks.map .str) (ks.map V.str)
  | [] => RUs.nil
  | k :: ks => RUs.cons rfl RUs.ofStrs
theorem RUs.ofInts {K : PySem.W.Frag} {m : Mp} {H : Hp} : ∀ {ks : List Int}, RUs K G m H (ks.map .int) (ks.map V.int)
  | [] => RUs.nil
  | k :: ks => RUs.cons rfl RUs.ofInts
theorem RUs.toStrs {K : PySem.W.Frag} {m : Mp} {H : Hp} : ∀ {ks : List Str} {vs : List V}, RUs K G m H (ks.map .str) vs → vs = ks.map V.str
  | [], vs, r => r.eqnil
  | k :: ks, vs, r => by
    obtain ⟨v, t, rfl, rv, rt⟩ := r.uncons
    cases rv
    rw [RUs.toStrs rt]; rfl
theorem RUs.toInts {K : PySem.W.Frag} {m : Mp} {H : Hp} : ∀ {ks : List Int} {vs : List V}, RUs K G m H (ks.map .int) vs → vs = ks.map V.int
  | [], vs, r => r.eqnil
  | k :: ks, vs, r => by
    obtain ⟨v, t, rfl, rv, rt⟩ := r.uncons
    cases rv
    rw [RUs.toInts rt]; rfl
theorem RKs.keys {K : PySem.W.Frag} {m : Mp} {H : Hp} : ∀ {us : List (Key × U)} {vs : List (Key × V)}, RKs K G m H us vs → vs.map (·.1) = us.map (·.1)
  | [], vs, r => by rw [r.eqnil]; rfl
  | (k, u) :: us, vs, r => by
    obtain ⟨v, t, rfl, q, tl⟩ := r.uncons
    rw [List.map_cons, List.map_cons, RKs.keys tl]
def outU (mu : Bool) (us : List U) (S : Sto) : Option (U × Sto) := if mu then some (.ref S.length, S ++ [.lst us]) else some (.lst us, S)
def sortedU (mu : Bool) : Op1 := fun u S => match dctU S u with
  | some kvs => match strsK kvs with
    | some ks => if ks.length < 64 then outU mu ((sortS ks).map .str) S else none
    | none => none
  | none => match lstU S u with
    | some us => match strsV us with
      | some ks => if ks.length < 64 then outU mu ((sortS ks).map .str) S else none
      | none => match intsU us with
        | some ks => if ks.length < 64 then outU mu ((sortZ ks).map .int) S else none
        | none => none
    | none => none
theorem outU_ok {mu : Bool} {K : PySem.W.Frag} {m : Mp} {H : Hp} {S S' : Sto} {us : List U} {vs : List V} {z : U} {Q : VK} (e : outU mu us S = some (z, S')) (st : Rst K G m H S) (r : RUs K G m H us vs) (q : After K G m H z S' Q) : ∀ p, H p = none → Q (.ref p) (L2.upd H p (.lst vs)) := by
  unfold outU at e
  split at e
  · cases e
    exact After.cell (o := .lst us) q st ⟨_, rfl, r⟩
  · cases e
    exact q.lst st r
theorem cu_sorted (mu : Bool) (hc : X.calm = true) : CallU G X (.builtin "sorted") (on1 (sortedU mu)) := by
  intro pins s σ H xs us0 Q I r1 ⟨m, S, us, z, S', st, r0, e0, q⟩
  obtain ⟨u, rfl, e⟩ := on1_some e0
  obtain ⟨v, rfl, r⟩ := r0.one1
  unfold sortedU at e
  split at e
  · rename_i kvs hd
    split at e
    · rename_i ks hk
      split at e
      · rename_i h64
        obtain ⟨a, vs, rfl, hr, rk⟩ := dctU_ok st r hd
        refine call_sortedD hc pins s σ H _ us0 Q I r1 ⟨a, vs, ks, rfl, hr, rk.keys.trans (strsK_eq hk), h64, fun ys p hp hs hn => ?_⟩
        rw [sortS_uniq hp hs]
        exact outU_ok e st RUs.ofStrs q p hn
      · cases e
    · cases e
  · split at e
    · rename_i ws hl
      obtain ⟨a, vs, rfl, hr, rv⟩ := lstU_ok st r hl
      split at e
      · rename_i ks hk
        split at e
        · rename_i h64
          have := strsV_eq hk
          subst this
          have := rv.toStrs
          subst this
          refine cr_sortedS pins s σ H _ us0 Q I r1 ⟨a, ks, rfl, .inl hr, h64, fun ys p hp hs hn => ?_⟩
          rw [sortS_uniq hp hs]
          exact outU_ok e st RUs.ofStrs q p hn
        · cases e
      · split at e
        · rename_i ks hk
          split at e
          · rename_i h64
            have := intsU_eq hk
            subst this
            have := rv.toInts
            subst this
            refine cr_sorted pins s σ H _ us0 Q I r1 ⟨a, ks, rfl, .inl hr, h64, fun ys p hp hs hn => ?_⟩
            rw [sortZ_uniq hp hs]
            exact outU_ok e st RUs.ofInts q p hn
          · cases e
        · cases e
    · cases e
end OF

namespace OF
open PySem PySem.Spec PyProof.Rows L2
/-! name = {.. for .. for ..} on one line: the new thing is stored ahead of letting go of the block -/
section
variable {X : Cx}
theorem dcN_core {kx vx tg iter : Expr} {ifs : List Expr} {rest : List Comprehension} {scope : Scope} {own : List (Str × Nat)} {pos : Pos} {c : Cl} {em : Addr → Em} {yes : Addr → Env → Value → Sem Fin} {ow : List Nat} (hc : X.calm = true) (hN : X.N.Nodup) (hi : PI X tg iter c.wi) (ok : BlkOk X.N X.env.scope scope own) (hvs : c.vs = own.map (·.2))
    (hT : ∀ (D : Addr) (it : Value) (env : Env), compTurn (.DictComp kx vx (⟨tg, iter, ifs, 0⟩ :: rest) scope pos) 0 it (.ref D) env = turnG (.DictComp kx vx (⟨tg, iter, ifs, 0⟩ :: rest) scope pos) tg iter ifs 0 it (.ref D) env (yes D env it))
    (hg : ∀ (s : Shared) (H : Hp) (C : Addr) (cl : List (Str × Addr)) (fp : List Addr), PG (X.blk s H scope (compEnvC scope cl C X.env) fp) tg c.g) (ht : ∀ (s : Shared) (H : Hp) (C : Addr) (cl : List (Str × Addr)) (fp : List Addr), PTs (X.blk s H scope (compEnvC scope cl C X.env) fp) ifs c.tt)
    (hy : ∀ (s : Shared) (H : Hp) (C : Addr) (cl : List (Str × Addr)) (fp : List Addr) (D : Addr), YesOk (X.blk s H scope (compEnvC scope cl C X.env) fp) (.DictComp kx vx (⟨tg, iter, ifs, 0⟩ :: rest) scope pos) (.ref D) ow 0 (yes D (compEnvC scope cl C X.env)) (em D)) (hv : ∀ i ∈ ow, i ∈ c.vs)
    (hs : ∀ x, foldedSetIterable iter X.env x = pure x) {use : Option (Value → Sem Unit)} {Qf : Value → Shared → Prop} {pins : List (Addr × Obj)} {s : Shared} {σ : L2.St} {H : Hp} {Q : VK} (I : Inv X pins σ H s) (h : tDcN c em σ H Q)
    (hRR : ∀ D C s' m H' f, Inv X pins σ H' s' → Q (.ref D) H' → s'.heap.Ns C m → FpOk X pins H' C → compPost (model X.prog X.w) X.A X.xe use Qf (.ref D) C (.ok f) s') :
    wpAny (model X.prog X.w) X.A (comprehension (.DictComp kx vx (⟨tg, iter, ifs, 0⟩ :: rest) scope pos) scope X.env (firstIterPos (⟨tg, iter, ifs, 0⟩ :: rest) pos) newDict false (eval iter X.env) use) Qf X.xe s := by
  have free : ∀ y ∈ scope.names, y.2 = .free → ∃ z, X.env.cells.lookup y.1 = some z := fun y hm hf => by
    rcases ok.free y hm hf with z | z
    · exact I.ok.has _ (.inl z)
    · exact I.ok.has _ (.inr z)
  refine wpAny_comprehension_free rfl hs (closure_ok free) ok.kind (fun y hm hf => by rw [ok.uniq y hm, hf]) (thn (hi.run pins s σ H _ I h) fun xv sa ha => thn ha fun iv sb hb => ?_)
  obtain ⟨ia, fp, tn, J, Hb, ei, Ib, T, stb, fb, q⟩ := hb
  subst ei
  refine wpAny_newObj_type (newEnv_comp ?_)
  generalize eD : sb.heap.objs.size = D
  have nD : Hb D = none := Ib.hok.fresh (Nat.le_of_eq eD)
  have tq := q D nD
  generalize esc : ({ sb with heap := sb.heap.push { cls := .type "dict", data := .dict #[] } } : Shared) = sc
  have hp : sc.heap = sb.heap.push { cls := .type "dict", data := .dict #[] } := by rw [← esc]
  have Ic : Inv X pins σ (upd Hb D (.dK [])) sc := by
    rw [← esc]
    refine Ib.laid (t' := sb.toks) (fun b o eo => Heap.get?_push_of_some _ eo) (Nat.le_of_eq eD) ?_
    rw [← eD]
    exact dk_empty sb.heap Ib.big
  have small : ∀ b ∈ fp, b < sb.heap.objs.size := fun b hm => by
    obtain ⟨oo, eo, _⟩ := T.obj _ _ stb b hm
    exact Heap.lt_size eo
  have fc : ∀ b ∈ fp, FpOk X pins (upd Hb D (.dK [])) b ∧ b < sc.heap.objs.size := fun b hm => by
    have lt := small b hm
    refine ⟨⟨?_, (fb b hm).2⟩, by rw [hp, Heap.size_push]; exact Nat.lt_succ_of_lt lt⟩
    rw [upd_ne (by rw [← eD]; exact Nat.ne_of_lt lt)]
    exact (fb b hm).1
  have stc : tn 0 sc.heap := T.keep _ _ _ stb fun b _ o eo => by rw [hp]; exact Heap.get?_push_of_some _ eo
  have Id := block_start Ic ok hN fc
  generalize eH : upd Hb D (.dK []) = Hc at Ic Id fc tq
  have pg := hg sc Hc sc.heap.objs.size (cellsFrom (sc.heap.objs.size + 1) scope.names (cloFrom X.env.cells scope.names [])) fp
  have pt := ht sc Hc sc.heap.objs.size (cellsFrom (sc.heap.objs.size + 1) scope.names (cloFrom X.env.cells scope.names [])) fp
  have py := hy sc Hc sc.heap.objs.size (cellsFrom (sc.heap.objs.size + 1) scope.names (cloFrom X.env.cells scope.names [])) fp D
  generalize ece : compEnvC scope (cellsFrom (sc.heap.objs.size + 1) scope.names (cloFrom X.env.cells scope.names [])) sc.heap.objs.size X.env = ce at Id pg pt py
  have cl : ce.locals = sc.heap.objs.size := by subst ece; rfl
  generalize esd : ({ sc with heap := pushCells (sc.heap.push { cls := .type "dict", data := .dict #[] }) scope.names } : Shared) = sd at Id
  have std : tn 0 sd.heap := T.keep _ _ _ stc fun b _ o eo => by rw [← esd]; exact pushCells_keeps _ _ _ _ (Heap.get?_push_of_some _ eo)
  have nfp : ∀ b ∈ fp, Hc b = none := fun b hm => (fc b hm).1.1
  have fd : ∀ b ∈ fp, FpOk (X.blk sc Hc scope ce fp) [] Hc b := fun b hm => ⟨nfp b hm, (Id.ok.exf b hm).1, Id.ok.exfs b hm, .inl hm, fun x z e => (Id.ok.exf b hm).2 x z e, fun p hq => absurd (show p ∈ ([] : List (Addr × Obj)) ++ [] from hq) (by simp)⟩
  have Id' : Inv (X.blk sc Hc scope ce fp) [] (wipe σ c.vs) Hc sd := by rw [hvs]; exact Id
  have tq' : tCl J c (wipe σ c.vs) Hc (fun H9 => Q (.ref D) H9) (em D) := by
    have ww : wipe (wipe σ c.vs) c.vs = wipe σ c.vs := wipe_wipe
    unfold tCl at tq ⊢
    rw [ww]
    exact tq
  have lp := clause_loop (Y := X.blk sc Hc scope ce fp) (C := .DictComp kx vx (⟨tg, iter, ifs, 0⟩ :: rest) scope pos) (acc := .ref D) (ow := ow) (k := 0) (c := c) (yes := yes D ce) (Nx := fun H9 => Q (.ref D) H9) rfl hc (fun _ _ => rfl) (fun _ _ => rfl) (hT D (.ref ia) ce) pg pt py hv Id' T std fd tq'
  have fin : ∀ r s', (match r with
      | .ok _ => Aft (X.blk sc Hc scope ce fp) c.vs [] (wipe σ c.vs) (fun H9 => Q (.ref D) H9) s'
      | .error _ => False : Prop) → compPost (model X.prog X.w) X.A X.xe use Qf (.ref D) sc.heap.objs.size r s' := by
    intro r s' hr
    cases r with
    | error x => exact hr.elim
    | ok f =>
      obtain ⟨σ9, H9, I9, hl, hk, q9⟩ := hr
      have Ie : Inv X pins σ H9 s' := Ic.call' (ch := fp) I9.os I9.base I9.hok I9.bare fun b hm => ⟨(fc b hm).1.2.2.2.1, (fc b hm).1.2.1, (fc b hm).1.2.2.2.2.1, (fc b hm).1.2.2.2.2.2⟩
      have nC : H9 sc.heap.objs.size = none := by
        have zz : H9 ce.locals = none := I9.free
        rw [cl] at zz
        exact zz
      obtain ⟨mm, hn, _⟩ := I9.loc
      have hn' : s'.heap.Ns ce.locals mm := hn
      rw [cl] at hn'
      exact hRR D _ s' mm H9 f Ie q9 hn' (Ic.fpOk (b := sc.heap.objs.size) (Nat.le_refl _) nC)
  have all := codeAny_mono lp fin
  have done := start_d (k := 0) (t := tg) (i := iter) (ifs := ifs) rfl all (T.self X.A 0 _ _ _ std all)
  subst ece
  subst esd
  subst eH
  subst esc
  subst eD
  exact done
theorem lcN_core {elt tg iter : Expr} {ifs : List Expr} {rest : List Comprehension} {scope : Scope} {own : List (Str × Nat)} {pos : Pos} {c : Cl} {em : Addr → Em} {yes : Addr → Env → Value → Sem Fin} {ow : List Nat} (hc : X.calm = true) (hN : X.N.Nodup) (hi : PI X tg iter c.wi) (ok : BlkOk X.N X.env.scope scope own) (hvs : c.vs = own.map (·.2))
    (hT : ∀ (D : Addr) (it : Value) (env : Env), compTurn (.ListComp elt (⟨tg, iter, ifs, 0⟩ :: rest) scope pos) 0 it (.ref D) env = turnG (.ListComp elt (⟨tg, iter, ifs, 0⟩ :: rest) scope pos) tg iter ifs 0 it (.ref D) env (yes D env it))
    (hg : ∀ (s : Shared) (H : Hp) (C : Addr) (cl : List (Str × Addr)) (fp : List Addr), PG (X.blk s H scope (compEnvC scope cl C X.env) fp) tg c.g) (ht : ∀ (s : Shared) (H : Hp) (C : Addr) (cl : List (Str × Addr)) (fp : List Addr), PTs (X.blk s H scope (compEnvC scope cl C X.env) fp) ifs c.tt)
    (hy : ∀ (s : Shared) (H : Hp) (C : Addr) (cl : List (Str × Addr)) (fp : List Addr) (D : Addr), YesOk (X.blk s H scope (compEnvC scope cl C X.env) fp) (.ListComp elt (⟨tg, iter, ifs, 0⟩ :: rest) scope pos) (.ref D) ow 0 (yes D (compEnvC scope cl C X.env)) (em D)) (hv : ∀ i ∈ ow, i ∈ c.vs)
    (hs : ∀ x, foldedSetIterable iter X.env x = pure x) {use : Option (Value → Sem Unit)} {Qf : Value → Shared → Prop} {pins : List (Addr × Obj)} {s : Shared} {σ : L2.St} {H : Hp} {Q : VK} (I : Inv X pins σ H s) (h : tLcN c em σ H Q)
    (hRR : ∀ D C s' m H' f, Inv X pins σ H' s' → Q (.ref D) H' → s'.heap.Ns C m → FpOk X pins H' C → compPost (model X.prog X.w) X.A X.xe use Qf (.ref D) C (.ok f) s') :
    wpAny (model X.prog X.w) X.A (comprehension (.ListComp elt (⟨tg, iter, ifs, 0⟩ :: rest) scope pos) scope X.env (firstIterPos (⟨tg, iter, ifs, 0⟩ :: rest) pos) (newList []) false (eval iter X.env) use) Qf X.xe s := by
  have free : ∀ y ∈ scope.names, y.2 = .free → ∃ z, X.env.cells.lookup y.1 = some z := fun y hm hf => by
    rcases ok.free y hm hf with z | z
    · exact I.ok.has _ (.inl z)
    · exact I.ok.has _ (.inr z)
  refine wpAny_comprehension_free rfl hs (closure_ok free) ok.kind (fun y hm hf => by rw [ok.uniq y hm, hf]) (thn (hi.run pins s σ H _ I h) fun xv sa ha => thn ha fun iv sb hb => ?_)
  obtain ⟨ia, fp, tn, J, Hb, ei, Ib, T, stb, fb, q⟩ := hb
  subst ei
  refine wpAny_newObj_type (newEnv_comp ?_) (by show 0 ≤ sizeLine; decide)
  generalize eD : sb.heap.objs.size = D
  have nD : Hb D = none := Ib.hok.fresh (Nat.le_of_eq eD)
  have tq := q D nD
  generalize esc : ({ sb with heap := sb.heap.push { cls := .type "list", data := .seq ([] : List Value).toArray } } : Shared) = sc
  have hp : sc.heap = sb.heap.push { cls := .type "list", data := .seq ([] : List Value).toArray } := by rw [← esc]
  have Ic : Inv X pins σ (upd Hb D (.lst [])) sc := by
    rw [← esc]
    refine Ib.laid (t' := sb.toks) (fun b o eo => Heap.get?_push_of_some _ eo) (Nat.le_of_eq eD) ⟨Nat.zero_le _, [], 0, .nil, ?_⟩
    rw [← eD]
    exact Heap.get?_push_size _ rfl
  have small : ∀ b ∈ fp, b < sb.heap.objs.size := fun b hm => by
    obtain ⟨oo, eo, _⟩ := T.obj _ _ stb b hm
    exact Heap.lt_size eo
  have fc : ∀ b ∈ fp, FpOk X pins (upd Hb D (.lst [])) b ∧ b < sc.heap.objs.size := fun b hm => by
    have lt := small b hm
    refine ⟨⟨?_, (fb b hm).2⟩, by rw [hp, Heap.size_push]; exact Nat.lt_succ_of_lt lt⟩
    rw [upd_ne (by rw [← eD]; exact Nat.ne_of_lt lt)]
    exact (fb b hm).1
  have stc : tn 0 sc.heap := T.keep _ _ _ stb fun b _ o eo => by rw [hp]; exact Heap.get?_push_of_some _ eo
  have Id := block_start Ic ok hN fc
  generalize eH : upd Hb D (.lst []) = Hc at Ic Id fc tq
  have pg := hg sc Hc sc.heap.objs.size (cellsFrom (sc.heap.objs.size + 1) scope.names (cloFrom X.env.cells scope.names [])) fp
  have pt := ht sc Hc sc.heap.objs.size (cellsFrom (sc.heap.objs.size + 1) scope.names (cloFrom X.env.cells scope.names [])) fp
  have py := hy sc Hc sc.heap.objs.size (cellsFrom (sc.heap.objs.size + 1) scope.names (cloFrom X.env.cells scope.names [])) fp D
  generalize ece : compEnvC scope (cellsFrom (sc.heap.objs.size + 1) scope.names (cloFrom X.env.cells scope.names [])) sc.heap.objs.size X.env = ce at Id pg pt py
  have cl : ce.locals = sc.heap.objs.size := by subst ece; rfl
  generalize esd : ({ sc with heap := pushCells (sc.heap.push { cls := .type "dict", data := .dict #[] }) scope.names } : Shared) = sd at Id
  have std : tn 0 sd.heap := T.keep _ _ _ stc fun b _ o eo => by rw [← esd]; exact pushCells_keeps _ _ _ _ (Heap.get?_push_of_some _ eo)
  have nfp : ∀ b ∈ fp, Hc b = none := fun b hm => (fc b hm).1.1
  have fd : ∀ b ∈ fp, FpOk (X.blk sc Hc scope ce fp) [] Hc b := fun b hm => ⟨nfp b hm, (Id.ok.exf b hm).1, Id.ok.exfs b hm, .inl hm, fun x z e => (Id.ok.exf b hm).2 x z e, fun p hq => absurd (show p ∈ ([] : List (Addr × Obj)) ++ [] from hq) (by simp)⟩
  have Id' : Inv (X.blk sc Hc scope ce fp) [] (wipe σ c.vs) Hc sd := by rw [hvs]; exact Id
  have tq' : tCl J c (wipe σ c.vs) Hc (fun H9 => Q (.ref D) H9) (em D) := by
    have ww : wipe (wipe σ c.vs) c.vs = wipe σ c.vs := wipe_wipe
    unfold tCl at tq ⊢
    rw [ww]
    exact tq
  have lp := clause_loop (Y := X.blk sc Hc scope ce fp) (C := .ListComp elt (⟨tg, iter, ifs, 0⟩ :: rest) scope pos) (acc := .ref D) (ow := ow) (k := 0) (c := c) (yes := yes D ce) (Nx := fun H9 => Q (.ref D) H9) rfl hc (fun _ _ => rfl) (fun _ _ => rfl) (hT D (.ref ia) ce) pg pt py hv Id' T std fd tq'
  have fin : ∀ r s', (match r with
      | .ok _ => Aft (X.blk sc Hc scope ce fp) c.vs [] (wipe σ c.vs) (fun H9 => Q (.ref D) H9) s'
      | .error _ => False : Prop) → compPost (model X.prog X.w) X.A X.xe use Qf (.ref D) sc.heap.objs.size r s' := by
    intro r s' hr
    cases r with
    | error x => exact hr.elim
    | ok f =>
      obtain ⟨σ9, H9, I9, hl, hk, q9⟩ := hr
      have Ie : Inv X pins σ H9 s' := Ic.call' (ch := fp) I9.os I9.base I9.hok I9.bare fun b hm => ⟨(fc b hm).1.2.2.2.1, (fc b hm).1.2.1, (fc b hm).1.2.2.2.2.1, (fc b hm).1.2.2.2.2.2⟩
      have nC : H9 sc.heap.objs.size = none := by
        have zz : H9 ce.locals = none := I9.free
        rw [cl] at zz
        exact zz
      obtain ⟨mm, hn, _⟩ := I9.loc
      have hn' : s'.heap.Ns ce.locals mm := hn
      rw [cl] at hn'
      exact hRR D _ s' mm H9 f Ie q9 hn' (Ic.fpOk (b := sc.heap.objs.size) (Nat.le_refl _) nC)
  have all := codeAny_mono lp fin
  have done := start_l (k := 0) (t := tg) (i := iter) (ifs := ifs) rfl all (T.self X.A 0 _ _ _ std all)
  subst ece
  subst esd
  subst eH
  subst esc
  subst eD
  exact done
theorem used_core {i : Nat} {y : Str} {py spos : Pos} {e : Expr} {te : TE} {cm : Option (Value → Sem Unit) → Sem Value} (hN : X.N.Nodup) (hy : X.N[i]? = some y) (hyl : X.env.scope.names.lookup y = some .local)
    (hsw : swapsWith e (some (.Name y py)) spos.line X.env = pure true) (hu : ∀ u, evalThenUse e X.env u = (do let _ ← cm (some u)))
    (core : ∀ {use : Option (Value → Sem Unit)} {Qf : Value → Shared → Prop} {pins : List (Addr × Obj)} {s : Shared} {σ : L2.St} {H : Hp} {Q : VK}, Inv X pins σ H s → te σ H Q →
      (∀ D C s' m H' f, Inv X pins σ H' s' → Q (.ref D) H' → s'.heap.Ns C m → FpOk X pins H' C → compPost (model X.prog X.w) X.A X.xe use Qf (.ref D) C (.ok f) s') → wpAny (model X.prog X.w) X.A (cm use) Qf X.xe s) :
    PS X (.Assign [.Name y py] e spos) (tAsg te (gName i)) := by
  refine ⟨fun pins s σ H D I h => ?_⟩
  rw [exec_Assign_Name_used _ _ _ _ hsw]
  refine wpAny_bind (wpAny_standAt (wpAny_bind ?_))
  rw [hu]
  have h : te σ H (fun x H1 => gName i x σ H1 D.nx) := h
  refine wpAny_bind (thn (core (Qf := fun _ s' => SP X pins D .next s') I h fun L C s' m H' fx I' q hn f => ?_) fun _ s' hq => wpAny_pure (wpAny_pure hq))
  show wpAny _ _ (assign (.Name y py) X.env (.ref L)) _ _ _
  refine wpAny_assign_Name (store_ok2 (v := V.ref L) I' hN hy (.inl hyl) rfl (fun s2 I2 ⟨a, sb, ha⟩ => ?_) (.inr hyl))
  obtain ⟨f0, f1, f2, f3, f4, f5⟩ := f
  have haC : C ≠ a := by
    rcases ha with z | z
    · rw [z]; exact f1
    · exact fun e => f4 y a z e.symm
  refine ⟨m, hn.sameBut sb haC, fun h3 sb3 => ?_⟩
  exact ⟨_, H', I2.turned (t' := s2.toks) (fun b o hb e => (sb3.2 b hb).trans e) f0 f1 f3 f4 f5, q⟩
theorem ps_setDcN {i : Nat} {y : Str} {py spos : Pos} {kx vx tg iter : Expr} {ifs : List Expr} {rest : List Comprehension} {scope : Scope} {own : List (Str × Nat)} {pos : Pos} {c : Cl} {em : Addr → Em} {yes : Addr → Env → Value → Sem Fin} {ow : List Nat} (hc : X.calm = true) (hN : X.N.Nodup) (hy' : X.N[i]? = some y) (hyl : X.env.scope.names.lookup y = some .local) (hsw : swapsWith (.DictComp kx vx (⟨tg, iter, ifs, 0⟩ :: rest) scope pos) (some (.Name y py)) spos.line X.env = pure true) (hi : PI X tg iter c.wi) (ok : BlkOk X.N X.env.scope scope own) (hvs : c.vs = own.map (·.2))
    (hT : ∀ (D : Addr) (it : Value) (env : Env), compTurn (.DictComp kx vx (⟨tg, iter, ifs, 0⟩ :: rest) scope pos) 0 it (.ref D) env = turnG (.DictComp kx vx (⟨tg, iter, ifs, 0⟩ :: rest) scope pos) tg iter ifs 0 it (.ref D) env (yes D env it))
    (hg : ∀ (s : Shared) (H : Hp) (C : Addr) (cl : List (Str × Addr)) (fp : List Addr), PG (X.blk s H scope (compEnvC scope cl C X.env) fp) tg c.g) (ht : ∀ (s : Shared) (H : Hp) (C : Addr) (cl : List (Str × Addr)) (fp : List Addr), PTs (X.blk s H scope (compEnvC scope cl C X.env) fp) ifs c.tt)
    (hy : ∀ (s : Shared) (H : Hp) (C : Addr) (cl : List (Str × Addr)) (fp : List Addr) (D : Addr), YesOk (X.blk s H scope (compEnvC scope cl C X.env) fp) (.DictComp kx vx (⟨tg, iter, ifs, 0⟩ :: rest) scope pos) (.ref D) ow 0 (yes D (compEnvC scope cl C X.env)) (em D)) (hv : ∀ i ∈ ow, i ∈ c.vs)
   
    (hs : ∀ x, foldedSetIterable iter X.env x = pure x := by intro _; rfl) : PS X (.Assign [.Name y py] (.DictComp kx vx (⟨tg, iter, ifs, 0⟩ :: rest) scope pos) spos) (tAsg (tDcN c em) (gName i)) :=
  used_core (cm := fun use => comprehension (.DictComp kx vx (⟨tg, iter, ifs, 0⟩ :: rest) scope pos) scope X.env (firstIterPos (⟨tg, iter, ifs, 0⟩ :: rest) pos) newDict false (eval iter X.env) use) hN hy' hyl hsw (fun u => rfl) fun I h hRR => dcN_core hc hN hi ok hvs hT hg ht hy hv hs I h hRR
theorem ps_setLcN {i : Nat} {y : Str} {py spos : Pos} {elt tg iter : Expr} {ifs : List Expr} {rest : List Comprehension} {scope : Scope} {own : List (Str × Nat)} {pos : Pos} {c : Cl} {em : Addr → Em} {yes : Addr → Env → Value → Sem Fin} {ow : List Nat} (hc : X.calm = true) (hN : X.N.Nodup) (hy' : X.N[i]? = some y) (hyl : X.env.scope.names.lookup y = some .local) (hsw : swapsWith (.ListComp elt (⟨tg, iter, ifs, 0⟩ :: rest) scope pos) (some (.Name y py)) spos.line X.env = pure true) (hi : PI X tg iter c.wi) (ok : BlkOk X.N X.env.scope scope own) (hvs : c.vs = own.map (·.2))
    (hT : ∀ (D : Addr) (it : Value) (env : Env), compTurn (.ListComp elt (⟨tg, iter, ifs, 0⟩ :: rest) scope pos) 0 it (.ref D) env = turnG (.ListComp elt (⟨tg, iter, ifs, 0⟩ :: rest) scope pos) tg iter ifs 0 it (.ref D) env (yes D env it))
    (hg : ∀ (s : Shared) (H : Hp) (C : Addr) (cl : List (Str × Addr)) (fp : List Addr), PG (X.blk s H scope (compEnvC scope cl C X.env) fp) tg c.g) (ht : ∀ (s : Shared) (H : Hp) (C : Addr) (cl : List (Str × Addr)) (fp : List Addr), PTs (X.blk s H scope (compEnvC scope cl C X.env) fp) ifs c.tt)
    (hy : ∀ (s : Shared) (H : Hp) (C : Addr) (cl : List (Str × Addr)) (fp : List Addr) (D : Addr), YesOk (X.blk s H scope (compEnvC scope cl C X.env) fp) (.ListComp elt (⟨tg, iter, ifs, 0⟩ :: rest) scope pos) (.ref D) ow 0 (yes D (compEnvC scope cl C X.env)) (em D)) (hv : ∀ i ∈ ow, i ∈ c.vs)
   
    (hs : ∀ x, foldedSetIterable iter X.env x = pure x := by intro _; rfl) : PS X (.Assign [.Name y py] (.ListComp elt (⟨tg, iter, ifs, 0⟩ :: rest) scope pos) spos) (tAsg (tLcN c em) (gName i)) :=
  used_core (cm := fun use => comprehension (.ListComp elt (⟨tg, iter, ifs, 0⟩ :: rest) scope pos) scope X.env (firstIterPos (⟨tg, iter, ifs, 0⟩ :: rest) pos) (newList []) false (eval iter X.env) use) hN hy' hyl hsw (fun u => rfl) fun I h hRR => lcN_core hc hN hi ok hvs hT hg ht hy hv hs I h hRR
theorem sw_trueD {kx vx : Expr} {gs : List Comprehension} {scope : Scope} {pos py : Pos} {y : Str} {l : Nat} {env : Env} (hk : env.scope.kind = .function) (hy : env.scope.names.lookup y = some .local) (hl : (py.line == pos.line) = true)
    (ha : (scope.names.any fun (n, k) => n == y && (k == .local || k == .cell)) = false) : swapsWith (.DictComp kx vx gs scope pos) (some (.Name y py)) l env = pure true := by
  have ky : env.kindOf y = some .local := hy
  have hb : env.blockKind = .function := by unfold Env.blockKind; rw [hk]; rfl
  unfold swapsWith
  simp only [hb, ky, ha, Expr.pos, hl]
  rfl
end
variable {X : Cx} {G : Gx}
variable {tg iter : Expr} {pos : Pos}
section
variable {kx vx elt t1 i1 t2 i2 : Expr} {ifs ifs1 ifs2 : List Expr} {scope : Scope} {own : List (Str × Nat)} {c c1 c2 : ClU} {dk dv : Cm U}
theorem es_setD2 {i : Nat} {y : Str} {py spos : Pos} (mu : Bool) (hc : X.calm = true) (hN : X.N.Nodup) (hy' : X.N[i]? = some y) (hyl : X.env.scope.names.lookup y = some .local) (hsw : swapsWith (.DictComp kx vx [⟨tg, iter, ifs, 0⟩, ⟨t1, i1, ifs1, 0⟩] scope pos) (some (.Name y py)) spos.line X.env = pure true) (hi : EIK G X tg iter c.it) (ok : BlkOk X.N X.env.scope scope own) (hvs : c.vs = own.map (·.2))
    (hg : ∀ (s : Shared) (H : Hp) (C : Addr) (cl : List (Str × Addr)) (fp : List Addr), EPt (X.blk s H scope (compEnvC scope cl C X.env) fp) tg c.pt) (ht : ∀ (s : Shared) (H : Hp) (C : Addr) (cl : List (Str × Addr)) (fp : List Addr), ETs G (X.blk s H scope (compEnvC scope cl C X.env) fp) ifs c.t)
    (hi1 : ∀ (s : Shared) (H : Hp) (C : Addr) (cl : List (Str × Addr)) (fp : List Addr), EIK G (X.blk s H scope (compEnvC scope cl C X.env) fp) t1 i1 c1.it)
    (hg1 : ∀ (s : Shared) (H : Hp) (C : Addr) (cl : List (Str × Addr)) (fp : List Addr), EPt (X.blk s H scope (compEnvC scope cl C X.env) fp) t1 c1.pt) (ht1 : ∀ (s : Shared) (H : Hp) (C : Addr) (cl : List (Str × Addr)) (fp : List Addr), ETs G (X.blk s H scope (compEnvC scope cl C X.env) fp) ifs1 c1.t)
    (hk : ∀ (s : Shared) (H : Hp) (C : Addr) (cl : List (Str × Addr)) (fp : List Addr), EE G (X.blk s H scope (compEnvC scope cl C X.env) fp) kx dk) (hv : ∀ (s : Shared) (H : Hp) (C : Addr) (cl : List (Str × Addr)) (fp : List Addr), EE G (X.blk s H scope (compEnvC scope cl C X.env) fp) vx dv)
    (hsl : ∀ i ∈ c.pt.slots, i ∈ c.vs) (hsl1 : ∀ i ∈ c1.pt.slots, i ∈ c1.vs) (hvs1 : ∀ i ∈ c1.vs, i ∈ c.vs) (hs : ∀ x, foldedSetIterable iter X.env x = pure x := by intro _; rfl) (hs1 : ∀ env x, foldedSetIterable i1 env x = pure x := by intro _ _; rfl) :
    ES G X (.Assign [.Name y py] (.DictComp kx vx [⟨tg, iter, ifs, 0⟩, ⟨t1, i1, ifs1, 0⟩] scope pos) spos) (sAsg (cDcN mu c (clauseA c1 (outD dk dv))) (gmName i)) :=
  (ps_setDcN (c := clOf X.K G c) (ow := c1.vs) (em := fun D σ H Nx => (clOf X.K G c1).wi σ H fun J H9 => tCl J (clOf X.K G c1) σ H9 Nx (emD D (RE X.K G dk) (RE X.K G dv))) (yes := fun D env it => deeper (.DictComp kx vx [⟨tg, iter, ifs, 0⟩, ⟨t1, i1, ifs1, 0⟩] scope pos) i1 0 it (.ref D) env) hc hN hy' hyl hsw hi ok hvs (fun D it env => turn_dm rfl rfl) hg ht
    (fun s H C cl fp D => deeper_ok (Y := X.blk s H scope (compEnvC scope cl C X.env) fp) (c := clOf X.K G c1) (ow := []) (yes := fun it => putOut kx vx (.DictComp kx vx [⟨tg, iter, ifs, 0⟩, ⟨t1, i1, ifs1, 0⟩] scope pos) 1 it D _) rfl hc (fun _ _ => rfl) (fun _ _ => rfl) (fun it R s h0 h => start_d rfl h0 h) (fun it => turn_dl rfl rfl) (hi1 s H C cl fp) (hg1 s H C cl fp) (ht1 s H C cl fp) (hs1 _) (yes_d rfl (hk s H C cl fp) (hv s H C cl fp)) (fun i h => nomatch h)) hvs1 hs).imp
    fun D σ H h => by
      obtain ⟨m, S, env, fl, env', S', st, re, hc, q⟩ := h
      unfold sAsg at hc
      split at hc
      · cases hc
      · rename_i u S1 e1
        cases hc
        exact re_dcN (fun m1 H1 D hD => bok_c hD (bok_d hD) hsl1) hsl ⟨m, S, _, u, _, st, re, e1, fun m1 H1 v x1 st1 r1 => q m1 H1 _ x1 st1 ((re.keep x1.keeps).set i r1)⟩
theorem es_setD3 {i : Nat} {y : Str} {py spos : Pos} (mu : Bool) (hc : X.calm = true) (hN : X.N.Nodup) (hy' : X.N[i]? = some y) (hyl : X.env.scope.names.lookup y = some .local) (hsw : swapsWith (.DictComp kx vx [⟨tg, iter, ifs, 0⟩, ⟨t1, i1, ifs1, 0⟩, ⟨t2, i2, ifs2, 0⟩] scope pos) (some (.Name y py)) spos.line X.env = pure true) (hi : EIK G X tg iter c.it) (ok : BlkOk X.N X.env.scope scope own) (hvs : c.vs = own.map (·.2))
    (hg : ∀ (s : Shared) (H : Hp) (C : Addr) (cl : List (Str × Addr)) (fp : List Addr), EPt (X.blk s H scope (compEnvC scope cl C X.env) fp) tg c.pt) (ht : ∀ (s : Shared) (H : Hp) (C : Addr) (cl : List (Str × Addr)) (fp : List Addr), ETs G (X.blk s H scope (compEnvC scope cl C X.env) fp) ifs c.t)
    (hi1 : ∀ (s : Shared) (H : Hp) (C : Addr) (cl : List (Str × Addr)) (fp : List Addr), EIK G (X.blk s H scope (compEnvC scope cl C X.env) fp) t1 i1 c1.it)
    (hg1 : ∀ (s : Shared) (H : Hp) (C : Addr) (cl : List (Str × Addr)) (fp : List Addr), EPt (X.blk s H scope (compEnvC scope cl C X.env) fp) t1 c1.pt) (ht1 : ∀ (s : Shared) (H : Hp) (C : Addr) (cl : List (Str × Addr)) (fp : List Addr), ETs G (X.blk s H scope (compEnvC scope cl C X.env) fp) ifs1 c1.t)
    (hi2 : ∀ (s : Shared) (H : Hp) (C : Addr) (cl : List (Str × Addr)) (fp : List Addr), EIK G (X.blk s H scope (compEnvC scope cl C X.env) fp) t2 i2 c2.it)
    (hg2 : ∀ (s : Shared) (H : Hp) (C : Addr) (cl : List (Str × Addr)) (fp : List Addr), EPt (X.blk s H scope (compEnvC scope cl C X.env) fp) t2 c2.pt) (ht2 : ∀ (s : Shared) (H : Hp) (C : Addr) (cl : List (Str × Addr)) (fp : List Addr), ETs G (X.blk s H scope (compEnvC scope cl C X.env) fp) ifs2 c2.t)
    (hk : ∀ (s : Shared) (H : Hp) (C : Addr) (cl : List (Str × Addr)) (fp : List Addr), EE G (X.blk s H scope (compEnvC scope cl C X.env) fp) kx dk) (hv : ∀ (s : Shared) (H : Hp) (C : Addr) (cl : List (Str × Addr)) (fp : List Addr), EE G (X.blk s H scope (compEnvC scope cl C X.env) fp) vx dv)
    (hsl : ∀ i ∈ c.pt.slots, i ∈ c.vs) (hsl1 : ∀ i ∈ c1.pt.slots, i ∈ c1.vs) (hsl2 : ∀ i ∈ c2.pt.slots, i ∈ c2.vs) (hvs1 : ∀ i ∈ c1.vs, i ∈ c.vs) (hvs2 : ∀ i ∈ c2.vs, i ∈ c1.vs) (hs : ∀ x, foldedSetIterable iter X.env x = pure x := by intro _; rfl) (hs1 : ∀ env x, foldedSetIterable i1 env x = pure x := by intro _ _; rfl) (hs2 : ∀ env x, foldedSetIterable i2 env x = pure x := by intro _ _; rfl) :
    ES G X (.Assign [.Name y py] (.DictComp kx vx [⟨tg, iter, ifs, 0⟩, ⟨t1, i1, ifs1, 0⟩, ⟨t2, i2, ifs2, 0⟩] scope pos) spos) (sAsg (cDcN mu c (clauseA c1 (clauseA c2 (outD dk dv)))) (gmName i)) :=
  (ps_setDcN (c := clOf X.K G c) (ow := c1.vs) (em := fun D σ H Nx => (clOf X.K G c1).wi σ H fun J H9 => tCl J (clOf X.K G c1) σ H9 Nx (fun σ H Nx => (clOf X.K G c2).wi σ H fun J H9 => tCl J (clOf X.K G c2) σ H9 Nx (emD D (RE X.K G dk) (RE X.K G dv)))) (yes := fun D env it => deeper (.DictComp kx vx [⟨tg, iter, ifs, 0⟩, ⟨t1, i1, ifs1, 0⟩, ⟨t2, i2, ifs2, 0⟩] scope pos) i1 0 it (.ref D) env) hc hN hy' hyl hsw hi ok hvs (fun D it env => turn_dm rfl rfl) hg ht
    (fun s H C cl fp D => deeper_ok (Y := X.blk s H scope (compEnvC scope cl C X.env) fp) (c := clOf X.K G c1) (ow := c2.vs) (yes := fun it => deeper (.DictComp kx vx [⟨tg, iter, ifs, 0⟩, ⟨t1, i1, ifs1, 0⟩, ⟨t2, i2, ifs2, 0⟩] scope pos) i2 1 it (.ref D) _) rfl hc (fun _ _ => rfl) (fun _ _ => rfl) (fun it R s h0 h => start_d rfl h0 h) (fun it => turn_dm rfl rfl) (hi1 s H C cl fp) (hg1 s H C cl fp) (ht1 s H C cl fp) (hs1 _)
      (deeper_ok (Y := X.blk s H scope (compEnvC scope cl C X.env) fp) (c := clOf X.K G c2) (ow := []) (yes := fun it => putOut kx vx (.DictComp kx vx [⟨tg, iter, ifs, 0⟩, ⟨t1, i1, ifs1, 0⟩, ⟨t2, i2, ifs2, 0⟩] scope pos) 2 it D _) rfl hc (fun _ _ => rfl) (fun _ _ => rfl) (fun it R s h0 h => start_d rfl h0 h) (fun it => turn_dl rfl rfl) (hi2 s H C cl fp) (hg2 s H C cl fp) (ht2 s H C cl fp) (hs2 _) (yes_d rfl (hk s H C cl fp) (hv s H C cl fp)) (fun i h => nomatch h)) hvs2) hvs1 hs).imp
    fun D σ H h => by
      obtain ⟨m, S, env, fl, env', S', st, re, hc, q⟩ := h
      unfold sAsg at hc
      split at hc
      · cases hc
      · rename_i u S1 e1
        cases hc
        exact re_dcN (fun m1 H1 D hD => bok_c hD (bok_c hD (bok_d hD) hsl2) hsl1) hsl ⟨m, S, _, u, _, st, re, e1, fun m1 H1 v x1 st1 r1 => q m1 H1 _ x1 st1 ((re.keep x1.keeps).set i r1)⟩
theorem es_setL2 {i : Nat} {y : Str} {py spos : Pos} (mu : Bool) (hc : X.calm = true) (hN : X.N.Nodup) (hy' : X.N[i]? = some y) (hyl : X.env.scope.names.lookup y = some .local) (hsw : swapsWith (.ListComp elt [⟨tg, iter, ifs, 0⟩, ⟨t1, i1, ifs1, 0⟩] scope pos) (some (.Name y py)) spos.line X.env = pure true) (hi : EIK G X tg iter c.it) (ok : BlkOk X.N X.env.scope scope own) (hvs : c.vs = own.map (·.2))
    (hg : ∀ (s : Shared) (H : Hp) (C : Addr) (cl : List (Str × Addr)) (fp : List Addr), EPt (X.blk s H scope (compEnvC scope cl C X.env) fp) tg c.pt) (ht : ∀ (s : Shared) (H : Hp) (C : Addr) (cl : List (Str × Addr)) (fp : List Addr), ETs G (X.blk s H scope (compEnvC scope cl C X.env) fp) ifs c.t)
    (hi1 : ∀ (s : Shared) (H : Hp) (C : Addr) (cl : List (Str × Addr)) (fp : List Addr), EIK G (X.blk s H scope (compEnvC scope cl C X.env) fp) t1 i1 c1.it)
    (hg1 : ∀ (s : Shared) (H : Hp) (C : Addr) (cl : List (Str × Addr)) (fp : List Addr), EPt (X.blk s H scope (compEnvC scope cl C X.env) fp) t1 c1.pt) (ht1 : ∀ (s : Shared) (H : Hp) (C : Addr) (cl : List (Str × Addr)) (fp : List Addr), ETs G (X.blk s H scope (compEnvC scope cl C X.env) fp) ifs1 c1.t)
    (he : ∀ (s : Shared) (H : Hp) (C : Addr) (cl : List (Str × Addr)) (fp : List Addr), EE G (X.blk s H scope (compEnvC scope cl C X.env) fp) elt dk)
    (hsl : ∀ i ∈ c.pt.slots, i ∈ c.vs) (hsl1 : ∀ i ∈ c1.pt.slots, i ∈ c1.vs) (hvs1 : ∀ i ∈ c1.vs, i ∈ c.vs) (hs : ∀ x, foldedSetIterable iter X.env x = pure x := by intro _; rfl) (hs1 : ∀ env x, foldedSetIterable i1 env x = pure x := by intro _ _; rfl) :
    ES G X (.Assign [.Name y py] (.ListComp elt [⟨tg, iter, ifs, 0⟩, ⟨t1, i1, ifs1, 0⟩] scope pos) spos) (sAsg (cLcN mu c (clauseA c1 (outL dk))) (gmName i)) :=
  (ps_setLcN (c := clOf X.K G c) (ow := c1.vs) (em := fun D σ H Nx => (clOf X.K G c1).wi σ H fun J H9 => tCl J (clOf X.K G c1) σ H9 Nx (emL D (RE X.K G dk))) (yes := fun D env it => deeper (.ListComp elt [⟨tg, iter, ifs, 0⟩, ⟨t1, i1, ifs1, 0⟩] scope pos) i1 0 it (.ref D) env) hc hN hy' hyl hsw hi ok hvs (fun D it env => turn_lm rfl rfl) hg ht
    (fun s H C cl fp D => deeper_ok (Y := X.blk s H scope (compEnvC scope cl C X.env) fp) (c := clOf X.K G c1) (ow := []) (yes := fun it => addOut elt (.ListComp elt [⟨tg, iter, ifs, 0⟩, ⟨t1, i1, ifs1, 0⟩] scope pos) 1 it (.ref D) _) rfl hc (fun _ _ => rfl) (fun _ _ => rfl) (fun it R s h0 h => start_l rfl h0 h) (fun it => turn_ll rfl rfl) (hi1 s H C cl fp) (hg1 s H C cl fp) (ht1 s H C cl fp) (hs1 _) (yes_l rfl (he s H C cl fp)) (fun i h => nomatch h)) hvs1 hs).imp
    fun D σ H h => by
      obtain ⟨m, S, env, fl, env', S', st, re, hc, q⟩ := h
      unfold sAsg at hc
      split at hc
      · cases hc
      · rename_i u S1 e1
        cases hc
        exact re_lcN (fun m1 H1 D hD => bok_c hD (bok_l hD) hsl1) hsl ⟨m, S, _, u, _, st, re, e1, fun m1 H1 v x1 st1 r1 => q m1 H1 _ x1 st1 ((re.keep x1.keeps).set i r1)⟩
theorem ee_dc1 (mu : Bool) (hc : X.calm = true) (hN : X.N.Nodup) (hi : EIK G X tg iter c.it) (ok : BlkOk X.N X.env.scope scope own) (hvs : c.vs = own.map (·.2)) (hg : ∀ (s : Shared) (H : Hp) (C : Addr) (cl : List (Str × Addr)) (fp : List Addr), EPt (X.blk s H scope (compEnvC scope cl C X.env) fp) tg c.pt) (ht : ∀ (s : Shared) (H : Hp) (C : Addr) (cl : List (Str × Addr)) (fp : List Addr), ETs G (X.blk s H scope (compEnvC scope cl C X.env) fp) ifs c.t) (hk : ∀ (s : Shared) (H : Hp) (C : Addr) (cl : List (Str × Addr)) (fp : List Addr), EE G (X.blk s H scope (compEnvC scope cl C X.env) fp) kx dk) (hv : ∀ (s : Shared) (H : Hp) (C : Addr) (cl : List (Str × Addr)) (fp : List Addr), EE G (X.blk s H scope (compEnvC scope cl C X.env) fp) vx dv) (hsl : ∀ i ∈ c.pt.slots, i ∈ c.vs) (hs : ∀ x, foldedSetIterable iter X.env x = pure x := by intro _; rfl) :
    EE G X (.DictComp kx vx [⟨tg, iter, ifs, 0⟩] scope pos) (cDcN mu c (outD dk dv)) :=
  (pe_dcN (c := clOf X.K G c) (ow := []) (em := fun D => emD D (RE X.K G dk) (RE X.K G dv)) (yes := fun D env it => putOut kx vx (.DictComp kx vx [⟨tg, iter, ifs, 0⟩] scope pos) 0 it D env) hc hN hi ok hvs (fun D it env => turn_dl rfl rfl) hg ht (fun s H C cl fp D => yes_d rfl (hk s H C cl fp) (hv s H C cl fp)) (fun i h => nomatch h) hs).imp
    fun σ H Q h => re_dcN (fun m1 H1 D hD => bok_d hD) hsl h
theorem es_setD1 {i : Nat} {y : Str} {py spos : Pos} (mu : Bool) (hc : X.calm = true) (hN : X.N.Nodup) (hy' : X.N[i]? = some y) (hyl : X.env.scope.names.lookup y = some .local) (hsw : swapsWith (.DictComp kx vx [⟨tg, iter, ifs, 0⟩] scope pos) (some (.Name y py)) spos.line X.env = pure true) (hi : EIK G X tg iter c.it) (ok : BlkOk X.N X.env.scope scope own) (hvs : c.vs = own.map (·.2)) (hg : ∀ (s : Shared) (H : Hp) (C : Addr) (cl : List (Str × Addr)) (fp : List Addr), EPt (X.blk s H scope (compEnvC scope cl C X.env) fp) tg c.pt) (ht : ∀ (s : Shared) (H : Hp) (C : Addr) (cl : List (Str × Addr)) (fp : List Addr), ETs G (X.blk s H scope (compEnvC scope cl C X.env) fp) ifs c.t) (hk : ∀ (s : Shared) (H : Hp) (C : Addr) (cl : List (Str × Addr)) (fp : List Addr), EE G (X.blk s H scope (compEnvC scope cl C X.env) fp) kx dk) (hv : ∀ (s : Shared) (H : Hp) (C : Addr) (cl : List (Str × Addr)) (fp : List Addr), EE G (X.blk s H scope (compEnvC scope cl C X.env) fp) vx dv) (hsl : ∀ i ∈ c.pt.slots, i ∈ c.vs) (hs : ∀ x, foldedSetIterable iter X.env x = pure x := by intro _; rfl) :
    ES G X (.Assign [.Name y py] (.DictComp kx vx [⟨tg, iter, ifs, 0⟩] scope pos) spos) (sAsg (cDcN mu c (outD dk dv)) (gmName i)) :=
  (ps_setDcN (c := clOf X.K G c) (ow := []) (em := fun D => emD D (RE X.K G dk) (RE X.K G dv)) (yes := fun D env it => putOut kx vx (.DictComp kx vx [⟨tg, iter, ifs, 0⟩] scope pos) 0 it D env) hc hN hy' hyl hsw hi ok hvs (fun D it env => turn_dl rfl rfl) hg ht (fun s H C cl fp D => yes_d rfl (hk s H C cl fp) (hv s H C cl fp)) (fun i h => nomatch h) hs).imp
    fun D σ H h => by
      obtain ⟨m, S, env, fl, env', S', st, re, hc, q⟩ := h
      unfold sAsg at hc
      split at hc
      · cases hc
      · rename_i u S1 e1
        cases hc
        exact re_dcN (fun m1 H1 D hD => bok_d hD) hsl ⟨m, S, _, u, _, st, re, e1, fun m1 H1 v x1 st1 r1 => q m1 H1 _ x1 st1 ((re.keep x1.keeps).set i r1)⟩
theorem ee_lc1 (mu : Bool) (hc : X.calm = true) (hN : X.N.Nodup) (hi : EIK G X tg iter c.it) (ok : BlkOk X.N X.env.scope scope own) (hvs : c.vs = own.map (·.2)) (hg : ∀ (s : Shared) (H : Hp) (C : Addr) (cl : List (Str × Addr)) (fp : List Addr), EPt (X.blk s H scope (compEnvC scope cl C X.env) fp) tg c.pt) (ht : ∀ (s : Shared) (H : Hp) (C : Addr) (cl : List (Str × Addr)) (fp : List Addr), ETs G (X.blk s H scope (compEnvC scope cl C X.env) fp) ifs c.t) (he : ∀ (s : Shared) (H : Hp) (C : Addr) (cl : List (Str × Addr)) (fp : List Addr), EE G (X.blk s H scope (compEnvC scope cl C X.env) fp) elt dk) (hsl : ∀ i ∈ c.pt.slots, i ∈ c.vs) (hs : ∀ x, foldedSetIterable iter X.env x = pure x := by intro _; rfl) :
    EE G X (.ListComp elt [⟨tg, iter, ifs, 0⟩] scope pos) (cLcN mu c (outL dk)) :=
  (pe_lcN (c := clOf X.K G c) (ow := []) (em := fun D => emL D (RE X.K G dk)) (yes := fun D env it => addOut elt (.ListComp elt [⟨tg, iter, ifs, 0⟩] scope pos) 0 it (.ref D) env) hc hN hi ok hvs (fun D it env => turn_ll rfl rfl) hg ht (fun s H C cl fp D => yes_l rfl (he s H C cl fp)) (fun i h => nomatch h) hs).imp
    fun σ H Q h => re_lcN (fun m1 H1 D hD => bok_l hD) hsl h
theorem es_setL1 {i : Nat} {y : Str} {py spos : Pos} (mu : Bool) (hc : X.calm = true) (hN : X.N.Nodup) (hy' : X.N[i]? = some y) (hyl : X.env.scope.names.lookup y = some .local) (hsw : swapsWith (.ListComp elt [⟨tg, iter, ifs, 0⟩] scope pos) (some (.Name y py)) spos.line X.env = pure true) (hi : EIK G X tg iter c.it) (ok : BlkOk X.N X.env.scope scope own) (hvs : c.vs = own.map (·.2)) (hg : ∀ (s : Shared) (H : Hp) (C : Addr) (cl : List (Str × Addr)) (fp : List Addr), EPt (X.blk s H scope (compEnvC scope cl C X.env) fp) tg c.pt) (ht : ∀ (s : Shared) (H : Hp) (C : Addr) (cl : List (Str × Addr)) (fp : List Addr), ETs G (X.blk s H scope (compEnvC scope cl C X.env) fp) ifs c.t) (he : ∀ (s : Shared) (H : Hp) (C : Addr) (cl : List (Str × Addr)) (fp : List Addr), EE G (X.blk s H scope (compEnvC scope cl C X.env) fp) elt dk) (hsl : ∀ i ∈ c.pt.slots, i ∈ c.vs) (hs : ∀ x, foldedSetIterable iter X.env x = pure x := by intro _; rfl) :
    ES G X (.Assign [.Name y py] (.ListComp elt [⟨tg, iter, ifs, 0⟩] scope pos) spos) (sAsg (cLcN mu c (outL dk)) (gmName i)) :=
  (ps_setLcN (c := clOf X.K G c) (ow := []) (em := fun D => emL D (RE X.K G dk)) (yes := fun D env it => addOut elt (.ListComp elt [⟨tg, iter, ifs, 0⟩] scope pos) 0 it (.ref D) env) hc hN hy' hyl hsw hi ok hvs (fun D it env => turn_ll rfl rfl) hg ht (fun s H C cl fp D => yes_l rfl (he s H C cl fp)) (fun i h => nomatch h) hs).imp
    fun D σ H h => by
      obtain ⟨m, S, env, fl, env', S', st, re, hc, q⟩ := h
      unfold sAsg at hc
      split at hc
      · cases hc
      · rename_i u S1 e1
        cases hc
        exact re_lcN (fun m1 H1 D hD => bok_l hD) hsl ⟨m, S, _, u, _, st, re, e1, fun m1 H1 v x1 st1 r1 => q m1 H1 _ x1 st1 ((re.keep x1.keeps).set i r1)⟩
end
end OF

namespace OF
open PySem PySem.Spec PyProof.Rows L2
variable {X : Cx} {G : Gx} {es : List Expr} {pos : Pos}
/-- a, b, .. = a tuple or a list -/
def gmTL (pts : List Pat) : Gm := fun u env S => match itmU S u with
  | some us => match bindPs pts us with
    | some bs => some (setAll env bs, S)
    | none => none
  | none => none
@[simp] theorem gmTL_ap (pts : List Pat) (u : U) (env : Env') (S : Sto) : gmTL pts u env S = (match itmU S u with
  | some us => match bindPs pts us with
    | some bs => some (setAll env bs, S)
    | none => none
  | none => none) := rfl
theorem eg_tl {k : Nat} {pts : List Pat} (hc : X.calm = true) (h : EPts X es pts) (hn : (assignEach es X.env).length = pts.length := by rfl) (hst : (assignEach es X.env).findIdx? (·.1) = none := by rfl) : EG G X (.Tuple es k pos) (gmTL pts) :=
  ⟨fun pins s σ H v w Q I r hw => by
    obtain ⟨m, S, env, u, env', S', st, re, ru, hcm, q⟩ := hw
    unfold gmTL at hcm
    split at hcm
    · rename_i us e1
      split at hcm
      · rename_i bs eb
        cases hcm
        obtain ⟨a, vs, rfl, hq, rv⟩ := itmU_ok st ru e1
        obtain ⟨bv, h1, h2⟩ := bindPs_ok _ _ _ _ eb rv
        have fin : Q (setAll σ bv) H := q m H _ (Ext.refl m H) st (re.setAll h2)
        rcases hq with hq | hq
        · exact (pg_tup hc h hn hst).run pins s σ H _ w Q I r ⟨a, vs, rfl, hq, h1.length, bv, h1, fin⟩
        · exact (pg_unl hc h hn hst).run pins s σ H _ w Q I r ⟨a, vs, rfl, hq, h1.length, bv, h1, fin⟩
      · cases hcm
    · cases hcm⟩
end OF

namespace OF
open PySem PySem.Spec PyProof.Rows L2
/-! a def that calls itself: at its lowest level it tells nothing -/
theorem fn_none {P : Program} {w : World} {K : PySem.W.Frag} {mg : Str → Option Value} {base : Heap} {G : Gx} {k : Nat} {f : Addr} {fd : FuncData} {ps : List Str} : FnOk P w K mg base CX0 k f fd ps (spU K G (fun _ _ => none)) :=
  ⟨fun vs H Q E h => (let ⟨_, _, _, _, _, _, _, e, _⟩ := h; nomatch e), fun _ _ _ _ _ _ _ _ _ _ _ _ _ h => (let ⟨_, _, _, _, _, _, _, e, _⟩ := h; nomatch e)⟩
/-! a written table: is a text one of its words? -/
def keyNames (es : Array DictEntry) : List (Option Str) := es.toList.map fun e => match e.key with
  | .str x _ => some x
  | _ => none
def KTabIn (K : PySem.W.Frag) (w : World) (d : Addr) (ks : List Str) : Prop := ∃ es n, KDict K w d es n ∧ keyNames es = ks.map some
theorem isStr_key (e : DictEntry) (z x : Str) (h : (match e.key with | .str x _ => some x | _ => none) = some x) : e.key.isStr z = (x == z) ∧ e.refKey = false := by
  split at h
  · rename_i y t hk
    cases h
    refine ⟨?_, ?_⟩
    · rw [hk]; rfl
    · unfold DictEntry.refKey; rw [hk]
  · cases h
theorem find_names (z : Str) : ∀ (l : List DictEntry) (ks : List Str), (l.map fun e => match e.key with | .str x _ => some x | _ => none) = ks.map some →
    (l.find? (·.key.isStr z)).isSome = ks.contains z ∧ l.any (·.refKey) = false
  | [], [], _ => ⟨rfl, rfl⟩
  | [], _ :: _, h => by cases h
  | _ :: _, [], h => by cases h
  | e :: l, k :: ks, h => by
    rw [List.map_cons, List.map_cons] at h
    injection h with h1 h2
    obtain ⟨a, b⟩ := find_names z l ks h2
    obtain ⟨c, d⟩ := isStr_key e z k h1
    refine ⟨?_, by rw [List.any_cons, d, b]; rfl⟩
    rw [List.find?_cons, c, List.contains_cons]
    by_cases hz : k = z
    · subst hz; simp
    · have h1 : (k == z) = false := by simpa using hz
      have h2 : (z == k) = false := by simpa using fun e => hz e.symm
      rw [h1, h2]; simpa using a
theorem tab_ns {K : PySem.W.Frag} {w : World} {d : Addr} {ks : List Str} {es : Array DictEntry} {n : Nat} (D : KDict K w d es n) (hk : keyNames es = ks.map some) (z : Str) : ∃ r, PySem.W.nsIn K d z = some r ∧ r.isSome = ks.contains z := by
  obtain ⟨a, b⟩ := find_names z es.toList ks hk
  unfold PySem.W.nsIn
  rw [D.at_]
  dsimp only
  cases q : es.toList.find? (·.key.isStr z) with
  | some e => rw [q] at a; exact ⟨_, rfl, a⟩
  | none => rw [q] at a; exact ⟨_, by dsimp only; rw [b]; rfl, a⟩
def cTabIn (neg : Bool) (ks : List Str) (c : Cm U) : Cm U := fun env S => match c env S with
  | some (.str z, S1) => some (.bl (if neg then !ks.contains z else ks.contains z), S1)
  | _ => none
section
variable {X : Cx} {G : Gx} {x : Str} {a : Expr} {ca : Cm U} {pos xpos : Pos} {d : Addr} {ks : List Str}
theorem cTabIn_some {neg : Bool} {env : Env'} {S S' : Sto} {u : U} (h : cTabIn neg ks ca env S = some (u, S')) : ∃ z, ca env S = some (.str z, S') ∧ u = .bl (if neg then !ks.contains z else ks.contains z) := by
  unfold cTabIn at h
  split at h
  · rename_i z S1 e; cases h; exact ⟨z, e, rfl⟩
  · cases h
theorem ee_tabin (hg : Gl X x) (hm : X.mg x = some (.ref d)) (hT : KTabIn X.K X.w d ks) (ha : EE G X a ca) (hd : (x == ("__debug__" : Str)) = false := by decide) : EE G X (.Compare a [.In] [.Name x xpos] pos) (cTabIn false ks ca) := by
  obtain ⟨es, n, D, hk⟩ := hT
  exact (pe_cmpR (op_in_kd D) ha (pe_glob (v := .ref d) hg hm rfl hd) rfl).imp fun σ H Q ⟨m, S, env, z, S', st, re, hc, q⟩ => by
    obtain ⟨y, e1, rfl⟩ := cTabIn_some hc
    refine ⟨m, S, _, .str y, _, st, re, e1, fun m1 H1 v x1 st1 r1 => ?_⟩
    obtain ⟨r, hr, hs⟩ := tab_ns D hk y
    refine ⟨y, r, r1, rfl, hr, ?_⟩
    rw [hs]
    exact q m1 H1 _ x1 st1 rfl
theorem ee_tabnotin (hg : Gl X x) (hm : X.mg x = some (.ref d)) (hT : KTabIn X.K X.w d ks) (ha : EE G X a ca) (hd : (x == ("__debug__" : Str)) = false := by decide) : EE G X (.Compare a [.NotIn] [.Name x xpos] pos) (cTabIn true ks ca) := by
  obtain ⟨es, n, D, hk⟩ := hT
  exact (pe_cmpR (op_notIn_kd D) ha (pe_glob (v := .ref d) hg hm rfl hd) rfl).imp fun σ H Q ⟨m, S, env, z, S', st, re, hc, q⟩ => by
    obtain ⟨y, e1, rfl⟩ := cTabIn_some hc
    refine ⟨m, S, _, .str y, _, st, re, e1, fun m1 H1 v x1 st1 r1 => ?_⟩
    obtain ⟨r, hr, hs⟩ := tab_ns D hk y
    refine ⟨y, r, r1, rfl, hr, ?_⟩
    rw [hs]
    exact q m1 H1 _ x1 st1 rfl
theorem tabop_ok {neg : Bool} {σ : L2.St} {H : Hp} {Q : VK} {es : Array DictEntry} {n : Nat} (D : KDict X.K X.w d es n) (hk : keyNames es = ks.map some) (h : RE X.K G (cTabIn neg ks ca) σ H Q) :
    tOp (fun x y H Q => ∃ (z : Str) (r : Option Value), x = .str z ∧ y = .ref d ∧ PySem.W.nsIn X.K d z = some r ∧ Q (.bl (if neg then !r.isSome else r.isSome)) H) (RE X.K G ca) (tC (.ref d)) σ H Q := by
  obtain ⟨m, S, env, z, S', st, re, hc, q⟩ := h
  obtain ⟨y, e1, rfl⟩ := cTabIn_some hc
  refine ⟨m, S, _, .str y, _, st, re, e1, fun m1 H1 v x1 st1 r1 => ?_⟩
  obtain ⟨r, hr, hs⟩ := tab_ns D hk y
  refine ⟨y, r, r1, rfl, hr, ?_⟩
  rw [hs]
  exact q m1 H1 _ x1 st1 rfl
theorem et_tabin (hg : Gl X x) (hm : X.mg x = some (.ref d)) (hT : KTabIn X.K X.w d ks) (ha : EE G X a ca) (hd : (x == ("__debug__" : Str)) = false := by decide) : ET G X (.Compare a [.In] [.Name x xpos] pos) (cTru (cTabIn false ks ca)) := by
  obtain ⟨es, n, D, hk⟩ := hT
  refine ⟨fun pins s σ H Q I hw => ?_⟩
  obtain ⟨m, S, env, k, S', st, re, hc, q⟩ := hw
  obtain ⟨u, e1, e2⟩ := cTru_some hc
  have hop := tabop_ok D hk (show RE X.K G (cTabIn false ks ca) σ H (fun x H' => ∃ k', TruV X.K x H' k' ∧ Q k' H') from ⟨m, S, env, u, S', st, re, e1, fun m1 H1 v x1 st1 r1 => ⟨k, truU_ok st1 r1 e2, q m1 H1 x1 st1⟩⟩)
  refine wpAny_isTrue_Compare1 (binT ha (pe_glob (v := .ref d) hg hm rfl hd) I hop fun v u s2 x y H2 I2 rx ry q2 => ?_) rfl
  refine thn (op_in_kd D pins s2 σ H2 x y v u (fun x H' => ∃ k', TruV X.K x H' k' ∧ Q k' H') I2 rx ry (by simpa using q2)) fun w s3 z => ?_
  obtain ⟨z, H3, I3, r3, q3⟩ := z
  exact tru_ok pins s3 σ H3 z w Q I3 r3 q3
theorem et_tabnotin (hg : Gl X x) (hm : X.mg x = some (.ref d)) (hT : KTabIn X.K X.w d ks) (ha : EE G X a ca) (hd : (x == ("__debug__" : Str)) = false := by decide) : ET G X (.Compare a [.NotIn] [.Name x xpos] pos) (cTru (cTabIn true ks ca)) := by
  obtain ⟨es, n, D, hk⟩ := hT
  refine ⟨fun pins s σ H Q I hw => ?_⟩
  obtain ⟨m, S, env, k, S', st, re, hc, q⟩ := hw
  obtain ⟨u, e1, e2⟩ := cTru_some hc
  have hop := tabop_ok D hk (show RE X.K G (cTabIn true ks ca) σ H (fun x H' => ∃ k', TruV X.K x H' k' ∧ Q k' H') from ⟨m, S, env, u, S', st, re, e1, fun m1 H1 v x1 st1 r1 => ⟨k, truU_ok st1 r1 e2, q m1 H1 x1 st1⟩⟩)
  refine wpAny_isTrue_Compare1 (binT ha (pe_glob (v := .ref d) hg hm rfl hd) I hop fun v u s2 x y H2 I2 rx ry q2 => ?_) rfl
  refine thn (op_notIn_kd D pins s2 σ H2 x y v u (fun x H' => ∃ k', TruV X.K x H' k' ∧ Q k' H') I2 rx ry (by simpa using q2)) fun w s3 z => ?_
  obtain ⟨z, H3, I3, r3, q3⟩ := z
  exact tru_ok pins s3 σ H3 z w Q I3 r3 q3
end
/-! a.upper(), str(n) -/
section
variable {X : Cx} {G : Gx}
def upperU : U → OpN := fun u us S => match u, us with
  | .str a, [] => if a.length ≤ 5592405 then some (.str (Txt.upper a), S) else none
  | _, _ => none
theorem mu_upper : MtU G X "str.upper" upperU := MtR.imp mt_upper fun x xs H Q ⟨m, S, u, us, z, S', st, r, rs, e, q⟩ => by
  unfold upperU at e
  split at e
  · split at e
    · rename_i hl
      cases e
      cases r
      have := rs.eqnil
      subst this
      exact ⟨_, rfl, rfl, hl, q.here st rfl⟩
    · cases e
  · cases e
def strU : Op1 := fun u S => match u with
  | .int i => if i.natAbs.log2 < 1920 then some (.str (toString i), S) else none
  | .str a => some (.str a, S)
  | _ => none
theorem cu_str : CallU G X (.type "str") (on1 strU) := by
  intro pins s σ H xs us0 Q I r1 ⟨m, S, us, z, S', st, r0, e0, q⟩
  obtain ⟨u, rfl, e⟩ := on1_some e0
  obtain ⟨v, rfl, r⟩ := r0.one1
  unfold strU at e
  split at e
  · split at e
    · rename_i hl
      cases e; cases r
      exact call_str_int pins s σ H _ us0 Q I r1 ⟨_, rfl, hl, q.here st rfl⟩
    · cases e
  · cases e; cases r
    exact SkE.call_str_str pins s σ H _ us0 Q I r1 ⟨_, rfl, q.here st rfl⟩
  · cases e
end
end OF

namespace OF
open PySem PySem.Spec PyProof.Rows L2
/-! repr of any data, dicts too -/
mutual
inductive RdX (h : Heap) : Value → PyData → Prop
  | non : RdX h .none .none
  | bl (b : Bool) : RdX h (.bool b) (.bool b)
  | int (i : Int) (t : Tok) : RdX h (.int i t) (.int i)
  | str (x : Str) (t : Tok) : RdX h (.str x t) (.str x)
  | lst {a : Addr} {o : Obj} {vs : List Value} {n : Nat} {xs : List PyData} : h.get? a = some o → o.cls = .type "list" → o.data = .seq vs.toArray n → RdXs h vs xs → RdX h (.ref a) (.list xs)
  | tup {a : Addr} {o : Obj} {vs : List Value} {n : Nat} {xs : List PyData} : h.get? a = some o → o.cls = .type "tuple" → o.data = .seq vs.toArray n → RdXs h vs xs → RdX h (.ref a) (.tuple xs)
  | dct {a : Addr} {o : Obj} {es : Array DictEntry} {n : Nat} {kvs : List (PyData × PyData)} : h.get? a = some o → o.cls = .type "dict" → o.data = .dict es n → (a == sysModules) = false →
      RdXs h (es.toList.map (·.key)) (kvs.map (·.1)) → RdXs h (es.toList.map (·.val)) (kvs.map (·.2)) → RdX h (.ref a) (.dict kvs)
inductive RdXs (h : Heap) : List Value → List PyData → Prop
  | nil : RdXs h [] []
  | cons {v : Value} {vs : List Value} {d : PyData} {ds : List PyData} : RdX h v d → RdXs h vs ds → RdXs h (v :: vs) (d :: ds)
end
section
variable {h : Heap}
mutual
theorem RdX.reads : ∀ {v : Value} {d : PyData}, RdX h v d → ∃ as, Reads h v d as
  | _, _, .non => ⟨_, .none⟩
  | _, _, .bl b => ⟨_, .bool b⟩
  | _, _, .int i t => ⟨_, .int i t⟩
  | _, _, .str x t => ⟨_, .str x t⟩
  | _, _, .lst h1 h2 h3 r => by obtain ⟨as, q⟩ := RdXs.reads r; exact ⟨_, .list h1 h2 h3 (by simpa using q)⟩
  | _, _, .tup h1 h2 h3 r => by obtain ⟨as, q⟩ := RdXs.reads r; exact ⟨_, .tuple h1 h2 h3 (by simpa using q)⟩
  | _, _, .dct h1 h2 h3 _ r1 r2 => by
    obtain ⟨as, q1⟩ := RdXs.reads r1
    obtain ⟨bs, q2⟩ := RdXs.reads r2
    exact ⟨_, .dict h1 h2 h3 q1 q2⟩
theorem RdXs.reads : ∀ {vs : List Value} {ds : List PyData}, RdXs h vs ds → ∃ as, ReadsAll h vs ds as
  | _, _, .nil => ⟨_, .nil⟩
  | _, _, .cons r rs => by
    obtain ⟨as, q1⟩ := RdX.reads r
    obtain ⟨bs, q2⟩ := RdXs.reads rs
    exact ⟨_, .cons q1 q2⟩
end
variable {prog : Program} {w : World}
mutual
theorem RdX.rk : ∀ {v : Value} {d : PyData}, RdX h v d → d.showable = true → d.shown.length ≤ sizeLine → ∃ bs, ReadAtMost h d.depth bs ∧ ReprK prog w bs h d.depth v d.shown
  | _, _, .non, _, _ => by obtain ⟨bs, q⟩ := ReprK.of_reads (prog := prog) (w := w) (h₀ := h) .none rfl (fun _ => by simp) (by decide); exact ⟨bs, q⟩
  | _, _, .bl b, _, z => by obtain ⟨bs, q⟩ := ReprK.of_reads (prog := prog) (w := w) (h₀ := h) (.bool b) rfl (fun _ => by simp) z; exact ⟨bs, q⟩
  | _, _, .int i t, sw, z => by obtain ⟨bs, q⟩ := ReprK.of_reads (prog := prog) (w := w) (h₀ := h) (.int i t) sw (fun _ => by simp) z; exact ⟨bs, q⟩
  | _, _, .str x t, sw, z => by obtain ⟨bs, q⟩ := ReprK.of_reads (prog := prog) (w := w) (h₀ := h) (.str x t) sw (fun _ => by simp) z; exact ⟨bs, q⟩
  | _, _, .lst (a := p) (vs := vs) (xs := ds) g1 g2 g3 g4, sw, z => by
    have zz : (listText (PyData.shownAll ds)).length ≤ sizeLine := by simpa only [PyData.shown] using z
    have hsw : PyData.showableAll ds = true := by simpa [PyData.showable] using sw
    obtain ⟨cs, hc, hk⟩ := RdXs.rk g4 hsw (fun y hy => Nat.le_trans (listText_mem_le hy) zz)
    obtain ⟨as, rr⟩ := (RdX.lst g1 g2 g3 g4).reads
    have lt : PyData.depthAll ds < (PyData.list ds).depth := by simp only [PyData.depth]; omega
    refine ⟨p :: cs, ReadAtMost.cons rr (Nat.le_of_lt lt) hc, ?_⟩
    have out : p ∉ cs := not_mem_of_deeper rr lt hc
    simp only [PyData.depth, PyData.shown]
    cases g4 with
    | nil => simp only [PyData.shownAll, listText_nil]; exact ReprK.listEmpty g1 g2 g3
    | cons r rs => exact ReprK.list g1 g2 g3 out (by simpa using hk.length_eq) fun i y e => hk.item i y (by simpa using e)
  | _, _, .tup (a := p) (xs := ds) g1 g2 g3 g4, sw, z => by
    have zz : (tupleText (PyData.shownAll ds)).length ≤ sizeLine := by simpa only [PyData.shown] using z
    have hsw : PyData.showableAll ds = true := by simpa [PyData.showable] using sw
    obtain ⟨cs, hc, hk⟩ := RdXs.rk g4 hsw (fun y hy => Nat.le_trans (tupleText_mem_le hy) zz)
    obtain ⟨as, rr⟩ := (RdX.tup g1 g2 g3 g4).reads
    have lt : PyData.depthAll ds < (PyData.tuple ds).depth := by simp only [PyData.depth]; omega
    refine ⟨p :: cs, ReadAtMost.cons rr (Nat.le_of_lt lt) hc, ?_⟩
    have out : p ∉ cs := not_mem_of_deeper rr lt hc
    simp only [PyData.depth, PyData.shown]
    exact ReprK.tuple g1 g2 g3 out (by simpa using hk)
  | _, _, .dct (a := p) (es := es) (kvs := kvs) g1 g2 g3 sys g4 g5, sw, z => by
    have zz : (dictText (PyData.shownKv kvs)).length ≤ sizeLine := by simpa only [PyData.shown] using z
    obtain ⟨w1, w2⟩ := PyData.showableKv_split kvs (by simpa [PyData.showable] using sw)
    obtain ⟨c1, m1, k1⟩ := RdXs.rk g4 w1 (fun y hy => let ⟨q, hq, le⟩ := PyData.shownKv_key_le kvs y hy; Nat.le_trans le (Nat.le_trans (dictText_mem_le hq) zz))
    obtain ⟨c2, m2, k2⟩ := RdXs.rk g5 w2 (fun y hy => let ⟨q, hq, le⟩ := PyData.shownKv_val_le kvs y hy; Nat.le_trans le (Nat.le_trans (dictText_mem_le hq) zz))
    obtain ⟨as, rr⟩ := (RdX.dct g1 g2 g3 sys g4 g5).reads
    have lt : PyData.depthKv kvs < (PyData.dict kvs).depth := by simp only [PyData.depth]; omega
    have hm : ReadAtMost h (PyData.depthKv kvs) (c1 ++ c2) := (m1.mono (PyData.depthAll_keys_le kvs)).append (m2.mono (PyData.depthAll_vals_le kvs))
    refine ⟨p :: (c1 ++ c2), ReadAtMost.cons rr (Nat.le_of_lt lt) hm, ?_⟩
    have out : p ∉ c1 ++ c2 := not_mem_of_deeper rr lt hm
    simp only [PyData.depth, PyData.shown, PyData.shownKv_eq]
    exact ReprK.dict g1 g2 g3 sys out (ReprEntriesK.of_two es.toList _ _ (k1.more_le (fun b hb => List.mem_append_left _ hb) (PyData.depthAll_keys_le kvs)) (k2.more_le (fun b hb => List.mem_append_right _ hb) (PyData.depthAll_vals_le kvs)))
theorem RdXs.rk : ∀ {vs : List Value} {ds : List PyData}, RdXs h vs ds → PyData.showableAll ds = true → (∀ t ∈ PyData.shownAll ds, t.length ≤ sizeLine) → ∃ bs, ReadAtMost h (PyData.depthAll ds) bs ∧ ReprAllK prog w bs h (PyData.depthAll ds) vs (PyData.shownAll ds)
  | _, _, .nil, _, _ => ⟨[], (fun _ z => nomatch z), by simp only [PyData.shownAll]; exact .nil⟩
  | _, _, .cons (d := d) (ds := ds) r rs, sw, z => by
    have sw2 : d.showable = true ∧ PyData.showableAll ds = true := by simpa [PyData.showableAll] using sw
    simp only [PyData.shownAll, List.mem_cons, forall_eq_or_imp] at z
    obtain ⟨c1, m1, k1⟩ := RdX.rk r sw2.1 z.1
    obtain ⟨c2, m2, k2⟩ := RdXs.rk rs sw2.2 z.2
    simp only [PyData.depthAll, PyData.shownAll]
    refine ⟨c1 ++ c2, (m1.mono (Nat.le_max_left _ _)).append (m2.mono (Nat.le_max_right _ _)), ?_⟩
    exact .cons ((k1.more fun b hb => List.mem_append_left _ hb).level_le (Nat.le_max_left _ _)) (k2.more_le (fun b hb => List.mem_append_right _ hb) (Nat.le_max_right _ _))
end
variable {A : Around} {E : Value → Shared → Prop} {s : Shared} {Q : Value → Shared → Prop}
theorem repr_x {v : Value} {d : PyData} (r : RdX s.heap v d) (sw : d.showable = true) (gd : A.guards = some []) (hu : A.units + (d.depth + 1) < cLine) (z : d.shown.length ≤ sizeLine)
    (fin : ∀ h' u tk, (∀ b o, s.heap.get? b = some o → h'.get? b = some o) → Q (.str d.shown u) { s with heap := h', toks := tk }) : wpAny (model prog w) A (call (.builtin "repr") [v]) Q E s := by
  have self : ∀ b o, s.heap.get? b = some o → s.heap.get? b = some o := fun _ _ e => e
  cases r with
  | non => exact call_repr_gives (typeIs_none s) F.slot_NoneType_repr F.entry_NoneType_repr (F.args_NoneType_repr_1 _) gives_none_repr (fin s.heap _ _ self)
  | bl b => exact PySem.P.repr_of_bool (by have := fin s.heap s.toks (s.toks + 1) self; simpa only [PyData.shown] using this)
  | int i t => exact PySem.P.repr_of_int (by simpa [PyData.showable] using sw) (by have := fin s.heap s.toks (s.toks + 1) self; simpa only [PyData.shown] using this)
  | str x t => exact PySem.P.repr_of_str (by have := fin s.heap s.toks (s.toks + 1) self; simpa only [PyData.shown] using this) (by simpa only [PyData.shown] using z)
  | @lst p o vs n ds g1 g2 g3 g4 =>
    have zz : (listText (PyData.shownAll ds)).length ≤ sizeLine := by simpa only [PyData.shown] using z
    obtain ⟨cs, hc, hk⟩ := RdXs.rk (prog := prog) (w := w) g4 (by simpa [PyData.showable] using sw) (fun y hy => Nat.le_trans (listText_mem_le hy) zz)
    obtain ⟨as, rr⟩ := (RdX.lst g1 g2 g3 g4).reads
    have lt : PyData.depthAll ds < (PyData.list ds).depth := by simp only [PyData.depth]; omega
    have out : p ∉ cs := not_mem_of_deeper rr lt hc
    simp only [PyData.depth] at hu
    simp only [PyData.shown] at fin
    refine call_repr_slot (by omega) (T := "list") ⟨o, g1, g2⟩ F.slot_list_repr.toG ?_
    cases g4 with
    | nil =>
      simp only [PyData.shownAll, listText_nil] at fin
      exact call_list_repr_empty ⟨o, g1, g2⟩ g1 g3 ⟨_, _, rfl, fin s.heap _ _ self⟩
    | cons r rs => exact call_list_reprK g1 g2 g3 out (by simpa using hk.length_eq) (fun i y e => hk.item i y (by simpa using e)) gd (fun b _ => Clear.nil b) (by show A.units + 1 + _ < _; omega) self (fun h' u tk k => ⟨_, _, rfl, fin h' u tk k⟩) zz
  | @tup p o vs n ds g1 g2 g3 g4 =>
    have zz : (tupleText (PyData.shownAll ds)).length ≤ sizeLine := by simpa only [PyData.shown] using z
    obtain ⟨cs, hc, hk⟩ := RdXs.rk (prog := prog) (w := w) g4 (by simpa [PyData.showable] using sw) (fun y hy => Nat.le_trans (tupleText_mem_le hy) zz)
    obtain ⟨as, rr⟩ := (RdX.tup g1 g2 g3 g4).reads
    have lt : PyData.depthAll ds < (PyData.tuple ds).depth := by simp only [PyData.depth]; omega
    have out : p ∉ cs := not_mem_of_deeper rr lt hc
    simp only [PyData.depth] at hu
    simp only [PyData.shown] at fin
    refine call_repr_slot (by omega) (T := "tuple") ⟨o, g1, g2⟩ F.slot_tuple_repr ?_
    exact call_tuple_reprK g1 g2 g3 out (by simpa using hk) gd (fun b _ => Clear.nil b) (by show A.units + 1 + _ < _; omega) self (fun h' u tk k => ⟨_, _, rfl, fin h' u tk k⟩) zz
  | @dct p o es n kvs g1 g2 g3 sys g4 g5 =>
    have zz : (dictText (PyData.shownKv kvs)).length ≤ sizeLine := by simpa only [PyData.shown] using z
    obtain ⟨w1, w2⟩ := PyData.showableKv_split kvs (by simpa [PyData.showable] using sw)
    obtain ⟨c1, m1, k1⟩ := RdXs.rk (prog := prog) (w := w) g4 w1 (fun y hy => let ⟨q, hq, le⟩ := PyData.shownKv_key_le kvs y hy; Nat.le_trans le (Nat.le_trans (dictText_mem_le hq) zz))
    obtain ⟨c2, m2, k2⟩ := RdXs.rk (prog := prog) (w := w) g5 w2 (fun y hy => let ⟨q, hq, le⟩ := PyData.shownKv_val_le kvs y hy; Nat.le_trans le (Nat.le_trans (dictText_mem_le hq) zz))
    obtain ⟨as, rr⟩ := (RdX.dct g1 g2 g3 sys g4 g5).reads
    have lt : PyData.depthKv kvs < (PyData.dict kvs).depth := by simp only [PyData.depth]; omega
    have hm : ReadAtMost s.heap (PyData.depthKv kvs) (c1 ++ c2) := (m1.mono (PyData.depthAll_keys_le kvs)).append (m2.mono (PyData.depthAll_vals_le kvs))
    have out : p ∉ c1 ++ c2 := not_mem_of_deeper rr lt hm
    simp only [PyData.depth] at hu
    simp only [PyData.shown, PyData.shownKv_eq] at fin
    refine call_repr_slot (by omega) (T := "dict") ⟨o, g1, g2⟩ F.slot_dict_repr ?_
    exact call_dict_reprK g1 g2 g3 sys out (ReprEntriesK.of_two es.toList _ _ (k1.more_le (fun b hb => List.mem_append_left _ hb) (PyData.depthAll_keys_le kvs)) (k2.more_le (fun b hb => List.mem_append_right _ hb) (PyData.depthAll_vals_le kvs))) gd (fun b _ => Clear.nil b) (by show A.units + 1 + _ < _; omega) self (fun h' u tk k => ⟨_, _, rfl, fin h' u tk k⟩) (by rw [← PyData.shownKv_eq]; exact zz)
end
end OF

namespace OF
open PySem PySem.Spec PyProof.Rows L2
def keyD : Key → PyData
  | .inl i => .int i
  | .inr x => .str x
mutual
def toX : U → Option PyData
  | .non => some .none
  | .bl b => some (.bool b)
  | .int i => some (.int i)
  | .str x => some (.str x)
  | .tup us => (toXs us).map .tuple
  | .lst us => (toXs us).map .list
  | .dct kvs => (toXk kvs).map .dict
  | _ => none
def toXs : List U → Option (List PyData)
  | [] => some []
  | u :: us => match toX u, toXs us with
    | some d, some ds => some (d :: ds)
    | _, _ => none
def toXk : List (Key × U) → Option (List (PyData × PyData))
  | [] => some []
  | (k, u) :: us => match toX u, toXk us with
    | some d, some ds => some ((keyD k, d) :: ds)
    | _, _ => none
end
section
variable {X : Cx} {G : Gx} {pins : List (Addr × Obj)} {σ : L2.St} {H : Hp} {s : Shared} {m : Mp}
mutual
theorem rdx_of (I : Inv X pins σ H s) : ∀ (u : U) (v : V) (z : Value) (d : PyData), RU X.K G m H u v → RelV v z → toX u = some d → RdX s.heap z d
  | .non, v, z, d, r, rv, e => by unfold RU at r; subst r; simp only [toX] at e; cases e; cases rv; exact .non
  | .bl b, v, z, d, r, rv, e => by unfold RU at r; subst r; simp only [toX] at e; cases e; cases rv; exact .bl b
  | .int i, v, z, d, r, rv, e => by unfold RU at r; subst r; simp only [toX] at e; cases e; obtain ⟨t, rfl⟩ := rv; exact .int i t
  | .str x, v, z, d, r, rv, e => by unfold RU at r; subst r; simp only [toX] at e; cases e; obtain ⟨t, rfl⟩ := rv; exact .str x t
  | .tup us, v, z, d, r, rv, e => by
    obtain ⟨a, vs, rfl, hq, rs⟩ := r.tupT
    simp only [toX] at e
    obtain ⟨ds, eds, rfl⟩ := Option.map_eq_some_iff.mp e
    cases rv
    obtain ⟨its, hv, ⟨o, ho, hc, n, hd⟩, _⟩ := I.tuple hq
    exact .tup ho hc hd (rdxs_of I us vs its ds rs hv eds)
  | .lst us, v, z, d, r, rv, e => by
    obtain ⟨a, vs, rfl, hq, rs⟩ := r.lstL
    simp only [toX] at e
    obtain ⟨ds, eds, rfl⟩ := Option.map_eq_some_iff.mp e
    cases rv
    obtain ⟨its, hv, ⟨o, n, ho, hc, _, hd⟩, _⟩ := I.list hq
    exact .lst ho hc hd (rdxs_of I us vs its ds rs hv eds)
  | .dct kvs, v, z, d, r, rv, e => by
    unfold RU at r
    obtain ⟨a, vs, rfl, hq, _, _, rs⟩ := r
    simp only [toX] at e
    obtain ⟨ds, eds, rfl⟩ := Option.map_eq_some_iff.mp e
    cases rv
    obtain ⟨_, sys, ws, hkv, o, es, ep, ho, hx, hd, _, hp, _⟩ := dk_rd I.hok hq
    obtain ⟨k1, k2⟩ := rdxk_of I kvs vs ws es.toList ds rs hkv hp eds
    exact .dct ho hx.1 hd sys k1 k2
  | .scr us, v, z, d, r, rv, e => by simp only [toX] at e; cases e
  | .fn x, v, z, d, r, rv, e => by simp only [toX] at e; cases e
  | .ref n, v, z, d, r, rv, e => by simp only [toX] at e; cases e
theorem rdxs_of (I : Inv X pins σ H s) : ∀ (us : List U) (vs : List V) (zs : List Value) (ds : List PyData), RUs X.K G m H us vs → Vals vs zs → toXs us = some ds → RdXs s.heap zs ds
  | [], vs, zs, ds, r, rv, e => by have := r.eqnil; subst this; cases rv; simp only [toXs] at e; cases e; exact .nil
  | u :: us, vs, zs, ds, r, rv, e => by
    obtain ⟨v, t, rfl, r1, r2⟩ := r.uncons
    cases rv with
    | cons q1 q2 =>
      simp only [toXs] at e
      split at e
      · rename_i d ds' e1 e2
        cases e
        exact .cons (rdx_of I u v _ d r1 q1 e1) (rdxs_of I us t _ ds' r2 q2 e2)
      · cases e
theorem rdxk_of (I : Inv X pins σ H s) : ∀ (us : List (Key × U)) (vs : List (Key × V)) (ws : List (Key × Value)) (es : List DictEntry) (ds : List (PyData × PyData)), RKs X.K G m H us vs → KV vs ws → PySem.Pairs (mixKind X.prog X.w) es ws → toXk us = some ds →
    RdXs s.heap (es.map (·.key)) (ds.map (·.1)) ∧ RdXs s.heap (es.map (·.val)) (ds.map (·.2))
  | [], vs, ws, es, ds, r, kv, p, e => by
    have := r.eqnil
    subst this
    cases kv
    cases p
    simp only [toXk] at e
    cases e
    exact ⟨.nil, .nil⟩
  | (k, u) :: us, vs, ws, es, ds, r, kv, p, e => by
    obtain ⟨v, t, rfl, r1, r2⟩ := r.uncons
    cases kv with
    | cons q1 q2 =>
      cases p with
      | cons p1 p2 p3 =>
        simp only [toXk] at e
        split at e
        · rename_i d ds' e1 e2
          cases e
          obtain ⟨a, b⟩ := rdxk_of I us t _ _ ds' r2 q2 p3 e2
          obtain ⟨hk, hv⟩ := q1
          dsimp only at hk hv
          refine ⟨.cons ?_ a, .cons ?_ b⟩
          · rw [← hk] at p1
            rcases keyIs_shape p1 with ⟨i, tt, ek, ev⟩ | ⟨x, tt, ek, ev⟩
            · subst ek; dsimp only; rw [ev]; exact .int i tt
            · subst ek; dsimp only; rw [ev]; exact .str x tt
          · dsimp only
            rw [p2]
            exact rdx_of I u v _ d r1 hv e1
        · cases e
end
end
def showX (d : PyData) : Bool := d.showable && (decide (d.depth ≤ 60) && decide (d.shown.length ≤ sizeLine))
def reprX : Op1 := fun u S => match toX u with
  | some d => if showX d = true then some (.str d.shown, S) else none
  | none => none
theorem cu_reprX {X : Cx} {G : Gx} (gd : X.A.guards = some []) (hu : X.A.units + 70 < cLine) : CallU G X (.builtin "repr") (on1 reprX) := by
  intro pins s σ H xs us0 Q I r1 ⟨m, S, us, z, S', st, r0, e0, q⟩
  obtain ⟨u, rfl, e⟩ := on1_some e0
  obtain ⟨v, rfl, r⟩ := r0.one1
  obtain ⟨y, rfl, ry⟩ := vals1 r1
  unfold reprX at e
  split at e
  · rename_i d hd
    split at e
    · rename_i ok
      cases e
      simp only [showX, Bool.and_eq_true, decide_eq_true_eq] at ok
      obtain ⟨sw, dep, sz⟩ := ok
      exact repr_x (rdx_of I u v y d r ry hd) sw gd (by omega) sz fun h' u tk hk => ⟨.str d.shown, H, I.un (Un.kept hk) (I.hok.kept hk), ⟨u, rfl⟩, q.here st rfl⟩
    · cases e
  · cases e
/-! a tuple against the empty one, whatever it holds -/
def eqE (neg : Bool) : Op2 := fun a b S => match a, b with
  | .tup us, .tup [] => some (.bl (if neg then !us.isEmpty else us.isEmpty), S)
  | _, _ => none
theorem eqE_some {neg : Bool} {a b z : U} {S S' : Sto} (h : eqE neg a b S = some (z, S')) : ∃ us, a = .tup us ∧ b = .tup [] ∧ z = .bl (if neg then !us.isEmpty else us.isEmpty) ∧ S' = S := by
  unfold eqE at h
  split at h
  · cases h; exact ⟨_, rfl, rfl, rfl, rfl⟩
  · cases h
section
variable {X : Cx} {G : Gx}
theorem vals_len : ∀ {vs : List V} {us : List Value}, Vals vs us → us.length = vs.length
  | _, _, .nil => rfl
  | _, _, .cons _ r => by simp [vals_len r]
theorem ou_eqE (hu : X.A.units < cLine) : OpU G X (compareOp .Eq) (eqE false) := by
  intro pins s σ H x y v u Q I rx ry ⟨m, S, u1, u2, z, S', st, r1, r2, e, q⟩
  obtain ⟨us, rfl, rfl, rfl, rfl⟩ := eqE_some e
  obtain ⟨a, vs, rfl, hq, rs⟩ := r1.tupT
  obtain ⟨b, ws, rfl, hq2, rs2⟩ := r2.tupT
  have := rs2.eqnil
  subst this
  cases rx
  cases ry
  obtain ⟨its, hv, ht, _⟩ := I.tuple hq
  obtain ⟨its2, hv2, ht2, _⟩ := I.tuple hq2
  cases hv2
  refine SeqAt.eq_tupleAt (e := fun _ => true) ht ht2 hu (fun j _ h2 => absurd h2 (by simp)) ⟨.bl _, H, I, rfl, ?_⟩
  have hl : its.length = us.length := by rw [vals_len hv, rs.length]
  have : ((List.range (min its.toArray.size (#[] : Array Value).size)).all (fun _ => true) && its.toArray.size == (#[] : Array Value).size) = us.isEmpty := by
    cases us with
    | nil => cases its with
      | nil => rfl
      | cons _ _ => simp at hl
    | cons _ _ => cases its with
      | nil => simp at hl
      | cons _ _ => simp
  rw [this]
  exact q.here st rfl
theorem ou_neE (hu : X.A.units < cLine) : OpU G X (compareOp .NotEq) (eqE true) := by
  intro pins s σ H x y v u Q I rx ry ⟨m, S, u1, u2, z, S', st, r1, r2, e, q⟩
  obtain ⟨us, rfl, rfl, rfl, rfl⟩ := eqE_some e
  obtain ⟨a, vs, rfl, hq, rs⟩ := r1.tupT
  obtain ⟨b, ws, rfl, hq2, rs2⟩ := r2.tupT
  have := rs2.eqnil
  subst this
  cases rx
  cases ry
  obtain ⟨its, hv, ht, _⟩ := I.tuple hq
  obtain ⟨its2, hv2, ht2, _⟩ := I.tuple hq2
  cases hv2
  refine SeqAt.RcNeAt.tuples (e := fun _ => true) ht ht2 hu (fun j _ h2 => absurd h2 (by simp)) X.prog X.w _ _ ⟨.bl _, H, I, rfl, ?_⟩
  have hl : its.length = us.length := by rw [vals_len hv, rs.length]
  have : (!((List.range (min its.toArray.size (#[] : Array Value).size)).all (fun _ => true) && its.toArray.size == (#[] : Array Value).size)) = !us.isEmpty := by
    cases us with
    | nil => cases its with
      | nil => rfl
      | cons _ _ => simp at hl
    | cons _ _ => cases its with
      | nil => simp at hl
      | cons _ _ => simp
  rw [this]
  exact q.here st rfl
/-- the empty tuple first, then data -/
def eqUE (neg : Bool) : Op2 := orO (eqE neg) (eqU neg)
theorem ou_eqUE (hu : X.A.units + 64 < cLine) : OpU G X (compareOp .Eq) (eqUE false) := opU_or (ou_eqE (by omega)) (ou_eq hu)
theorem ou_neUE (hu : X.A.units + 64 < cLine) : OpU G X (compareOp .NotEq) (eqUE true) := opU_or (ou_neE (by omega)) (ou_ne hu)
end
/-- {} that nobody changes -/
theorem ee_dnewI {X : Cx} {G : Gx} {pos : Pos} : EE G X (.Dict [] [] pos) (cCst (.dct [])) := pe_dnewK.imp fun σ H Q ⟨m, S, env, z, S', st, re, hc, q⟩ => by
  cases hc
  exact q.dct st RKs.nil
end OF

namespace OF
open PySem PySem.Spec PyProof.Rows L2
/-! truths as numbers -/
def bI (k : Bool) : Int := if k = true then 1 else 0
section
variable {prog : Program} {w : World} {A : Around} {E : Value → Shared → Prop} {s : Shared}
theorem neg_bool {a : Bool} {Q : Value → Shared → Prop} (h : Q (.int (-bI a) s.toks) { s with toks := s.toks + 1 }) : wpAny (model prog w) A (unaryOp .USub (.bool a)) Q E s :=
  unaryOp_gives (op := .USub) (PySem.typeIs_bool s a) rfl F.slot_bool_neg F.entry_int_neg (F.args_int_neg_1 _) (show Gives (Builtin.«int.__neg__» ⟨[.bool a], []⟩) (.int (-bI a)) by cases a <;> exact .of_eq rfl) h
end
section
variable {X : Cx} {G : Gx}
def addBI : Op2 := fun a b S => match a, b with
  | .bl k, .int j => some (.int (bI k + j), S)
  | _, _ => none
def subBI : Op2 := fun a b S => match a, b with
  | .bl k, .int j => some (.int (bI k - j), S)
  | _, _ => none
theorem ou_addBI : OpU G X (binaryOp .Add) addBI := by
  intro pins s σ H x y v u Q I rx ry ⟨m, S, u1, u2, z, S', st, r1, r2, e, q⟩
  unfold addBI at e
  split at e
  · rename_i k j
    cases e
    cases r1
    cases r2
    cases rx
    obtain ⟨t, rfl⟩ := ry
    exact PySem.IntBool.add_bool_int ⟨.int (bI k + j), H, I.tok _, ⟨_, rfl⟩, q.here st rfl⟩
  · cases e
theorem ou_subBI : OpU G X (binaryOp .Sub) subBI := by
  intro pins s σ H x y v u Q I rx ry ⟨m, S, u1, u2, z, S', st, r1, r2, e, q⟩
  unfold subBI at e
  split at e
  · rename_i k j
    cases e
    cases r1
    cases r2
    cases rx
    obtain ⟨t, rfl⟩ := ry
    exact PySem.IntBool.sub_bool_int ⟨.int (bI k - j), H, I.tok _, ⟨_, rfl⟩, q.here st rfl⟩
  · cases e
def addUB (mu : Bool) : Op2 := orO (addU mu) addBI
theorem ou_addUB (mu : Bool) : OpU G X (binaryOp .Add) (addUB mu) := opU_or (ou_addA mu) ou_addBI
def subUB : Op2 := orO (o2I fun i j => some (.int (i - j))) subBI
theorem ou_subUB : OpU G X (binaryOp .Sub) subUB := opU_or ou_sub ou_subBI
def negUB : Op1 := fun u S => match u with
  | .int i => some (.int (-i), S)
  | .bl k => some (.int (-bI k), S)
  | _ => none
theorem uu_negUB : UnU G X (unaryOp .USub) negUB := by
  intro pins s σ H x v Q I rx ⟨m, S, u1, z, S', st, r1, e, q⟩
  unfold negUB at e
  split at e
  · rename_i i
    cases e
    exact un_neg pins s σ H x v Q I rx ⟨i, r1, q.here st rfl⟩
  · rename_i k
    cases e
    cases r1
    cases rx
    exact neg_bool ⟨.int (-bI k), H, I.tok _, ⟨_, rfl⟩, q.here st rfl⟩
  · cases e
def strUB : Op1 := fun u S => match u with
  | .bl k => some (.str (if k then "True" else "False"), S)
  | u => strU u S
theorem cu_strUB : CallU G X (.type "str") (on1 strUB) := by
  intro pins s σ H xs us0 Q I r1 ⟨m, S, us, z, S', st, r0, e0, q⟩
  obtain ⟨u, rfl, e⟩ := on1_some e0
  cases u with
  | bl k =>
    obtain ⟨v, rfl, r⟩ := r0.one1
    cases e
    cases r
    obtain ⟨y, rfl, ry⟩ := vals1 r1
    cases ry
    exact PySem.P.str_of_bool ⟨.str _, H, I.tok _, ⟨_, rfl⟩, q.here st rfl⟩
  | _ => exact cu_str pins s σ H xs us0 Q I r1 ⟨m, S, _, z, S', st, r0, e, q⟩
end
@[simp] theorem addUB_ap (mu : Bool) (a b : U) (S : Sto) : addUB mu a b S = (match addU mu a b S with
  | some r => some r
  | none => addBI a b S) := rfl
@[simp] theorem subUB_ap (a b : U) (S : Sto) : subUB a b S = (match o2I (fun i j => some (.int (i - j))) a b S with
  | some r => some r
  | none => subBI a b S) := rfl
end OF

namespace OF
open PySem PySem.Spec PyProof.Rows L2
/-! t[::-1] of a tuple -/
section
variable {prog : Program} {w : World} {A : Around} {E : Value → Shared → Prop} {s : Shared}
theorem adj_back (n : Nat) : Builtin.Slice.sliceAdjust none none (-1) (n : Int) = ((n : Int) - 1, -1) := by
  first | rfl | simp [Builtin.Slice.sliceAdjust]
theorem places_back (n : Nat) : Builtin.Slice.slicePlaces ((n : Int) - 1) (-1) (-1) = n := by
  unfold Builtin.Slice.slicePlaces
  by_cases h : n = 0
  · subst h; decide
  · simp
    omega
theorem applied_back {sl : Addr} {vl vu vk : Value} {n : Nat} {Q : Int × Int × Nat → Shared → Prop} (z : s.heap.IsSliceOf sl vl vu vk) (pl : IsPart vl none) (pu : IsPart vu none) (pk : IsPart vk (some (-1)))
    (fin : Q ((n : Int) - 1, -1, n) s) : wpAny (model prog w) A (Builtin.Slice.sliceApplied (.ref sl) (pure (n : Int))) Q E s := by
  obtain ⟨ob, ho, hc, hd⟩ := id z
  unfold Builtin.Slice.sliceApplied Builtin.Slice.sliceFields
  apply wpAny_bind
  refine wpAny_bind (wpAny_field ho hd (x := vl) rfl (wpAny_bind (wpAny_field ho hd (x := vu) rfl (wpAny_bind (wpAny_field ho hd (x := vk) rfl (wpAny_pure ?_))))))
  refine wpAny_bind (HT.slicePart_ pk ?_)
  show wpAny _ _ (if ((-1 : Int) == 0) = true then _ else _) _ _ s
  rw [if_neg (by decide)]
  refine wpAny_bind (HT.slicePart_ pl (wpAny_bind (HT.slicePart_ pu (wpAny_bind (wpAny_pure ?_)))))
  show wpAny _ _ (match Builtin.Slice.sliceAdjust none none (-1) (n : Int) with | (lo, hi) => pure (lo, (-1 : Int), Builtin.Slice.slicePlaces lo hi (-1))) _ _ s
  rw [adj_back n]
  show wpAny _ _ (pure ((n : Int) - 1, (-1 : Int), Builtin.Slice.slicePlaces ((n : Int) - 1) (-1) (-1))) _ _ s
  rw [places_back]
  exact wpAny_pure fin
theorem pick_back (xs : Array Value) : ((List.range xs.size).filterMap fun (k : Nat) => xs[(((xs.size : Int) - 1) + (k : Int) * (-1)).toNat]?).toArray = xs.toList.reverse.toArray := by
  congr 1
  have e : ∀ k ∈ List.range xs.size, xs[(((xs.size : Int) - 1) + (k : Int) * (-1)).toNat]? = xs.toList.reverse[k]? := by
    intro k hk
    have hk := List.mem_range.mp hk
    have : (((xs.size : Int) - 1) + (k : Int) * (-1)).toNat = xs.size - 1 - k := by omega
    rw [this, List.getElem?_reverse (by simpa using hk)]
    simp
  have fm : ∀ (l : List Nat) (f g : Nat → Option Value), (∀ k ∈ l, f k = g k) → l.filterMap f = l.filterMap g := by
    intro l f g h
    induction l with
    | nil => rfl
    | cons a l ih => rw [List.filterMap_cons, List.filterMap_cons, h a (by simp), ih fun k hk => h k (by simp [hk])]
  rw [fm _ _ _ e]
  have h2 : ∀ (l : List Value), (List.range l.length).filterMap (fun k => l[k]?) = l := by
    intro l
    have := PySem.W.krv_all l.toArray
    simpa using this
  have := h2 xs.toList.reverse
  simpa using this
theorem getTup_back {t sl : Addr} {its : Array Value} {vl vu vk : Value} {Q : Value → Shared → Prop} (tt : IsTup s.heap t its) (z : s.heap.IsSliceOf sl vl vu vk) (pl : IsPart vl none) (pu : IsPart vu none) (pk : IsPart vk (some (-1)))
    (fin : Q (.ref s.heap.objs.size) { s with heap := s.heap.push { cls := .type "tuple", data := .seq its.toList.reverse.toArray } }) (sz : its.size ≤ sizeLine) : wpAny (model prog w) A (getItem (.ref t) (.ref sl)) Q E s := by
  have room : sizeOk (.seq its.toList.reverse.toArray) := by
    show its.toList.reverse.toArray.size ≤ sizeLine
    simpa using sz
  obtain ⟨ob, ho, hc, hd⟩ := id z
  have ty : s.TypeIs (.ref sl) "slice" := ⟨ob, ho, hc⟩
  unfold getItem
  try with_reducible apply wpAny_holding
  first | exact wpAny_bind (wpAny_pure (by skip)) | skip
  refine wpAny_bind (wpAny_sequenceKey tt.typeIs (by decide) ?_)
  refine wpAny_bind (wpAny_callSpecial?_slot (name := Str.ofString "__getitem__") tt.typeIs PyProof.Rows.slot_tuple_getitem (wpAny_call_entry PyProof.Rows.slot_tuple_getitem tt.typeIs entry_tuple_getitem ?_ (args_tuple_getitem _ _)))
  show wpAny _ _ (Builtin.Tuple.tupleItemsOf (.ref t) >>= _) _ _ s
  refine wpAny_bind (tupleItemsOf_ tt ?_)
  refine wpAny_bind (wpAny_typeOf ty ?_)
  rw [if_pos (by decide)]
  refine wpAny_bind (applied_back z pl pu pk ?_)
  have no : ¬ ((((its.size : Int) - 1) == 0 && (-1 : Int) == 1 && its.size == its.size) = true) := by simp
  show wpAny _ _ (if (((its.size : Int) - 1) == 0 && (-1 : Int) == 1 && its.size == its.size) = true then _ else _) _ _ s
  rw [if_neg no, pick_back]
  first
    | exact wpAny_bind (m := Builtin.Tuple.tupleExact _) (wpAny_newObj_type (wpAny_pure ⟨_, rfl, wpAny_pure fin⟩) room)
    | exact wpAny_bind (m := Builtin.Tuple.tupleExact _) (wpAny_newObj_type (wpAny_bind (wpAny_pure (wpAny_pure ⟨_, rfl, wpAny_pure fin⟩))) room)
    | exact wpAny_bind (wpAny_bind (m := Builtin.Tuple.tupleExact _) (wpAny_newObj_type (wpAny_pure (wpAny_pure ⟨_, rfl, wpAny_pure fin⟩)) room))
    | exact wpAny_bind (wpAny_bind (m := Builtin.Tuple.tupleExact _) (wpAny_newObj_type (wpAny_pure ⟨_, rfl, wpAny_pure fin⟩) room))
end
section
variable {X : Cx} {G : Gx}
def tRevT (K : PySem.W.Frag) (te : TE) : TE := fun σ H Q => te σ H fun x H1 => ∃ a xs, x = .ref a ∧ SqT K H1 a xs ∧ ∀ p, H1 p = none → Q (.ref p) (L2.upd H1 p (.tup xs.reverse))
theorem pe_revT {e : Expr} {te : TE} {k : Nat} {p1 p2 p3 pos : Pos} (he : PE X e te) : PE X (.Subscript e (.Slice none none (some (.UnaryOp .USub (.Constant (.int 1) k p1) p2)) p3) pos) (tRevT X.K te) := by
  refine ⟨fun pins s σ H Q I h => ?_⟩
  refine Subscript_ (thn (he.run pins s σ H _ I h) fun v s1 z => ?_)
  obtain ⟨x, H1, I1, r1, a, xs, ex, hx, q⟩ := z
  subst ex
  cases r1
  have back : PO X (some (.UnaryOp .USub (.Constant (.int 1) k p1) p2)) (tPart (tUn (rU fun i => .int (-i)) (tC (.int 1)))) := po_some (pe_un un_neg pe_int)
  refine wpAny_Slice (thn (po_none.run pins s1 σ H1 (fun o K1 => o = none ∧ K1 = H1) I1 ⟨rfl, rfl⟩) fun vl s2 z2 => ?_)
  obtain ⟨l, H2, I2, pl, el, e2⟩ := z2
  subst el e2
  refine thn (po_none.run pins s2 σ H2 (fun o K2 => o = none ∧ K2 = H2) I2 ⟨rfl, rfl⟩) fun vu s3 z3 => ?_
  obtain ⟨u, H3, I3, pu, eu, e3⟩ := z3
  subst eu e3
  refine thn (back.run pins s3 σ H3 (fun o K3 => o = some (-1) ∧ K3 = H3) I3 ⟨1, rfl, -1, rfl, rfl, rfl⟩) fun vs s4 z4 => ?_
  obtain ⟨o, H4, I4, ps, eo, e4⟩ := z4
  subst eo e4
  have J : Inv X pins σ H4 { s4 with heap := s4.heap.push { cls := .type "slice", data := .fields #[vl, vu, vs] } } := I4.kept (t' := s4.toks) fun b ob q => Heap.get?_push_of_some _ q
  obtain ⟨its, r, ht, hz⟩ := J.tuple hx
  have hlen : its.length = xs.length := vals_len r
  show wpAny (model X.prog X.w) X.A (subscriptTail e (.Slice none none (some (.UnaryOp .USub (.Constant (.int 1) k p1) p2)) p3) (.ref a) (.ref s4.heap.objs.size)) (EP X pins σ Q) X.xe _
  refine tail_any (ops := [.ref a, .ref s4.heap.objs.size]) ht.typeIs (PyProof.Rows.slot_tuple_getitem.lookup) ?_ (by with_unfolding_all rfl)
  refine getTup_back ht (Heap.IsSliceOf.new _ vl vu vs) pl pu ps ?_ (by rw [List.size_toArray]; omega)
  refine ⟨.ref _, _, J.laid (t' := s4.toks) (o := .tup xs.reverse) (fun b ob q => Heap.get?_push_of_some _ q) (Nat.le_refl _) ?_, rfl, q _ (J.hok.fresh (Nat.le_refl _))⟩
  exact ⟨by rw [List.length_reverse]; exact hz, _, r.reverse, IsTup.new _ _⟩
def revUT (mu : Bool) : Op1 := fun u S => match u with
  | .tup us => some (.tup us.reverse, S)
  | u => revU mu u S
@[simp] theorem revUT_t (mu : Bool) (us : List U) (S : Sto) : revUT mu (.tup us) S = some (.tup us.reverse, S) := rfl
@[simp] theorem revUT_l (mu : Bool) (us : List U) (S : Sto) : revUT mu (.lst us) S = revU mu (.lst us) S := rfl
@[simp] theorem revUT_r (mu : Bool) (n : Nat) (S : Sto) : revUT mu (.ref n) S = revU mu (.ref n) S := rfl
theorem RUs.rev {K : PySem.W.Frag} {m : Mp} {H : Hp} : ∀ {us : List U} {vs : List V}, RUs K G m H us vs → RUs K G m H us.reverse vs.reverse
  | [], vs, r => by have := r.eqnil; subst this; exact RUs.nil
  | u :: us, vs, r => by
    obtain ⟨v, t, rfl, r1, r2⟩ := r.uncons
    rw [List.reverse_cons, List.reverse_cons]
    exact (RUs.rev r2).append (RUs.one r1)
theorem ee_revA {e : Expr} {ca : Cm U} {k : Nat} {p1 p2 p3 pos : Pos} (mu : Bool) (he : EE G X e ca) : EE G X (.Subscript e (.Slice none none (some (.UnaryOp .USub (.Constant (.int 1) k p1) p2)) p3) pos) (cUn (revUT mu) ca) := ⟨fun pins s σ H Q I hw => by
  obtain ⟨m, S, env, z, S', st, re, hc, q⟩ := hw
  obtain ⟨u, S1, e1, e2⟩ := cUn_some hc
  by_cases hu : ∃ us, u = .tup us
  · obtain ⟨us, rfl⟩ := hu
    cases e2
    refine (pe_revT he).run pins s σ H Q I ⟨m, S, env, .tup us, _, st, re, e1, fun m1 H1 v x1 st1 r1 => ?_⟩
    obtain ⟨a, vs, rfl, hq, rs⟩ := r1.tupT
    exact ⟨a, vs, rfl, hq, After.tup (fun m' H' v' x' st' r' => q m' H' v' (x1.trans x') st' r') st1 (RUs.rev rs)⟩
  · have e3 : revU mu u S1 = some (z, S') := by
      cases u <;> first | exact e2 | exact absurd ⟨_, rfl⟩ hu
    exact (ee_rev mu he).run pins s σ H Q I ⟨m, S, env, z, S', st, re, by unfold cUn; rw [e1]; exact e3, q⟩⟩
end
end OF

namespace OF
open PySem PySem.Spec PyProof.Rows L2
/-! len(set(xs)) of texts and ints, alike ones too -/
def memK (y : Key) (l : List Key) : Bool := l.any fun x => decide (x = y)
theorem memK_iff {y : Key} {l : List Key} : memK y l = true ↔ y ∈ l := by simp [memK]
def addK (a : List Key) (k : Key) : List Key := if memK k a = true then a else a ++ [k]
def ddK (l : List Key) : List Key := l.foldl addK []
theorem ddK_snoc (l : List Key) (k : Key) : ddK (l ++ [k]) = addK (ddK l) k := by
  unfold ddK
  rw [List.foldl_append]
  rfl
theorem memK_add {y k : Key} {a : List Key} : memK y (addK a k) = (memK y a || decide (y = k)) := by
  have e : (decide (k = y)) = decide (y = k) := by
    by_cases h : k = y
    · subst h; rfl
    · have h2 : ¬ y = k := fun z => h z.symm
      simp [h, h2]
  unfold addK
  by_cases h : memK k a = true
  · rw [if_pos h]
    by_cases e2 : y = k
    · subst e2; simp [h]
    · simp [e2]
  · rw [if_neg h]
    simp [memK, e]
theorem addK_len (a : List Key) (k : Key) : (addK a k).length = if memK k a = true then a.length else a.length + 1 := by
  unfold addK
  split <;> simp
theorem ddK_len (l : List Key) : (ddK l).length ≤ l.length := by
  have go : ∀ (l a : List Key), (l.foldl addK a).length ≤ a.length + l.length := by
    intro l
    induction l with
    | nil => intro a; simp
    | cons x l ih =>
      intro a
      rw [List.foldl_cons]
      have h1 := ih (addK a x)
      have h2 := addK_len a x
      simp only [List.length_cons]
      split at h2 <;> omega
  have := go l []
  simpa [ddK] using this
section
variable {prog : Program} {w : World} {A : Around} {R : Result → Shared → Prop} {I : Addr} {fp wr : List Addr} {Gg : Array GenState → Array GenState → Prop} {n : Nat} {Pv : Nat → Value → Prop} {Ss : Nat → Shared → Prop}
theorem keys_loop (W : WalksS prog w A.in1 I fp wr Gg n Pv Ss) (T : Addr) (out : T ∉ fp) (ks : List Key) (len : ks.length = n) (few : n + 1 < scanBound)
    (val : ∀ i v, Pv i v → ∃ k, ks[i]? = some k ∧ keyIs k v = true ∧ v.scannable = true) :
    ∀ (j i : Nat) (s : Shared), n - i = j → i ≤ n → Ss i s → s.heap.SetOf (mixKind prog w) T (fun y => memK y (ddK (ks.take i))) (ddK (ks.take i)).length →
      (∀ s', Moved (T :: wr) Gg s s' → s'.heap.SetOf (mixKind prog w) T (fun y => memK y (ddK ks)) (ddK ks).length → R (.ok (.ret .none)) s') →
      codeAny (model prog w) A (.builtin "set.update.loop" ⟨[.ref T, .ref I], []⟩) R s := by
  have away : T ∉ wr := fun z => out (W.sub _ z)
  have wide : ∀ b ∈ wr, b ∈ T :: wr := fun b z => List.mem_cons_of_mem _ z
  intro j
  induction j with
  | zero =>
    intro i s hj hi st hs fin
    have e : i = n := by omega
    subst e
    refine codeAny_builtin PyProof.Rows.F.entry_set_update_loop ?_; rw [Around.under_plainId PyProof.Rows.F.plain_set_update_loop _]; show wpAny _ A.in1 (pyNext (.ref I) >>= _) _ _ s
    refine wpAny_bind (W.done s _ _ st fun s' mv => ?_)
    show wpAny _ A.in1 (ret Value.none) _ _ s'
    rw [List.take_of_length_le (by omega : ks.length ≤ i)] at hs
    refine wpAny_pure (fin s' (mv.mono wide) ?_)
    obtain ⟨o, es, ep, t, ho, more⟩ := hs
    exact ⟨o, es, ep, t, mv.heap T _ away ho, more⟩
  | succ j ih =>
    intro i s hj hi st hs fin
    have lt : i < n := by omega
    refine codeAny_builtin PyProof.Rows.F.entry_set_update_loop ?_; rw [Around.under_plainId PyProof.Rows.F.plain_set_update_loop _]; show wpAny _ A.in1 (pyNext (.ref I) >>= _) _ _ s
    refine wpAny_bind (W.item i s _ _ lt st fun v s' pv st' mv => ?_)
    obtain ⟨k, hk, hv, sc⟩ := val i v pv
    have hs' : s'.heap.SetOf (mixKind prog w) T (fun y => memK y (ddK (ks.take i))) (ddK (ks.take i)).length := by
      obtain ⟨o, es, ep, t, ho, more⟩ := hs
      exact ⟨o, es, ep, t, mv.heap T _ away ho, more⟩
    show wpAny _ A.in1 (holding [v] (setAdd T v) >>= _) _ _ s'
    apply wpAny_bind
    apply wpAny_holding
    unfold setAdd
    apply wpAny_holding
    have room : (ddK (ks.take i)).length + 1 < scanBound := by
      have := ddK_len (ks.take i)
      have := List.length_take (i := i) (l := ks)
      omega
    refine wpAny_bind ((mixKind prog w).pyHash (k := k) hv ?_)
    refine wpAny_setAddHashed_of (knd := mixKind prog w) (s := { s' with toks := s'.toks + 1 }) hv sc hs' room fun h' sb hs2 => ?_
    have tk : ks.take (i + 1) = ks.take i ++ [k] := by rw [List.take_add_one, hk]; rfl
    have hs3 : h'.SetOf (mixKind prog w) T (fun y => memK y (ddK (ks.take (i + 1)))) (ddK (ks.take (i + 1))).length := by
      have q1 : (fun y => memK y (ddK (ks.take i)) || decide (y = k)) = fun y => memK y (ddK (ks.take (i + 1))) := funext fun y => by rw [tk, ddK_snoc, memK_add]
      have q2 : (if memK k (ddK (ks.take i)) = true then (ddK (ks.take i)).length else (ddK (ks.take i)).length + 1) = (ddK (ks.take (i + 1))).length := by rw [tk, ddK_snoc, addK_len]
      rw [← q1, ← q2]
      exact hs2
    refine wpAny_pure ⟨plainId_quiet PyProof.Rows.F.plain_set_update_loop _, ih (i + 1) _ (by omega) lt (W.frame _ s' _ _ st' (Nat.le_succ _) fun b hb o e => ?_) hs3 fun s2 mv2 hs4 => ?_⟩
    · rw [sb.2 b (fun z : b = T => out (by rw [← z]; exact hb))]; exact e
    · refine fin s2 (Moved.trans W.gtrans ((mv.mono wide).then_heap (Nat.le_succ _) fun b o hb e => ?_) mv2) hs4
      rw [sb.2 b (fun z : b = T => hb (by rw [z]; exact List.mem_cons_self))]; exact e
end
section
variable {prog : Program} {w : World} {A : Around} {E : Value → Shared → Prop} {s : Shared}
def freshSet (led : Bool) : Obj := { cls := .type "set", dict := none, data := .set #[] 0 (.fresh 0 0 led) }
theorem call_set_keys {l : Addr} {items : Array Value} {ks : List Key} {Q : Value → Shared → Prop} (hh : A.handled = none) (il : s.heap.IsList l items) (len : ks.length = items.size) (few : items.size + 1 < scanBound)
    (val : ∀ (i : Nat) (v : Value), items[i]? = some v → ∃ k, ks[i]? = some k ∧ keyIs k v = true ∧ v.scannable = true)
    (fin : ∀ (h' : Heap) (tk : Nat), h'.SetOf (mixKind prog w) s.heap.objs.size (fun y => memK y (ddK ks)) (ddK ks).length → (∀ b o, b < s.heap.objs.size → s.heap.get? b = some o → h'.get? b = some o) → Q (.ref s.heap.objs.size) { s with heap := h', toks := tk }) :
    wpAny (model prog w) A (call (.type "set") [.ref l]) Q E s := by
  obtain ⟨cc, tl, mro⟩ := PySem.F.called_set.mro
  have made := PySem.F.called_set.made
  have subt := PySem.F.called_set.sub
  refine wpAny_call (codeAny_of_tree ?_); show wpAny _ _ (callAny (.type "set") _) _ _ _
  refine wpAny_pure ⟨Code.quiet_builtin _ (by decide +kernel), codeAny_builtin PySem.F.entry_type_call ?_⟩; rw [Around.under_plain (weight_type_call_type "set" [.ref l] []) rfl]
  have nt := PySem.F.called_set.notType
  have cr := PySem.F.called_set.canCreate
  have ct := PySem.F.typeCall_set_1 (.ref l)
  (repeat (any_goals (first | assumption | wp_step))); refine codeAny_mono (code_set_new_1 (.ref l) (E := E) (Q₁ := fun obj t₁ => ∃ led : Bool, obj = .ref s.heap.objs.size ∧ t₁ = { s with heap := s.heap.push (freshSet led) }) fun led => ⟨led, rfl, rfl⟩) fun r t₁ hr => ?_
  cases r with
  | error e => exact hr
  | ok fl =>
    cases fl with
    | ret obj =>
      obtain ⟨led, rfl, rfl⟩ := hr
      have at_ : (s.heap.push (freshSet led)).get? s.heap.objs.size = some (freshSet led) := Heap.get?_push_size _ rfl
      have ty : Shared.TypeIs { s with heap := s.heap.push (freshSet led) } (.ref s.heap.objs.size) "set" := ⟨_, at_, rfl⟩
      have li := PySem.F.called_set.init.lookup
      have bi := PySem.F.called_set.init.bind (.ref s.heap.objs.size)
      (repeat (any_goals (first | assumption | wp_step))); refine codeAny_mono (codeAny_call_builtin (R := wants (fun r t₂ => r = .none ∧ ∃ h' tk, t₂ = { s with heap := h', toks := tk } ∧ h'.SetOf (mixKind prog w) s.heap.objs.size (fun y => memK y (ddK ks)) (ddK ks).length ∧
          (∀ b o, b < s.heap.objs.size → s.heap.get? b = some o → h'.get? b = some o)) E) PySem.F.called_set.init.plain PySem.F.entry_set_init (check_set_init_1 ty ?_)) fun r₂ t₂ hr₂ => ?_
      · obtain ⟨ol, hol, hcl, nl, hdl⟩ := il
        obtain ⟨ocls, odict, odata, oslots⟩ := ol; simp only at hcl hdl; subst hcl; subst hdl
        have hol' : (s.heap.push (freshSet led)).get? l = some { cls := .type "list", dict := odict, data := .seq items nl, slots := oslots } := Heap.get?_push_of_some _ hol
        have n1 := PySem.F.sub_list_set
        have n2 := PySem.F.sub_list_frozenset
        have n3 : (Value.type "list" == Value.type "dict") = false := by decide
        have il1 : (s.heap.push (freshSet led)).IsList l items := ⟨_, hol', rfl, nl, rfl⟩
        unfold Builtin.«set.__init__» noKeywords Builtin.Frozenset.updateFrom; generalize ePI : pyIter = PJ
        wp_walk
        subst ePI
        refine wpAny_pyIter_list il1 ?_
        refine wpAny_bind (wpAny_runValue ?_)
        have low : l < s.heap.objs.size := Heap.lt_size hol
        have calm : A.in1.in1.in1.handled = none := by simp [hh]
        have ne : l ≠ (s.heap.push (freshSet led)).objs.size := by
          rw [Heap.size_push]
          exact Nat.ne_of_lt (Nat.lt_succ_of_lt low)
        have off : s.heap.objs.size ∉ [(s.heap.push (freshSet led)).objs.size, l] := by
          rw [Heap.size_push]
          simp only [List.mem_cons, List.not_mem_nil, or_false, not_or]
          exact ⟨Nat.ne_of_lt (Nat.lt_succ_self _), Nat.ne_of_gt low⟩
        refine keys_loop ((Walks.list calm _ l ne items).toS) s.heap.objs.size off ks len few (fun i v hv => val i v hv) (items.size - 0) 0 _ (by omega) (Nat.zero_le _) ⟨⟨_, Heap.get?_push_size _ rfl, rfl, rfl⟩, (il1.push _)⟩ ?zero ?past
        case zero =>
          have g0 : ((s.heap.push (freshSet led)).push { cls := .type "list_iterator", data := .fields #[.ref l, .int 0 0] }).get? s.heap.objs.size = some (freshSet led) := Heap.get?_push_of_some _ at_
          exact ⟨_, #[], 0, _, g0, ⟨rfl, rfl, rfl⟩, rfl, (fun e he => by simp at he), (fun k => by simp [memK, ddK]), (by decide), (by rfl), rfl⟩
        case past =>
          intro t' mv ht
          obtain ⟨h', g', d', tk', os'⟩ := t'
          have eg : g' = s.gens := mv.gens; have ed : d' = s.drawn := mv.drawn; have eo : os' = s.os := mv.os
          subst eg
          subst ed
          subst eo
          show wpAny _ _ _ _ _ _; apply wpAny_pure; show wpAny _ _ (ret Value.none) _ _ _
          refine wpAny_pure ⟨rfl, h', tk', rfl, ht, fun b o hb e => ?_⟩
          have b1 : b ≠ s.heap.objs.size := Nat.ne_of_lt hb
          have b2 : b ≠ (s.heap.push (freshSet led)).objs.size := by
            rw [Heap.size_push]
            exact Nat.ne_of_lt (Nat.lt_succ_of_lt hb)
          exact mv.heap b o (by simp only [List.mem_cons, List.not_mem_nil, or_false, not_or]; exact ⟨b1, b2⟩) (Heap.get?_push_of_some _ (Heap.get?_push_of_some _ e))
      · cases r₂ with
        | error e => exact hr₂
        | ok fl₂ =>
          cases fl₂ with
          | ret r =>
            obtain ⟨rfl, h', tk, rfl, ht, keep⟩ := hr₂
            (repeat (any_goals (first | assumption | wp_step))); exact fin _ _ ht keep
          | _ => exact hr₂.elim
    | _ => exact hr.elim
end
section
variable {X : Cx} {G : Gx}
def tLenSetK (K : PySem.W.Frag) (ta : TE) : TE := fun σ H Q => ta σ H fun x H1 => ∃ (l : Addr) (ks : List Key), x = .ref l ∧ SqL K H1 l (ks.map kV) ∧ ks.length ≤ 4000 ∧ Q (.int ((ddK ks).length : Nat)) H1
theorem vals_keys (P : Program) (w : World) : ∀ {ks : List Key} {us : List Value}, Vals (ks.map kV) us → ∀ (i : Nat) (v : Value), us[i]? = some v → ∃ k, ks[i]? = some k ∧ keyIs k v = true ∧ v.scannable = true
  | [], _, .nil, i, v, h => by simp at h
  | k :: ks, _, .cons r t, 0, v, h => by
    simp at h
    subst h
    exact ⟨k, rfl, kV_is (P := P) (w := w) r, key_scan r⟩
  | k :: ks, _, .cons r t, i + 1, v, h => by
    simp only [List.getElem?_cons_succ] at h ⊢
    exact vals_keys P w t i v h
theorem pe_lenSetK {a : Expr} {ta : TE} {p p2 q pos : Pos} (hc : X.calm = true) (hg : Gl X "len") (hm : X.mg "len" = none) (hg2 : Gl X "set") (hm2 : X.mg "set" = none) (ha : PE X a ta)
    (na : starEach [a] X.env = (false, eval a X.env) :: starEach [] X.env := by rfl) : PE X (.Call (.Name "len" p) [.Call (.Name "set" p2) [a] [] q] [] pos) (tLenSetK X.K ta) := by
  refine ⟨fun pins s σ H Q I h => ?_⟩
  refine Call_ (ld_blt I hg hm boot_len ?_); refine PyProof.Rows.callWith_builtin1 (PyProof.Rows.args_cons ?_ rfl) rfl rfl; refine Call_ (ld_blt I hg2 hm2 boot_set ?_)
  refine PyProof.Rows.callWith_type1 (PyProof.Rows.args_cons (thn (ha.run pins s σ H _ I h) fun v s1 z => PyProof.Rows.args_nil ?_) na) na rfl
  obtain ⟨x, H1, I1, r1, l, ks, rfl, hq, hl, q1⟩ := z
  cases r1
  obtain ⟨its, r, pl, hz⟩ := I1.list hq
  have len : ks.length = its.toArray.size := by rw [List.size_toArray, vals_len r, List.length_map]
  refine call_set_keys (I1.ok.hd hc) pl.isList len (by rw [← len]; unfold scanBound; omega) (fun i v hv => vals_keys X.prog X.w r i v (by simpa using hv)) fun h' tk hS hk => ?_
  refine PyProof.Rows.args_nil ?_
  obtain ⟨oo, es, ep, t, ho, hex, hd, _, _, _, hf, hn⟩ := hS
  have J : Inv X pins σ H1 { s1 with heap := h', toks := tk } := I1.kept fun b o e => hk b o (Heap.lt_size e) e
  have dl := ddK_len ks
  exact call_len_set ho hex hd hf (by rw [hn] <;> omega) ⟨.int (ddK ks).length, H1, J.tok _, ⟨_, by rw [hn]⟩, q1⟩
def keysV : List U → Option (List Key)
  | [] => some []
  | u :: us => match keyU u, keysV us with
    | some k, some ks => some (k :: ks)
    | _, _ => none
/-- len(set(xs)) -/
def cLenSet (c : Cm U) : Cm U := fun env S => match c env S with
  | none => none
  | some (u, S1) => match lstU S1 u with
    | none => none
    | some us => match keysV us with
      | none => none
      | some ks => if ks.length ≤ 4000 then some (.int (ddK ks).length, S1) else none
@[simp] theorem cLenSet_ap (c : Cm U) (env : Env') (S : Sto) : cLenSet c env S = (match c env S with
  | none => none
  | some (u, S1) => match lstU S1 u with
    | none => none
    | some us => match keysV us with
      | none => none
      | some ks => if ks.length ≤ 4000 then some (.int (ddK ks).length, S1) else none) := rfl
theorem keysV_ok {K : PySem.W.Frag} {m : Mp} {H : Hp} : ∀ {us : List U} {ks : List Key} {vs : List V}, keysV us = some ks → RUs K G m H us vs → vs = ks.map kV
  | [], ks, vs, h, r => by cases h; rw [r.eqnil]; rfl
  | u :: us, ks, vs, h, r => by
    obtain ⟨v, t, rfl, r1, r2⟩ := r.uncons
    simp only [keysV] at h
    split at h
    · rename_i k ks' e1 e2
      cases h
      rw [keysV_ok e2 r2]
      have : v = kV k := by
        cases u <;> simp only [keyU] at e1 <;> first | (cases e1; done) | skip
        all_goals (cases e1; unfold RU at r1; subst r1; rfl)
      rw [this]
      rfl
    · cases h
theorem ee_lenSet {a : Expr} {ca : Cm U} {p p2 q pos : Pos} (hc : X.calm = true) (hg : Gl X "len") (hm : X.mg "len" = none) (hg2 : Gl X "set") (hm2 : X.mg "set" = none) (ha : EE G X a ca)
    (na : starEach [a] X.env = (false, eval a X.env) :: starEach [] X.env := by rfl) : EE G X (.Call (.Name "len" p) [.Call (.Name "set" p2) [a] [] q] [] pos) (cLenSet ca) := (pe_lenSetK hc hg hm hg2 hm2 ha na).imp fun σ H Q ⟨m, S, env, z, S', st, re, hcm, qq⟩ => by
  unfold cLenSet at hcm
  split at hcm
  · cases hcm
  · rename_i u S1 e1
    split at hcm
    · cases hcm
    · rename_i us e2
      split at hcm
      · cases hcm
      · rename_i ks e3
        split at hcm
        · rename_i hl
          cases hcm
          refine ⟨m, S, env, u, _, st, re, e1, fun m1 H1 v x1 st1 r1 => ?_⟩
          obtain ⟨l, vs, rfl, hr, rv⟩ := lstU_ok st1 r1 e2
          have := keysV_ok e3 rv
          subst this
          exact ⟨l, ks, rfl, .inl hr, hl, qq m1 H1 _ x1 st1 rfl⟩
        · cases hcm
end
end OF

namespace OF
open PySem PySem.Spec PyProof.Rows L2
variable {X : Cx} {G : Gx}
/-! len of a dict, too -/
def lenUD : Op1 := fun u S => match dctU S u with
  | some kvs => some (.int kvs.length, S)
  | none => lenU u S
theorem cu_lenD : CallU G X (.builtin "len") (on1 lenUD) := by
  intro pins s σ H xs us0 Q I r1 ⟨m, S, us, z, S', st, r0, e0, q⟩
  obtain ⟨u, rfl, e⟩ := on1_some e0
  unfold lenUD at e
  split at e
  · rename_i kvs hd
    cases e
    obtain ⟨v, rfl, r⟩ := r0.one1
    obtain ⟨a, vs, rfl, hr, rk⟩ := dctU_ok st r hd
    have hl : vs.length = kvs.length := by
      have := congrArg List.length rk.keys
      simpa using this
    obtain ⟨y, rfl, ry⟩ := vals1 r1
    cases ry
    exact d_len I hr fun t s' J => ⟨.int vs.length, H, J, ⟨t, rfl⟩, by rw [hl]; exact q.here st rfl⟩
  · exact cu_len pins s σ H xs us0 Q I r1 ⟨m, S, [u], z, S', st, r0, e, q⟩
end OF

namespace OF
open PySem PySem.Spec PyProof.Rows L2
variable {X : Cx} {G : Gx}
variable {e a b st : Expr} {ca cs : Cm U} {cl : Cm (List U)} {pos p p2 p3 : Pos}
/-! enumerate(xs) of a list -/
def lsqU : U → Option (List U)
  | .lst us => some us
  | .scr us => some us
  | _ => none
def enumU (us : List U) : List U := zipU (rangeU 0 us.length) us
def itEnum (c : Cm (List U)) : Cm (List U) := fun env S => match c env S with
  | some ([u], S1) => match lsqU u with
    | some us => some (enumU us, S1)
    | none => none
  | _ => none
theorem RUs.rangeN {K : PySem.W.Frag} {m : Mp} {H : Hp} (n : Nat) : RUs K G m H (rangeU 0 n) ((List.range n).map fun (i : Nat) => V.int (i : Int)) := by
  unfold rangeU
  induction List.range n with
  | nil => exact RUs.nil
  | cons i t ih => exact RUs.cons (by show V.int _ = V.int _; simp) ih
theorem itok_enum {K : PySem.W.Frag} {m : Mp} {H : Hp} {us : List U} {vs : List V} {a : Addr} (r : RUs K G m H us vs) (hG : ∀ m2 H2, Ext m H m2 H2 → SqL K H2 a vs) : ItOk K G m H (enumU us) (Ite K a) := by
  have hl := r.length
  have w := walk_enum (K := K) (a := a) (xs := vs)
  refine itok_pair (vs := (List.range us.length).map fun (i : Nat) => V.int (i : Int)) (RUs.rangeN us.length) r (Gd := fun H => SqL K H a vs) ?_ hG
  rw [show min ((List.range us.length).map fun (i : Nat) => V.int (i : Int)).length vs.length = vs.length by simp; omega]
  refine w.mono (fun _ h => h) fun i H x H' hi _ ⟨T, x1, y1, ev, hT, eH, hx, hy⟩ => ⟨T, x1, y1, ev, hT, eH, ?_, hy⟩
  have hi' : i < us.length := by omega
  show ((List.range us.length).map fun (i : Nat) => V.int (i : Int))[i]? = some x1
  rw [List.getElem?_map, List.getElem?_range hi']
  exact hx
theorem ei_enum {elts : List Expr} {kk : Nat} {tpos : Pos} (hg : Gl X "enumerate") (hm : X.mg "enumerate" = none) (ha : EA G X [e] cl) (hs : starEach [e] X.env = [(false, eval e X.env)] := by rfl) : EI G X (.Tuple elts kk tpos) (.Call (.Name "enumerate" p) [e] [] pos) (itEnum cl) := (pi_enum hg hm ha hs).imp fun σ H R ⟨m, S, env, us, S', st, re, hc, q⟩ => by
  unfold itEnum at hc
  split at hc
  · rename_i u S1 e1
    split at hc
    · rename_i us1 e2
      cases hc
      refine ⟨m, S, _, _, _, st, re, e1, fun m1 H1 vs x1 st1 r1 => ?_⟩
      obtain ⟨v, r, ev, rv, rr⟩ := r1.uncons
      have := rr.eqnil
      subst this
      cases u with
      | lst us' =>
        cases e2
        obtain ⟨a, vs', ev', rv', hq⟩ := rv.lstSt
        exact ⟨a, vs', by rw [ev, ev'], hq m1 H1 (Ext.refl _ _), q m1 H1 x1 st1 _ (itok_enum rv' hq)⟩
      | scr us' =>
        cases e2
        obtain ⟨a, vs', ev', rv', hq⟩ := rv.scrSt
        exact ⟨a, vs', by rw [ev, ev'], hq m1 H1 (Ext.refl _ _), q m1 H1 x1 st1 _ (itok_enum rv' hq)⟩
      | _ => cases e2
    · cases hc
  · cases hc
/-! |, |=, &= -/
theorem ou_or : OpU G X (binaryOp .BitOr) (o2I fun i j => some (.int (Builtin.bitOr i j))) := opU_I0 (g := fun i j => .int (Builtin.bitOr i j)) op_or fun _ _ _ _ => rfl
theorem iu_or : IpU G X .BitOr (o2I fun i j => some (.int (Builtin.bitOr i j))) := fun pins s σ H x y v u Q I r1 r2 ⟨m, S, u1, u2, z, S', st, q1, q2, e, q⟩ => by
  obtain ⟨i, j, w, rfl, rfl, e', er⟩ := o2I_some e
  cases er
  cases e'
  exact iop_or pins s σ H x y v u Q I r1 r2 ⟨i, j, q1, q2, q.here st rfl⟩
theorem iu_and : IpU G X .BitAnd (o2I fun i j => some (.int (Builtin.bitAnd i j))) := fun pins s σ H x y v u Q I r1 r2 ⟨m, S, u1, u2, z, S', st, q1, q2, e, q⟩ => by
  obtain ⟨i, j, w, rfl, rfl, e', er⟩ := o2I_some e
  cases er
  cases e'
  exact iop_and pins s σ H x y v u Q I r1 r2 ⟨i, j, q1, q2, q.here st rfl⟩
/-! a text so many times -/
open Classical in
noncomputable def mulSU : Op2 := fun u v S => match u, v with
  | .str x, .int n => if MulOk x n then some (.str (Txt.mul x n), S) else none
  | _, _ => none
theorem op_mulS : OpR X (binaryOp .Mult) (fun x y H Q => ∃ z n, x = .str z ∧ y = .int n ∧ MulOk z n ∧ Q (.str (Txt.mul z n)) H) := by
  intro pins s σ H x y v u Q I rx ry h
  obtain ⟨z, n, rfl, rfl, hok, q⟩ := h
  obtain ⟨t, rfl⟩ := rx
  obtain ⟨t', rfl⟩ := ry
  exact SB.mul hok fun t2 k => ⟨.str _, H, I.tok _, ⟨_, rfl⟩, q⟩
theorem ou_mulS : OpU G X (binaryOp .Mult) mulSU := OpR.imp op_mulS fun x y H Q ⟨m, S, u1, u2, z, S', st, r1, r2, e, q⟩ => by
  unfold mulSU at e
  split at e
  · split at e
    · cases e
      exact ⟨_, _, r1, r2, by assumption, q.here st rfl⟩
    · cases e
  · cases e
/-! xs[::k], k 1 or -1 -/
def tStp (K : PySem.W.Frag) (te ts : TE) : TE := fun σ H Q => te σ H fun x H1 => ts σ H1 fun y H2 => ∃ (a : Addr) (xs : List V) (k : Int), x = .ref a ∧ y = .int k ∧ SqL K H2 a xs ∧ (k = 1 ∨ k = -1) ∧ ∀ p, H2 p = none → Q (.ref p) (upd H2 p (.lst (if k = 1 then xs else xs.reverse)))
theorem pick_all (items : Array Value) : slicePick items none none (some 1) = items := by
  have e : slicePick items none none (some 1) = slicePick items none none none := rfl
  rw [e, slicePick_all]
theorem pe_stp {te ts : TE} (he : PE X e te) (hs : PE X st ts) : PE X (.Subscript e (.Slice none none (some st) p3) pos) (tStp X.K te ts) := by
  refine ⟨fun pins s σ H Q I h => ?_⟩
  refine Subscript_ (thn (he.run pins s σ H _ I h) fun v s1 ⟨x, H1, I1, r1, q1⟩ => ?_)
  refine wpAny_Slice (thn (po_none.run pins s1 σ H1 (fun o H2 => o = none ∧ H2 = H1) I1 ⟨rfl, rfl⟩) fun vl s2 ⟨l, H2, I2, pl, el, e2⟩ => ?_)
  subst el e2
  refine thn (po_none.run pins s2 σ H2 (fun o H3 => o = none ∧ H3 = H2) I2 ⟨rfl, rfl⟩) fun vu s3 ⟨u, H3, I3, pu, eu, e3⟩ => ?_
  subst eu e3
  rw [evalPart_some]
  refine thn (hs.run pins s3 σ H3 _ I3 q1) fun vs s4 ⟨y, H4, I4, ry, q4⟩ => ?_
  obtain ⟨a, xs, k, ex, ey, hx, hk, q⟩ := q4
  subst ex ey
  cases r1
  obtain ⟨tk, rfl⟩ := ry
  have ps : IsPart (Value.int k tk) (some k) := .int k tk
  have I5 : Inv X pins σ H4 { s4 with heap := s4.heap.push { cls := .type "slice", data := .fields #[vl, vu, .int k tk] } } := I4.kept (t' := s4.toks) fun b ob q => Heap.get?_push_of_some _ q
  obtain ⟨its, r, ht, hz⟩ := I5.list hx
  have hlen := r.length
  show wpAny (model X.prog X.w) X.A (subscriptTail e (.Slice none none (some st) p3) (.ref a) (.ref s4.heap.objs.size)) (EP X pins σ Q) X.xe { s4 with heap := s4.heap.push { cls := .type "slice", data := .fields #[vl, vu, .int k tk] } }
  refine tail_any (ops := [.ref a, .ref s4.heap.objs.size]) ht.isList.typeIs (PySem.slot_list_getitem.lookup) ?_ (by with_unfolding_all rfl)
  refine wpAny_getItem_list_slice ht.isList (Heap.IsSliceOf.new _ vl vu (.int k tk)) pl pu ps (by rcases hk with rfl | rfl <;> decide) ?_ (by rw [List.size_toArray]; omega)
  rcases hk with rfl | rfl
  · rw [pick_all]
    refine ⟨.ref _, _, I5.laid (t' := s4.toks) (o := .lst xs) (fun b ob q => Heap.get?_push_of_some _ q) (Nat.le_refl _) ?_, rfl, q _ (I5.hok.fresh (Nat.le_refl _))⟩
    exact ⟨hz, _, 0, r, Heap.get?_push_size _ rfl⟩
  · rw [PySem.W.krv_pick]
    refine ⟨.ref _, _, I5.laid (t' := s4.toks) (o := .lst xs.reverse) (fun b ob q => Heap.get?_push_of_some _ q) (Nat.le_refl _) ?_, rfl, q _ (I5.hok.fresh (Nat.le_refl _))⟩
    exact ⟨by rw [List.length_reverse]; exact hz, _, 0, r.reverse, Heap.get?_push_size _ rfl⟩
def stpU (mu : Bool) : Op2 := fun u v S => match lstU S u, v with
  | some us, .int k => if k = 1 then outU mu us S else if k = -1 then outU mu us.reverse S else none
  | _, _ => none
theorem re_stp {K : PySem.W.Frag} (mu : Bool) {σ : L2.St} {H : Hp} {Q : VK} (h : RE K G (cBin (stpU mu) ca cs) σ H Q) : tStp K (RE K G ca) (RE K G cs) σ H Q := by
  obtain ⟨m, S, env, z, S', st, re, hc, q⟩ := h
  obtain ⟨u, S1, v, S2, e1, e2, e3⟩ := cBin_some hc
  refine ⟨m, S, env, u, S1, st, re, e1, fun m1 H1 x x1 st1 r1 => ⟨m1, S1, env, v, S2, st1, re.keep x1.keeps, e2, fun m2 H2 y x2 st2 r2 => ?_⟩⟩
  unfold stpU at e3
  split at e3
  · rename_i us k hl
    obtain ⟨a, vs, rfl, hr, rv⟩ := lstU_ok st2 (RU.keep x2.keeps _ _ r1) hl
    cases r2
    have q' := q.mono (x1.trans x2)
    split at e3
    · rename_i hk
      subst hk
      exact ⟨a, vs, 1, rfl, rfl, .inl hr, .inl rfl, fun p hp => outU_ok e3 st2 rv q' p hp⟩
    · split at e3
      · rename_i hk
        subst hk
        exact ⟨a, vs, -1, rfl, rfl, .inl hr, .inr rfl, fun p hp => outU_ok e3 st2 rv.reverse q' p hp⟩
      · cases e3
  · cases e3
theorem ee_stp (mu : Bool) (he : EE G X e ca) (hs : EE G X st cs) : EE G X (.Subscript e (.Slice none none (some st) p3) pos) (cBin (stpU mu) ca cs) := (pe_stp he hs).imp fun _ _ _ => re_stp mu
/-! tuple(range(n)) -/
def trgK (S : Sto) (u : U) : Option (U × Sto) := match u with
  | .int n => if 0 ≤ n ∧ n ≤ 16777216 then some (.tup (rangeU 0 n.toNat), S) else none
  | _ => none
def cTrg (c : Cm U) : Cm U := cUn (fun u S => trgK S u) c
theorem ee_trg {p1 p2 pos2 : Pos} (hc0 : X.calm = true) (hg : Gl X "tuple") (hm : X.mg "tuple" = none) (hg2 : Gl X "range") (hm2 : X.mg "range" = none) (he : EE G X e ca) (na : starEach [e] X.env = (false, eval e X.env) :: starEach [] X.env := by rfl)
    (nb : starEach [Expr.Call (.Name "range" p2) [e] [] pos2] X.env = (false, eval (.Call (.Name "range" p2) [e] [] pos2) X.env) :: starEach [] X.env := by rfl) :
    EE G X (.Call (.Name "tuple" p1) [.Call (.Name "range" p2) [e] [] pos2] [] pos) (cTrg ca) := (pe_tupRg hc0 hg hm (prg_1 hg2 hm2 he na) nb).imp fun σ H Q ⟨m, S, env, z, S', st, re, hc, q⟩ => by
  obtain ⟨u, S1, e1, e2⟩ := cUn_some hc
  refine ⟨m, S, env, u, S1, st, re, e1, fun m1 H1 v x1 st1 r1 => ?_⟩
  unfold trgK at e2
  split at e2
  · rename_i n
    split at e2
    · rename_i hn
      cases r1
      refine ⟨n, rfl, RgOk.of_le (by omega) (by omega) (by omega) (by omega), ?_⟩
      cases e2
      exact fun p hp => (q.mono x1) m1 _ _ (Ext.upd hp) (st1.new hp) (RU.newTup st1 hp (RUs.rg n))
    · cases e2
  · cases e2
@[simp] theorem itEnum_ap (c : Cm (List U)) (env : Env') (S : Sto) : itEnum c env S = (match c env S with
  | some ([u], S1) => match lsqU u with
    | some us => some (enumU us, S1)
    | none => none
  | _ => none) := rfl
@[simp] theorem lsqU_lst (us : List U) : lsqU (.lst us) = some us := rfl
@[simp] theorem lsqU_scr (us : List U) : lsqU (.scr us) = some us := rfl
@[simp] theorem cTrg_ap (c : Cm U) (env : Env') (S : Sto) : cTrg c env S = (match c env S with
  | none => none
  | some (u, S1) => trgK S1 u) := rfl
@[simp] theorem trgK_ap (n : Int) (S : Sto) : trgK S (.int n) = if 0 ≤ n ∧ n ≤ 16777216 then some (.tup (rangeU 0 n.toNat), S) else none := rfl
@[simp] theorem stpU_ap (mu : Bool) (u v : U) (S : Sto) : stpU mu u v S = (match lstU S u, v with
  | some us, .int k => if k = 1 then outU mu us S else if k = -1 then outU mu us.reverse S else none
  | _, _ => none) := rfl
@[simp] theorem outU_f (us : List U) (S : Sto) : outU false us S = some (.lst us, S) := rfl
@[simp] theorem outU_t (us : List U) (S : Sto) : outU true us S = some (.ref S.length, S ++ [.lst us]) := rfl
end OF

namespace OF
open PySem PySem.Spec PyProof.Rows L2
/-! what comes of a computation, one step behind the other -/
def wp {α : Type} (x : Option α) (Q : α → Prop) : Prop := ∃ a, x = some a ∧ Q a
@[simp] theorem wp_some {α : Type} (a : α) (Q : α → Prop) : wp (some a) Q = Q a := by simp [wp]
@[simp] theorem wp_none {α : Type} (Q : α → Prop) : wp none Q = False := by simp [wp]
theorem wp_ite {α : Type} {c : Prop} [Decidable c] {x y : Option α} {Q : α → Prop} (h1 : c → wp x Q) (h2 : ¬ c → wp y Q) : wp (if c then x else y) Q := by
  split
  · exact h1 ‹_›
  · exact h2 ‹_›
theorem wp_mono {α : Type} {x : Option α} {P Q : α → Prop} (h : wp x P) (i : ∀ a, P a → Q a) : wp x Q := let ⟨a, e, p⟩ := h; ⟨a, e, i a p⟩
theorem wp_eq {α : Type} {x : Option α} {P : α → Prop} (h : wp x P) : ∃ a, x = some a ∧ P a := h
theorem wp_of {α : Type} {x : Option α} {P : α → Prop} {a : α} (h : x = some a) (p : P a) : wp x P := ⟨a, h, p⟩
theorem wp_bind {α β : Type} (x : Option α) (f : α → Option β) (Q : β → Prop) : wp (x.bind f) Q = wp x (fun a => wp (f a) Q) := by cases x <;> simp [wp]
/-- one of two roads -/
def wif (k : Bool) (A B : Prop) : Prop := if k = true then A else B
@[simp] theorem wif_t {A B : Prop} : wif true A B = A := if_pos rfl
@[simp] theorem wif_f {A B : Prop} : wif false A B = B := if_neg (by decide)
theorem wif_of {k : Bool} {A B : Prop} (h1 : k = true → A) (h2 : k = false → B) : wif k A B := by cases k <;> simp_all
theorem wif_dec {p : Prop} [Decidable p] {A B : Prop} (h1 : p → A) (h2 : ¬ p → B) : wif (decide p) A B := by
  by_cases h : p
  · simpa [h] using h1 h
  · simpa [h] using h2 h
section
variable {env : Env'} {S : Sto}
theorem wp_cBin {f : Op2} {a b : Cm U} {Q} : wp (cBin f a b env S) Q = wp (a env S) fun p => wp (b env p.2) fun q => wp (f p.1 q.1 q.2) Q := by
  unfold cBin wp
  rcases a env S with _ | ⟨u, S1⟩
  · simp
  · simp only [Option.some.injEq, exists_eq_left']
    rcases b env S1 with _ | ⟨v, S2⟩ <;> simp
theorem wp_cUn {f : Op1} {a : Cm U} {Q} : wp (cUn f a env S) Q = wp (a env S) fun p => wp (f p.1 p.2) Q := by
  unfold cUn wp
  rcases a env S with _ | ⟨u, S1⟩ <;> simp
theorem wp_cCons {a : Cm U} {r : Cm (List U)} {Q} : wp (cCons a r env S) Q = wp (a env S) fun p => wp (r env p.2) fun q => Q (p.1 :: q.1, q.2) := by
  unfold cCons wp
  rcases a env S with _ | ⟨u, S1⟩
  · simp
  · simp only [Option.some.injEq, exists_eq_left']
    rcases r env S1 with _ | ⟨v, S2⟩ <;> simp
theorem wp_cArg {f : OpN} {r : Cm (List U)} {Q} : wp (cArg f r env S) Q = wp (r env S) fun p => wp (f p.1 p.2) Q := by
  unfold cArg wp
  rcases r env S with _ | ⟨u, S1⟩ <;> simp
theorem wp_cArg2 {f : List U → OpN} {a b : Cm (List U)} {Q} : wp (cArg2 f a b env S) Q = wp (a env S) fun p => wp (b env p.2) fun q => wp (f p.1 q.1 q.2) Q := by
  unfold cArg2 wp
  rcases a env S with _ | ⟨u, S1⟩
  · simp
  · simp only [Option.some.injEq, exists_eq_left']
    rcases b env S1 with _ | ⟨v, S2⟩ <;> simp
/-- a row of statements, behind the first -/
def seqK (b : Sm) (Q : Fl × Env' × Sto → Prop) : Fl × Env' × Sto → Prop
  | (.nx, e, S) => wp (b e S) Q
  | r => Q r
theorem seqK_nx {b : Sm} {Q} {e : Env'} {S : Sto} : seqK b Q (.nx, e, S) = wp (b e S) Q := rfl
theorem seqK_ret {b : Sm} {Q} {e : Env'} {S : Sto} {u : U} : seqK b Q (.ret u, e, S) = Q (.ret u, e, S) := rfl
theorem seqK_brk {b : Sm} {Q} {e : Env'} {S : Sto} : seqK b Q (.brk, e, S) = Q (.brk, e, S) := rfl
theorem seqK_ct {b : Sm} {Q} {e : Env'} {S : Sto} : seqK b Q (.ct, e, S) = Q (.ct, e, S) := rfl
theorem wp_sSeq {a b : Sm} {Q} : wp (sSeq a b env S) Q = wp (a env S) (seqK b Q) := by
  unfold sSeq wp
  rcases a env S with _ | ⟨fl, e, S1⟩
  · simp
  · cases fl <;> simp [seqK, wp]
theorem wp_sExpr {a : Cm U} {Q} : wp (sExpr a env S) Q = wp (a env S) fun p => Q (.nx, env, p.2) := by
  unfold sExpr wp
  rcases a env S with _ | ⟨u, S1⟩ <;> simp
theorem wp_sRet {a : Cm U} {Q} : wp (sRet a env S) Q = wp (a env S) fun p => Q (.ret p.1, env, p.2) := by
  unfold sRet wp
  rcases a env S with _ | ⟨u, S1⟩ <;> simp
theorem wp_sIf {c : Cm Bool} {a b : Sm} {Q} : wp (sIf c a b env S) Q = wp (c env S) fun p => wif p.1 (wp (a env p.2) Q) (wp (b env p.2) Q) := by
  unfold sIf wp
  rcases c env S with _ | ⟨k, S1⟩
  · simp
  · cases k <;> simp
theorem wp_cIf {c : Cm Bool} {a b : Cm U} {Q} : wp (cIf c a b env S) Q = wp (c env S) fun p => wif p.1 (wp (a env p.2) Q) (wp (b env p.2) Q) := by
  unfold cIf wp
  rcases c env S with _ | ⟨k, S1⟩
  · simp
  · cases k <;> simp
theorem wp_sAsg {a : Cm U} {g : Gm} {Q} : wp (sAsg a g env S) Q = wp (a env S) fun p => wp (g p.1 env p.2) fun q => Q (.nx, q.1, q.2) := by
  unfold sAsg wp
  rcases a env S with _ | ⟨u, S1⟩
  · simp
  · simp only [Option.some.injEq, exists_eq_left']
    rcases g u env S1 with _ | ⟨v, S2⟩ <;> simp
theorem wp_cTru {a : Cm U} {Q} : wp (cTru a env S) Q = wp (a env S) fun p => wp (truU p.2 p.1) fun k => Q (k, p.2) := by
  unfold cTru wp
  rcases a env S with _ | ⟨u, S1⟩
  · simp
  · simp only [Option.some.injEq, exists_eq_left']
    rcases truU S1 u with _ | k <;> simp
theorem wp_cAndT {a b : Cm Bool} {Q} : wp (cAndT a b env S) Q = wp (a env S) fun p => wif p.1 (wp (b env p.2) Q) (Q (false, p.2)) := by
  unfold cAndT wp
  rcases a env S with _ | ⟨k, S1⟩
  · simp
  · cases k <;> simp
theorem wp_cOrT {a b : Cm Bool} {Q} : wp (cOrT a b env S) Q = wp (a env S) fun p => wif p.1 (Q (true, p.2)) (wp (b env p.2) Q) := by
  unfold cOrT wp
  rcases a env S with _ | ⟨k, S1⟩
  · simp
  · cases k <;> simp
theorem wp_cNotT {a : Cm Bool} {Q} : wp (cNotT a env S) Q = wp (a env S) fun p => Q (!p.1, p.2) := by
  unfold cNotT wp
  rcases a env S with _ | ⟨k, S1⟩ <;> simp
theorem wp_cNotV {a : Cm U} {Q} : wp (cNotV a env S) Q = wp (a env S) fun p => wp (truU p.2 p.1) fun k => Q (.bl (!k), p.2) := by
  unfold cNotV wp
  rcases a env S with _ | ⟨u, S1⟩
  · simp
  · simp only [Option.some.injEq, exists_eq_left']
    rcases truU S1 u with _ | k <;> simp
theorem wp_cAndV {a b : Cm U} {Q} : wp (cAndV a b env S) Q = wp (a env S) fun p => wp (truU p.2 p.1) fun k => wif k (wp (b env p.2) Q) (Q p) := by
  unfold cAndV wp
  rcases a env S with _ | ⟨u, S1⟩
  · simp
  · simp only [Option.some.injEq, exists_eq_left']
    rcases truU S1 u with _ | k
    · simp
    · cases k <;> simp only [Option.some.injEq, exists_eq_left', wif_t, wif_f]
theorem wp_cOrV {a b : Cm U} {Q} : wp (cOrV a b env S) Q = wp (a env S) fun p => wp (truU p.2 p.1) fun k => wif k (Q p) (wp (b env p.2) Q) := by
  unfold cOrV wp
  rcases a env S with _ | ⟨u, S1⟩
  · simp
  · simp only [Option.some.injEq, exists_eq_left']
    rcases truU S1 u with _ | k
    · simp
    · cases k <;> simp only [Option.some.injEq, exists_eq_left', wif_t, wif_f]
/-- what a def tells at its end -/
def retK (Q : U × Sto → Prop) : Fl × Env' × Sto → Prop
  | (.ret u, _, S) => Q (u, S)
  | (.nx, _, S) => Q (.non, S)
  | _ => False
theorem retK_ret {Q} {e : Env'} {S : Sto} {u : U} : retK Q (.ret u, e, S) = Q (u, S) := rfl
theorem retK_nx {Q} {e : Env'} {S : Sto} : retK Q (.nx, e, S) = Q (.non, S) := rfl
theorem wp_runF {s : Sm} {np n : Nat} {us : List U} {Q} : wp (runF s np n us S) Q = (us.length = np ∧ wp (s (startE n us) S) (retK Q)) := by
  unfold runF wp
  by_cases h : us.length = np
  · simp only [h, if_true, true_and]
    rcases s (startE n us) S with _ | ⟨fl, e, S1⟩
    · simp
    · cases fl <;> simp [retK]
  · simp [h]
theorem wp_pureF {f : OpN} {us : List U} {Q} : wp (pureF f us) Q = wp (f us []) fun p => noref p.1 = true ∧ Q p.1 := by
  unfold pureF wp
  rcases f us [] with _ | ⟨u, S1⟩
  · simp
  · by_cases h : noref u = true <;> simp [h]
theorem wp_liftP {p : Pf} {us : List U} {Q} : wp (liftP p us S) Q = (norefs us = true ∧ wp (p us) fun u => Q (u, S)) := by
  unfold liftP wp
  by_cases h : norefs us = true
  · rcases p us with _ | u <;> simp [h]
  · simp [h]
def methO (c mm : Str) (F : OpN) (r : Cm (List U)) (env : Env') (n : Nat) (S : Sto) : O → Option (U × Sto)
  | .ins c' fs => if c' = c ∧ fs.lookup mm = none then cArg (fun us => F (.ref n :: us)) r env S else none
  | _ => none
def methK (c mm : Str) (F : OpN) (r : Cm (List U)) (env : Env') (S : Sto) : U → Option (U × Sto)
  | .ref n => S[n]?.bind (methO c mm F r env n S)
  | _ => none
theorem wp_methO {c mm c' : Str} {fs : List (Str × U)} {F : OpN} {r : Cm (List U)} {n : Nat} {Q} : wp (methO c mm F r env n S (.ins c' fs)) Q = ((c' = c ∧ fs.lookup mm = none) ∧ wp (r env S) fun p => wp (F (.ref n :: p.1) p.2) Q) := by
  simp only [methO]
  by_cases h : c' = c ∧ fs.lookup mm = none
  · rw [if_pos h, wp_cArg]; simp [h]
  · rw [if_neg h]; simp only [wp_none]; exact (eq_false fun z => h z.1).symm
theorem wp_methK {c mm : Str} {F : OpN} {r : Cm (List U)} {n : Nat} {Q} : wp (methK c mm F r env S (.ref n)) Q = wp (S[n]?) fun o => wp (methO c mm F r env n S o) Q := by
  simp only [methK]; exact wp_bind _ _ _
theorem wp_cMeth {c mm : Str} {F : OpN} {a : Cm U} {r : Cm (List U)} {Q} : wp (cMeth c mm F a r env S) Q = wp (a env S) fun p => wp (methK c mm F r env p.2 p.1) Q := by
  unfold cMeth wp
  rcases a env S with _ | ⟨u, S1⟩
  · simp
  · cases u <;> simp only [Option.some.injEq, exists_eq_left', methK]
    rename_i n
    rcases S1[n]? with _ | o
    · rfl
    · cases o <;> simp only [Option.bind_some, methO]
      rename_i c' fs
      by_cases h : c' = c ∧ fs.lookup mm = none
      · rw [if_pos h, if_pos h]
        unfold cArg
        rcases r env S1 with _ | ⟨us, S2⟩ <;> rfl
      · rw [if_neg h, if_neg h]
theorem wp_oMake {c : Str} {F : OpN} {us : List U} {Q} : wp (oMake c F us S) Q = wp (F (.ref S.length :: us) (S ++ [.ins c []])) fun p => p.1 = .non ∧ Q (.ref S.length, p.2) := by
  unfold oMake wp
  generalize F (.ref S.length :: us) (S ++ [.ins c []]) = z
  rcases z with _ | ⟨u, S1⟩
  · simp
  · cases u <;> simp
def fldK (cs : List Str) (fn : Str) (S : Sto) : U → Option (U × Sto)
  | .ref n => match S[n]? with
    | some (.ins c fs) => if cs.contains c = true then (match fs.lookup fn with
      | some u => some (u, S)
      | none => none) else none
    | _ => none
  | _ => none
@[simp] theorem fldK_ref {cs : List Str} {fn : Str} {n : Nat} : fldK cs fn S (.ref n) = match S[n]? with
    | some (.ins c fs) => if cs.contains c = true then (match fs.lookup fn with
      | some u => some (u, S)
      | none => none) else none
    | _ => none := rfl
theorem wp_cFld {cs : List Str} {fn : Str} {a : Cm U} {Q} : wp (cFld cs fn a env S) Q = wp (a env S) fun p => wp (fldK cs fn p.2 p.1) Q := by
  unfold cFld wp
  rcases a env S with _ | ⟨u, S1⟩
  · simp
  · cases u <;> (simp only [Option.some.injEq, exists_eq_left']; rfl)
def fldS (cs : List Str) (fn : Str) (u : U) (env : Env') (S : Sto) : U → Option (Fl × Env' × Sto)
  | .ref n => match S[n]? with
    | some (.ins c fs) => if cs.contains c = true ∧ fs.length < 1000 then some (.nx, env, S.set n (.ins c (putU fn u fs))) else none
    | _ => none
  | _ => none
@[simp] theorem fldS_ref {cs : List Str} {fn : Str} {u : U} {n : Nat} : fldS cs fn u env S (.ref n) = match S[n]? with
    | some (.ins c fs) => if cs.contains c = true ∧ fs.length < 1000 then some (.nx, env, S.set n (.ins c (putU fn u fs))) else none
    | _ => none := rfl
theorem wp_sFldS {cs : List Str} {fn : Str} {a v : Cm U} {Q} : wp (sFldS cs fn a v env S) Q = wp (v env S) fun p => wp (a env p.2) fun q => wp (fldS cs fn p.1 env q.2 q.1) Q := by
  unfold sFldS wp
  rcases v env S with _ | ⟨u, S1⟩
  · simp
  · simp only [Option.some.injEq, exists_eq_left']
    rcases a env S1 with _ | ⟨w, S2⟩
    · simp
    · cases w <;> (simp only [Option.some.injEq, exists_eq_left']; rfl)
theorem wp_sFor {it : Cm (List U)} {pt : Pat} {b : Sm} {Q} : wp (sFor it pt b env S) Q = wp (it env S) fun p => wp (loopF pt b p.1 env p.2) Q := by
  unfold sFor wp
  rcases it env S with _ | ⟨u, S1⟩ <;> simp
theorem wp_cLcL {it : Cm (List U)} {pt : Pat} {t : Cm Bool} {c : Cm U} {vs : List Nat} {Q} : wp (cLcL it pt t c vs env S) Q = wp (it env S) fun p => wp (mapC pt t c (wipeE env vs) p.1 p.2) fun q => q.1.length ≤ sizeLine ∧ Q q := by
  unfold cLcL wp
  rcases it env S with _ | ⟨u, S1⟩
  · simp
  · simp only [Option.some.injEq, exists_eq_left']
    rcases mapC pt t c (wipeE env vs) u S1 with _ | ⟨ys, S2⟩
    · simp
    · by_cases h : ys.length ≤ sizeLine <;> simp [h]
theorem wp_cLc {it : Cm (List U)} {pt : Pat} {t : Cm Bool} {c : Cm U} {vs : List Nat} {Q} : wp (cLc it pt t c vs env S) Q = wp (cLcL it pt t c vs env S) fun q => Q (.lst q.1, q.2) := by
  unfold cLc wp
  rcases cLcL it pt t c vs env S with _ | ⟨u, S1⟩ <;> simp
theorem wp_cLcM {it : Cm (List U)} {pt : Pat} {t : Cm Bool} {c : Cm U} {vs : List Nat} {Q} : wp (cLcM it pt t c vs env S) Q = wp (cLcL it pt t c vs env S) fun q => Q (.ref q.2.length, q.2 ++ [.lst q.1]) := by
  unfold cLcM wp
  rcases cLcL it pt t c vs env S with _ | ⟨u, S1⟩ <;> simp
theorem wp_itSeq {c : Cm U} {Q} : wp (itSeq c env S) Q = wp (c env S) fun p => wp (seqU p.1) fun us => Q (us, p.2) := by
  unfold itSeq wp
  rcases c env S with _ | ⟨u, S1⟩
  · simp
  · simp only [Option.some.injEq, exists_eq_left']
    rcases seqU u with _ | us <;> simp
def r1K (S : Sto) : List U → Option (List U × Sto)
  | [.int j] => if -(2 ^ 62) ≤ j ∧ j < 2 ^ 62 then some (rangeU 0 j.toNat, S) else none
  | _ => none
theorem wp_r1K {j : Int} {Q} : wp (r1K S [.int j]) Q = ((-4611686018427387904 ≤ j ∧ j < 4611686018427387904) ∧ Q (rangeU 0 j.toNat, S)) := by
  have e : r1K S [.int j] = if -(2 ^ 62) ≤ j ∧ j < 2 ^ 62 then some (rangeU 0 j.toNat, S) else none := rfl
  rw [e]
  by_cases h : -(2 ^ 62) ≤ j ∧ j < 2 ^ 62
  · rw [if_pos h, wp_some]
    exact propext ⟨fun q => ⟨h, q⟩, fun q => q.2⟩
  · rw [if_neg h, wp_none]
    exact propext ⟨False.elim, fun q => h q.1⟩
theorem wp_itR1 {c : Cm (List U)} {Q} : wp (itR1 c env S) Q = wp (c env S) fun p => wp (r1K p.2 p.1) Q := by
  unfold itR1 wp
  rcases c env S with _ | ⟨u, S1⟩
  · simp
  · simp only [Option.some.injEq, exists_eq_left']
    unfold r1K
    split <;> simp_all
def r2K (S : Sto) : List U → Option (List U × Sto)
  | [.int i, .int j] => if (-(2 ^ 62) ≤ i ∧ i < 2 ^ 62) ∧ -(2 ^ 62) ≤ j ∧ j < 2 ^ 62 then some (rangeU i (j - i).toNat, S) else none
  | _ => none
theorem wp_r2K {i j : Int} {Q} : wp (r2K S [.int i, .int j]) Q = (((-4611686018427387904 ≤ i ∧ i < 4611686018427387904) ∧ (-4611686018427387904 ≤ j ∧ j < 4611686018427387904)) ∧ Q (rangeU i (j - i).toNat, S)) := by
  have e : r2K S [.int i, .int j] = if (-(2 ^ 62) ≤ i ∧ i < 2 ^ 62) ∧ -(2 ^ 62) ≤ j ∧ j < 2 ^ 62 then some (rangeU i (j - i).toNat, S) else none := rfl
  rw [e]
  by_cases h : (-(2 ^ 62) ≤ i ∧ i < 2 ^ 62) ∧ -(2 ^ 62) ≤ j ∧ j < 2 ^ 62
  · rw [if_pos h, wp_some]
    exact propext ⟨fun q => ⟨h, q⟩, fun q => q.2⟩
  · rw [if_neg h, wp_none]
    exact propext ⟨False.elim, fun q => h q.1⟩
theorem wp_itR2 {c : Cm (List U)} {Q} : wp (itR2 c env S) Q = wp (c env S) fun p => wp (r2K p.2 p.1) Q := by
  unfold itR2 wp
  rcases c env S with _ | ⟨u, S1⟩
  · simp
  · simp only [Option.some.injEq, exists_eq_left']
    unfold r2K
    split <;> simp_all
def zipK (S : Sto) : List U → Option (List U × Sto)
  | [u, w] => match seqU u, seqU w with
    | some us, some ws => some (zipU us ws, S)
    | _, _ => none
  | _ => none
@[simp] theorem zipK_two {u w : U} : zipK S [u, w] = match seqU u, seqU w with
    | some us, some ws => some (zipU us ws, S)
    | _, _ => none := rfl
theorem wp_itZip {c : Cm (List U)} {Q} : wp (itZip c env S) Q = wp (c env S) fun p => wp (zipK p.2 p.1) Q := by
  unfold itZip wp
  rcases c env S with _ | ⟨u, S1⟩
  · simp
  · simp only [Option.some.injEq, exists_eq_left']
    rcases u with _ | ⟨u, _ | ⟨w, _ | _⟩⟩ <;> rfl
def partK (S : Sto) : U → Option (Option Int × Sto)
  | .int i => some (some i, S)
  | _ => none
@[simp] theorem partK_int {i : Int} : partK S (.int i) = some (some i, S) := rfl
theorem wp_cPart {c : Cm U} {Q} : wp (cPart c env S) Q = wp (c env S) fun p => wp (partK p.2 p.1) Q := by
  unfold cPart wp
  rcases c env S with _ | ⟨u, S1⟩
  · simp
  · cases u <;> simp only [Option.some.injEq, exists_eq_left', partK, reduceCtorEq, false_and, exists_false]
theorem wp_cSl {mu : Bool} {c : Cm U} {l h : CmO} {Q} : wp (cSl mu c l h env S) Q = wp (c env S) fun p => wp (l env p.2) fun q => wp (h env q.2) fun r => wp (slU mu p.1 q.1 r.1 r.2) Q := by
  unfold cSl wp
  rcases c env S with _ | ⟨u, S1⟩
  · simp
  · simp only [Option.some.injEq, exists_eq_left']
    rcases l env S1 with _ | ⟨lo, S2⟩
    · simp
    · simp only [Option.some.injEq, exists_eq_left']
      rcases h env S2 with _ | ⟨hi, S3⟩ <;> simp
theorem wp_cIsi {T : String} {c : Cm U} {Q} : wp (cIsi T c env S) Q = wp (c env S) fun p => wp (tyU p.2 p.1) fun t => wp (kitB t T) fun r => Q (.bl r, p.2) := by
  unfold cIsi wp
  rcases c env S with _ | ⟨u, S1⟩
  · simp
  · simp only [Option.some.injEq, exists_eq_left']
    rcases tyU S1 u with _ | t
    · simp
    · simp only [Option.some.injEq, exists_eq_left']
      rcases kitB t T with _ | r <;> simp
def tabK (tbl : List (Str × U)) (S : Sto) : U → Option (U × Sto)
  | .str z => match tbl.lookup z with
    | some u => some (u, S)
    | none => none
  | _ => none
@[simp] theorem tabK_str {tbl : List (Str × U)} {z : Str} : tabK tbl S (.str z) = match tbl.lookup z with
    | some u => some (u, S)
    | none => none := rfl
theorem wp_cTab {tbl : List (Str × U)} {c : Cm U} {Q} : wp (cTab tbl c env S) Q = wp (c env S) fun p => wp (tabK tbl p.2 p.1) Q := by
  unfold cTab wp
  rcases c env S with _ | ⟨u, S1⟩
  · simp
  · cases u <;> (simp only [Option.some.injEq, exists_eq_left']; rfl)
def tcK (F : Str → Option OpN) (r : Cm (List U)) (env : Env') (S : Sto) : U → Option (U × Sto)
  | .fn n => (r env S).bind fun p => (F n).bind fun f => f p.1 p.2
  | _ => none
theorem wp_tcK {F : Str → Option OpN} {r : Cm (List U)} {n : Str} {Q} : wp (tcK F r env S (.fn n)) Q = wp (r env S) fun p => wp (F n) fun f => wp (f p.1 p.2) Q := by
  simp only [tcK, wp_bind]
theorem wp_cTabCall {F : Str → Option OpN} {c : Cm U} {r : Cm (List U)} {Q} : wp (cTabCall F c r env S) Q = wp (c env S) fun p => wp (tcK F r env p.2 p.1) Q := by
  unfold cTabCall wp
  rcases c env S with _ | ⟨u, S1⟩
  · simp
  · cases u <;> simp [tcK]
    rename_i n
    rcases r env S1 with _ | ⟨us, S2⟩
    · simp
    · rcases F n with _ | f <;> simp
theorem wp_cMt {T : String} {f : U → OpN} {a : Cm U} {r : Cm (List U)} {Q} : wp (cMt T f a r env S) Q = wp (a env S) fun p => (tyOkU T p.2 p.1 = true ∧ wp (r env p.2) fun q => wp (f p.1 q.1 q.2) Q) := by
  unfold cMt wp
  rcases a env S with _ | ⟨u, S1⟩
  · simp
  · simp only [Option.some.injEq, exists_eq_left']
    by_cases h : tyOkU T S1 u = true
    · simp only [h, if_true, true_and]
      rcases r env S1 with _ | ⟨us, S2⟩ <;> simp
    · simp [h]
theorem wp_sSetI {f : U → U → U → Sto → Option Sto} {o i v : Cm U} {Q} : wp (sSetI f o i v env S) Q = wp (v env S) fun p => wp (o env p.2) fun q => wp (i env q.2) fun r => wp (f q.1 r.1 p.1 r.2) fun S4 => Q (.nx, env, S4) := by
  unfold sSetI wp
  rcases v env S with _ | ⟨w, S1⟩
  · simp
  · simp only [Option.some.injEq, exists_eq_left']
    rcases o env S1 with _ | ⟨u, S2⟩
    · simp
    · simp only [Option.some.injEq, exists_eq_left']
      rcases i env S2 with _ | ⟨j, S3⟩
      · simp
      · simp only [Option.some.injEq, exists_eq_left']
        rcases f u j w S3 with _ | S4 <;> simp
def dgK (kk : U) (z : U) (u : U) (S : Sto) : Option (U × Sto) := match dctU S u, keyU kk with
  | some kvs, some k => some ((getK kvs k).getD z, S)
  | _, _ => none
theorem wp_cDGet {d k x : Cm U} {Q} : wp (cDGet d k x env S) Q = wp (d env S) fun p => wp (dctU p.2 p.1) fun _ => wp (k env p.2) fun q => wp (x env q.2) fun r => wp (dgK q.1 r.1 p.1 r.2) Q := by
  unfold cDGet wp
  rcases d env S with _ | ⟨u, S1⟩
  · simp
  · simp only [Option.some.injEq, exists_eq_left']
    rcases dctU S1 u with _ | kvs
    · simp
    · simp only [Option.some.injEq, exists_eq_left']
      rcases k env S1 with _ | ⟨kk, S2⟩
      · simp
      · simp only [Option.some.injEq, exists_eq_left']
        rcases x env S2 with _ | ⟨z, S3⟩
        · simp
        · (simp only [Option.some.injEq, exists_eq_left']; rfl)
@[simp] theorem dgK_ap {kk z u : U} : dgK kk z u S = match dctU S u, keyU kk with
  | some kvs, some k => some ((getK kvs k).getD z, S)
  | _, _ => none := rfl
def par2K (i j : Nat) (env : Env') (S : Sto) : List U → Option (Fl × Env' × Sto)
  | [u, w] => some (.nx, (env.set i (some u)).set j (some w), S)
  | _ => none
@[simp] theorem par2K_two {i j : Nat} {u w : U} : par2K i j env S [u, w] = some (.nx, (env.set i (some u)).set j (some w), S) := rfl
theorem wp_sPar2 {i j : Nat} {a : Cm (List U)} {Q} : wp (sPar2 i j a env S) Q = wp (a env S) fun p => wp (par2K i j env p.2 p.1) Q := by
  unfold sPar2 wp
  rcases a env S with _ | ⟨u, S1⟩
  · simp
  · simp only [Option.some.injEq, exists_eq_left']
    unfold par2K
    split <;> simp_all
def par3K (i j l : Nat) (env : Env') (S : Sto) : List U → Option (Fl × Env' × Sto)
  | [u, v, w] => some (.nx, ((env.set i (some u)).set j (some v)).set l (some w), S)
  | _ => none
@[simp] theorem par3K_three {i j l : Nat} {u v w : U} : par3K i j l env S [u, v, w] = some (.nx, ((env.set i (some u)).set j (some v)).set l (some w), S) := rfl
theorem wp_sPar3 {i j l : Nat} {a : Cm (List U)} {Q} : wp (sPar3 i j l a env S) Q = wp (a env S) fun p => wp (par3K i j l env p.2 p.1) Q := by
  unfold sPar3 wp
  rcases a env S with _ | ⟨u, S1⟩
  · simp
  · simp only [Option.some.injEq, exists_eq_left']
    unfold par3K
    split <;> simp_all
def chK (g : Op2) (v : U) (c : Cm U) (env : Env') : U × Sto → Option (U × Sto)
  | (.bl k, S3) => if k = true then (c env S3).bind fun p => g v p.1 p.2 else some (.bl false, S3)
  | _ => none
theorem wp_chK {g : Op2} {v : U} {c : Cm U} {k : Bool} {Q} : wp (chK g v c env (.bl k, S)) Q = wif k (wp (c env S) fun p => wp (g v p.1 p.2) Q) (Q (.bl false, S)) := by cases k <;> simp [chK, wp_bind]
theorem wp_cChain {f g : Op2} {a b c : Cm U} {Q} : wp (cChain f g a b c env S) Q = wp (a env S) fun p => wp (b env p.2) fun q => wp (f p.1 q.1 q.2) fun r => wp (chK g q.1 c env r) Q := by
  unfold cChain wp
  rcases a env S with _ | ⟨u, S1⟩
  · simp
  · simp only [Option.some.injEq, exists_eq_left']
    rcases b env S1 with _ | ⟨v, S2⟩
    · simp
    · simp only [Option.some.injEq, exists_eq_left']
      rcases f u v S2 with _ | ⟨w, S3⟩
      · simp
      · cases w <;> simp [chK]
        rename_i k
        cases k
        · simp
        · simp only [if_true]
          rcases c env S3 with _ | ⟨w, S4⟩ <;> simp
def testK (S : Sto) : U → Option (Bool × Sto)
  | .bl k => some (k, S)
  | _ => none
@[simp] theorem testK_bl {k : Bool} : testK S (.bl k) = some (k, S) := rfl
theorem wp_cTest {a : Cm U} {Q} : wp (cTest a env S) Q = wp (a env S) fun p => wp (testK p.2 p.1) Q := by
  unfold cTest wp
  rcases a env S with _ | ⟨u, S1⟩
  · simp
  · cases u <;> simp only [Option.some.injEq, exists_eq_left', testK, reduceCtorEq, false_and, exists_false]
theorem wp_cPairs {k v : Cm U} {r : List (Cm U × Cm U)} {Q} : wp (cPairs ((k, v) :: r) env S) Q = wp (k env S) fun p => wp (v env p.2) fun q => wp (cPairs r env q.2) fun t => Q ((p.1, q.1) :: t.1, t.2) := by
  rw [cPairs_cons]
  unfold wp
  rcases k env S with _ | ⟨a, S1⟩
  · simp
  · simp only [Option.some.injEq, exists_eq_left']
    rcases v env S1 with _ | ⟨b, S2⟩
    · simp
    · simp only [Option.some.injEq, exists_eq_left']
      rcases cPairs r env S2 with _ | ⟨ps, S3⟩ <;> simp
def dispK (mu : Bool) (S : Sto) (ps : List (U × U)) : Option (U × Sto) := match keysU ps with
    | none => none
    | some kvs => if kvs.length ≤ 15 then (if mu then some (.ref S.length, S ++ [.dct (mergeU [] kvs)]) else some (.dct (mergeU [] kvs), S)) else none
@[simp] theorem dispK_ap {mu : Bool} {ps : List (U × U)} : dispK mu S ps = match keysU ps with
    | none => none
    | some kvs => if kvs.length ≤ 15 then (if mu then some (.ref S.length, S ++ [.dct (mergeU [] kvs)]) else some (.dct (mergeU [] kvs), S)) else none := rfl
theorem wp_cDisp {mu : Bool} {prs : List (Cm U × Cm U)} {Q} : wp (cDisp mu prs env S) Q = wp (cPairs prs env S) fun p => wp (dispK mu p.2 p.1) Q := by
  unfold cDisp wp
  rcases cPairs prs env S with _ | ⟨ps, S1⟩
  · simp
  · (simp only [Option.some.injEq, exists_eq_left']; rfl)
/-! loops -/
/-- behind one round of a loop -/
def loopK (pt : Pat) (b : Sm) (us : List U) (Q : Fl × Env' × Sto → Prop) : Fl × Env' × Sto → Prop
  | (.nx, e, S) => wp (loopF pt b us e S) Q
  | (.ct, e, S) => wp (loopF pt b us e S) Q
  | (.brk, e, S) => Q (.nx, e, S)
  | (.ret z, e, S) => Q (.ret z, e, S)
theorem loopK_nx {pt : Pat} {b : Sm} {us : List U} {Q} {e : Env'} : loopK pt b us Q (.nx, e, S) = wp (loopF pt b us e S) Q := rfl
theorem loopK_ct {pt : Pat} {b : Sm} {us : List U} {Q} {e : Env'} : loopK pt b us Q (.ct, e, S) = wp (loopF pt b us e S) Q := rfl
theorem loopK_brk {pt : Pat} {b : Sm} {us : List U} {Q} {e : Env'} : loopK pt b us Q (.brk, e, S) = Q (.nx, e, S) := rfl
theorem loopK_ret {pt : Pat} {b : Sm} {us : List U} {Q} {e : Env'} {z : U} : loopK pt b us Q (.ret z, e, S) = Q (.ret z, e, S) := rfl
theorem wp_loop_nil {pt : Pat} {b : Sm} {Q} : wp (loopF pt b [] env S) Q = Q (.nx, env, S) := by simp
theorem wp_loop {pt : Pat} {b : Sm} {u : U} {us : List U} {Q} : wp (loopF pt b (u :: us) env S) Q = wp (bindP pt u) fun bs => wp (b (setAll env bs) S) (loopK pt b us Q) := by
  rw [loopF_cons]
  unfold wp
  rcases bindP pt u with _ | bs
  · simp
  · simp only [Option.some.injEq, exists_eq_left']
    rcases b (setAll env bs) S with _ | ⟨fl, e, S1⟩
    · simp
    · cases fl <;> simp [loopK, wp]
theorem wp_map_nil {pt : Pat} {t : Cm Bool} {c : Cm U} {Q} : wp (mapC pt t c env [] S) Q = Q ([], S) := by simp
def mapK (pt : Pat) (t : Cm Bool) (c : Cm U) (env : Env') (us : List U) (e2 : Env') (S : Sto) (Q : List U × Sto → Prop) (k : Bool) : Prop := wif k (wp (c e2 S) fun p => wp (mapC pt t c env us p.2) fun q => Q (p.1 :: q.1, q.2)) (wp (mapC pt t c env us S) Q)
theorem mapK_ap {pt : Pat} {t : Cm Bool} {c : Cm U} {us : List U} {e2 : Env'} {Q} {k : Bool} : mapK pt t c env us e2 S Q k = wif k (wp (c e2 S) fun p => wp (mapC pt t c env us p.2) fun q => Q (p.1 :: q.1, q.2)) (wp (mapC pt t c env us S) Q) := rfl
theorem wp_map {pt : Pat} {t : Cm Bool} {c : Cm U} {u : U} {us : List U} {Q} : wp (mapC pt t c env (u :: us) S) Q = wp (bindP pt u) fun bs => wp (t (setAll env bs) S) fun p => mapK pt t c env us (setAll env bs) p.2 Q p.1 := by
  rw [mapC_cons]
  unfold wp
  rcases bindP pt u with _ | bs
  · simp
  · simp only [Option.some.injEq, exists_eq_left']
    rcases t (setAll env bs) S with _ | ⟨k, S1⟩
    · simp
    · cases k
      · simp [mapK, wp]
      · simp only [Option.some.injEq, exists_eq_left', mapK, wif_t, wp]
        rcases c (setAll env bs) S1 with _ | ⟨y, S2⟩
        · simp
        · simp only [Option.some.injEq, exists_eq_left']
          rcases mapC pt t c env us S2 with _ | ⟨ys, S3⟩ <;> simp
/-- a loop by what holds ahead of each round -/
theorem wp_loop_inv {pt : Pat} {b : Sm} {Q : Fl × Env' × Sto → Prop} (I : List U → Env' → Sto → Prop) (fin : ∀ e S, I [] e S → Q (.nx, e, S))
    (step : ∀ u us e S, I (u :: us) e S → wp (bindP pt u) fun bs => wp (b (setAll e bs) S) fun r => match r with
      | (.nx, e', S') => I us e' S'
      | (.ct, e', S') => I us e' S'
      | (.brk, e', S') => Q (.nx, e', S')
      | (.ret z, e', S') => Q (.ret z, e', S')) : ∀ us env S, I us env S → wp (loopF pt b us env S) Q
  | [], env, S, h => by rw [wp_loop_nil]; exact fin _ _ h
  | u :: us, env, S, h => by
    rw [wp_loop]
    refine wp_mono (step u us env S h) fun bs hb => wp_mono hb fun r hr => ?_
    rcases r with ⟨fl, e, S1⟩
    cases fl with
    | nx => exact wp_loop_inv I fin step us e S1 hr
    | ct => exact wp_loop_inv I fin step us e S1 hr
    | brk => exact hr
    | ret z => exact hr
end
end OF

namespace OF
open PySem PySem.Spec PyProof.Rows L2
/-! the same, with what comes behind kept out of sight -/
class Hid (α : Type) where
  v : α
def wq {α : Type} (x : Option α) [Q : Hid (α → Prop)] : Prop := wp x Q.v
def wiH (k : Bool) [A : Hid Prop] [B : Hid Prop] : Prop := wif k A.v B.v
def seqH [b : Hid Sm] [Q : Hid (Fl × Env' × Sto → Prop)] (r : Fl × Env' × Sto) : Prop := seqK b.v Q.v r
def retH [Q : Hid (U × Sto → Prop)] (r : Fl × Env' × Sto) : Prop := retK Q.v r
def loopH (pt : Pat) [b : Hid Sm] [us : Hid (List U)] [Q : Hid (Fl × Env' × Sto → Prop)] (r : Fl × Env' × Sto) : Prop := loopK pt b.v us.v Q.v r
@[simp ↓] theorem hid_ap {α β : Type} {f : α → β} {a : α} : @Hid.v (α → β) ⟨f⟩ a = f a := rfl
@[simp ↓] theorem hid_p {p : Prop} : @Hid.v Prop ⟨p⟩ = p := rfl
@[simp ↓] theorem wp_def {α : Type} {x : Option α} {Q : α → Prop} : wp x Q = @wq _ x ⟨Q⟩ := rfl
@[simp] theorem wq_some {α : Type} (a : α) (Q : α → Prop) : @wq _ (some a) ⟨Q⟩ = Q a := wp_some a Q
@[simp] theorem wq_none {α : Type} (Q : α → Prop) : @wq _ none ⟨Q⟩ = False := wp_none Q
@[simp] theorem wiH_t {A B : Prop} : @wiH true ⟨A⟩ ⟨B⟩ = A := wif_t
@[simp] theorem wiH_f {A B : Prop} : @wiH false ⟨A⟩ ⟨B⟩ = B := wif_f
@[simp ↓] theorem seqH_nx {b : Sm} {Q} {e : Env'} {S : Sto} : @seqH ⟨b⟩ ⟨Q⟩ (.nx, e, S) = @wq _ (b e S) ⟨Q⟩ := rfl
@[simp ↓] theorem seqH_ret {b : Sm} {Q} {e : Env'} {S : Sto} {u : U} : @seqH ⟨b⟩ ⟨Q⟩ (.ret u, e, S) = Q (.ret u, e, S) := rfl
@[simp ↓] theorem seqH_brk {b : Sm} {Q} {e : Env'} {S : Sto} : @seqH ⟨b⟩ ⟨Q⟩ (.brk, e, S) = Q (.brk, e, S) := rfl
@[simp ↓] theorem seqH_ct {b : Sm} {Q} {e : Env'} {S : Sto} : @seqH ⟨b⟩ ⟨Q⟩ (.ct, e, S) = Q (.ct, e, S) := rfl
@[simp ↓] theorem retH_ret {Q} {e : Env'} {S : Sto} {u : U} : @retH ⟨Q⟩ (.ret u, e, S) = Q (u, S) := rfl
@[simp ↓] theorem retH_nx {Q} {e : Env'} {S : Sto} : @retH ⟨Q⟩ (.nx, e, S) = Q (.non, S) := rfl
section
variable {env : Env'} {S : Sto}
@[simp ↓] theorem loopH_nx {pt : Pat} {b : Sm} {us : List U} {Q} {e : Env'} : @loopH pt ⟨b⟩ ⟨us⟩ ⟨Q⟩ (.nx, e, S) = @wq _ (loopF pt b us e S) ⟨Q⟩ := rfl
@[simp ↓] theorem loopH_ct {pt : Pat} {b : Sm} {us : List U} {Q} {e : Env'} : @loopH pt ⟨b⟩ ⟨us⟩ ⟨Q⟩ (.ct, e, S) = @wq _ (loopF pt b us e S) ⟨Q⟩ := rfl
@[simp ↓] theorem loopH_brk {pt : Pat} {b : Sm} {us : List U} {Q} {e : Env'} : @loopH pt ⟨b⟩ ⟨us⟩ ⟨Q⟩ (.brk, e, S) = Q (.nx, e, S) := rfl
@[simp ↓] theorem loopH_ret {pt : Pat} {b : Sm} {us : List U} {Q} {e : Env'} {z : U} : @loopH pt ⟨b⟩ ⟨us⟩ ⟨Q⟩ (.ret z, e, S) = Q (.ret z, e, S) := rfl
@[simp ↓] theorem wq_bind {α β : Type} {x : Option α} {f : α → Option β} {Q : β → Prop} : @wq _ (x.bind f) ⟨Q⟩ = @wq _ x ⟨fun a => @wq _ (f a) ⟨Q⟩⟩ := wp_bind _ _ _
@[simp ↓] theorem wq_cBin {f : Op2} {a b : Cm U} {Q : _ → Prop} : @wq _ (cBin f a b env S) ⟨Q⟩ = @wq _ (a env S) ⟨fun p => @wq _ (b env p.2) ⟨fun q => @wq _ (f p.1 q.1 q.2) ⟨Q⟩⟩⟩ := wp_cBin
@[simp ↓] theorem wq_cUn {f : Op1} {a : Cm U} {Q : _ → Prop} : @wq _ (cUn f a env S) ⟨Q⟩ = @wq _ (a env S) ⟨fun p => @wq _ (f p.1 p.2) ⟨Q⟩⟩ := wp_cUn
@[simp ↓] theorem wq_cCons {a : Cm U} {r : Cm (List U)} {Q : _ → Prop} : @wq _ (cCons a r env S) ⟨Q⟩ = @wq _ (a env S) ⟨fun p => @wq _ (r env p.2) ⟨fun q => Q (p.1 :: q.1, q.2)⟩⟩ := wp_cCons
@[simp ↓] theorem wq_cArg {f : OpN} {r : Cm (List U)} {Q : _ → Prop} : @wq _ (cArg f r env S) ⟨Q⟩ = @wq _ (r env S) ⟨fun p => @wq _ (f p.1 p.2) ⟨Q⟩⟩ := wp_cArg
@[simp ↓] theorem wq_cArg2 {f : List U → OpN} {a b : Cm (List U)} {Q : _ → Prop} : @wq _ (cArg2 f a b env S) ⟨Q⟩ = @wq _ (a env S) ⟨fun p => @wq _ (b env p.2) ⟨fun q => @wq _ (f p.1 q.1 q.2) ⟨Q⟩⟩⟩ := wp_cArg2
@[simp ↓] theorem wq_sSeq {a b : Sm} {Q : _ → Prop} : @wq _ (sSeq a b env S) ⟨Q⟩ = @wq _ (a env S) ⟨@seqH ⟨b⟩ ⟨Q⟩⟩ := wp_sSeq
@[simp ↓] theorem wq_sExpr {a : Cm U} {Q : _ → Prop} : @wq _ (sExpr a env S) ⟨Q⟩ = @wq _ (a env S) ⟨fun p => Q (.nx, env, p.2)⟩ := wp_sExpr
@[simp ↓] theorem wq_sRet {a : Cm U} {Q : _ → Prop} : @wq _ (sRet a env S) ⟨Q⟩ = @wq _ (a env S) ⟨fun p => Q (.ret p.1, env, p.2)⟩ := wp_sRet
@[simp ↓] theorem wq_sIf {c : Cm Bool} {a b : Sm} {Q : _ → Prop} : @wq _ (sIf c a b env S) ⟨Q⟩ = @wq _ (c env S) ⟨fun p => @wiH p.1 ⟨@wq _ (a env p.2) ⟨Q⟩⟩ ⟨@wq _ (b env p.2) ⟨Q⟩⟩⟩ := wp_sIf
@[simp ↓] theorem wq_cIf {c : Cm Bool} {a b : Cm U} {Q : _ → Prop} : @wq _ (cIf c a b env S) ⟨Q⟩ = @wq _ (c env S) ⟨fun p => @wiH p.1 ⟨@wq _ (a env p.2) ⟨Q⟩⟩ ⟨@wq _ (b env p.2) ⟨Q⟩⟩⟩ := wp_cIf
@[simp ↓] theorem wq_sAsg {a : Cm U} {g : Gm} {Q : _ → Prop} : @wq _ (sAsg a g env S) ⟨Q⟩ = @wq _ (a env S) ⟨fun p => @wq _ (g p.1 env p.2) ⟨fun q => Q (.nx, q.1, q.2)⟩⟩ := wp_sAsg
@[simp ↓] theorem wq_cTru {a : Cm U} {Q : _ → Prop} : @wq _ (cTru a env S) ⟨Q⟩ = @wq _ (a env S) ⟨fun p => @wq _ (truU p.2 p.1) ⟨fun k => Q (k, p.2)⟩⟩ := wp_cTru
@[simp ↓] theorem wq_cAndT {a b : Cm Bool} {Q : _ → Prop} : @wq _ (cAndT a b env S) ⟨Q⟩ = @wq _ (a env S) ⟨fun p => @wiH p.1 ⟨@wq _ (b env p.2) ⟨Q⟩⟩ ⟨Q (false, p.2)⟩⟩ := wp_cAndT
@[simp ↓] theorem wq_cOrT {a b : Cm Bool} {Q : _ → Prop} : @wq _ (cOrT a b env S) ⟨Q⟩ = @wq _ (a env S) ⟨fun p => @wiH p.1 ⟨Q (true, p.2)⟩ ⟨@wq _ (b env p.2) ⟨Q⟩⟩⟩ := wp_cOrT
@[simp ↓] theorem wq_cNotT {a : Cm Bool} {Q : _ → Prop} : @wq _ (cNotT a env S) ⟨Q⟩ = @wq _ (a env S) ⟨fun p => Q (!p.1, p.2)⟩ := wp_cNotT
@[simp ↓] theorem wq_cNotV {a : Cm U} {Q : _ → Prop} : @wq _ (cNotV a env S) ⟨Q⟩ = @wq _ (a env S) ⟨fun p => @wq _ (truU p.2 p.1) ⟨fun k => Q (.bl (!k), p.2)⟩⟩ := wp_cNotV
@[simp ↓] theorem wq_cAndV {a b : Cm U} {Q : _ → Prop} : @wq _ (cAndV a b env S) ⟨Q⟩ = @wq _ (a env S) ⟨fun p => @wq _ (truU p.2 p.1) ⟨fun k => @wiH k ⟨@wq _ (b env p.2) ⟨Q⟩⟩ ⟨Q p⟩⟩⟩ := wp_cAndV
@[simp ↓] theorem wq_cOrV {a b : Cm U} {Q : _ → Prop} : @wq _ (cOrV a b env S) ⟨Q⟩ = @wq _ (a env S) ⟨fun p => @wq _ (truU p.2 p.1) ⟨fun k => @wiH k ⟨Q p⟩ ⟨@wq _ (b env p.2) ⟨Q⟩⟩⟩⟩ := wp_cOrV
@[simp ↓] theorem wq_runF {s : Sm} {np n : Nat} {us : List U} {Q : _ → Prop} : @wq _ (runF s np n us S) ⟨Q⟩ = (us.length = np ∧ @wq _ (s (startE n us) S) ⟨@retH ⟨Q⟩⟩) := wp_runF
@[simp ↓] theorem wq_pureF {f : OpN} {us : List U} {Q : _ → Prop} : @wq _ (pureF f us) ⟨Q⟩ = @wq _ (f us []) ⟨fun p => noref p.1 = true ∧ Q p.1⟩ := wp_pureF
@[simp ↓] theorem wq_liftP {p : Pf} {us : List U} {Q : _ → Prop} : @wq _ (liftP p us S) ⟨Q⟩ = (norefs us = true ∧ @wq _ (p us) ⟨fun u => Q (u, S)⟩) := wp_liftP
@[simp ↓] theorem wq_methO {c mm c' : Str} {fs : List (Str × U)} {F : OpN} {r : Cm (List U)} {n : Nat} {Q : _ → Prop} : @wq _ (methO c mm F r env n S (.ins c' fs)) ⟨Q⟩ = ((c' = c ∧ fs.lookup mm = none) ∧ @wq _ (r env S) ⟨fun p => @wq _ (F (.ref n :: p.1) p.2) ⟨Q⟩⟩) := wp_methO
@[simp ↓] theorem wq_methK {c mm : Str} {F : OpN} {r : Cm (List U)} {n : Nat} {Q : _ → Prop} : @wq _ (methK c mm F r env S (.ref n)) ⟨Q⟩ = @wq _ (S[n]?) ⟨fun o => @wq _ (methO c mm F r env n S o) ⟨Q⟩⟩ := wp_methK
@[simp ↓] theorem wq_cMeth {c mm : Str} {F : OpN} {a : Cm U} {r : Cm (List U)} {Q : _ → Prop} : @wq _ (cMeth c mm F a r env S) ⟨Q⟩ = @wq _ (a env S) ⟨fun p => @wq _ (methK c mm F r env p.2 p.1) ⟨Q⟩⟩ := wp_cMeth
@[simp ↓] theorem wq_oMake {c : Str} {F : OpN} {us : List U} {Q : _ → Prop} : @wq _ (oMake c F us S) ⟨Q⟩ = @wq _ (F (.ref S.length :: us) (S ++ [.ins c []])) ⟨fun p => p.1 = .non ∧ Q (.ref S.length, p.2)⟩ := wp_oMake
@[simp ↓] theorem wq_cFld {cs : List Str} {fn : Str} {a : Cm U} {Q : _ → Prop} : @wq _ (cFld cs fn a env S) ⟨Q⟩ = @wq _ (a env S) ⟨fun p => @wq _ (fldK cs fn p.2 p.1) ⟨Q⟩⟩ := wp_cFld
@[simp ↓] theorem wq_sFldS {cs : List Str} {fn : Str} {a v : Cm U} {Q : _ → Prop} : @wq _ (sFldS cs fn a v env S) ⟨Q⟩ = @wq _ (v env S) ⟨fun p => @wq _ (a env p.2) ⟨fun q => @wq _ (fldS cs fn p.1 env q.2 q.1) ⟨Q⟩⟩⟩ := wp_sFldS
@[simp ↓] theorem wq_sFor {it : Cm (List U)} {pt : Pat} {b : Sm} {Q : _ → Prop} : @wq _ (sFor it pt b env S) ⟨Q⟩ = @wq _ (it env S) ⟨fun p => @wq _ (loopF pt b p.1 env p.2) ⟨Q⟩⟩ := wp_sFor
@[simp ↓] theorem wq_cLcL {it : Cm (List U)} {pt : Pat} {t : Cm Bool} {c : Cm U} {vs : List Nat} {Q : _ → Prop} : @wq _ (cLcL it pt t c vs env S) ⟨Q⟩ = @wq _ (it env S) ⟨fun p => @wq _ (mapC pt t c (wipeE env vs) p.1 p.2) ⟨fun q => q.1.length ≤ sizeLine ∧ Q q⟩⟩ := wp_cLcL
@[simp ↓] theorem wq_cLc {it : Cm (List U)} {pt : Pat} {t : Cm Bool} {c : Cm U} {vs : List Nat} {Q : _ → Prop} : @wq _ (cLc it pt t c vs env S) ⟨Q⟩ = @wq _ (cLcL it pt t c vs env S) ⟨fun q => Q (.lst q.1, q.2)⟩ := wp_cLc
@[simp ↓] theorem wq_cLcM {it : Cm (List U)} {pt : Pat} {t : Cm Bool} {c : Cm U} {vs : List Nat} {Q : _ → Prop} : @wq _ (cLcM it pt t c vs env S) ⟨Q⟩ = @wq _ (cLcL it pt t c vs env S) ⟨fun q => Q (.ref q.2.length, q.2 ++ [.lst q.1])⟩ := wp_cLcM
@[simp ↓] theorem wq_itSeq {c : Cm U} {Q : _ → Prop} : @wq _ (itSeq c env S) ⟨Q⟩ = @wq _ (c env S) ⟨fun p => @wq _ (seqU p.1) ⟨fun us => Q (us, p.2)⟩⟩ := wp_itSeq
@[simp ↓] theorem wq_r1K {j : Int} {Q : _ → Prop} : @wq _ (r1K S [.int j]) ⟨Q⟩ = ((-4611686018427387904 ≤ j ∧ j < 4611686018427387904) ∧ Q (rangeU 0 j.toNat, S)) := wp_r1K
@[simp ↓] theorem wq_itR1 {c : Cm (List U)} {Q : _ → Prop} : @wq _ (itR1 c env S) ⟨Q⟩ = @wq _ (c env S) ⟨fun p => @wq _ (r1K p.2 p.1) ⟨Q⟩⟩ := wp_itR1
@[simp ↓] theorem wq_r2K {i j : Int} {Q : _ → Prop} : @wq _ (r2K S [.int i, .int j]) ⟨Q⟩ = (((-4611686018427387904 ≤ i ∧ i < 4611686018427387904) ∧ (-4611686018427387904 ≤ j ∧ j < 4611686018427387904)) ∧ Q (rangeU i (j - i).toNat, S)) := wp_r2K
@[simp ↓] theorem wq_itR2 {c : Cm (List U)} {Q : _ → Prop} : @wq _ (itR2 c env S) ⟨Q⟩ = @wq _ (c env S) ⟨fun p => @wq _ (r2K p.2 p.1) ⟨Q⟩⟩ := wp_itR2
@[simp ↓] theorem wq_itZip {c : Cm (List U)} {Q : _ → Prop} : @wq _ (itZip c env S) ⟨Q⟩ = @wq _ (c env S) ⟨fun p => @wq _ (zipK p.2 p.1) ⟨Q⟩⟩ := wp_itZip
@[simp ↓] theorem wq_cPart {c : Cm U} {Q : _ → Prop} : @wq _ (cPart c env S) ⟨Q⟩ = @wq _ (c env S) ⟨fun p => @wq _ (partK p.2 p.1) ⟨Q⟩⟩ := wp_cPart
@[simp ↓] theorem wq_cSl {mu : Bool} {c : Cm U} {l h : CmO} {Q : _ → Prop} : @wq _ (cSl mu c l h env S) ⟨Q⟩ = @wq _ (c env S) ⟨fun p => @wq _ (l env p.2) ⟨fun q => @wq _ (h env q.2) ⟨fun r => @wq _ (slU mu p.1 q.1 r.1 r.2) ⟨Q⟩⟩⟩⟩ := wp_cSl
@[simp ↓] theorem wq_cIsi {T : String} {c : Cm U} {Q : _ → Prop} : @wq _ (cIsi T c env S) ⟨Q⟩ = @wq _ (c env S) ⟨fun p => @wq _ (tyU p.2 p.1) ⟨fun t => @wq _ (kitB t T) ⟨fun r => Q (.bl r, p.2)⟩⟩⟩ := wp_cIsi
@[simp ↓] theorem wq_cTab {tbl : List (Str × U)} {c : Cm U} {Q : _ → Prop} : @wq _ (cTab tbl c env S) ⟨Q⟩ = @wq _ (c env S) ⟨fun p => @wq _ (tabK tbl p.2 p.1) ⟨Q⟩⟩ := wp_cTab
@[simp ↓] theorem wq_tcK {F : Str → Option OpN} {r : Cm (List U)} {n : Str} {Q : _ → Prop} : @wq _ (tcK F r env S (.fn n)) ⟨Q⟩ = @wq _ (r env S) ⟨fun p => @wq _ (F n) ⟨fun f => @wq _ (f p.1 p.2) ⟨Q⟩⟩⟩ := wp_tcK
@[simp ↓] theorem wq_cTabCall {F : Str → Option OpN} {c : Cm U} {r : Cm (List U)} {Q : _ → Prop} : @wq _ (cTabCall F c r env S) ⟨Q⟩ = @wq _ (c env S) ⟨fun p => @wq _ (tcK F r env p.2 p.1) ⟨Q⟩⟩ := wp_cTabCall
@[simp ↓] theorem wq_cMt {T : String} {f : U → OpN} {a : Cm U} {r : Cm (List U)} {Q : _ → Prop} : @wq _ (cMt T f a r env S) ⟨Q⟩ = @wq _ (a env S) ⟨fun p => (tyOkU T p.2 p.1 = true ∧ @wq _ (r env p.2) ⟨fun q => @wq _ (f p.1 q.1 q.2) ⟨Q⟩⟩)⟩ := wp_cMt
@[simp ↓] theorem wq_sSetI {f : U → U → U → Sto → Option Sto} {o i v : Cm U} {Q : _ → Prop} : @wq _ (sSetI f o i v env S) ⟨Q⟩ = @wq _ (v env S) ⟨fun p => @wq _ (o env p.2) ⟨fun q => @wq _ (i env q.2) ⟨fun r => @wq _ (f q.1 r.1 p.1 r.2) ⟨fun S4 => Q (.nx, env, S4)⟩⟩⟩⟩ := wp_sSetI
@[simp ↓] theorem wq_cDGet {d k x : Cm U} {Q : _ → Prop} : @wq _ (cDGet d k x env S) ⟨Q⟩ = @wq _ (d env S) ⟨fun p => @wq _ (dctU p.2 p.1) ⟨fun _ => @wq _ (k env p.2) ⟨fun q => @wq _ (x env q.2) ⟨fun r => @wq _ (dgK q.1 r.1 p.1 r.2) ⟨Q⟩⟩⟩⟩⟩ := wp_cDGet
@[simp ↓] theorem wq_sPar2 {i j : Nat} {a : Cm (List U)} {Q : _ → Prop} : @wq _ (sPar2 i j a env S) ⟨Q⟩ = @wq _ (a env S) ⟨fun p => @wq _ (par2K i j env p.2 p.1) ⟨Q⟩⟩ := wp_sPar2
@[simp ↓] theorem wq_sPar3 {i j l : Nat} {a : Cm (List U)} {Q : _ → Prop} : @wq _ (sPar3 i j l a env S) ⟨Q⟩ = @wq _ (a env S) ⟨fun p => @wq _ (par3K i j l env p.2 p.1) ⟨Q⟩⟩ := wp_sPar3
@[simp ↓] theorem wq_chK {g : Op2} {v : U} {c : Cm U} {k : Bool} {Q : _ → Prop} : @wq _ (chK g v c env (.bl k, S)) ⟨Q⟩ = @wiH k ⟨@wq _ (c env S) ⟨fun p => @wq _ (g v p.1 p.2) ⟨Q⟩⟩⟩ ⟨Q (.bl false, S)⟩ := wp_chK
@[simp ↓] theorem wq_cChain {f g : Op2} {a b c : Cm U} {Q : _ → Prop} : @wq _ (cChain f g a b c env S) ⟨Q⟩ = @wq _ (a env S) ⟨fun p => @wq _ (b env p.2) ⟨fun q => @wq _ (f p.1 q.1 q.2) ⟨fun r => @wq _ (chK g q.1 c env r) ⟨Q⟩⟩⟩⟩ := wp_cChain
@[simp ↓] theorem wq_cTest {a : Cm U} {Q : _ → Prop} : @wq _ (cTest a env S) ⟨Q⟩ = @wq _ (a env S) ⟨fun p => @wq _ (testK p.2 p.1) ⟨Q⟩⟩ := wp_cTest
@[simp ↓] theorem wq_cPairs {k v : Cm U} {r : List (Cm U × Cm U)} {Q : _ → Prop} : @wq _ (cPairs ((k, v) :: r) env S) ⟨Q⟩ = @wq _ (k env S) ⟨fun p => @wq _ (v env p.2) ⟨fun q => @wq _ (cPairs r env q.2) ⟨fun t => Q ((p.1, q.1) :: t.1, t.2)⟩⟩⟩ := wp_cPairs
@[simp ↓] theorem wq_cDisp {mu : Bool} {prs : List (Cm U × Cm U)} {Q : _ → Prop} : @wq _ (cDisp mu prs env S) ⟨Q⟩ = @wq _ (cPairs prs env S) ⟨fun p => @wq _ (dispK mu p.2 p.1) ⟨Q⟩⟩ := wp_cDisp
@[simp ↓] theorem wq_loop_nil {pt : Pat} {b : Sm} {Q : _ → Prop} : @wq _ (loopF pt b [] env S) ⟨Q⟩ = Q (.nx, env, S) := wp_loop_nil
@[simp ↓] theorem wq_loop {pt : Pat} {b : Sm} {u : U} {us : List U} {Q : _ → Prop} : @wq _ (loopF pt b (u :: us) env S) ⟨Q⟩ = @wq _ (bindP pt u) ⟨fun bs => @wq _ (b (setAll env bs) S) ⟨@loopH pt ⟨b⟩ ⟨us⟩ ⟨Q⟩⟩⟩ := wp_loop
@[simp ↓] theorem wq_map_nil {pt : Pat} {t : Cm Bool} {c : Cm U} {Q : _ → Prop} : @wq _ (mapC pt t c env [] S) ⟨Q⟩ = Q ([], S) := wp_map_nil
@[simp ↓] theorem wq_map {pt : Pat} {t : Cm Bool} {c : Cm U} {u : U} {us : List U} {Q : _ → Prop} : @wq _ (mapC pt t c env (u :: us) S) ⟨Q⟩ = @wq _ (bindP pt u) ⟨fun bs => @wq _ (t (setAll env bs) S) ⟨fun p => @wiH p.1 ⟨@wq _ (c (setAll env bs) p.2) ⟨fun p2 => @wq _ (mapC pt t c env us p2.2) ⟨fun q => Q (p2.1 :: q.1, q.2)⟩⟩⟩ ⟨@wq _ (mapC pt t c env us p.2) ⟨Q⟩⟩⟩⟩ := wp_map
end
theorem wiH_of {k : Bool} {A B : Hid Prop} (h1 : k = true → A.v) (h2 : k = false → B.v) : @wiH k A B := wif_of h1 h2
theorem wiH_dec {p : Prop} [Decidable p] {A B : Hid Prop} (h1 : p → A.v) (h2 : ¬ p → B.v) : @wiH (decide p) A B := wif_dec h1 h2
theorem wq_mono {α : Type} {x : Option α} {P : α → Prop} {Q : Hid (α → Prop)} (h : wp x P) (i : ∀ a, P a → Q.v a) : @wq _ x Q := wp_mono h i
theorem wq_of {α : Type} {x : Option α} {Q : Hid (α → Prop)} {a : α} (h : x = some a) (p : Q.v a) : @wq _ x Q := wp_of h p
end OF

namespace OF
open PySem PySem.Spec PyProof.Rows L2
/-! a store with one cell that is drawn from, and cells made behind it -/
def St (S : Sto) (h : Nat) (o : O) (cs : List O) : Sto := S.set h o ++ cs
section
variable {S : Sto} {h : Nat} {o o' : O} {cs : List O}
theorem st_of (hS : S[h]? = some o) : S = St S h o [] := by
  unfold St
  rw [List.append_nil]
  obtain ⟨hl, he⟩ := List.getElem?_eq_some_iff.mp hS
  rw [← he, List.set_getElem_self]
theorem st_lt (hS : S[h]? = some o) : h < S.length := (List.getElem?_eq_some_iff.mp hS).1
@[simp high] theorem st_len : (St S h o cs).length = S.length + cs.length := by simp [St]
theorem st_get (hh : h < S.length) : (St S h o cs)[h]? = some o := by
  unfold St
  rw [List.getElem?_append_left (by simpa using hh)]
  exact List.getElem?_set_self hh
theorem st_set (hh : h < S.length) : (St S h o cs).set h o' = St S h o' cs := by
  unfold St
  rw [List.set_append_left _ _ (by simpa using hh), List.set_set]
@[simp high] theorem st_at {i : Nat} : (St S h o cs)[S.length + i]? = cs[i]? := by
  unfold St
  rw [List.getElem?_append_right (by simp)]
  simp
@[simp high] theorem st_at0 : (St S h o cs)[S.length]? = cs[0]? := by
  have := st_at (S := S) (h := h) (o := o) (cs := cs) (i := 0)
  simpa using this
@[simp high] theorem st_put {i : Nat} {x : O} : (St S h o cs).set (S.length + i) x = St S h o (cs.set i x) := by
  unfold St
  rw [List.set_append_right _ _ (by simp)]
  simp
@[simp high] theorem st_put0 {x : O} : (St S h o cs).set S.length x = St S h o (cs.set 0 x) := by
  have := st_put (S := S) (h := h) (o := o) (cs := cs) (i := 0) (x := x)
  simpa using this
@[simp high] theorem st_app {x : List O} : St S h o cs ++ x = St S h o (cs ++ x) := by simp [St]
theorem st_old {j : Nat} (hj : j < S.length) (hn : j ≠ h) : (St S h o cs)[j]? = S[j]? := by
  unfold St
  rw [List.getElem?_append_left (by simpa using hj), List.getElem?_set_ne (Ne.symm hn)]
theorem st_set_old {j : Nat} {x : O} (hj : j < S.length) (hn : j ≠ h) : (St S h o cs).set j x = St (S.set j x) h o cs := by
  unfold St
  rw [List.set_append_left _ _ (by simpa using hj), List.set_comm _ _ hn]
end
@[simp] theorem rangeU_0 : rangeU 0 0 = [] := rfl
@[simp] theorem rangeU_3 : rangeU 0 3 = [.int 0, .int 1, .int 2] := rfl
theorem rangeU_eq (n : Nat) : rangeU 0 n = (List.range n).map fun (i : Nat) => U.int (i : Int) := by simp [rangeU]
@[simp high] theorem addU_i {mu : Bool} {i j : Int} {S : Sto} : addU mu (.int i) (.int j) S = some (.int (i + j), S) := rfl
@[simp high] theorem addU_s {mu : Bool} {x y : Str} {S : Sto} : addU mu (.str x) (.str y) S = if x.length + y.length ≤ sizeLine then some (.str (x ++ y), S) else none := by
  unfold addU
  simp only [orO_ap, o2I_ap, strAdd_ap, tupAdd_ap, lstAdd_ap, lstU]
  by_cases h : x.length + y.length ≤ sizeLine <;> simp [h]
@[simp high] theorem addU_t {mu : Bool} {x y : List U} {S : Sto} : addU mu (.tup x) (.tup y) S = if x.length + y.length ≤ sizeLine then some (.tup (x ++ y), S) else none := by
  unfold addU
  simp only [orO_ap, o2I_ap, strAdd_ap, tupAdd_ap, lstAdd_ap, lstU]
  by_cases h : x.length + y.length ≤ sizeLine <;> simp [h]
@[simp high] theorem addU_l {mu : Bool} {x : List U} {y : U} {S : Sto} : addU mu (.lst x) y S = lstAdd mu (.lst x) y S := rfl
@[simp high] theorem addU_r {mu : Bool} {x : Nat} {y : U} {S : Sto} : addU mu (.ref x) y S = lstAdd mu (.ref x) y S := rfl
/-- one of several written things -/
theorem atI_mem {α : Type} {us : List α} {d : Int} (h0 : 0 ≤ d) (h1 : d < us.length) : ∃ u, atI us d = some u ∧ u ∈ us := by
  obtain ⟨n, rfl⟩ : ∃ n : Nat, d = n := ⟨d.toNat, by omega⟩
  rw [OF.atI_nat]
  have : n < us.length := by omega
  exact ⟨us[n], List.getElem?_eq_getElem this, List.getElem_mem this⟩
end OF

namespace OF
open PySem PySem.Spec PyProof.Rows L2
theorem okU_lst {n : Nat} {us : List U} (h : okUs n us = true) : okU (n + 1) (.lst us) = true := by simpa [okU] using h
/-- a row against an empty one -/
theorem eqU_nil {neg : Bool} {S : Sto} {us : List U} (h : okUs 58 us = true) : OF.eqU neg (.lst us) (.lst []) S = some (.bl (if neg then !us.isEmpty else us.isEmpty), S) := by
  obtain ⟨ds, e, h1, h2⟩ := okUs_toDs 58 us h
  unfold OF.eqU orO eqS
  show eqDU neg (.lst us) (.lst []) S = _
  unfold eqDU
  have e1 : toDS S (.lst us) = some (.list ds) := by simp only [toDS, toD, e]
  have e2 : toDS S (.lst []) = some (.list []) := by simp [toDS, toD, toDs]
  rw [e1, e2]
  have hs : SeqAt.shaped (.list ds) = true := by
    unfold SeqAt.shaped
    simp only [PyData.canLay0, PyData.depth, h1]
    simp
    omega
  have hs2 : SeqAt.shaped (.list []) = true := by decide
  simp only [hs, hs2, and_self, if_true]
  have : PyData.eqv (.list ds) (.list []) = us.isEmpty := by
    rw [PyData.eqv]
    cases us with
    | nil => simp only [toDs] at e; cases e; rfl
    | cons u us =>
      simp only [toDs] at e
      split at e
      · cases e
      · split at e
        · cases e
        · cases e; rfl
  rw [this]
@[simp] theorem dctU_dct (S : Sto) (kvs : List (Key × U)) : dctU S (.dct kvs) = some kvs := rfl
@[simp] theorem getK_nil {α : Type} (k : Key) : getK ([] : List (Key × α)) k = none := rfl
@[simp] theorem getK_cons {α : Type} (p : Key × α) (t : List (Key × α)) (k : Key) : getK (p :: t) k = if p.1 = k then some p.2 else getK t k := by
  unfold getK
  by_cases e : p.1 = k <;> simp [List.find?_cons, e]
@[simp] theorem putKU_nil {α : Type} (k : Key) (v : α) : putKU [] k v = [(k, v)] := rfl
@[simp] theorem putKU_cons {α : Type} (p : Key × α) (t : List (Key × α)) (k : Key) (v : α) : putKU (p :: t) k v = if p.1 = k then (p.1, v) :: t.map (fun kv => if kv.1 = k then (kv.1, v) else kv) else p :: putKU t k v := by
  unfold putKU
  by_cases e : p.1 = k
  · simp [e]
  · simp only [List.any_cons, e, decide_false, Bool.false_or, List.map_cons, if_false, List.cons_append]
    split <;> rfl
@[simp] theorem atI_last {α : Type} (us : List α) (u : α) : atI (us ++ [u]) (-1) = some u := by
  unfold atI ixN
  have h1 : (1 : Int) ≤ (us.length : Int) + 1 := by omega
  have h2 : (-1 + ((us.length : Int) + 1)).toNat = us.length := by omega
  simp [h1, h2]
@[simp] theorem atI_last' {α : Type} (us : List α) (u : α) : atI (us ++ [u]) (-(1 : Int)) = some u := atI_last us u
end OF

namespace OF
open PySem PySem.Spec PyProof.Rows L2
/-! dicts that are sets of texts -/
def addS (acc l : List Str) : List Str := l.foldl (fun a k => if k ∈ a then a else a ++ [k]) acc
def trK (l : List Str) : List (Key × U) := l.map fun k => (.inr k, .bl true)
@[simp] theorem addS_nil (acc : List Str) : addS acc [] = acc := rfl
theorem addS_cons (acc : List Str) (k : Str) (l : List Str) : addS acc (k :: l) = addS (if k ∈ acc then acc else acc ++ [k]) l := rfl
theorem addS_app (acc l m : List Str) : addS acc (l ++ m) = addS (addS acc l) m := by unfold addS; rw [List.foldl_append]
theorem addS_mem {x : Str} : ∀ (l acc : List Str), x ∈ addS acc l ↔ x ∈ acc ∨ x ∈ l
  | [], acc => by simp
  | k :: l, acc => by
    rw [addS_cons, addS_mem l]
    by_cases h : k ∈ acc
    · rw [if_pos h]
      constructor
      · rintro (h1 | h1)
        · exact .inl h1
        · exact .inr (by simp [h1])
      · rintro (h1 | h1)
        · exact .inl h1
        · rcases List.mem_cons.mp h1 with rfl | h1
          · exact .inl h
          · exact .inr h1
    · rw [if_neg h]
      simp [or_assoc]
theorem addS_nodup : ∀ (l acc : List Str), acc.Nodup → (addS acc l).Nodup
  | [], acc, h => h
  | k :: l, acc, h => by
    rw [addS_cons]
    apply addS_nodup l
    split
    · exact h
    · rename_i hk
      refine List.nodup_append.mpr ⟨h, by simp, ?_⟩
      intro a ha b hb e
      rw [List.mem_singleton.mp hb] at e
      exact hk (e ▸ ha)
theorem put_trK (acc : List Str) (k : Str) : putKU (trK acc) (.inr k) (.bl true) = trK (if k ∈ acc then acc else acc ++ [k]) := by
  have ha : ((trK acc).any fun kv => decide (kv.1 = .inr k)) = decide (k ∈ acc) := by
    induction acc with
    | nil => rfl
    | cons x acc ih =>
      unfold trK at ih ⊢
      rw [List.map_cons, List.any_cons, ih]
      by_cases h : x = k
      · subst h; simp
      · have h' : ¬ k = x := fun z => h z.symm
        simp [h, h']
  unfold putKU
  rw [ha]
  by_cases h : k ∈ acc
  · rw [decide_eq_true h, if_pos rfl, if_pos h]
    unfold trK
    rw [List.map_map]
    apply List.map_congr_left
    intro x _
    by_cases e : x = k <;> simp [e]
  · rw [decide_eq_false h, if_neg (by simp), if_neg h]
    simp [trK]
theorem merge_trK : ∀ (l acc : List Str), mergeU (trK acc) (trK l) = trK (addS acc l)
  | [], acc => rfl
  | k :: l, acc => by
    rw [addS_cons, ← merge_trK l, ← put_trK]
    rfl
theorem strsK_trK : ∀ l : List Str, strsK (trK l) = some l
  | [] => rfl
  | k :: l => by
    have := strsK_trK l
    unfold trK at this ⊢
    rw [List.map_cons, strsK, this]
    rfl
@[simp] theorem trK_len (l : List Str) : (trK l).length = l.length := by simp [trK]
theorem sortS_perm {a b : List Str} (h : a.Perm b) : sortS a = sortS b := by
  have h1 : (sortS a).Pairwise (fun a b => leS a b = true) := List.pairwise_mergeSort leS_trans leS_total a
  have h2 : (sortS b).Pairwise (fun a b => leS a b = true) := List.pairwise_mergeSort leS_trans leS_total b
  exact List.Perm.eq_of_pairwise (le := fun a b => leS a b = true) (fun a b _ _ => leS_anti a b) h1 h2 (((List.mergeSort_perm a leS).trans h).trans (List.mergeSort_perm b leS).symm)
theorem sortS_ext {a b : List Str} (ha : a.Nodup) (hb : b.Nodup) (h : ∀ x, x ∈ a ↔ x ∈ b) : sortS a = sortS b := sortS_perm ((List.perm_ext_iff_of_nodup ha hb).mpr h)
theorem nodup_len : ∀ {a b : List Str}, a.Nodup → (∀ x ∈ a, x ∈ b) → a.length ≤ b.length
  | [], b, _, _ => Nat.zero_le _
  | x :: a, b, hn, h => by
    have hx := h x (by simp)
    have hn' := List.nodup_cons.mp hn
    have := nodup_len (a := a) (b := b.erase x) hn'.2 (fun y hy => by
      have hne : y ≠ x := fun e => hn'.1 (e ▸ hy)
      exact (List.mem_erase_of_ne hne).mpr (h y (by simp [hy])))
    rw [List.length_erase_of_mem hx] at this
    have hpos : 0 < b.length := List.length_pos_of_mem hx
    simp
    omega
end OF

namespace OF
open PySem PySem.Spec PyProof.Rows L2
@[simp] theorem cTabIn_ap (neg : Bool) (ks : List Str) (c : Cm U) (env : Env') (S : Sto) : cTabIn neg ks c env S = (match c env S with
  | some (.str z, S1) => some (.bl (if neg then !ks.contains z else ks.contains z), S1)
  | _ => none) := rfl
def tabInK (neg : Bool) (ks : List Str) (p : U × Sto) : Option (U × Sto) := match p.1 with
  | .str z => some (.bl (if neg then !ks.contains z else ks.contains z), p.2)
  | _ => none
@[simp] theorem tabInK_s (neg : Bool) (ks : List Str) (z : Str) (S : Sto) : tabInK neg ks (.str z, S) = some (.bl (if neg then !ks.contains z else ks.contains z), S) := rfl
@[simp ↓] theorem wq_cTabIn {neg : Bool} {ks : List Str} {c : Cm U} {env : Env'} {S : Sto} {Q : _ → Prop} : @wq _ (cTabIn neg ks c env S) ⟨Q⟩ = @wq _ (c env S) ⟨fun p => @wq _ (tabInK neg ks p) ⟨Q⟩⟩ := by
  unfold cTabIn wq wp
  rcases c env S with _ | ⟨u, S1⟩
  · simp
  · cases u <;> simp only [tabInK, Option.some.injEq, exists_eq_left', reduceCtorEq, false_and, exists_false]
@[simp] theorem eqUE_ap (neg : Bool) (a b : U) (S : Sto) : eqUE neg a b S = (match eqE neg a b S with
  | some r => some r
  | none => eqU neg a b S) := rfl
@[simp] theorem eqE_t (neg : Bool) (us : List U) (S : Sto) : eqE neg (.tup us) (.tup []) S = some (.bl (if neg then !us.isEmpty else us.isEmpty), S) := rfl
@[simp] theorem kit_NoneType_int : kitB "NoneType" "int" = some false := by kernel_rfl
@[simp] theorem kit_NoneType_bool : kitB "NoneType" "bool" = some false := by kernel_rfl
@[simp] theorem kit_NoneType_str : kitB "NoneType" "str" = some false := by kernel_rfl
@[simp] theorem kit_NoneType_tuple : kitB "NoneType" "tuple" = some false := by kernel_rfl
@[simp] theorem kit_NoneType_list : kitB "NoneType" "list" = some false := by kernel_rfl
@[simp] theorem kit_NoneType_dict : kitB "NoneType" "dict" = some false := by kernel_rfl
@[simp] theorem kit_bool_int : kitB "bool" "int" = some true := by kernel_rfl
@[simp] theorem kit_bool_bool : kitB "bool" "bool" = some true := by kernel_rfl
@[simp] theorem kit_bool_str : kitB "bool" "str" = some false := by kernel_rfl
@[simp] theorem kit_bool_tuple : kitB "bool" "tuple" = some false := by kernel_rfl
@[simp] theorem kit_bool_list : kitB "bool" "list" = some false := by kernel_rfl
@[simp] theorem kit_bool_dict : kitB "bool" "dict" = some false := by kernel_rfl
@[simp] theorem kit_int_int : kitB "int" "int" = some true := by kernel_rfl
@[simp] theorem kit_int_bool : kitB "int" "bool" = some false := by kernel_rfl
@[simp] theorem kit_int_str : kitB "int" "str" = some false := by kernel_rfl
@[simp] theorem kit_int_tuple : kitB "int" "tuple" = some false := by kernel_rfl
@[simp] theorem kit_int_list : kitB "int" "list" = some false := by kernel_rfl
@[simp] theorem kit_int_dict : kitB "int" "dict" = some false := by kernel_rfl
@[simp] theorem kit_str_int : kitB "str" "int" = some false := by kernel_rfl
@[simp] theorem kit_str_bool : kitB "str" "bool" = some false := by kernel_rfl
@[simp] theorem kit_str_str : kitB "str" "str" = some true := by kernel_rfl
@[simp] theorem kit_str_tuple : kitB "str" "tuple" = some false := by kernel_rfl
@[simp] theorem kit_str_list : kitB "str" "list" = some false := by kernel_rfl
@[simp] theorem kit_str_dict : kitB "str" "dict" = some false := by kernel_rfl
@[simp] theorem kit_tuple_int : kitB "tuple" "int" = some false := by kernel_rfl
@[simp] theorem kit_tuple_bool : kitB "tuple" "bool" = some false := by kernel_rfl
@[simp] theorem kit_tuple_str : kitB "tuple" "str" = some false := by kernel_rfl
@[simp] theorem kit_tuple_tuple : kitB "tuple" "tuple" = some true := by kernel_rfl
@[simp] theorem kit_tuple_list : kitB "tuple" "list" = some false := by kernel_rfl
@[simp] theorem kit_tuple_dict : kitB "tuple" "dict" = some false := by kernel_rfl
@[simp] theorem kit_list_int : kitB "list" "int" = some false := by kernel_rfl
@[simp] theorem kit_list_bool : kitB "list" "bool" = some false := by kernel_rfl
@[simp] theorem kit_list_str : kitB "list" "str" = some false := by kernel_rfl
@[simp] theorem kit_list_tuple : kitB "list" "tuple" = some false := by kernel_rfl
@[simp] theorem kit_list_list : kitB "list" "list" = some true := by kernel_rfl
@[simp] theorem kit_list_dict : kitB "list" "dict" = some false := by kernel_rfl
@[simp] theorem kit_dict_int : kitB "dict" "int" = some false := by kernel_rfl
@[simp] theorem kit_dict_bool : kitB "dict" "bool" = some false := by kernel_rfl
@[simp] theorem kit_dict_str : kitB "dict" "str" = some false := by kernel_rfl
@[simp] theorem kit_dict_tuple : kitB "dict" "tuple" = some false := by kernel_rfl
@[simp] theorem kit_dict_list : kitB "dict" "list" = some false := by kernel_rfl
@[simp] theorem kit_dict_dict : kitB "dict" "dict" = some true := by kernel_rfl
@[simp] theorem tyU_non (S : Sto) : tyU S .non = some "NoneType" := rfl
@[simp] theorem tyU_bl (S : Sto) (b : Bool) : tyU S (.bl b) = some "bool" := rfl
@[simp] theorem tyU_int (S : Sto) (i : Int) : tyU S (.int i) = some "int" := rfl
@[simp] theorem tyU_str (S : Sto) (x : Str) : tyU S (.str x) = some "str" := rfl
@[simp] theorem tyU_tup (S : Sto) (us : List U) : tyU S (.tup us) = some "tuple" := rfl
@[simp] theorem tyU_lst (S : Sto) (us : List U) : tyU S (.lst us) = some "list" := rfl
@[simp] theorem tyU_dct (S : Sto) (us : List (Key × U)) : tyU S (.dct us) = some "dict" := rfl
@[simp] theorem seqU_str (x : Str) : seqU (.str x) = some (signsU x) := rfl
@[simp] theorem atI_lit0 {α : Type} (us : List α) : atI us 0 = us[0]? := OF.atI_nat α us 0
@[simp] theorem atI_lit1 {α : Type} (us : List α) : atI us 1 = us[1]? := OF.atI_nat α us 1
@[simp] theorem atI_lit2 {α : Type} (us : List α) : atI us 2 = us[2]? := OF.atI_nat α us 2
@[simp] theorem atI_lit3 {α : Type} (us : List α) : atI us 3 = us[3]? := OF.atI_nat α us 3
theorem cutU_lo (T : List U) (m : Nat) : cutU T none (some (m : Int)) = T.take m := by
  unfold cutU
  rw [HT.sIx_nat, HT.sIx_none]
  simp
theorem cutU_hi (T : List U) (m : Nat) : cutU T (some (m : Int)) none = T.drop m := by
  unfold cutU
  rw [HT.sIx_nat, HT.sIx_none]
  by_cases h : m ≤ T.length
  · rw [Nat.min_eq_left h]
    exact List.take_of_length_le (by simp)
  · rw [Nat.min_eq_right (by omega), List.drop_eq_nil_of_le (by omega : T.length ≤ m)]
    simp
theorem cutU_mid (T : List U) (i j : Nat) : cutU T (some (i : Int)) (some (j : Int)) = (T.take j).drop i := by
  unfold cutU
  rw [HT.sIx_nat, HT.sIx_nat]
  apply List.ext_getElem?
  intro k
  simp only [List.getElem?_take, List.getElem?_drop]
  by_cases h : T.length ≤ i
  · have : T[i + k]? = none := List.getElem?_eq_none (by omega)
    have e : T[min i T.length + k]? = none := List.getElem?_eq_none (by omega)
    simp [this, e]
  · have e : min i T.length = i := by omega
    rw [e]
    by_cases h2 : i + k < T.length
    · have q1 : (k < min j T.length - i) ↔ (i + k < j) := by omega
      simp only [q1]
    · have : T[i + k]? = none := List.getElem?_eq_none (by omega)
      simp [this]
@[simp] theorem cutU_1 (T : List U) : cutU T (some 1) none = T.drop 1 := cutU_hi T 1
@[simp] theorem cutU_2 (T : List U) : cutU T (some 2) none = T.drop 2 := cutU_hi T 2
@[simp] theorem cutU_3 (T : List U) : cutU T (some 3) none = T.drop 3 := cutU_hi T 3
@[simp] theorem cutU_t1 (T : List U) : cutU T none (some 1) = T.take 1 := cutU_lo T 1
@[simp] theorem cutU_last (T : List U) : cutU T none (some (-1)) = T.take (T.length - 1) := by
  unfold cutU
  rw [HT.sIx_none]
  have : HT.sIx T.length T.length (some (-1)) = T.length - 1 := by
    simp only [HT.sIx]
    rw [if_pos (by decide)]
    omega
  rw [this]
  simp
/-- a comprehension whose parts are told by a plain function -/
theorem mapC_fn {pt : Pat} {c : Cm U} {env : Env'} {S : Sto} (f : U → U) : ∀ (us : List U), (∀ u ∈ us, ∃ bs, bindP pt u = some bs ∧ c (setAll env bs) S = some (f u, S)) → mapC pt cYes c env us S = some (us.map f, S)
  | [], _ => rfl
  | u :: us, h => by
    obtain ⟨bs, e1, e2⟩ := h u (by simp)
    have ih := mapC_fn f us fun v hv => h v (by simp [hv])
    simp [-mapC_cons, mapC, e1, cYes, e2, ih]
theorem boolsU_map {α : Type} (p : α → Bool) : ∀ us : List α, boolsU (us.map fun u => U.bl (p u)) = some (us.map p)
  | [] => rfl
  | u :: us => by
    have := boolsU_map p us
    simp [boolsU, this]
theorem map_id_all {α : Type} (p : α → Bool) (us : List α) : ((us.map p).all id) = us.all p := by simp [List.all_map]
/-! data without cells: ints up to b, texts of plain signs -/
def asc (x : Str) : Bool := x.cps.toList.all fun c => decide (c < 128)
def okK (b : Nat) : Key → Bool
  | .inl i => decide (i.natAbs ≤ b)
  | .inr x => asc x
mutual
def dat (b : Nat) : U → Bool
  | .non => true
  | .bl _ => true
  | .int i => decide (i.natAbs ≤ b)
  | .str x => asc x
  | .tup us => dats b us
  | .lst us => dats b us
  | .dct kvs => datk b kvs
  | _ => false
def dats (b : Nat) : List U → Bool
  | [] => true
  | u :: us => dat b u && dats b us
def datk (b : Nat) : List (Key × U) → Bool
  | [] => true
  | (k, u) :: us => (okK b k && dat b u) && datk b us
end
mutual
def wt : U → Nat
  | .str x => x.cps.size
  | .tup us => wts us
  | .lst us => wts us
  | .dct us => wtk us
  | _ => 0
def wts : List U → Nat
  | [] => 0
  | u :: us => wt u + 1 + wts us
def wtk : List (Key × U) → Nat
  | [] => 0
  | (k, u) :: us => (match k with | .inl _ => 0 | .inr x => x.cps.size) + wt u + 2 + wtk us
end
mutual
def dpt : U → Nat
  | .tup us => dpts us + 1
  | .lst us => dpts us + 1
  | .dct us => dptk us + 1
  | _ => 0
def dpts : List U → Nat
  | [] => 0
  | u :: us => max (dpt u) (dpts us)
def dptk : List (Key × U) → Nat
  | [] => 0
  | (_, u) :: us => max (dpt u) (dptk us)
end
theorem asc_short {x : Str} (h : asc x = true) : (x.cps.toList.all fun c => decide (c < 16 ^ 8)) = true := by
  unfold asc at h
  rw [List.all_eq_true] at h ⊢
  intro c hc
  have := h c hc
  simp at this ⊢
  omega
theorem dats_mem {b : Nat} : ∀ {us : List U}, dats b us = true ↔ ∀ u ∈ us, dat b u = true
  | [] => by simp [dats]
  | u :: us => by simp [dats, dats_mem (us := us)]
mutual
theorem dat_noref {b : Nat} : ∀ (u : U), dat b u = true → noref u = true
  | .non, _ => rfl
  | .bl _, _ => rfl
  | .int _, _ => rfl
  | .str _, _ => rfl
  | .tup us, h => by simp only [dat] at h; simpa [noref] using dats_norefs us h
  | .lst us, h => by simp only [dat] at h; simpa [noref] using dats_norefs us h
  | .dct us, h => by simp only [dat] at h; simpa [noref] using datk_norefk us h
  | .scr _, h => by simp [dat] at h
  | .fn _, h => by simp [dat] at h
  | .ref _, h => by simp [dat] at h
theorem dats_norefs {b : Nat} : ∀ (us : List U), dats b us = true → norefs us = true
  | [], _ => rfl
  | u :: us, h => by
    simp only [dats, Bool.and_eq_true] at h
    simp [norefs, dat_noref u h.1, dats_norefs us h.2]
theorem datk_norefk {b : Nat} : ∀ (us : List (Key × U)), datk b us = true → norefk us = true
  | [], _ => rfl
  | (k, u) :: us, h => by
    simp only [datk, Bool.and_eq_true] at h
    simp [norefk, dat_noref u h.1.2, datk_norefk us h.2]
end
mutual
theorem dat_mono {b c : Nat} (l : b ≤ c) : ∀ (u : U), dat b u = true → dat c u = true
  | .non, _ => rfl
  | .bl _, _ => rfl
  | .int _, h => by simp only [dat, decide_eq_true_eq] at h ⊢; omega
  | .str _, h => h
  | .tup us, h => by simp only [dat] at h ⊢; exact dats_mono l us h
  | .lst us, h => by simp only [dat] at h ⊢; exact dats_mono l us h
  | .dct us, h => by simp only [dat] at h ⊢; exact datk_mono l us h
  | .scr _, h => by simp [dat] at h
  | .fn _, h => by simp [dat] at h
  | .ref _, h => by simp [dat] at h
theorem dats_mono {b c : Nat} (l : b ≤ c) : ∀ (us : List U), dats b us = true → dats c us = true
  | [], _ => rfl
  | u :: us, h => by
    simp only [dats, Bool.and_eq_true] at h ⊢
    exact ⟨dat_mono l u h.1, dats_mono l us h.2⟩
theorem datk_mono {b c : Nat} (l : b ≤ c) : ∀ (us : List (Key × U)), datk b us = true → datk c us = true
  | [], _ => rfl
  | (k, u) :: us, h => by
    simp only [datk, Bool.and_eq_true] at h ⊢
    refine ⟨⟨?_, dat_mono l u h.1.2⟩, datk_mono l us h.2⟩
    cases k with
    | inl i => have := h.1.1; simp only [okK, decide_eq_true_eq] at this ⊢; omega
    | inr x => exact h.1.1
end
theorem int_short {i : Int} {b : Nat} (hb : b < 2 ^ 399) (h : i.natAbs ≤ b) : i.natAbs.log2 < 400 := by
  by_cases h0 : i.natAbs = 0
  · rw [h0]; decide
  · have : i.natAbs.log2 < 399 := (Nat.log2_lt h0).mpr (by omega)
    omega
theorem int_leaf {i : Int} (h : i.natAbs.log2 < 400) : PyData.leavesShort 401 (.int i) = true ∧ PyData.showable (.int i) = true := by
  refine ⟨?_, ?_⟩
  · have := int_text_length_le (a := i) (k := 400) (by decide) h
    show decide ((Str.ofString (toString i)).length ≤ 401) = true
    rw [PySem.ofString_length]
    exact decide_eq_true this
  · simp only [PyData.showable, decide_eq_true_eq]; omega
mutual
theorem shX_ok {b : Nat} (hb : b < 2 ^ 399) : ∀ (u : U), dat b u = true → ∃ d, toX u = some d ∧ d.leavesShort 401 = true ∧ d.showable = true ∧ d.bulk = wt u ∧ d.depth = dpt u
  | .non, _ => ⟨_, rfl, rfl, rfl, rfl, rfl⟩
  | .bl _, _ => ⟨_, rfl, rfl, rfl, rfl, rfl⟩
  | .int i, h => by
    simp only [dat, decide_eq_true_eq] at h
    obtain ⟨a, c⟩ := int_leaf (int_short hb h)
    exact ⟨_, rfl, a, c, rfl, rfl⟩
  | .str x, h => ⟨_, rfl, by simpa only [PyData.leavesShort] using asc_short h, rfl, rfl, rfl⟩
  | .tup us, h => by
    obtain ⟨ds, e, a, c, k, l⟩ := shXs_ok hb us (by simpa only [dat] using h)
    refine ⟨.tuple ds, by simp only [toX, e, Option.map_some], ?_, ?_, ?_, ?_⟩
    · simpa only [PyData.leavesShort] using a
    · simpa only [PyData.showable] using c
    · simpa only [PyData.bulk, wt] using k
    · simpa only [PyData.depth, dpt, Nat.add_right_cancel_iff] using l
  | .lst us, h => by
    obtain ⟨ds, e, a, c, k, l⟩ := shXs_ok hb us (by simpa only [dat] using h)
    refine ⟨.list ds, by simp only [toX, e, Option.map_some], ?_, ?_, ?_, ?_⟩
    · simpa only [PyData.leavesShort] using a
    · simpa only [PyData.showable] using c
    · simpa only [PyData.bulk, wt] using k
    · simpa only [PyData.depth, dpt, Nat.add_right_cancel_iff] using l
  | .dct us, h => by
    obtain ⟨ds, e, a, c, k, l⟩ := shXk_ok hb us (by simpa only [dat] using h)
    refine ⟨.dict ds, by simp only [toX, e, Option.map_some], ?_, ?_, ?_, ?_⟩
    · simpa only [PyData.leavesShort] using a
    · simpa only [PyData.showable] using c
    · simpa only [PyData.bulk, wt] using k
    · simpa only [PyData.depth, dpt, Nat.add_right_cancel_iff] using l
  | .scr _, h => by simp [dat] at h
  | .fn _, h => by simp [dat] at h
  | .ref _, h => by simp [dat] at h
theorem shXs_ok {b : Nat} (hb : b < 2 ^ 399) : ∀ (us : List U), dats b us = true → ∃ ds, toXs us = some ds ∧ PyData.leavesShortAll 401 ds = true ∧ PyData.showableAll ds = true ∧ PyData.bulkAll ds = wts us ∧ PyData.depthAll ds = dpts us
  | [], _ => ⟨[], rfl, rfl, rfl, rfl, rfl⟩
  | u :: us, h => by
    simp only [dats, Bool.and_eq_true] at h
    obtain ⟨d, e, a, c, k, l⟩ := shX_ok hb u h.1
    obtain ⟨ds, e', a', c', k', l'⟩ := shXs_ok hb us h.2
    exact ⟨d :: ds, by simp only [toXs, e, e'], by simp only [PyData.leavesShortAll, a, a', Bool.and_self], by simp only [PyData.showableAll, c, c', Bool.and_self], by simp only [PyData.bulkAll, wts, k, k'], by simp only [PyData.depthAll, dpts, l, l']⟩
theorem shXk_ok {b : Nat} (hb : b < 2 ^ 399) : ∀ (us : List (Key × U)), datk b us = true → ∃ ds, toXk us = some ds ∧ PyData.leavesShortKv 401 ds = true ∧ PyData.showableKv ds = true ∧ PyData.bulkKv ds = wtk us ∧ PyData.depthKv ds = dptk us
  | [], _ => ⟨[], rfl, rfl, rfl, rfl, rfl⟩
  | (k0, u) :: us, h => by
    simp only [datk, Bool.and_eq_true] at h
    obtain ⟨d, e, a, c, k, l⟩ := shX_ok hb u h.1.2
    obtain ⟨ds, e', a', c', k', l'⟩ := shXk_ok hb us h.2
    cases k0 with
    | inl i =>
      have hi := h.1.1
      simp only [okK, decide_eq_true_eq] at hi
      obtain ⟨a0, c0⟩ := int_leaf (int_short hb hi)
      exact ⟨(.int i, d) :: ds, by simp only [toXk, e, e', keyD], by simp only [PyData.leavesShortKv, a0, a, a', Bool.and_self], by simp only [PyData.showableKv, c0, c, c', Bool.and_self], by simp only [PyData.bulkKv, wtk, k, k', PyData.bulk], by simp only [PyData.depthKv, dptk, l, l', PyData.depth]; omega⟩
    | inr x =>
      have a0 : PyData.leavesShort 401 (.str x) = true := by simpa only [PyData.leavesShort] using asc_short h.1.1
      exact ⟨(.str x, d) :: ds, by simp only [toXk, e, e', keyD], by simp only [PyData.leavesShortKv, a0, a, a', Bool.and_self], by simp only [PyData.showableKv, PyData.showable, c, c', Bool.and_self], by simp only [PyData.bulkKv, wtk, k, k', PyData.bulk], by simp only [PyData.depthKv, dptk, l, l', PyData.depth]; omega⟩
end
/-- what may be shown -/
theorem reprX_ok {b : Nat} {u : U} (hb : b < 2 ^ 399) (h : dat b u = true) (hw : wt u ≤ 40000) (hd : dpt u ≤ 60) : ∃ t : Str, ∀ S : Sto, reprX u S = some (.str t, S) := by
  obtain ⟨d, e, a, c, k, l⟩ := shX_ok hb u h
  have hl := PyData.shown_le_bulk 401 (by decide) d a
  have hs : showX d = true := by
    simp only [showX, Bool.and_eq_true, decide_eq_true_eq]
    exact ⟨c, by omega, le_size _ (by rw [k] at hl; omega)⟩
  exact ⟨d.shown, fun S => by simp [reprX, e, hs]⟩
end OF

namespace OF
open PySem PySem.Spec PyProof.Rows L2
/-- a clause that puts together lists told by a plain function -/
theorem loopA_flat {pt : Pat} {body : Bd (List U)} {env : Env'} {S : Sto} {us0 : List U} (f : U → List U) (M : Nat) : ∀ (us acc : List U), acc.length + (us.flatMap f).length ≤ M →
    (∀ u ∈ us, ∃ bs, bindP pt u = some bs ∧ ∀ a : List U, a.length + (f u).length ≤ M → body (setAll env bs) a S = some (a ++ f u, S)) → loopA pt cYes env none us0 body us acc S = some (acc ++ us.flatMap f, S)
  | [], acc, _, _ => by simp [loopA]
  | u :: us, acc, hl, h => by
    obtain ⟨bs, e1, e2⟩ := h u (by simp)
    have hl' : acc.length + (f u).length + (us.flatMap f).length ≤ M := by simpa [Nat.add_assoc] using hl
    have e3 := e2 acc (by omega)
    have ih := loopA_flat (env := env) (S := S) (us0 := us0) f M us (acc ++ f u) (by simp only [List.length_append]; omega) fun v hv => h v (by simp [hv])
    rw [loopA]
    simp only [gok_none, if_true, e1]
    simp [cYes, e3, ih]
end OF

namespace K02
open PySem PySem.Spec PyProof.Rows L2 OF
def topS (i : Nat) : Stmt := PySem.Challenge.pw_onceforms_k02_programs_at_their_bounds.main.body.getD i (.Pass ⟨0, 0, 0, 0⟩)
abbrev st__law_hand : Stmt := topS 27
abbrev N__law_hand : List Str := ["_law_script", "_law_k", "_law_cell", "_law_great"]
theorem sc__law_hand : FnScope N__law_hand ["_law_script", "_law_k"] (defScope st__law_hand) := ⟨rfl, rfl, rfl, by decide +kernel, rfl, by decide +kernel, by decide +kernel⟩
abbrev st__law_take : Stmt := topS 28
abbrev N__law_take : List Str := ["_law_hand_here", "_law_many", "_law_digit"]
theorem sc__law_take : FnScope N__law_take ["_law_hand_here", "_law_many"] (defScope st__law_take) := ⟨rfl, rfl, rfl, by decide +kernel, rfl, by decide +kernel, by decide +kernel⟩
abbrev st__law_put : Stmt := topS 31
abbrev N__law_put : List Str := ["_law_hand_here", "_law_blocks_here", "_law_rows_here", "_law_found", "_law_alone", "_law_at", "_law_row", "_law_block"]
theorem sc__law_put : FnScope N__law_put ["_law_hand_here", "_law_blocks_here", "_law_rows_here"] (defScope st__law_put) := ⟨rfl, rfl, rfl, by decide +kernel, rfl, by decide +kernel, by decide +kernel⟩
abbrev st__law_pick : Stmt := topS 29
abbrev N__law_pick : List Str := ["_law_hand_here", "_law_some"]
theorem sc__law_pick : FnScope N__law_pick ["_law_hand_here", "_law_some"] (defScope st__law_pick) := ⟨rfl, rfl, rfl, by decide +kernel, rfl, by decide +kernel, by decide +kernel⟩
abbrev st__law_small : Stmt := topS 34
abbrev N__law_small : List Str := ["_law_hand_here", "_law_rows_here", "_law_row", "_law_is_one", "_law_ahead", "_law_ends", "_law_end", "_law_is_other", "_law_there", "_law_program", "_law_k"]
theorem sc__law_small : FnScope N__law_small ["_law_hand_here"] (defScope st__law_small) := ⟨rfl, rfl, rfl, by decide +kernel, rfl, by decide +kernel, by decide +kernel⟩
abbrev st__law_is : Stmt := topS 36
abbrev N__law_is : List Str := ["_law_told", "_law_due"]
theorem sc__law_is : FnScope N__law_is ["_law_told", "_law_due"] (defScope st__law_is) := ⟨rfl, rfl, rfl, by decide +kernel, rfl, by decide +kernel, by decide +kernel⟩
abbrev st__law_blocks : Stmt := topS 30
abbrev N__law_blocks : List Str := ["_law_hand_here", "_law_many", "_law_letters", "_law_names", "_law_found", "_law_name", "_law_k"]
theorem sc__law_blocks : FnScope N__law_blocks ["_law_hand_here", "_law_many"] (defScope st__law_blocks) := ⟨rfl, rfl, rfl, by decide +kernel, rfl, by decide +kernel, by decide +kernel⟩
abbrev st__law_rows : Stmt := topS 32
abbrev N__law_rows : List Str := ["_law_many", "_law_names", "_law_found", "_law_k", "_law_a", "_law_b"]
theorem sc__law_rows : FnScope N__law_rows ["_law_many", "_law_names"] (defScope st__law_rows) := ⟨rfl, rfl, rfl, by decide +kernel, rfl, by decide +kernel, by decide +kernel⟩
abbrev st_are_unlike : Stmt := topS 12
abbrev N_are_unlike : List Str := ["things"]
theorem sc_are_unlike : FnScope N_are_unlike ["things"] (defScope st_are_unlike) := ⟨rfl, rfl, rfl, by decide +kernel, rfl, by decide +kernel, by decide +kernel⟩
abbrev st_asked_by : Stmt := topS 22
abbrev N_asked_by : List Str := ["row", "sorts", "parts", "sort", "part"]
theorem sc_asked_by : FnScope N_asked_by ["row"] (defScope st_asked_by) := ⟨rfl, rfl, rfl, by decide +kernel, rfl, by decide +kernel, by decide +kernel⟩
abbrev st_given_by : Stmt := topS 23
abbrev N_given_by : List Str := ["row"]
theorem sc_given_by : FnScope N_given_by ["row"] (defScope st_given_by) := ⟨rfl, rfl, rfl, by decide +kernel, rfl, by decide +kernel, by decide +kernel⟩
abbrev st_names_of : Stmt := topS 24
abbrev N_names_of : List Str := ["program", "found", "block", "rows", "end", "row", "name"]
theorem sc_names_of : FnScope N_names_of ["program"] (defScope st_names_of) := ⟨rfl, rfl, rfl, by decide +kernel, rfl, by decide +kernel, by decide +kernel⟩
abbrev st_is_name : Stmt := topS 11
abbrev N_is_name : List Str := ["thing", "sign"]
theorem sc_is_name : FnScope N_is_name ["thing"] (defScope st_is_name) := ⟨rfl, rfl, rfl, by decide +kernel, rfl, by decide +kernel, by decide +kernel⟩
abbrev st_is_number : Stmt := topS 10
abbrev N_is_number : List Str := ["thing", "low", "high"]
theorem sc_is_number : FnScope N_is_number ["thing", "low", "high"] (defScope st_is_number) := ⟨rfl, rfl, rfl, by decide +kernel, rfl, by decide +kernel, by decide +kernel⟩
abbrev st_fits_part : Stmt := topS 16
abbrev N_fits_part : List Str := ["sort", "thing"]
theorem sc_fits_part : FnScope N_fits_part ["sort", "thing"] (defScope st_fits_part) := ⟨rfl, rfl, rfl, by decide +kernel, rfl, by decide +kernel, by decide +kernel⟩
abbrev st_are_parts : Stmt := topS 17
abbrev N_are_parts : List Str := ["sorts", "things", "sort", "thing"]
theorem sc_are_parts : FnScope N_are_parts ["sorts", "things"] (defScope st_are_parts) := ⟨rfl, rfl, rfl, by decide +kernel, rfl, by decide +kernel, by decide +kernel⟩
abbrev st_is_end : Stmt := topS 19
abbrev N_is_end : List Str := ["thing", "word", "parts"]
theorem sc_is_end : FnScope N_is_end ["thing"] (defScope st_is_end) := ⟨rfl, rfl, rfl, by decide +kernel, rfl, by decide +kernel, by decide +kernel⟩
abbrev st_is_row : Stmt := topS 18
abbrev N_is_row : List Str := ["thing", "number", "word", "parts"]
theorem sc_is_row : FnScope N_is_row ["thing"] (defScope st_is_row) := ⟨rfl, rfl, rfl, by decide +kernel, rfl, by decide +kernel, by decide +kernel⟩
abbrev st_is_block : Stmt := topS 20
abbrev N_is_block : List Str := ["thing", "row"]
theorem sc_is_block : FnScope N_is_block ["thing"] (defScope st_is_block) := ⟨rfl, rfl, rfl, by decide +kernel, rfl, by decide +kernel, by decide +kernel⟩
abbrev st_goals_in : Stmt := topS 21
abbrev N_goals_in : List Str := ["end", "sort", "part"]
theorem sc_goals_in : FnScope N_goals_in ["end"] (defScope st_goals_in) := ⟨rfl, rfl, rfl, by decide +kernel, rfl, by decide +kernel, by decide +kernel⟩
abbrev st_is_program : Stmt := topS 25
abbrev N_is_program : List Str := ["thing", "blocks", "numbers", "block", "row", "goal"]
theorem sc_is_program : FnScope N_is_program ["thing"] (defScope st_is_program) := ⟨rfl, rfl, rfl, by decide +kernel, rfl, by decide +kernel, by decide +kernel⟩
abbrev st__law_named : Stmt := topS 33
abbrev N__law_named : List Str := ["_law_hand_here", "_law_many", "_law_letters", "_law_names", "_law_rows_here", "_law_way", "_law_end", "_law_k", "_law_name"]
theorem sc__law_named : FnScope N__law_named ["_law_hand_here", "_law_many"] (defScope st__law_named) := ⟨rfl, rfl, rfl, by decide +kernel, rfl, by decide +kernel, by decide +kernel⟩
abbrev st__law_deep : Stmt := topS 35
abbrev N__law_deep : List Str := ["_law_hand_here", "_law_found", "_law_k", "_law_wide"]
theorem sc__law_deep : FnScope N__law_deep ["_law_hand_here"] (defScope st__law_deep) := ⟨rfl, rfl, rfl, by decide +kernel, rfl, by decide +kernel, by decide +kernel⟩
abbrev st_law : Stmt := topS 37
abbrev N_law : List Str := ["_law_script", "_law_k", "_law_hand_here", "_law_many", "_law_program", "_law_turn", "_law_due"]
theorem sc_law : FnScope N_law ["_law_script"] (defScope st_law) := ⟨rfl, rfl, rfl, by decide +kernel, rfl, by decide +kernel, by decide +kernel⟩
def tab_END_PARTS : List (Str × U) := [("go", (.str "b")), ("if", (.str "abb")), ("stop", (.str ""))]
def keys_END_PARTS : List Str := ["go", "if", "stop"]
def tab_ROW_PARTS : List (Str × U) := [("put", (.str "gn")), ("copy", (.str "ga")), ("plus", (.str "gaa")), ("less", (.str "gaa")), ("times", (.str "gaa")), ("part", (.str "gaa")), ("same", (.str "gaa")), ("below", (.str "gaa")), ("ask", (.str "g")), ("say", (.str "a"))]
def keys_ROW_PARTS : List Str := ["put", "copy", "plus", "less", "times", "part", "same", "below", "ask", "say"]
noncomputable def c__law_hand : Sm := (sSeq (sAsg (cBin (addU false) (cBin (o2I mulI) (cCst (.int 3)) (cVar 1)) (cArg (on1 lenU) (cCons (cVar 0) cNil))) (gmName 2))
  (sSeq (sIf (cTru (cBin oLt (cVar 1) (cArg (on1 lenU) (cCons (cVar 0) cNil))))
  (sAsg (cBin ixU (cVar 0) (cVar 1)) (gmName 2))
  sNil)
  (sSeq (sAsg (cBin (o2I mulI) (cBin (o2I modI) (cArg (on1 absU) (cCons (cVar 2) cNil)) (cBin (o2I powJ) (cBin (o2I powI) (cCst (.int 10)) (cCst (.int 60))) (cCst (.int 5)))) (cArg (on1 intU) (cCons (cBin oGe (cArg (on1 absU) (cCons (cVar 2) cNil)) (cBin (o2I powI) (cCst (.int 10)) (cCst (.int 18)))) cNil))) (gmName 3))
  (sRet (cArg oLstM (cCons (cVar 3) (cCons (cBin (o2I modI) (cBin (o2I mulI) (cBin (addU false) (cBin (addU false) (cBin (o2I modI) (cVar 2) (cCst (.int 2305843009213693951))) (cBin (o2I mulI) (cBin (o2I mulI) (cCst (.int 7919)) (cVar 1)) (cVar 1))) (cCst (.int 11))) (cCst (.int 48271))) (cCst (.int 2305843009213693951))) cNil)))))))
noncomputable def F__law_hand : OpN := runF c__law_hand 2 4
noncomputable def c__law_take : Sm := (sSeq (sIf (cTru (cBin oGt (cBin ixU (cVar 0) (cCst (.int 0))) (cCst (.int 0))))
  (sSeq (sAsg (cBin (o2I modI) (cBin ixU (cVar 0) (cCst (.int 0))) (cVar 1)) (gmName 2))
  (sSeq (sSetI setL (cVar 0) (cCst (.int 0)) (cBin (o2I divI) (cBin ixU (cVar 0) (cCst (.int 0))) (cVar 1)))
  (sRet (cVar 2))))
  sNil)
  (sSeq (sSetI setL (cVar 0) (cCst (.int 1)) (cBin (o2I modI) (cBin (addU false) (cBin (o2I mulI) (cBin ixU (cVar 0) (cCst (.int 1))) (cCst (.int 1181783497276652981))) (cCst (.int 12345678910987))) (cCst (.int 2305843009213693951))))
  (sRet (cBin (o2I modI) (cBin (o2I divI) (cBin (o2I modI) (cBin (o2I mulI) (cBin (o2I divI) (cBin ixU (cVar 0) (cCst (.int 1))) (cCst (.int 65537))) (cBin (addU false) (cBin (o2I modI) (cBin ixU (cVar 0) (cCst (.int 1))) (cCst (.int 65537))) (cCst (.int 3)))) (cCst (.int 2305843009213693921))) (cCst (.int 97))) (cVar 1)))))
noncomputable def F__law_take : OpN := runF c__law_take 2 3
noncomputable def c__law_put : Sm := (sSeq (sPar2 3 4 (cCons (cLcG (itAny (cVar 1)) (.nm 7) cYes (cArg (on1 (listU true)) (cCons (cVar 7) cNil)) [7]) (cCons (cBin (eqU false) (cArg F__law_take (cCons (cVar 0) (cCons (cCst (.int 2)) cNil))) (cCst (.int 0))) cNil)))
  (sSeq (sAsg (cArg F__law_take (cCons (cVar 0) (cCons (cArg (on1 lenU) (cCons (cVar 3) cNil)) cNil))) (gmName 5))
  (sSeq (sForG (itAny (cVar 2)) (.nm 6)
  (sSeq (sAsg (cIf (cTru (cVar 4)) (cVar 5) (cArg F__law_take (cCons (cVar 0) (cCons (cArg (on1 lenU) (cCons (cVar 3) cNil)) cNil)))) (gmName 5))
  (sSetI setL (cBin ixU (cVar 3) (cVar 5)) (cCst (.int 1)) (cBin (addU false) (cBin ixU (cBin ixU (cVar 3) (cVar 5)) (cCst (.int 1))) (cArg oTup (cCons (cVar 6) cNil))))))
  (sRet (cArg (on1 tupleU) (cCons (cLc (itSeq (cVar 3)) (.nm 7) cYes (cArg (on1 tupleU) (cCons (cVar 7) cNil)) [7]) cNil))))))
noncomputable def F__law_put : OpN := runF c__law_put 3 8
noncomputable def c__law_pick : Sm := (sRet (cBin ixU (cVar 1) (cArg F__law_take (cCons (cVar 0) (cCons (cArg (on1 lenU) (cCons (cVar 1) cNil)) cNil)))))
noncomputable def F__law_pick : OpN := runF c__law_pick 2 2
noncomputable def c__law_small : Sm := (sSeq (sAsg (cArg oLst (cCons (cArg oTup (cCons (cArg oTup (cCons (cCst (.int 1)) (cCons (cCst (.str "put")) (cCons (cCst (.str "a")) (cCons (cCst (.int 0)) cNil))))) (cCons (cCst (.bl true)) cNil))) (cCons (cArg oTup (cCons (cArg oTup (cCons (cCst (.int 9999)) (cCons (cCst (.str "put")) (cCons (cCst (.str "a")) (cCons (cCst (.int 1000002)) cNil))))) (cCons (cCst (.bl true)) cNil))) (cCons (cArg oTup (cCons (cArg oTup (cCons (cCst (.int 0)) (cCons (cCst (.str "put")) (cCons (cCst (.str "a")) (cCons (cCst (.int 0)) cNil))))) (cCons (cCst (.bl false)) cNil))) cNil)))) (gmName 1))
  (sSeq (sAsg (cBin (addU false) (cVar 1) (cArg oLst (cCons (cArg oTup (cCons (cArg oTup (cCons (cCst (.int 10000)) (cCons (cCst (.str "put")) (cCons (cCst (.str "a")) (cCons (cCst (.int 0)) cNil))))) (cCons (cCst (.bl false)) cNil))) (cCons (cArg oTup (cCons (cArg oTup (cCons (cCst (.int 1)) (cCons (cCst (.str "put")) (cCons (cCst (.str "a")) (cCons (cCst (.int 1000003)) cNil))))) (cCons (cCst (.bl false)) cNil))) (cCons (cArg oTup (cCons (cArg oTup (cCons (cCst (.int 1)) (cCons (cCst (.str "put")) (cCons (cCst (.str "a")) (cCons (cUn oNeg (cCst (.int 1))) cNil))))) (cCons (cCst (.bl false)) cNil))) cNil))))) (gmName 1))
  (sSeq (sAsg (cBin (addU false) (cVar 1) (cArg oLst (cCons (cArg oTup (cCons (cArg oTup (cCons (cCst (.int 1)) (cCons (cCst (.str "say")) (cCons (cCst (.str "abcdefgh")) cNil)))) (cCons (cCst (.bl true)) cNil))) (cCons (cArg oTup (cCons (cArg oTup (cCons (cCst (.int 1)) (cCons (cCst (.str "say")) (cCons (cCst (.str "abcdefghi")) cNil)))) (cCons (cCst (.bl false)) cNil))) (cCons (cArg oTup (cCons (cArg oTup (cCons (cCst (.int 1)) (cCons (cCst (.str "say")) (cCons (cCst (.str "")) cNil)))) (cCons (cCst (.bl false)) cNil))) cNil))))) (gmName 1))
  (sSeq (sAsg (cBin (addU false) (cVar 1) (cArg oLst (cCons (cArg oTup (cCons (cArg oTup (cCons (cCst (.int 1)) (cCons (cCst (.str "put")) (cCons (cCst (.str "a")) (cCons (cCst (.bl true)) cNil))))) (cCons (cCst (.bl false)) cNil))) (cCons (cArg oTup (cCons (cArg oTup (cCons (cCst (.bl true)) (cCons (cCst (.str "put")) (cCons (cCst (.str "a")) (cCons (cCst (.int 0)) cNil))))) (cCons (cCst (.bl false)) cNil))) (cCons (cArg oTup (cCons (cArg oTup (cCons (cCst (.int 1)) (cCons (cCst (.str "plus")) (cCons (cCst (.str "a")) (cCons (cCst (.str "a")) (cCons (cCst (.str "a")) cNil)))))) (cCons (cCst (.bl true)) cNil))) cNil))))) (gmName 1))
  (sSeq (sAsg (cArg F__law_pick (cCons (cVar 0) (cCons (cVar 1) cNil))) (gmPat (.tp [(.nm 2), (.nm 3)])))
  (sSeq (sAsg (cArg (on1 tupleU) (cCons (cLc (itR1 (cCons (cArg F__law_take (cCons (cVar 0) (cCons (cCst (.int 4)) cNil))) cNil)) (.nm 10) cYes (cArg oTup (cCons (cBin (addU false) (cCst (.int 100)) (cVar 10)) (cCons (cCst (.str "ask")) (cCons (cCst (.str "a")) cNil)))) [10]) cNil)) (gmName 4))
  (sSeq (sAsg (cArg oLst (cCons (cArg oTup (cCons (cArg oTup (cCons (cCst (.str "go")) (cCons (cCst (.str "here")) cNil))) (cCons (cCst (.bl true)) cNil))) (cCons (cArg oTup (cCons (cArg oTup (cCons (cCst (.str "go")) (cCons (cCst (.str "there")) cNil))) (cCons (cCst (.bl true)) cNil))) (cCons (cArg oTup (cCons (cArg oTup (cCons (cCst (.str "go")) (cCons (cCst (.str "nowhere")) cNil))) (cCons (cCst (.bl false)) cNil))) (cCons (cArg oTup (cCons (cArg oTup (cCons (cCst (.str "stop")) cNil)) (cCons (cCst (.bl true)) cNil))) cNil))))) (gmName 5))
  (sSeq (sAsg (cArg F__law_pick (cCons (cVar 0) (cCons (cBin (addU false) (cVar 5) (cArg oLst (cCons (cArg oTup (cCons (cArg oTup (cCons (cCst (.str "if")) (cCons (cCst (.str "a")) (cCons (cCst (.str "here")) (cCons (cCst (.str "there")) cNil))))) (cCons (cCst (.bl true)) cNil))) (cCons (cArg oTup (cCons (cArg oTup (cCons (cCst (.str "if")) (cCons (cCst (.str "a")) (cCons (cCst (.str "here")) (cCons (cCst (.str "here")) cNil))))) (cCons (cCst (.bl false)) cNil))) cNil)))) cNil))) (gmPat (.tp [(.nm 6), (.nm 7)])))
  (sSeq (sAsg (cArg oTup (cCons (cCst (.str "there")) (cCons (cArg oTup cNil) (cCons (cArg F__law_pick (cCons (cVar 0) (cCons (cArg oLst (cCons (cArg oTup (cCons (cCst (.str "stop")) cNil)) (cCons (cArg oTup (cCons (cCst (.str "go")) (cCons (cCst (.str "here")) cNil))) cNil))) cNil))) cNil)))) (gmName 8))
  (sSeq (sAsg (cArg oLst (cCons (cArg oTup (cCons (cCst (.str "here")) (cCons (cBin (addU false) (cVar 4) (cArg oTup (cCons (cVar 2) cNil))) (cCons (cVar 6) cNil)))) (cCons (cVar 8) cNil))) (gmName 9))
  (sRet (cArg oTup (cCons (cArg (on1 tupleU) (cCons (cBin (stpU false) (cVar 9) (cArg F__law_pick (cCons (cVar 0) (cCons (cArg oLst (cCons (cCst (.int 1)) (cCons (cUn oNeg (cCst (.int 1))) cNil))) cNil)))) cNil)) (cCons (cAndV (cVar 3) (cVar 7)) cNil))))))))))))))
noncomputable def F__law_small : OpN := runF c__law_small 1 11
noncomputable def c__law_is : Sm := (sRet (cAndV (cIsi "bool" (cVar 0)) (cBin (eqU false) (cVar 0) (cVar 1))))
noncomputable def P__law_is : Pf := pureF (runF c__law_is 2 2)
noncomputable def c__law_blocks : Sm := (sSeq (sAsg (cCst (.str "abcdefghijklmnopqrstuvwxyz")) (gmName 2))
  (sSeq (sAsg (cLc (itR1 (cCons (cVar 1) cNil)) (.nm 6) cYes (cBin (addU false) (cBin ixU (cVar 2) (cVar 6)) (cBin ixU (cVar 2) (cBin (o2I modI) (cBin (addU false) (cBin (o2I mulI) (cVar 6) (cCst (.int 7))) (cArg F__law_take (cCons (cVar 0) (cCons (cCst (.int 26)) cNil)))) (cCst (.int 26))))) [6]) (gmName 3))
  (sSeq (sAsg (cArg oLstM cNil) (gmName 4))
  (sSeq (sFor (itSeq (cVar 3)) (.nm 5)
  (sExpr (cMt "list" appU (cVar 4) (cCons (cArg oTup (cCons (cVar 5) (cCons (cArg oTup cNil) (cCons (cArg oTup (cCons (cCst (.str "go")) (cCons (cArg F__law_pick (cCons (cVar 0) (cCons (cVar 3) cNil))) cNil))) cNil)))) cNil))))
  (sRet (cVar 4))))))
noncomputable def F__law_blocks : OpN := runF c__law_blocks 2 7
noncomputable def c__law_rows : Sm := (sSeq (sAsg (cArg oLstM cNil) (gmName 2))
  (sSeq (sFor (itR1 (cCons (cVar 0) cNil)) (.nm 3)
  (sSeq (sPar2 4 5 (cCons (cBin ixU (cVar 1) (cBin (o2I modI) (cVar 3) (cArg (on1 lenU) (cCons (cVar 1) cNil)))) (cCons (cBin ixU (cVar 1) (cBin (o2I modI) (cBin (addU false) (cVar 3) (cCst (.int 1))) (cArg (on1 lenU) (cCons (cVar 1) cNil)))) cNil)))
  (sExpr (cMt "list" appU (cVar 2) (cCons (cBin ixU (cArg oLst (cCons (cArg oTup (cCons (cBin (addU false) (cVar 3) (cCst (.int 1))) (cCons (cCst (.str "plus")) (cCons (cVar 4) (cCons (cVar 5) (cCons (cVar 4) cNil)))))) (cCons (cArg oTup (cCons (cBin (addU false) (cVar 3) (cCst (.int 1))) (cCons (cCst (.str "copy")) (cCons (cVar 4) (cCons (cVar 5) cNil))))) (cCons (cArg oTup (cCons (cBin (addU false) (cVar 3) (cCst (.int 1))) (cCons (cCst (.str "say")) (cCons (cVar 4) cNil)))) cNil)))) (cBin (o2I modI) (cVar 3) (cCst (.int 3)))) cNil)))))
  (sRet (cVar 2))))
noncomputable def F__law_rows : OpN := runF c__law_rows 2 6
noncomputable def c_are_unlike : Sm := (sRet (cBin (eqU false) (cLenSet (cVar 0)) (cArg (on1 lenU) (cCons (cVar 0) cNil))))
noncomputable def P_are_unlike : Pf := pureF (runF c_are_unlike 1 1)
noncomputable def c_asked_by : Sm := (sSeq (sIf (cTru (cIsi "str" (cBin ixU (cVar 0) (cCst (.int 0)))))
  (sPar2 1 2 (cCons (cTab tab_END_PARTS (cBin ixU (cVar 0) (cCst (.int 0)))) (cCons (cSl false (cVar 0) (cPart (cCst (.int 1))) cNoPart) cNil)))
  (sPar2 1 2 (cCons (cTab tab_ROW_PARTS (cBin ixU (cVar 0) (cCst (.int 1)))) (cCons (cSl false (cVar 0) (cPart (cCst (.int 2))) cNoPart) cNil))))
  (sRet (cArg (on1 tupleU) (cCons (cLc (itZip (cCons (cVar 1) (cCons (cVar 2) cNil))) (.tp [(.nm 3), (.nm 4)]) (cTru (cBin (eqU false) (cVar 3) (cCst (.str "a")))) (cVar 4) [3, 4]) cNil))))
noncomputable def P_asked_by : Pf := pureF (runF c_asked_by 1 5)
noncomputable def c_given_by : Sm := (sRet (cIf (cTru (cMt "str" startU (cTab tab_ROW_PARTS (cBin ixU (cVar 0) (cCst (.int 1)))) (cCons (cCst (.str "g")) cNil))) (cBin ixU (cVar 0) (cCst (.int 2))) (cCst .non)))
noncomputable def P_given_by : Pf := pureF (runF c_given_by 1 1)
noncomputable def c_names_of : Sm := (sSeq (sAsg (cDcN true ⟨(itAny (cVar 0)), (.tp [(.nm 2), (.nm 3), (.nm 4)]), cYes, [2, 3, 4, 5, 6]⟩ (clauseA ⟨(itAny (cBin (addU false) (cVar 3) (cArg oTup (cCons (cVar 4) cNil)))), (.nm 5), cYes, [5, 6]⟩ (clauseA ⟨(itAny (cArg (liftP P_asked_by) (cCons (cVar 5) cNil))), (.nm 6), cYes, [6]⟩ (outD (cVar 6) (cCst (.bl true)))))) (gmName 1))
  (sSeq (sExpr (cMt "dict" updU (cVar 1) (cCons (cDcN false ⟨(itAny (cVar 0)), (.tp [(.nm 2), (.nm 3), (.nm 4)]), cYes, [2, 3, 4, 5]⟩ (clauseA ⟨(itAny (cVar 3)), (.nm 5), (cTru (cBin (isN true) (cArg (liftP P_given_by) (cCons (cVar 5) cNil)) (cCst .non))), [5]⟩ (outD (cBin ixU (cVar 5) (cCst (.int 2))) (cCst (.bl true))))) cNil)))
  (sRet (cArg (on1 (sortedU false)) (cCons (cVar 1) cNil)))))
noncomputable def P_names_of : Pf := pureF (runF c_names_of 1 7)
noncomputable def c_is_name : Sm := (sSeq (sIf (cOrT (cNotT (cTru (cIsi "str" (cVar 0)))) (cNotT (cTest (cChain oLe oLe (cCst (.int 1)) (cArg (on1 lenU) (cCons (cVar 0) cNil)) (cCst (.int 8))))))
  (sRet (cCst (.bl false)))
  sNil)
  (sRet (cArg (on1 (allU false)) (cCons (cLc (itSeq (cVar 0)) (.nm 1) cYes (cBin (inU false) (cVar 1) (cCst (.str "abcdefghijklmnopqrstuvwxyz"))) [1]) cNil))))
noncomputable def P_is_name : Pf := pureF (runF c_is_name 1 2)
def gu_is_number_1_high (us ws : List U) : List U := us ++ pickL [0, 1] ([(.int 0)] ++ ws)
def gu_is_number_1_low (us ws : List U) : List U := us ++ pickL [1, 0] ([(.int 9999)] ++ ws)
noncomputable def c_is_number : Sm := (sRet (cAndV (cIsi "int" (cVar 0)) (cAndV (cNotV (cIsi "bool" (cVar 0))) (cChain oLe oLe (cVar 1) (cVar 0) (cVar 2)))))
noncomputable def P_is_number : Pf := pureF (runF c_is_number 3 3)
noncomputable def c_fits_part : Sm := (sSeq (sIf (cTru (cBin (eqU false) (cVar 0) (cCst (.str "n"))))
  (sRet (cArg2 (fun us ws S => if us.length = 1 ∧ ws.length = (["high"] : List Str).length then (liftP P_is_number) (gu_is_number_1_high us ws) S else none) (cCons (cVar 1) cNil) (cCons (cBin oSub (cCst (.int 1000003)) (cCst (.int 1))) cNil)))
  sNil)
  (sRet (cArg (liftP P_is_name) (cCons (cVar 1) cNil))))
noncomputable def P_fits_part : Pf := pureF (runF c_fits_part 2 2)
noncomputable def c_are_parts : Sm := (sRet (cAndV (cBin (eqU false) (cArg (on1 lenU) (cCons (cVar 1) cNil)) (cArg (on1 lenU) (cCons (cVar 0) cNil))) (cArg (on1 (allU false)) (cCons (cLc (itZip (cCons (cVar 0) (cCons (cVar 1) cNil))) (.tp [(.nm 2), (.nm 3)]) cYes (cArg (liftP P_fits_part) (cCons (cVar 2) (cCons (cVar 3) cNil))) [2, 3]) cNil))))
noncomputable def P_are_parts : Pf := pureF (runF c_are_parts 2 4)
noncomputable def c_is_end : Sm := (sSeq (sIf (cOrT (cNotT (cTru (cIsi "tuple" (cVar 0)))) (cTru (cBin (eqU false) (cArg (on1 lenU) (cCons (cVar 0) cNil)) (cCst (.int 0)))))
  (sRet (cCst (.bl false)))
  sNil)
  (sSeq (sAsg (cVar 0) (gmStar false 1 2 [(.nm 1), (.nm 2)]))
  (sSeq (sIf (cOrT (cNotT (cTru (cIsi "str" (cVar 1)))) (cOrT (cTru (cTabIn true keys_END_PARTS (cVar 1))) (cNotT (cTru (cArg (liftP P_are_parts) (cCons (cTab tab_END_PARTS (cVar 1)) (cCons (cVar 2) cNil)))))))
  (sRet (cCst (.bl false)))
  sNil)
  (sRet (cOrV (cBin (eqU true) (cVar 1) (cCst (.str "if"))) (cBin (eqU true) (cBin ixU (cVar 2) (cCst (.int 1))) (cBin ixU (cVar 2) (cCst (.int 2)))))))))
noncomputable def P_is_end : Pf := pureF (runF c_is_end 1 3)
noncomputable def c_is_row : Sm := (sSeq (sIf (cOrT (cNotT (cTru (cIsi "tuple" (cVar 0)))) (cOrT (cTru (cBin oLt (cArg (on1 lenU) (cCons (cVar 0) cNil)) (cCst (.int 2)))) (cNotT (cTru (cArg2 (fun us ws S => if us.length = 1 ∧ ws.length = (["low"] : List Str).length then (liftP P_is_number) (gu_is_number_1_low us ws) S else none) (cCons (cBin ixU (cVar 0) (cCst (.int 0))) cNil) (cCons (cCst (.int 1)) cNil))))))
  (sRet (cCst (.bl false)))
  sNil)
  (sSeq (sAsg (cVar 0) (gmStar false 2 3 [(.nm 1), (.nm 2), (.nm 3)]))
  (sRet (cAndV (cIsi "str" (cVar 2)) (cAndV (cTabIn false keys_ROW_PARTS (cVar 2)) (cArg (liftP P_are_parts) (cCons (cTab tab_ROW_PARTS (cVar 2)) (cCons (cVar 3) cNil))))))))
noncomputable def P_is_row : Pf := pureF (runF c_is_row 1 4)
noncomputable def c_is_block : Sm := (sSeq (sIf (cOrT (cNotT (cTru (cIsi "tuple" (cVar 0)))) (cOrT (cTru (cBin (eqU true) (cArg (on1 lenU) (cCons (cVar 0) cNil)) (cCst (.int 3)))) (cNotT (cTru (cArg (liftP P_is_name) (cCons (cBin ixU (cVar 0) (cCst (.int 0))) cNil))))))
  (sRet (cCst (.bl false)))
  sNil)
  (sRet (cAndV (cIsi "tuple" (cBin ixU (cVar 0) (cCst (.int 1)))) (cAndV (cArg (on1 (allU false)) (cCons (cLc (itSeq (cBin ixU (cVar 0) (cCst (.int 1)))) (.nm 1) cYes (cArg (liftP P_is_row) (cCons (cVar 1) cNil)) [1]) cNil)) (cArg (liftP P_is_end) (cCons (cBin ixU (cVar 0) (cCst (.int 2))) cNil))))))
noncomputable def P_is_block : Pf := pureF (runF c_is_block 1 2)
noncomputable def c_goals_in : Sm := (sRet (cArg (on1 tupleU) (cCons (cLc (itZip (cCons (cTab tab_END_PARTS (cBin ixU (cVar 0) (cCst (.int 0)))) (cCons (cSl false (cVar 0) (cPart (cCst (.int 1))) cNoPart) cNil))) (.tp [(.nm 1), (.nm 2)]) (cTru (cBin (eqU false) (cVar 1) (cCst (.str "b")))) (cVar 2) [1, 2]) cNil)))
noncomputable def P_goals_in : Pf := pureF (runF c_goals_in 1 3)
noncomputable def c_is_program : Sm := (sSeq (sIf (cOrT (cNotT (cTru (cIsi "tuple" (cVar 0)))) (cNotT (cTest (cChain oLe oLe (cCst (.int 1)) (cArg (on1 lenU) (cCons (cVar 0) cNil)) (cCst (.int 24))))))
  (sRet (cCst (.bl false)))
  sNil)
  (sSeq (sIf (cNotT (cTru (cArg (on1 (allU false)) (cCons (cLc (itSeq (cVar 0)) (.nm 3) cYes (cArg (liftP P_is_block) (cCons (cVar 3) cNil)) [3]) cNil))))
  (sRet (cCst (.bl false)))
  sNil)
  (sSeq (sAsg (cLc (itSeq (cVar 0)) (.nm 3) cYes (cBin ixU (cVar 3) (cCst (.int 0))) [3]) (gmName 1))
  (sSeq (sAsg (cLcN false ⟨(itAny (cVar 0)), (.nm 3), cYes, [3, 4]⟩ (clauseA ⟨(itAny (cBin ixU (cVar 3) (cCst (.int 1)))), (.nm 4), cYes, [4]⟩ (outL (cBin ixU (cVar 4) (cCst (.int 0)))))) (gmName 2))
  (sSeq (sIf (cOrT (cNotT (cTru (cArg (liftP P_are_unlike) (cCons (cVar 1) cNil)))) (cOrT (cNotT (cTru (cArg (liftP P_are_unlike) (cCons (cVar 2) cNil)))) (cTru (cBin oGt (cArg (on1 lenU) (cCons (cVar 2) cNil)) (cCst (.int 100))))))
  (sRet (cCst (.bl false)))
  sNil)
  (sSeq (sIf (cTru (cBin oGt (cArg (on1 lenU) (cCons (cArg (liftP P_names_of) (cCons (cVar 0) cNil)) cNil)) (cCst (.int 12))))
  (sRet (cCst (.bl false)))
  sNil)
  (sRet (cArg (on1 (allU false)) (cCons (cLcN false ⟨(itAny (cVar 0)), (.nm 3), cYes, [3, 5]⟩ (clauseA ⟨(itAny (cArg (liftP P_goals_in) (cCons (cBin ixU (cVar 3) (cCst (.int 2))) cNil))), (.nm 5), cYes, [5]⟩ (outL (cBin (inU false) (cVar 5) (cVar 1))))) cNil)))))))))
noncomputable def P_is_program : Pf := pureF (runF c_is_program 1 6)
noncomputable def c__law_named : Sm := (sSeq (sAsg (cCst (.str "abcdefghijklmnopqrstuvwxyz")) (gmName 2))
  (sSeq (sAsg (cLc (itR1 (cCons (cVar 1) cNil)) (.nm 7) cYes (cBin mulSU (cBin ixU (cVar 2) (cVar 7)) (cBin (addU false) (cCst (.int 1)) (cBin (o2I modI) (cVar 7) (cCst (.int 8))))) [7]) (gmName 3))
  (sSeq (sAsg (cLcM (itEnum (cCons (cSl false (cVar 3) cNoPart (cPart (cUn oNeg (cCst (.int 1))))) cNil)) (.tp [(.nm 7), (.nm 8)]) cYes (cArg oTup (cCons (cBin (addU false) (cVar 7) (cCst (.int 1))) (cCons (cCst (.str "ask")) (cCons (cVar 8) cNil)))) [7, 8]) (gmName 4))
  (sSeq (sPar2 5 6 (cCons (cArg F__law_take (cCons (cVar 0) (cCons (cCst (.int 3)) cNil))) (cCons (cArg oTup (cCons (cCst (.str "stop")) cNil)) cNil)))
  (sSeq (sIf (cTru (cBin (eqU false) (cVar 5) (cCst (.int 0))))
  (sExpr (cMt "list" appU (cVar 4) (cCons (cArg oTup (cCons (cCst (.int 9999)) (cCons (cCst (.str "put")) (cCons (cBin ixU (cVar 3) (cUn oNeg (cCst (.int 1)))) (cCons (cCst (.int 1000002)) cNil))))) cNil)))
  (sIf (cTru (cBin (eqU false) (cVar 5) (cCst (.int 1))))
  (sExpr (cMt "list" appU (cVar 4) (cCons (cArg oTup (cCons (cCst (.int 9998)) (cCons (cCst (.str "say")) (cCons (cBin ixU (cVar 3) (cUn oNeg (cCst (.int 1)))) cNil)))) cNil)))
  (sAsg (cArg oTup (cCons (cCst (.str "if")) (cCons (cBin ixU (cVar 3) (cUn oNeg (cCst (.int 1)))) (cCons (cCst (.str "here")) (cCons (cCst (.str "there")) cNil))))) (gmName 6))))
  (sRet (cArg oTup (cCons (cArg oTup (cCons (cCst (.str "here")) (cCons (cArg (on1 tupleU) (cCons (cVar 4) cNil)) (cCons (cVar 6) cNil)))) (cCons (cArg oTup (cCons (cCst (.str "there")) (cCons (cArg oTup cNil) (cCons (cArg oTup (cCons (cCst (.str "stop")) cNil)) cNil)))) cNil)))))))))
noncomputable def F__law_named : OpN := runF c__law_named 2 9
noncomputable def c__law_deep : Sm := (sSeq (sAsg (cArg F__law_pick (cCons (cVar 0) (cCons (cArg oLst (cCons (cArg oTup cNil) (cCons (cArg oLst cNil) (cCons (cCst (.dct [])) (cCons (cCst .non) (cCons (cArg oTup (cCons (cCst (.str "a")) (cCons (cArg oTup cNil) (cCons (cArg oTup (cCons (cCst (.str "stop")) cNil)) cNil)))) cNil)))))) cNil))) (gmName 1))
  (sSeq (sFor (itR1 (cCons (cCst (.int 6)) cNil)) (.nm 2)
  (sAsg (cArg F__law_pick (cCons (cVar 0) (cCons (cArg oLst (cCons (cArg oTup (cCons (cVar 1) cNil)) (cCons (cArg oLst (cCons (cVar 1) cNil)) (cCons (cDisp false [((cCst (.str "a")), (cVar 1))]) (cCons (cArg oTup (cCons (cCst (.str "a")) (cCons (cVar 1) cNil))) cNil))))) cNil))) (gmName 1)))
  (sSeq (sAsg (cBin (repU false) (cArg oLstM (cCons (cArg oTup (cCons (cCst (.str "a")) (cCons (cArg oTup cNil) (cCons (cArg oTup (cCons (cCst (.str "stop")) cNil)) cNil)))) cNil)) (cCst (.int 300))) (gmName 3))
  (sRet (cArg F__law_pick (cCons (cVar 0) (cCons (cArg oLst (cCons (cVar 1) (cCons (cArg (on1 tupleU) (cCons (cVar 3) cNil)) (cCons (cVar 3) (cCons (cBin mulSU (cCst (.str "a")) (cCst (.int 4900))) (cCons (cBin (o2I mulI) (cBin (o2I powI) (cCst (.int 10)) (cCst (.int 60))) (cBin (o2I powI) (cCst (.int 10)) (cCst (.int 60)))) (cCons (cTrg (cCst (.int 4900))) cNil))))))) cNil)))))))
noncomputable def F__law_deep : OpN := runF c__law_deep 1 4
noncomputable def c_law : Sm := (sSeq (sIf (cTru (cBin (eqU true) (cArg oLst (cCons (cCst (.int 1000003)) (cCons (cCst (.int 24)) (cCons (cCst (.int 100)) (cCons (cCst (.int 12)) (cCons (cCst (.int 200)) (cCons (cCst (.str "spare")) cNil))))))) (cArg oLst (cCons (cCst (.int 1000003)) (cCons (cCst (.int 24)) (cCons (cCst (.int 100)) (cCons (cCst (.int 12)) (cCons (cCst (.int 200)) (cCons (cCst (.str "spare")) cNil)))))))))
  (sRet (cCst (.bl false)))
  sNil)
  (sSeq (sFor (itR1 (cCons (cArg (on2 maxU) (cCons (cCst (.int 1)) (cCons (cArg (on2 minU) (cCons (cCst (.int 3)) (cCons (cArg (on1 lenU) (cCons (cVar 0) cNil)) cNil))) cNil))) cNil)) (.nm 1)
  (sSeq (sAsg (cArg F__law_hand (cCons (cVar 0) (cCons (cVar 1) cNil))) (gmName 2))
  (sSeq (sFor (itSeq (cArg oTup (cCons (cCst (.int 24)) (cCons (cCst (.int 25)) cNil)))) (.nm 3)
  (sIf (cNotT (cTru (cArg (liftP P__law_is) (cCons (cArg (liftP P_is_program) (cCons (cArg (on1 tupleU) (cCons (cArg F__law_blocks (cCons (cVar 2) (cCons (cVar 3) cNil))) cNil)) cNil)) (cCons (cBin (eqU false) (cVar 3) (cCst (.int 24))) cNil)))))
  (sRet (cCst (.bl false)))
  sNil))
  (sSeq (sFor (itSeq (cArg oTup (cCons (cCst (.int 100)) (cCons (cCst (.int 101)) cNil)))) (.nm 3)
  (sSeq (sAsg (cArg F__law_put (cCons (cVar 2) (cCons (cArg F__law_blocks (cCons (cVar 2) (cCons (cBin (addU false) (cCst (.int 1)) (cArg F__law_take (cCons (cVar 2) (cCons (cCst (.int 24)) cNil)))) cNil))) (cCons (cArg F__law_rows (cCons (cVar 3) (cCons (cArg oLst (cCons (cCst (.str "a")) (cCons (cCst (.str "b")) (cCons (cCst (.str "c")) cNil)))) cNil))) cNil)))) (gmName 4))
  (sIf (cNotT (cTru (cArg (liftP P__law_is) (cCons (cArg (liftP P_is_program) (cCons (cVar 4) cNil)) (cCons (cBin (eqU false) (cVar 3) (cCst (.int 100))) cNil)))))
  (sRet (cCst (.bl false)))
  sNil)))
  (sSeq (sFor (itSeq (cArg oTup (cCons (cCst (.int 12)) (cCons (cCst (.int 13)) cNil)))) (.nm 3)
  (sIf (cNotT (cTru (cArg (liftP P__law_is) (cCons (cArg (liftP P_is_program) (cCons (cArg F__law_named (cCons (cVar 2) (cCons (cVar 3) cNil))) cNil)) (cCons (cBin (eqU false) (cVar 3) (cCst (.int 12))) cNil)))))
  (sRet (cCst (.bl false)))
  sNil))
  (sFor (itR1 (cCons (cCst (.int 12)) cNil)) (.nm 5)
  (sSeq (sAsg (cArg F__law_small (cCons (cVar 2) cNil)) (gmPat (.tp [(.nm 4), (.nm 6)])))
  (sIf (cOrT (cNotT (cTru (cArg (liftP P__law_is) (cCons (cArg (liftP P_is_program) (cCons (cVar 4) cNil)) (cCons (cVar 6) cNil))))) (cNotT (cTru (cArg (liftP P__law_is) (cCons (cArg (liftP P_is_program) (cCons (cArg F__law_deep (cCons (cVar 2) cNil)) cNil)) (cCons (cCst (.bl false)) cNil))))))
  (sRet (cCst (.bl false)))
  sNil))))))))
  (sRet (cCst (.bl true)))))
noncomputable def P_law : Pf := pureF (runF c_law 1 7)
structure Ad where
  f__law_hand : Addr
  f__law_take : Addr
  f__law_put : Addr
  f__law_pick : Addr
  f__law_small : Addr
  f__law_is : Addr
  f__law_blocks : Addr
  f__law_rows : Addr
  f_are_unlike : Addr
  f_asked_by : Addr
  f_given_by : Addr
  f_names_of : Addr
  f_is_name : Addr
  f_is_number : Addr
  f_fits_part : Addr
  f_are_parts : Addr
  f_is_end : Addr
  f_is_row : Addr
  f_is_block : Addr
  f_goals_in : Addr
  f_is_program : Addr
  f__law_named : Addr
  f__law_deep : Addr
  f_law : Addr
  d_END_PARTS : Addr
  d_ROW_PARTS : Addr
  t_LETTERS : Tok
  t_MOST_BLOCKS : Tok
  t_MOST_NAMES : Tok
  t_MOST_ROWS : Tok
  t_MOST_SIGNS : Tok
  t_SPARE : Tok
  t_STEPS : Tok
  t_WHEEL : Tok
structure Fd where
  _law_hand : FuncData
  _law_take : FuncData
  _law_put : FuncData
  _law_pick : FuncData
  _law_small : FuncData
  _law_is : FuncData
  _law_blocks : FuncData
  _law_rows : FuncData
  are_unlike : FuncData
  asked_by : FuncData
  given_by : FuncData
  names_of : FuncData
  is_name : FuncData
  is_number : FuncData
  fits_part : FuncData
  are_parts : FuncData
  is_end : FuncData
  is_row : FuncData
  is_block : FuncData
  goals_in : FuncData
  is_program : FuncData
  _law_named : FuncData
  _law_deep : FuncData
  law : FuncData
def gx (ad : Ad) : Gx := ⟨fun c => none, fun x => none⟩
structure Top (K : PySem.W.Frag) (w : World) (mg : Str → Option Value) (ad : Ad) (fd : Fd) : Prop where
  F__law_hand : Fun K "_law_hand" "_law_hand" st__law_hand ad.f__law_hand fd._law_hand
  b__law_hand : Binds K fd._law_hand ["_law_script", "_law_k"] []
  g__law_hand : mg "_law_hand" = some (.ref ad.f__law_hand)
  F__law_take : Fun K "_law_take" "_law_take" st__law_take ad.f__law_take fd._law_take
  b__law_take : Binds K fd._law_take ["_law_hand_here", "_law_many"] []
  g__law_take : mg "_law_take" = some (.ref ad.f__law_take)
  F__law_put : Fun K "_law_put" "_law_put" st__law_put ad.f__law_put fd._law_put
  b__law_put : Binds K fd._law_put ["_law_hand_here", "_law_blocks_here", "_law_rows_here"] []
  g__law_put : mg "_law_put" = some (.ref ad.f__law_put)
  F__law_pick : Fun K "_law_pick" "_law_pick" st__law_pick ad.f__law_pick fd._law_pick
  b__law_pick : Binds K fd._law_pick ["_law_hand_here", "_law_some"] []
  g__law_pick : mg "_law_pick" = some (.ref ad.f__law_pick)
  F__law_small : Fun K "_law_small" "_law_small" st__law_small ad.f__law_small fd._law_small
  b__law_small : Binds K fd._law_small ["_law_hand_here"] []
  g__law_small : mg "_law_small" = some (.ref ad.f__law_small)
  F__law_is : Fun K "_law_is" "_law_is" st__law_is ad.f__law_is fd._law_is
  b__law_is : Binds K fd._law_is ["_law_told", "_law_due"] []
  g__law_is : mg "_law_is" = some (.ref ad.f__law_is)
  F__law_blocks : Fun K "_law_blocks" "_law_blocks" st__law_blocks ad.f__law_blocks fd._law_blocks
  b__law_blocks : Binds K fd._law_blocks ["_law_hand_here", "_law_many"] []
  g__law_blocks : mg "_law_blocks" = some (.ref ad.f__law_blocks)
  F__law_rows : Fun K "_law_rows" "_law_rows" st__law_rows ad.f__law_rows fd._law_rows
  b__law_rows : Binds K fd._law_rows ["_law_many", "_law_names"] []
  g__law_rows : mg "_law_rows" = some (.ref ad.f__law_rows)
  F_are_unlike : Fun K "are_unlike" "are_unlike" st_are_unlike ad.f_are_unlike fd.are_unlike
  b_are_unlike : Binds K fd.are_unlike ["things"] []
  g_are_unlike : mg "are_unlike" = some (.ref ad.f_are_unlike)
  F_asked_by : Fun K "asked_by" "asked_by" st_asked_by ad.f_asked_by fd.asked_by
  b_asked_by : Binds K fd.asked_by ["row"] []
  g_asked_by : mg "asked_by" = some (.ref ad.f_asked_by)
  F_given_by : Fun K "given_by" "given_by" st_given_by ad.f_given_by fd.given_by
  b_given_by : Binds K fd.given_by ["row"] []
  g_given_by : mg "given_by" = some (.ref ad.f_given_by)
  F_names_of : Fun K "names_of" "names_of" st_names_of ad.f_names_of fd.names_of
  b_names_of : Binds K fd.names_of ["program"] []
  g_names_of : mg "names_of" = some (.ref ad.f_names_of)
  F_is_name : Fun K "is_name" "is_name" st_is_name ad.f_is_name fd.is_name
  b_is_name : Binds K fd.is_name ["thing"] []
  g_is_name : mg "is_name" = some (.ref ad.f_is_name)
  F_is_number : FunD K "is_number" "is_number" (defArgs st_is_number) (defBody st_is_number) (defScope st_is_number) [] [("low", (.int 0)), ("high", (.int 9999))] ad.f_is_number fd.is_number
  g_is_number : mg "is_number" = some (.ref ad.f_is_number)
  F_fits_part : Fun K "fits_part" "fits_part" st_fits_part ad.f_fits_part fd.fits_part
  b_fits_part : Binds K fd.fits_part ["sort", "thing"] []
  g_fits_part : mg "fits_part" = some (.ref ad.f_fits_part)
  F_are_parts : Fun K "are_parts" "are_parts" st_are_parts ad.f_are_parts fd.are_parts
  b_are_parts : Binds K fd.are_parts ["sorts", "things"] []
  g_are_parts : mg "are_parts" = some (.ref ad.f_are_parts)
  F_is_end : Fun K "is_end" "is_end" st_is_end ad.f_is_end fd.is_end
  b_is_end : Binds K fd.is_end ["thing"] []
  g_is_end : mg "is_end" = some (.ref ad.f_is_end)
  F_is_row : Fun K "is_row" "is_row" st_is_row ad.f_is_row fd.is_row
  b_is_row : Binds K fd.is_row ["thing"] []
  g_is_row : mg "is_row" = some (.ref ad.f_is_row)
  F_is_block : Fun K "is_block" "is_block" st_is_block ad.f_is_block fd.is_block
  b_is_block : Binds K fd.is_block ["thing"] []
  g_is_block : mg "is_block" = some (.ref ad.f_is_block)
  F_goals_in : Fun K "goals_in" "goals_in" st_goals_in ad.f_goals_in fd.goals_in
  b_goals_in : Binds K fd.goals_in ["end"] []
  g_goals_in : mg "goals_in" = some (.ref ad.f_goals_in)
  F_is_program : Fun K "is_program" "is_program" st_is_program ad.f_is_program fd.is_program
  b_is_program : Binds K fd.is_program ["thing"] []
  g_is_program : mg "is_program" = some (.ref ad.f_is_program)
  F__law_named : Fun K "_law_named" "_law_named" st__law_named ad.f__law_named fd._law_named
  b__law_named : Binds K fd._law_named ["_law_hand_here", "_law_many"] []
  g__law_named : mg "_law_named" = some (.ref ad.f__law_named)
  F__law_deep : Fun K "_law_deep" "_law_deep" st__law_deep ad.f__law_deep fd._law_deep
  b__law_deep : Binds K fd._law_deep ["_law_hand_here"] []
  g__law_deep : mg "_law_deep" = some (.ref ad.f__law_deep)
  F_law : Fun K "law" "law" st_law ad.f_law fd.law
  b_law : Binds K fd.law ["_law_script"] []
  g_law : mg "law" = some (.ref ad.f_law)
  n_abs : mg "abs" = none
  n_all : mg "all" = none
  n_bool : mg "bool" = none
  n_enumerate : mg "enumerate" = none
  n_int : mg "int" = none
  n_isinstance : mg "isinstance" = none
  n_len : mg "len" = none
  n_list : mg "list" = none
  n_max : mg "max" = none
  n_min : mg "min" = none
  n_range : mg "range" = none
  n_set : mg "set" = none
  n_sorted : mg "sorted" = none
  n_str : mg "str" = none
  n_tuple : mg "tuple" = none
  n_zip : mg "zip" = none
  k_LETTERS : mg "LETTERS" = some (.str "abcdefghijklmnopqrstuvwxyz" ad.t_LETTERS)
  k_MOST_BLOCKS : mg "MOST_BLOCKS" = some (.int 24 ad.t_MOST_BLOCKS)
  k_MOST_NAMES : mg "MOST_NAMES" = some (.int 12 ad.t_MOST_NAMES)
  k_MOST_ROWS : mg "MOST_ROWS" = some (.int 100 ad.t_MOST_ROWS)
  k_MOST_SIGNS : mg "MOST_SIGNS" = some (.int 8 ad.t_MOST_SIGNS)
  k_SPARE : mg "SPARE" = some (.str "spare" ad.t_SPARE)
  k_STEPS : mg "STEPS" = some (.int 200 ad.t_STEPS)
  k_WHEEL : mg "WHEEL" = some (.int 1000003 ad.t_WHEEL)
  g_END_PARTS : mg "END_PARTS" = some (.ref ad.d_END_PARTS)
  t_END_PARTS : KTab K w (gx ad) ad.d_END_PARTS tab_END_PARTS
  i_END_PARTS : KTabIn K w ad.d_END_PARTS keys_END_PARTS
  g_ROW_PARTS : mg "ROW_PARTS" = some (.ref ad.d_ROW_PARTS)
  t_ROW_PARTS : KTab K w (gx ad) ad.d_ROW_PARTS tab_ROW_PARTS
  i_ROW_PARTS : KTabIn K w ad.d_ROW_PARTS keys_ROW_PARTS
  d_is_number_1_high : ∃ mv : List Value, KBn K fd.is_number ["thing", "low", "high"] 1 ["high"] (fun us ws => us ++ pickL [0, 1] (mv ++ ws)) (fun vs zs => vs ++ pickL [0, 1] (([("low", (.int 0))] : List (Str × V)).map (·.2) ++ zs))
  d_is_number_1_low : ∃ mv : List Value, KBn K fd.is_number ["thing", "low", "high"] 1 ["low"] (fun us ws => us ++ pickL [1, 0] (mv ++ ws)) (fun vs zs => vs ++ pickL [1, 0] (([("high", (.int 9999))] : List (Str × V)).map (·.2) ++ zs))
section
variable {P : Program} {w : World} {K : PySem.W.Frag} {mg : Str → Option Value} {base : Heap} {ad : Ad} {fd : Fd}
theorem Top.kp__law_hand (T : Top K w mg ad fd) : PySem.W.keepIn K (.ref ad.f__law_hand) = true := T.F__law_hand.kp
theorem Top.kp__law_take (T : Top K w mg ad fd) : PySem.W.keepIn K (.ref ad.f__law_take) = true := T.F__law_take.kp
theorem Top.kp__law_put (T : Top K w mg ad fd) : PySem.W.keepIn K (.ref ad.f__law_put) = true := T.F__law_put.kp
theorem Top.kp__law_pick (T : Top K w mg ad fd) : PySem.W.keepIn K (.ref ad.f__law_pick) = true := T.F__law_pick.kp
theorem Top.kp__law_small (T : Top K w mg ad fd) : PySem.W.keepIn K (.ref ad.f__law_small) = true := T.F__law_small.kp
theorem Top.kp__law_is (T : Top K w mg ad fd) : PySem.W.keepIn K (.ref ad.f__law_is) = true := T.F__law_is.kp
theorem Top.kp__law_blocks (T : Top K w mg ad fd) : PySem.W.keepIn K (.ref ad.f__law_blocks) = true := T.F__law_blocks.kp
theorem Top.kp__law_rows (T : Top K w mg ad fd) : PySem.W.keepIn K (.ref ad.f__law_rows) = true := T.F__law_rows.kp
theorem Top.kp_are_unlike (T : Top K w mg ad fd) : PySem.W.keepIn K (.ref ad.f_are_unlike) = true := T.F_are_unlike.kp
theorem Top.kp_asked_by (T : Top K w mg ad fd) : PySem.W.keepIn K (.ref ad.f_asked_by) = true := T.F_asked_by.kp
theorem Top.kp_given_by (T : Top K w mg ad fd) : PySem.W.keepIn K (.ref ad.f_given_by) = true := T.F_given_by.kp
theorem Top.kp_names_of (T : Top K w mg ad fd) : PySem.W.keepIn K (.ref ad.f_names_of) = true := T.F_names_of.kp
theorem Top.kp_is_name (T : Top K w mg ad fd) : PySem.W.keepIn K (.ref ad.f_is_name) = true := T.F_is_name.kp
theorem Top.kp_is_number (T : Top K w mg ad fd) : PySem.W.keepIn K (.ref ad.f_is_number) = true := T.F_is_number.kp
theorem Top.kp_fits_part (T : Top K w mg ad fd) : PySem.W.keepIn K (.ref ad.f_fits_part) = true := T.F_fits_part.kp
theorem Top.kp_are_parts (T : Top K w mg ad fd) : PySem.W.keepIn K (.ref ad.f_are_parts) = true := T.F_are_parts.kp
theorem Top.kp_is_end (T : Top K w mg ad fd) : PySem.W.keepIn K (.ref ad.f_is_end) = true := T.F_is_end.kp
theorem Top.kp_is_row (T : Top K w mg ad fd) : PySem.W.keepIn K (.ref ad.f_is_row) = true := T.F_is_row.kp
theorem Top.kp_is_block (T : Top K w mg ad fd) : PySem.W.keepIn K (.ref ad.f_is_block) = true := T.F_is_block.kp
theorem Top.kp_goals_in (T : Top K w mg ad fd) : PySem.W.keepIn K (.ref ad.f_goals_in) = true := T.F_goals_in.kp
theorem Top.kp_is_program (T : Top K w mg ad fd) : PySem.W.keepIn K (.ref ad.f_is_program) = true := T.F_is_program.kp
theorem Top.kp__law_named (T : Top K w mg ad fd) : PySem.W.keepIn K (.ref ad.f__law_named) = true := T.F__law_named.kp
theorem Top.kp__law_deep (T : Top K w mg ad fd) : PySem.W.keepIn K (.ref ad.f__law_deep) = true := T.F__law_deep.kp
theorem Top.kp_law (T : Top K w mg ad fd) : PySem.W.keepIn K (.ref ad.f_law) = true := T.F_law.kp
theorem Top.u_is_number_1_high (T : Top K w mg ad fd) : ∀ m H us vs ws zs, us.length = 1 → ws.length = (["high"] : List Str).length → RUs K (gx ad) m H us vs → RUs K (gx ad) m H ws zs → RUs K (gx ad) m H (gu_is_number_1_high us ws) (vs ++ pickL [0, 1] (([("low", (.int 0))] : List (Str × V)).map (·.2) ++ zs)) := fun m H us vs ws zs _ _ r1 r2 => r1.append (RUs.pick (RUs.cons (u := (.int 0)) (v := (.int 0)) (by unfold RU; rfl) r2) [0, 1])
theorem Top.u_is_number_1_low (T : Top K w mg ad fd) : ∀ m H us vs ws zs, us.length = 1 → ws.length = (["low"] : List Str).length → RUs K (gx ad) m H us vs → RUs K (gx ad) m H ws zs → RUs K (gx ad) m H (gu_is_number_1_low us ws) (vs ++ pickL [1, 0] (([("high", (.int 9999))] : List (Str × V)).map (·.2) ++ zs)) := fun m H us vs ws zs _ _ r1 r2 => r1.append (RUs.pick (RUs.cons (u := (.int 9999)) (v := (.int 9999)) (by unfold RU; rfl) r2) [1, 0])
theorem ok__law_hand (T : Top K w mg ad fd) : FnOk P w K mg base CX0 1 ad.f__law_hand fd._law_hand ["_law_script", "_law_k"] (spU K (gx ad) F__law_hand) := by
  have nd := sc__law_hand.nd
  unfold F__law_hand
  refine fn_ok (k := 0) (s := c__law_hand) (np := 2) (n := 4) rfl rfl T.F__law_hand sc__law_hand (fun cdv A outer s0 H E hr => ?_)
  exact (ss_cons (es_set (i := 2) nd rfl (by first | exact Or.inl rfl | exact Or.inr rfl) (ee_op (ou_addA false) (ee_op ou_mul ee_int (ee_var (pv 1))) (ee_callB cu_len (by rfl) T.n_len (by decide +kernel) (ea_cons (ee_var (pv 0)) ea_nil))))
  (ss_cons (es_if (et_cmp ou_lt (ee_var (pv 1)) (ee_callB cu_len (by rfl) T.n_len (by decide +kernel) (ea_cons (ee_var (pv 0)) ea_nil)) (nomark _)) (ss_one (es_set (i := 2) nd rfl (by first | exact Or.inl rfl | exact Or.inr rfl) (ee_ix (ee_var (pv 0)) (ee_var (pv 1))))) ss_nil)
  (ss_cons (es_set (i := 3) nd rfl (by first | exact Or.inl rfl | exact Or.inr rfl) (ee_op ou_mul (ee_op ou_mod (ee_callB cu_abs (by rfl) T.n_abs (by decide +kernel) (ea_cons (ee_var (pv 2)) ea_nil)) (ee_op ou_powJ (ee_op ou_pow ee_int ee_int) ee_int)) (ee_callTy cu_int (by rfl) T.n_int (by decide +kernel) (ea_cons (ee_cmp ou_ge (ee_callB cu_abs (by rfl) T.n_abs (by decide +kernel) (ea_cons (ee_var (pv 2)) ea_nil)) (ee_op ou_pow ee_int ee_int) (nomark _)) ea_nil))))
  (ss_one (es_ret (ee_lstM (ea_cons (ee_var (pv 3)) (ea_cons (ee_op ou_mod (ee_op ou_mul (ee_op (ou_addA false) (ee_op (ou_addA false) (ee_op ou_mod (ee_var (pv 2)) ee_int) (ee_op ou_mul (ee_op ou_mul ee_int (ee_var (pv 1))) (ee_var (pv 1)))) ee_int) ee_int) ee_int) ea_nil))))))))
theorem ok__law_take (T : Top K w mg ad fd) : FnOk P w K mg base CX0 1 ad.f__law_take fd._law_take ["_law_hand_here", "_law_many"] (spU K (gx ad) F__law_take) := by
  have nd := sc__law_take.nd
  unfold F__law_take
  refine fn_ok (k := 0) (s := c__law_take) (np := 2) (n := 3) rfl rfl T.F__law_take sc__law_take (fun cdv A outer s0 H E hr => ?_)
  exact (ss_cons (es_if (et_cmp ou_gt (ee_ix (ee_var (pv 0)) ee_int) ee_int (nomark _)) (ss_cons (es_set (i := 2) nd rfl (by first | exact Or.inl rfl | exact Or.inr rfl) (ee_op ou_mod (ee_ix (ee_var (pv 0)) ee_int) (ee_var (pv 1))))
  (ss_cons (es_setL (ee_var (pv 0)) ee_int (ee_op ou_div (ee_ix (ee_var (pv 0)) ee_int) (ee_var (pv 1))))
  (ss_one (es_ret (ee_var (pv 2)))))) ss_nil)
  (ss_cons (es_setL (ee_var (pv 0)) ee_int (ee_op ou_mod (ee_op (ou_addA false) (ee_op ou_mul (ee_ix (ee_var (pv 0)) ee_int) ee_int) ee_int) ee_int))
  (ss_one (es_ret (ee_op ou_mod (ee_op ou_div (ee_op ou_mod (ee_op ou_mul (ee_op ou_div (ee_ix (ee_var (pv 0)) ee_int) ee_int) (ee_op (ou_addA false) (ee_op ou_mod (ee_ix (ee_var (pv 0)) ee_int) ee_int) ee_int)) ee_int) ee_int) (ee_var (pv 1)))))))
theorem ok__law_put (T : Top K w mg ad fd) : FnOk P w K mg base CX0 2 ad.f__law_put fd._law_put ["_law_hand_here", "_law_blocks_here", "_law_rows_here"] (spU K (gx ad) F__law_put) := by
  have nd := sc__law_put.nd
  unfold F__law_put
  refine fn_ok (k := 1) (s := c__law_put) (np := 3) (n := 8) rfl rfl T.F__law_put sc__law_put (fun cdv A outer s0 H E hr => ?_)
  exact (ss_cons (es_par2 rfl nd rfl rfl (by decide) rfl rfl (ea_cons (ee_lcG (own := [("_law_block", 7)]) rfl nd (ei_any (ee_var (pv 1))) (blkOk_by (own := [("_law_block", 7)]) (N := N__law_put) (sc := defScope st__law_put) (by decide +kernel)) (fun _ _ _ _ _ => (ep_name (i := 7) nd rfl (by first | exact Or.inl rfl | exact Or.inr rfl))) (fun _ _ _ _ _ => ets_nil) (fun _ _ _ _ _ => (ee_callTy (cu_list true) (by rfl) T.n_list (by decide +kernel) (ea_cons (ee_var (pv 7)) ea_nil))) (by decide)) (ea_cons (ee_cmp (ou_eq hr.units) (ee_call (ok__law_take T) (hr.mono (by decide)) (by rfl) T.g__law_take T.kp__law_take T.b__law_take (ea_cons (ee_var (pv 0)) (ea_cons ee_int ea_nil))) ee_int (nomark _)) ea_nil)) (by rfl))
  (ss_cons (es_set (i := 5) nd rfl (by first | exact Or.inl rfl | exact Or.inr rfl) (ee_call (ok__law_take T) (hr.mono (by decide)) (by rfl) T.g__law_take T.kp__law_take T.b__law_take (ea_cons (ee_var (pv 0)) (ea_cons (ee_callB cu_len (by rfl) T.n_len (by decide +kernel) (ea_cons (ee_var (pv 3)) ea_nil)) ea_nil))))
  (ss_cons (es_forG PassesOwn.never rfl (ei_any (ee_var (pv 2))) (ep_name (i := 6) nd rfl (by first | exact Or.inl rfl | exact Or.inr rfl)) (ss_cons (es_set (i := 5) nd rfl (by first | exact Or.inl rfl | exact Or.inr rfl) (ee_if (et_tru (ee_var (pv 4))) (ee_var (pv 5)) (ee_call (ok__law_take T) (hr.mono (by decide)) (by rfl) T.g__law_take T.kp__law_take T.b__law_take (ea_cons (ee_var (pv 0)) (ea_cons (ee_callB cu_len (by rfl) T.n_len (by decide +kernel) (ea_cons (ee_var (pv 3)) ea_nil)) ea_nil)))))
  (ss_one (es_setL (ee_ix (ee_var (pv 3)) (ee_var (pv 5))) ee_int (ee_op (ou_addA false) (ee_ix (ee_ix (ee_var (pv 3)) (ee_var (pv 5))) ee_int) (ee_tup (ea_cons (ee_var (pv 6)) ea_nil)))))))
  (ss_one (es_ret (ee_callTy cu_tuple (by rfl) T.n_tuple (by decide +kernel) (ea_cons (ee_lc (own := [("_law_block", 7)]) rfl nd (ei_seq (ee_var (pv 3))) (blkOk_by (own := [("_law_block", 7)]) (N := N__law_put) (sc := defScope st__law_put) (by decide +kernel)) (fun _ _ _ _ _ => (ep_name (i := 7) nd rfl (by first | exact Or.inl rfl | exact Or.inr rfl))) (fun _ _ _ _ _ => ets_nil) (fun _ _ _ _ _ => (ee_callTy cu_tuple (by rfl) T.n_tuple (by decide +kernel) (ea_cons (ee_var (pv 7)) ea_nil))) (by decide)) ea_nil)))))))
theorem ok__law_pick (T : Top K w mg ad fd) : FnOk P w K mg base CX0 2 ad.f__law_pick fd._law_pick ["_law_hand_here", "_law_some"] (spU K (gx ad) F__law_pick) := by
  have nd := sc__law_pick.nd
  unfold F__law_pick
  refine fn_ok (k := 1) (s := c__law_pick) (np := 2) (n := 2) rfl rfl T.F__law_pick sc__law_pick (fun cdv A outer s0 H E hr => ?_)
  exact (ss_one (es_ret (ee_ix (ee_var (pv 1)) (ee_call (ok__law_take T) (hr.mono (by decide)) (by rfl) T.g__law_take T.kp__law_take T.b__law_take (ea_cons (ee_var (pv 0)) (ea_cons (ee_callB cu_len (by rfl) T.n_len (by decide +kernel) (ea_cons (ee_var (pv 1)) ea_nil)) ea_nil))))))
theorem ok__law_small (T : Top K w mg ad fd) : FnOk P w K mg base CX0 3 ad.f__law_small fd._law_small ["_law_hand_here"] (spU K (gx ad) F__law_small) := by
  have nd := sc__law_small.nd
  unfold F__law_small
  refine fn_ok (k := 2) (s := c__law_small) (np := 1) (n := 11) rfl rfl T.F__law_small sc__law_small (fun cdv A outer s0 H E hr => ?_)
  exact (ss_cons (es_set (i := 1) nd rfl (by first | exact Or.inl rfl | exact Or.inr rfl) (ee_lst (ea_cons (ee_tup (ea_cons (ee_tup (ea_cons ee_int (ea_cons ee_str (ea_cons ee_str (ea_cons ee_int ea_nil))))) (ea_cons ee_bl ea_nil))) (ea_cons (ee_tup (ea_cons (ee_tup (ea_cons ee_int (ea_cons ee_str (ea_cons ee_str (ea_cons ee_int ea_nil))))) (ea_cons ee_bl ea_nil))) (ea_cons (ee_tup (ea_cons (ee_tup (ea_cons ee_int (ea_cons ee_str (ea_cons ee_str (ea_cons ee_int ea_nil))))) (ea_cons ee_bl ea_nil))) ea_nil)))))
  (ss_cons (es_set (i := 1) nd rfl (by first | exact Or.inl rfl | exact Or.inr rfl) (ee_op (ou_addA false) (ee_var (pv 1)) (ee_lst (ea_cons (ee_tup (ea_cons (ee_tup (ea_cons ee_int (ea_cons ee_str (ea_cons ee_str (ea_cons ee_int ea_nil))))) (ea_cons ee_bl ea_nil))) (ea_cons (ee_tup (ea_cons (ee_tup (ea_cons ee_int (ea_cons ee_str (ea_cons ee_str (ea_cons ee_int ea_nil))))) (ea_cons ee_bl ea_nil))) (ea_cons (ee_tup (ea_cons (ee_tup (ea_cons ee_int (ea_cons ee_str (ea_cons ee_str (ea_cons (ee_un uu_neg ee_int) ea_nil))))) (ea_cons ee_bl ea_nil))) ea_nil))))))
  (ss_cons (es_set (i := 1) nd rfl (by first | exact Or.inl rfl | exact Or.inr rfl) (ee_op (ou_addA false) (ee_var (pv 1)) (ee_lst (ea_cons (ee_tup (ea_cons (ee_tup (ea_cons ee_int (ea_cons ee_str (ea_cons ee_str ea_nil)))) (ea_cons ee_bl ea_nil))) (ea_cons (ee_tup (ea_cons (ee_tup (ea_cons ee_int (ea_cons ee_str (ea_cons ee_str ea_nil)))) (ea_cons ee_bl ea_nil))) (ea_cons (ee_tup (ea_cons (ee_tup (ea_cons ee_int (ea_cons ee_str (ea_cons ee_str ea_nil)))) (ea_cons ee_bl ea_nil))) ea_nil))))))
  (ss_cons (es_set (i := 1) nd rfl (by first | exact Or.inl rfl | exact Or.inr rfl) (ee_op (ou_addA false) (ee_var (pv 1)) (ee_lst (ea_cons (ee_tup (ea_cons (ee_tup (ea_cons ee_int (ea_cons ee_str (ea_cons ee_str (ea_cons ee_bl ea_nil))))) (ea_cons ee_bl ea_nil))) (ea_cons (ee_tup (ea_cons (ee_tup (ea_cons ee_bl (ea_cons ee_str (ea_cons ee_str (ea_cons ee_int ea_nil))))) (ea_cons ee_bl ea_nil))) (ea_cons (ee_tup (ea_cons (ee_tup (ea_cons ee_int (ea_cons ee_str (ea_cons ee_str (ea_cons ee_str (ea_cons ee_str ea_nil)))))) (ea_cons ee_bl ea_nil))) ea_nil))))))
  (ss_cons (es_asg (ee_call (ok__law_pick T) (hr.mono (by decide)) (by rfl) T.g__law_pick T.kp__law_pick T.b__law_pick (ea_cons (ee_var (pv 0)) (ea_cons (ee_var (pv 1)) ea_nil))) (eg_pat (ep_tup rfl (eps_cons (ep_name (i := 2) nd rfl (by first | exact Or.inl rfl | exact Or.inr rfl)) (eps_cons (ep_name (i := 3) nd rfl (by first | exact Or.inl rfl | exact Or.inr rfl)) eps_nil)))))
  (ss_cons (es_set (i := 4) nd rfl (by first | exact Or.inl rfl | exact Or.inr rfl) (ee_callTy cu_tuple (by rfl) T.n_tuple (by decide +kernel) (ea_cons (ee_lc (own := [("_law_k", 10)]) rfl nd (ei_range1 (by rfl) T.n_range (ea_cons (ee_call (ok__law_take T) (hr.mono (by decide)) (by rfl) T.g__law_take T.kp__law_take T.b__law_take (ea_cons (ee_var (pv 0)) (ea_cons ee_int ea_nil))) ea_nil)) (blkOk_by (own := [("_law_k", 10)]) (N := N__law_small) (sc := defScope st__law_small) (by decide +kernel)) (fun _ _ _ _ _ => (ep_name (i := 10) nd rfl (by first | exact Or.inl rfl | exact Or.inr rfl))) (fun _ _ _ _ _ => ets_nil) (fun _ _ _ _ _ => (ee_tup (ea_cons (ee_op (ou_addA false) ee_int (ee_var (pv 10))) (ea_cons ee_str (ea_cons ee_str ea_nil))))) (by decide)) ea_nil)))
  (ss_cons (es_set (i := 5) nd rfl (by first | exact Or.inl rfl | exact Or.inr rfl) (ee_lst (ea_cons (ee_tup (ea_cons (ee_tup (ea_cons ee_str (ea_cons ee_str ea_nil))) (ea_cons ee_bl ea_nil))) (ea_cons (ee_tup (ea_cons (ee_tup (ea_cons ee_str (ea_cons ee_str ea_nil))) (ea_cons ee_bl ea_nil))) (ea_cons (ee_tup (ea_cons (ee_tup (ea_cons ee_str (ea_cons ee_str ea_nil))) (ea_cons ee_bl ea_nil))) (ea_cons (ee_tup (ea_cons (ee_tup (ea_cons ee_str ea_nil)) (ea_cons ee_bl ea_nil))) ea_nil))))))
  (ss_cons (es_asg (ee_call (ok__law_pick T) (hr.mono (by decide)) (by rfl) T.g__law_pick T.kp__law_pick T.b__law_pick (ea_cons (ee_var (pv 0)) (ea_cons (ee_op (ou_addA false) (ee_var (pv 5)) (ee_lst (ea_cons (ee_tup (ea_cons (ee_tup (ea_cons ee_str (ea_cons ee_str (ea_cons ee_str (ea_cons ee_str ea_nil))))) (ea_cons ee_bl ea_nil))) (ea_cons (ee_tup (ea_cons (ee_tup (ea_cons ee_str (ea_cons ee_str (ea_cons ee_str (ea_cons ee_str ea_nil))))) (ea_cons ee_bl ea_nil))) ea_nil)))) ea_nil))) (eg_pat (ep_tup rfl (eps_cons (ep_name (i := 6) nd rfl (by first | exact Or.inl rfl | exact Or.inr rfl)) (eps_cons (ep_name (i := 7) nd rfl (by first | exact Or.inl rfl | exact Or.inr rfl)) eps_nil)))))
  (ss_cons (es_set (i := 8) nd rfl (by first | exact Or.inl rfl | exact Or.inr rfl) (ee_tup (ea_cons ee_str (ea_cons (ee_tup ea_nil) (ea_cons (ee_call (ok__law_pick T) (hr.mono (by decide)) (by rfl) T.g__law_pick T.kp__law_pick T.b__law_pick (ea_cons (ee_var (pv 0)) (ea_cons (ee_lst (ea_cons (ee_tup (ea_cons ee_str ea_nil)) (ea_cons (ee_tup (ea_cons ee_str (ea_cons ee_str ea_nil))) ea_nil))) ea_nil))) ea_nil)))))
  (ss_cons (es_set (i := 9) nd rfl (by first | exact Or.inl rfl | exact Or.inr rfl) (ee_lst (ea_cons (ee_tup (ea_cons ee_str (ea_cons (ee_op (ou_addA false) (ee_var (pv 4)) (ee_tup (ea_cons (ee_var (pv 2)) ea_nil))) (ea_cons (ee_var (pv 6)) ea_nil)))) (ea_cons (ee_var (pv 8)) ea_nil))))
  (ss_one (es_ret (ee_tup (ea_cons (ee_callTy cu_tuple (by rfl) T.n_tuple (by decide +kernel) (ea_cons (ee_stp false (ee_var (pv 9)) (ee_call (ok__law_pick T) (hr.mono (by decide)) (by rfl) T.g__law_pick T.kp__law_pick T.b__law_pick (ea_cons (ee_var (pv 0)) (ea_cons (ee_lst (ea_cons ee_int (ea_cons (ee_un uu_neg ee_int) ea_nil))) ea_nil)))) ea_nil)) (ea_cons (ee_and (ee_var (pv 3)) (ee_one (ee_var (pv 7)))) ea_nil)))))))))))))))
theorem ok__law_is (T : Top K w mg ad fd) : FnOk P w K mg base CX0 1 ad.f__law_is fd._law_is ["_law_told", "_law_due"] (spU K (gx ad) (liftP P__law_is)) := by
  have nd := sc__law_is.nd
  unfold P__law_is
  refine fn_pure (fn_ok (k := 0) (s := c__law_is) (np := 2) (n := 2) rfl rfl T.F__law_is sc__law_is (fun cdv A outer s0 H E hr => ?_))
  exact (ss_one (es_ret (ee_and (ee_isi (T := "bool") (by rfl) T.n_isinstance (by rfl) T.n_bool (by decide +kernel) (ee_var (pv 0))) (ee_one (ee_cmp (ou_eq hr.units) (ee_var (pv 0)) (ee_var (pv 1)) (nomark _))))))
theorem ok__law_blocks (T : Top K w mg ad fd) : FnOk P w K mg base CX0 3 ad.f__law_blocks fd._law_blocks ["_law_hand_here", "_law_many"] (spU K (gx ad) F__law_blocks) := by
  have nd := sc__law_blocks.nd
  unfold F__law_blocks
  refine fn_ok (k := 2) (s := c__law_blocks) (np := 2) (n := 7) rfl rfl T.F__law_blocks sc__law_blocks (fun cdv A outer s0 H E hr => ?_)
  exact (ss_cons (es_set (i := 2) nd rfl (by first | exact Or.inl rfl | exact Or.inr rfl) ee_str)
  (ss_cons (by first | exact es_setLc (i := 3) (own := [("_law_k", 6)]) rfl nd rfl rfl (sw_true rfl rfl rfl (by decide +kernel)) (ei_range1 (by rfl) T.n_range (ea_cons (ee_var (pv 1)) ea_nil)) (blkOk_by (own := [("_law_k", 6)]) (N := N__law_blocks) (sc := defScope st__law_blocks) (by decide +kernel)) (fun _ _ _ _ _ => (ep_name (i := 6) nd rfl (by first | exact Or.inl rfl | exact Or.inr rfl))) (fun _ _ _ _ _ => ets_nil) (fun _ _ _ _ _ => (ee_op (ou_addA false) (ee_ix (ee_var (pv 2)) (ee_var (pv 6))) (ee_ix (ee_var (pv 2)) (ee_op ou_mod (ee_op (ou_addA false) (ee_op ou_mul (ee_var (pv 6)) ee_int) (ee_call (ok__law_take T) (hr.mono (by decide)) (by rfl) T.g__law_take T.kp__law_take T.b__law_take (ea_cons (ee_var (pv 0)) (ea_cons ee_int ea_nil)))) ee_int)))) (by decide) | exact es_set (i := 3) nd rfl (by first | exact Or.inl rfl | exact Or.inr rfl) (ee_lc (own := [("_law_k", 6)]) rfl nd (ei_range1 (by rfl) T.n_range (ea_cons (ee_var (pv 1)) ea_nil)) (blkOk_by (own := [("_law_k", 6)]) (N := N__law_blocks) (sc := defScope st__law_blocks) (by decide +kernel)) (fun _ _ _ _ _ => (ep_name (i := 6) nd rfl (by first | exact Or.inl rfl | exact Or.inr rfl))) (fun _ _ _ _ _ => ets_nil) (fun _ _ _ _ _ => (ee_op (ou_addA false) (ee_ix (ee_var (pv 2)) (ee_var (pv 6))) (ee_ix (ee_var (pv 2)) (ee_op ou_mod (ee_op (ou_addA false) (ee_op ou_mul (ee_var (pv 6)) ee_int) (ee_call (ok__law_take T) (hr.mono (by decide)) (by rfl) T.g__law_take T.kp__law_take T.b__law_take (ea_cons (ee_var (pv 0)) (ea_cons ee_int ea_nil)))) ee_int)))) (by decide)))
  (ss_cons (es_set (i := 4) nd rfl (by first | exact Or.inl rfl | exact Or.inr rfl) (ee_lstM ea_nil))
  (ss_cons (es_for PassesOwn.never rfl (ei_seq (ee_var (pv 3))) (ep_name (i := 5) nd rfl (by first | exact Or.inl rfl | exact Or.inr rfl)) (ss_one (es_expr (ee_mt PySem.F.plainAttrs_list PySem.F.slot_list_append PySem.F.type_list_append mu_append (ee_var (pv 4)) (ea_cons (ee_tup (ea_cons (ee_var (pv 5)) (ea_cons (ee_tup ea_nil) (ea_cons (ee_tup (ea_cons ee_str (ea_cons (ee_call (ok__law_pick T) (hr.mono (by decide)) (by rfl) T.g__law_pick T.kp__law_pick T.b__law_pick (ea_cons (ee_var (pv 0)) (ea_cons (ee_var (pv 3)) ea_nil))) ea_nil))) ea_nil)))) ea_nil)))))
  (ss_one (es_ret (ee_var (pv 4))))))))
theorem ok__law_rows (T : Top K w mg ad fd) : FnOk P w K mg base CX0 1 ad.f__law_rows fd._law_rows ["_law_many", "_law_names"] (spU K (gx ad) F__law_rows) := by
  have nd := sc__law_rows.nd
  unfold F__law_rows
  refine fn_ok (k := 0) (s := c__law_rows) (np := 2) (n := 6) rfl rfl T.F__law_rows sc__law_rows (fun cdv A outer s0 H E hr => ?_)
  exact (ss_cons (es_set (i := 2) nd rfl (by first | exact Or.inl rfl | exact Or.inr rfl) (ee_lstM ea_nil))
  (ss_cons (es_for PassesOwn.never rfl (ei_range1 (by rfl) T.n_range (ea_cons (ee_var (pv 0)) ea_nil)) (ep_name (i := 3) nd rfl (by first | exact Or.inl rfl | exact Or.inr rfl)) (ss_cons (es_par2 rfl nd rfl rfl (by decide) rfl rfl (ea_cons (ee_ix (ee_var (pv 1)) (ee_op ou_mod (ee_var (pv 3)) (ee_callB cu_len (by rfl) T.n_len (by decide +kernel) (ea_cons (ee_var (pv 1)) ea_nil)))) (ea_cons (ee_ix (ee_var (pv 1)) (ee_op ou_mod (ee_op (ou_addA false) (ee_var (pv 3)) ee_int) (ee_callB cu_len (by rfl) T.n_len (by decide +kernel) (ea_cons (ee_var (pv 1)) ea_nil)))) ea_nil)) (by rfl))
  (ss_one (es_expr (ee_mt PySem.F.plainAttrs_list PySem.F.slot_list_append PySem.F.type_list_append mu_append (ee_var (pv 2)) (ea_cons (ee_ix (ee_lst (ea_cons (ee_tup (ea_cons (ee_op (ou_addA false) (ee_var (pv 3)) ee_int) (ea_cons ee_str (ea_cons (ee_var (pv 4)) (ea_cons (ee_var (pv 5)) (ea_cons (ee_var (pv 4)) ea_nil)))))) (ea_cons (ee_tup (ea_cons (ee_op (ou_addA false) (ee_var (pv 3)) ee_int) (ea_cons ee_str (ea_cons (ee_var (pv 4)) (ea_cons (ee_var (pv 5)) ea_nil))))) (ea_cons (ee_tup (ea_cons (ee_op (ou_addA false) (ee_var (pv 3)) ee_int) (ea_cons ee_str (ea_cons (ee_var (pv 4)) ea_nil)))) ea_nil)))) (ee_op ou_mod (ee_var (pv 3)) ee_int)) ea_nil))))))
  (ss_one (es_ret (ee_var (pv 2))))))
theorem ok_are_unlike (T : Top K w mg ad fd) : FnOk P w K mg base CX0 1 ad.f_are_unlike fd.are_unlike ["things"] (spU K (gx ad) (liftP P_are_unlike)) := by
  have nd := sc_are_unlike.nd
  unfold P_are_unlike
  refine fn_pure (fn_ok (k := 0) (s := c_are_unlike) (np := 1) (n := 1) rfl rfl T.F_are_unlike sc_are_unlike (fun cdv A outer s0 H E hr => ?_))
  exact (ss_one (es_ret (ee_cmp (ou_eq hr.units) (ee_lenSet rfl (by rfl) T.n_len (by rfl) T.n_set (ee_var (pv 0))) (ee_callB cu_len (by rfl) T.n_len (by decide +kernel) (ea_cons (ee_var (pv 0)) ea_nil)) (nomark _))))
theorem ok_asked_by (T : Top K w mg ad fd) : FnOk P w K mg base CX0 1 ad.f_asked_by fd.asked_by ["row"] (spU K (gx ad) (liftP P_asked_by)) := by
  have nd := sc_asked_by.nd
  unfold P_asked_by
  refine fn_pure (fn_ok (k := 0) (s := c_asked_by) (np := 1) (n := 5) rfl rfl T.F_asked_by sc_asked_by (fun cdv A outer s0 H E hr => ?_))
  exact (ss_cons (es_if (et_tru (ee_isi (T := "str") (by rfl) T.n_isinstance (by rfl) T.n_str (by decide +kernel) (ee_ix (ee_var (pv 0)) ee_int))) (ss_one (es_par2 rfl nd rfl rfl (by decide) rfl rfl (ea_cons (ee_tab (by rfl) T.g_END_PARTS T.t_END_PARTS (ee_ix (ee_var (pv 0)) ee_int)) (ea_cons (ee_slice false (ee_var (pv 0)) (eo_some ee_int) eo_none) ea_nil)) (by rfl))) (ss_one (es_par2 rfl nd rfl rfl (by decide) rfl rfl (ea_cons (ee_tab (by rfl) T.g_ROW_PARTS T.t_ROW_PARTS (ee_ix (ee_var (pv 0)) ee_int)) (ea_cons (ee_slice false (ee_var (pv 0)) (eo_some ee_int) eo_none) ea_nil)) (by rfl))))
  (ss_one (es_ret (ee_callTy cu_tuple (by rfl) T.n_tuple (by decide +kernel) (ea_cons (ee_lc (own := [("sort", 3), ("part", 4)]) rfl nd (ei_zip (by rfl) T.n_zip (ea_cons (ee_var (pv 1)) (ea_cons (ee_var (pv 2)) ea_nil))) (blkOk_by (own := [("sort", 3), ("part", 4)]) (N := N_asked_by) (sc := defScope st_asked_by) (by decide +kernel)) (fun _ _ _ _ _ => (ep_tup rfl (eps_cons (ep_name (i := 3) nd rfl (by first | exact Or.inl rfl | exact Or.inr rfl)) (eps_cons (ep_name (i := 4) nd rfl (by first | exact Or.inl rfl | exact Or.inr rfl)) eps_nil)))) (fun _ _ _ _ _ => (ets_one (et_cmp (ou_eq hr.units) (ee_var (pv 3)) ee_str (nomark _)))) (fun _ _ _ _ _ => (ee_var (pv 4))) (by decide)) ea_nil)))))
theorem ok_given_by (T : Top K w mg ad fd) : FnOk P w K mg base CX0 1 ad.f_given_by fd.given_by ["row"] (spU K (gx ad) (liftP P_given_by)) := by
  have nd := sc_given_by.nd
  unfold P_given_by
  refine fn_pure (fn_ok (k := 0) (s := c_given_by) (np := 1) (n := 1) rfl rfl T.F_given_by sc_given_by (fun cdv A outer s0 H E hr => ?_))
  exact (ss_one (es_ret (ee_if (et_tru (ee_mt PySem.F.plainAttrs_str PySem.F.slot_str_startswith PySem.F.type_str_startswith mu_startswith (ee_tab (by rfl) T.g_ROW_PARTS T.t_ROW_PARTS (ee_ix (ee_var (pv 0)) ee_int)) (ea_cons ee_str ea_nil))) (ee_ix (ee_var (pv 0)) ee_int) ee_non)))
theorem ok_names_of (T : Top K w mg ad fd) : FnOk P w K mg base CX0 2 ad.f_names_of fd.names_of ["program"] (spU K (gx ad) (liftP P_names_of)) := by
  have nd := sc_names_of.nd
  unfold P_names_of
  refine fn_pure (fn_ok (k := 1) (s := c_names_of) (np := 1) (n := 7) rfl rfl T.F_names_of sc_names_of (fun cdv A outer s0 H E hr => ?_))
  exact (ss_cons (by first | exact es_setD3 (i := 1) (c := ⟨(itAny (cVar 0)), (.tp [(.nm 2), (.nm 3), (.nm 4)]), cYes, [2, 3, 4, 5, 6]⟩) (c1 := ⟨(itAny (cBin (addU false) (cVar 3) (cArg oTup (cCons (cVar 4) cNil)))), (.nm 5), cYes, [5, 6]⟩) (c2 := ⟨(itAny (cArg (liftP P_asked_by) (cCons (cVar 5) cNil))), (.nm 6), cYes, [6]⟩) true rfl nd rfl rfl (sw_trueD rfl rfl rfl (by decide +kernel)) (ei_anyK (ee_var (pv 0))) (blkOk_by (own := [("block", 2), ("rows", 3), ("end", 4), ("row", 5), ("name", 6)]) (N := N_names_of) (sc := defScope st_names_of) (by decide +kernel)) rfl (fun _ _ _ _ _ => (ep_tup rfl (eps_cons (ep_name (i := 2) nd rfl (by first | exact Or.inl rfl | exact Or.inr rfl)) (eps_cons (ep_name (i := 3) nd rfl (by first | exact Or.inl rfl | exact Or.inr rfl)) (eps_cons (ep_name (i := 4) nd rfl (by first | exact Or.inl rfl | exact Or.inr rfl)) eps_nil))))) (fun _ _ _ _ _ => ets_nil) (fun _ _ _ _ _ => (ei_anyK (ee_op (ou_addA false) (ee_var (pv 3)) (ee_tup (ea_cons (ee_var (pv 4)) ea_nil))))) (fun _ _ _ _ _ => (ep_name (i := 5) nd rfl (by first | exact Or.inl rfl | exact Or.inr rfl))) (fun _ _ _ _ _ => ets_nil) (fun _ _ _ _ _ => (ei_anyK (ee_call (ok_asked_by T) (hr.mono (by decide)) (by rfl) T.g_asked_by T.kp_asked_by T.b_asked_by (ea_cons (ee_var (pv 5)) ea_nil)))) (fun _ _ _ _ _ => (ep_name (i := 6) nd rfl (by first | exact Or.inl rfl | exact Or.inr rfl))) (fun _ _ _ _ _ => ets_nil) (fun _ _ _ _ _ => (ee_var (pv 6))) (fun _ _ _ _ _ => ee_bl) (by decide) (by decide) (by decide) (by decide) (by decide) | exact es_set (i := 1) nd rfl (by first | exact Or.inl rfl | exact Or.inr rfl) (ee_dc3 (c := ⟨(itAny (cVar 0)), (.tp [(.nm 2), (.nm 3), (.nm 4)]), cYes, [2, 3, 4, 5, 6]⟩) (c1 := ⟨(itAny (cBin (addU false) (cVar 3) (cArg oTup (cCons (cVar 4) cNil)))), (.nm 5), cYes, [5, 6]⟩) (c2 := ⟨(itAny (cArg (liftP P_asked_by) (cCons (cVar 5) cNil))), (.nm 6), cYes, [6]⟩) true rfl nd (ei_anyK (ee_var (pv 0))) (blkOk_by (own := [("block", 2), ("rows", 3), ("end", 4), ("row", 5), ("name", 6)]) (N := N_names_of) (sc := defScope st_names_of) (by decide +kernel)) rfl (fun _ _ _ _ _ => (ep_tup rfl (eps_cons (ep_name (i := 2) nd rfl (by first | exact Or.inl rfl | exact Or.inr rfl)) (eps_cons (ep_name (i := 3) nd rfl (by first | exact Or.inl rfl | exact Or.inr rfl)) (eps_cons (ep_name (i := 4) nd rfl (by first | exact Or.inl rfl | exact Or.inr rfl)) eps_nil))))) (fun _ _ _ _ _ => ets_nil) (fun _ _ _ _ _ => (ei_anyK (ee_op (ou_addA false) (ee_var (pv 3)) (ee_tup (ea_cons (ee_var (pv 4)) ea_nil))))) (fun _ _ _ _ _ => (ep_name (i := 5) nd rfl (by first | exact Or.inl rfl | exact Or.inr rfl))) (fun _ _ _ _ _ => ets_nil) (fun _ _ _ _ _ => (ei_anyK (ee_call (ok_asked_by T) (hr.mono (by decide)) (by rfl) T.g_asked_by T.kp_asked_by T.b_asked_by (ea_cons (ee_var (pv 5)) ea_nil)))) (fun _ _ _ _ _ => (ep_name (i := 6) nd rfl (by first | exact Or.inl rfl | exact Or.inr rfl))) (fun _ _ _ _ _ => ets_nil) (fun _ _ _ _ _ => (ee_var (pv 6))) (fun _ _ _ _ _ => ee_bl) (by decide) (by decide) (by decide) (by decide) (by decide)))
  (ss_cons (es_expr (ee_mt PySem.F.plainAttrs_dict PySem.F.slot_dict_update PySem.F.type_dict_update mu_update (ee_var (pv 1)) (ea_cons (ee_dc2 (c := ⟨(itAny (cVar 0)), (.tp [(.nm 2), (.nm 3), (.nm 4)]), cYes, [2, 3, 4, 5]⟩) (c1 := ⟨(itAny (cVar 3)), (.nm 5), (cTru (cBin (isN true) (cArg (liftP P_given_by) (cCons (cVar 5) cNil)) (cCst .non))), [5]⟩) false rfl nd (ei_anyK (ee_var (pv 0))) (blkOk_by (own := [("block", 2), ("rows", 3), ("end", 4), ("row", 5)]) (N := N_names_of) (sc := defScope st_names_of) (by decide +kernel)) rfl (fun _ _ _ _ _ => (ep_tup rfl (eps_cons (ep_name (i := 2) nd rfl (by first | exact Or.inl rfl | exact Or.inr rfl)) (eps_cons (ep_name (i := 3) nd rfl (by first | exact Or.inl rfl | exact Or.inr rfl)) (eps_cons (ep_name (i := 4) nd rfl (by first | exact Or.inl rfl | exact Or.inr rfl)) eps_nil))))) (fun _ _ _ _ _ => ets_nil) (fun _ _ _ _ _ => (ei_anyK (ee_var (pv 3)))) (fun _ _ _ _ _ => (ep_name (i := 5) nd rfl (by first | exact Or.inl rfl | exact Or.inr rfl))) (fun _ _ _ _ _ => (ets_one (et_cmp ou_notN (ee_call (ok_given_by T) (hr.mono (by decide)) (by rfl) T.g_given_by T.kp_given_by T.b_given_by (ea_cons (ee_var (pv 5)) ea_nil)) ee_non (nomark _)))) (fun _ _ _ _ _ => (ee_ix (ee_var (pv 5)) ee_int)) (fun _ _ _ _ _ => ee_bl) (by decide) (by decide) (by decide)) ea_nil)))
  (ss_one (es_ret (ee_callB (cu_sorted false rfl) (by rfl) T.n_sorted (by decide +kernel) (ea_cons (ee_var (pv 1)) ea_nil))))))
theorem ok_is_name (T : Top K w mg ad fd) : FnOk P w K mg base CX0 1 ad.f_is_name fd.is_name ["thing"] (spU K (gx ad) (liftP P_is_name)) := by
  have nd := sc_is_name.nd
  unfold P_is_name
  refine fn_pure (fn_ok (k := 0) (s := c_is_name) (np := 1) (n := 2) rfl rfl T.F_is_name sc_is_name (fun cdv A outer s0 H E hr => ?_))
  exact (ss_cons (es_if (et_w (ew_or (et_not (et_tru (ee_isi (T := "str") (by rfl) T.n_isinstance (by rfl) T.n_str (by decide +kernel) (ee_var (pv 0))))) (ew_or1 (et_not (et_chain ou_le ou_le ee_int (ee_callB cu_len (by rfl) T.n_len (by decide +kernel) (ea_cons (ee_var (pv 0)) ea_nil)) (ee_glob (v := .int 8) (by rfl) T.k_MOST_SIGNS ⟨_, rfl⟩ (fun _ _ => rfl))))))) (ss_one (es_ret ee_bl)) ss_nil)
  (ss_one (es_ret (ee_callB (cu_all rfl) (by rfl) T.n_all (by decide +kernel) (ea_cons (ee_lc (own := [("sign", 1)]) rfl nd (ei_seq (ee_var (pv 0))) (blkOk_by (own := [("sign", 1)]) (N := N_is_name) (sc := defScope st_is_name) (by decide +kernel)) (fun _ _ _ _ _ => (ep_name (i := 1) nd rfl (by first | exact Or.inl rfl | exact Or.inr rfl))) (fun _ _ _ _ _ => ets_nil) (fun _ _ _ _ _ => (ee_cmp (ou_in (hu_of hr)) (ee_var (pv 1)) (ee_glob (v := .str "abcdefghijklmnopqrstuvwxyz") (by rfl) T.k_LETTERS ⟨_, rfl⟩ (fun _ _ => rfl)) (by rfl))) (by decide)) ea_nil)))))
theorem ok_is_number (T : Top K w mg ad fd) : FnOk P w K mg base CX0 1 ad.f_is_number fd.is_number ["thing", "low", "high"] (spU K (gx ad) (liftP P_is_number)) := by
  have nd := sc_is_number.nd
  unfold P_is_number
  refine fn_pure (fn_okD (k := 0) (s := c_is_number) (np := 3) (n := 3) rfl rfl T.F_is_number sc_is_number (fun cdv A outer s0 H E hr => ?_))
  exact (ss_one (es_ret (ee_and (ee_isi (T := "int") (by rfl) T.n_isinstance (by rfl) T.n_int (by decide +kernel) (ee_var (pv 0))) (ee_and (ee_not (ee_isi (T := "bool") (by rfl) T.n_isinstance (by rfl) T.n_bool (by decide +kernel) (ee_var (pv 0)))) (ee_one (ee_chain ou_le ou_le (ee_var (pv 1)) (ee_var (pv 0)) (ee_var (pv 2))))))))
theorem ok_fits_part (T : Top K w mg ad fd) : FnOk P w K mg base CX0 2 ad.f_fits_part fd.fits_part ["sort", "thing"] (spU K (gx ad) (liftP P_fits_part)) := by
  have nd := sc_fits_part.nd
  unfold P_fits_part
  refine fn_pure (fn_ok (k := 1) (s := c_fits_part) (np := 2) (n := 2) rfl rfl T.F_fits_part sc_fits_part (fun cdv A outer s0 H E hr => ?_))
  exact (ss_cons (es_if (et_cmp (ou_eq hr.units) (ee_var (pv 0)) ee_str (nomark _)) (ss_one (es_ret (ee_callN gu_is_number_1_high (ok_is_number T) (hr.mono (by decide)) (by rfl) T.g_is_number T.kp_is_number (Classical.choose_spec T.d_is_number_1_high) T.u_is_number_1_high (ea_cons (ee_var (pv 1)) ea_nil) (ek_cons (ee_op ou_sub (ee_glob (v := .int 1000003) (by rfl) T.k_WHEEL ⟨_, rfl⟩ (fun _ _ => rfl)) ee_int) ek_nil)))) ss_nil)
  (ss_one (es_ret (ee_call (ok_is_name T) (hr.mono (by decide)) (by rfl) T.g_is_name T.kp_is_name T.b_is_name (ea_cons (ee_var (pv 1)) ea_nil)))))
theorem ok_are_parts (T : Top K w mg ad fd) : FnOk P w K mg base CX0 3 ad.f_are_parts fd.are_parts ["sorts", "things"] (spU K (gx ad) (liftP P_are_parts)) := by
  have nd := sc_are_parts.nd
  unfold P_are_parts
  refine fn_pure (fn_ok (k := 2) (s := c_are_parts) (np := 2) (n := 4) rfl rfl T.F_are_parts sc_are_parts (fun cdv A outer s0 H E hr => ?_))
  exact (ss_one (es_ret (ee_and (ee_cmp (ou_eq hr.units) (ee_callB cu_len (by rfl) T.n_len (by decide +kernel) (ea_cons (ee_var (pv 1)) ea_nil)) (ee_callB cu_len (by rfl) T.n_len (by decide +kernel) (ea_cons (ee_var (pv 0)) ea_nil)) (nomark _)) (ee_one (ee_callB (cu_all rfl) (by rfl) T.n_all (by decide +kernel) (ea_cons (ee_lc (own := [("sort", 2), ("thing", 3)]) rfl nd (ei_zip (by rfl) T.n_zip (ea_cons (ee_var (pv 0)) (ea_cons (ee_var (pv 1)) ea_nil))) (blkOk_by (own := [("sort", 2), ("thing", 3)]) (N := N_are_parts) (sc := defScope st_are_parts) (by decide +kernel)) (fun _ _ _ _ _ => (ep_tup rfl (eps_cons (ep_name (i := 2) nd rfl (by first | exact Or.inl rfl | exact Or.inr rfl)) (eps_cons (ep_name (i := 3) nd rfl (by first | exact Or.inl rfl | exact Or.inr rfl)) eps_nil)))) (fun _ _ _ _ _ => ets_nil) (fun _ _ _ _ _ => (ee_call (ok_fits_part T) (hr.mono (by decide)) (by rfl) T.g_fits_part T.kp_fits_part T.b_fits_part (ea_cons (ee_var (pv 2)) (ea_cons (ee_var (pv 3)) ea_nil)))) (by decide)) ea_nil))))))
theorem ok_is_end (T : Top K w mg ad fd) : FnOk P w K mg base CX0 4 ad.f_is_end fd.is_end ["thing"] (spU K (gx ad) (liftP P_is_end)) := by
  have nd := sc_is_end.nd
  unfold P_is_end
  refine fn_pure (fn_ok (k := 3) (s := c_is_end) (np := 1) (n := 3) rfl rfl T.F_is_end sc_is_end (fun cdv A outer s0 H E hr => ?_))
  exact (ss_cons (es_if (et_w (ew_or (et_not (et_tru (ee_isi (T := "tuple") (by rfl) T.n_isinstance (by rfl) T.n_tuple (by decide +kernel) (ee_var (pv 0))))) (ew_or1 (et_cmp (ou_eq hr.units) (ee_callB cu_len (by rfl) T.n_len (by decide +kernel) (ea_cons (ee_var (pv 0)) ea_nil)) ee_int (nomark _))))) (ss_one (es_ret ee_bl)) ss_nil)
  (ss_cons (es_asg (ee_var (pv 0)) (eg_star (i := 1) (n := 2) false rfl (eps_cons (ep_name (i := 1) nd rfl (by first | exact Or.inl rfl | exact Or.inr rfl)) (eps_star (ep_name (i := 2) nd rfl (by first | exact Or.inl rfl | exact Or.inr rfl)) eps_nil)) (by decide)))
  (ss_cons (es_if (et_w (ew_or (et_not (et_tru (ee_isi (T := "str") (by rfl) T.n_isinstance (by rfl) T.n_str (by decide +kernel) (ee_var (pv 1))))) (ew_or (et_tabnotin (by rfl) T.g_END_PARTS T.i_END_PARTS (ee_var (pv 1))) (ew_or1 (et_not (et_tru (ee_call (ok_are_parts T) (hr.mono (by decide)) (by rfl) T.g_are_parts T.kp_are_parts T.b_are_parts (ea_cons (ee_tab (by rfl) T.g_END_PARTS T.t_END_PARTS (ee_var (pv 1))) (ea_cons (ee_var (pv 2)) ea_nil))))))))) (ss_one (es_ret ee_bl)) ss_nil)
  (ss_one (es_ret (ee_or (ee_cmp (ou_ne hr.units) (ee_var (pv 1)) ee_str (nomark _)) (ee_one (ee_cmp (ou_ne hr.units) (ee_ix (ee_var (pv 2)) ee_int) (ee_ix (ee_var (pv 2)) ee_int) (nomark _)))))))))
theorem ok_is_row (T : Top K w mg ad fd) : FnOk P w K mg base CX0 4 ad.f_is_row fd.is_row ["thing"] (spU K (gx ad) (liftP P_is_row)) := by
  have nd := sc_is_row.nd
  unfold P_is_row
  refine fn_pure (fn_ok (k := 3) (s := c_is_row) (np := 1) (n := 4) rfl rfl T.F_is_row sc_is_row (fun cdv A outer s0 H E hr => ?_))
  exact (ss_cons (es_if (et_w (ew_or (et_not (et_tru (ee_isi (T := "tuple") (by rfl) T.n_isinstance (by rfl) T.n_tuple (by decide +kernel) (ee_var (pv 0))))) (ew_or (et_cmp ou_lt (ee_callB cu_len (by rfl) T.n_len (by decide +kernel) (ea_cons (ee_var (pv 0)) ea_nil)) ee_int (nomark _)) (ew_or1 (et_not (et_tru (ee_callN gu_is_number_1_low (ok_is_number T) (hr.mono (by decide)) (by rfl) T.g_is_number T.kp_is_number (Classical.choose_spec T.d_is_number_1_low) T.u_is_number_1_low (ea_cons (ee_ix (ee_var (pv 0)) ee_int) ea_nil) (ek_cons ee_int ek_nil)))))))) (ss_one (es_ret ee_bl)) ss_nil)
  (ss_cons (es_asg (ee_var (pv 0)) (eg_star (i := 2) (n := 3) false rfl (eps_cons (ep_name (i := 1) nd rfl (by first | exact Or.inl rfl | exact Or.inr rfl)) (eps_cons (ep_name (i := 2) nd rfl (by first | exact Or.inl rfl | exact Or.inr rfl)) (eps_star (ep_name (i := 3) nd rfl (by first | exact Or.inl rfl | exact Or.inr rfl)) eps_nil))) (by decide)))
  (ss_one (es_ret (ee_and (ee_isi (T := "str") (by rfl) T.n_isinstance (by rfl) T.n_str (by decide +kernel) (ee_var (pv 2))) (ee_and (ee_tabin (by rfl) T.g_ROW_PARTS T.i_ROW_PARTS (ee_var (pv 2))) (ee_one (ee_call (ok_are_parts T) (hr.mono (by decide)) (by rfl) T.g_are_parts T.kp_are_parts T.b_are_parts (ea_cons (ee_tab (by rfl) T.g_ROW_PARTS T.t_ROW_PARTS (ee_var (pv 2))) (ea_cons (ee_var (pv 3)) ea_nil))))))))))
theorem ok_is_block (T : Top K w mg ad fd) : FnOk P w K mg base CX0 5 ad.f_is_block fd.is_block ["thing"] (spU K (gx ad) (liftP P_is_block)) := by
  have nd := sc_is_block.nd
  unfold P_is_block
  refine fn_pure (fn_ok (k := 4) (s := c_is_block) (np := 1) (n := 2) rfl rfl T.F_is_block sc_is_block (fun cdv A outer s0 H E hr => ?_))
  exact (ss_cons (es_if (et_w (ew_or (et_not (et_tru (ee_isi (T := "tuple") (by rfl) T.n_isinstance (by rfl) T.n_tuple (by decide +kernel) (ee_var (pv 0))))) (ew_or (et_cmp (ou_ne hr.units) (ee_callB cu_len (by rfl) T.n_len (by decide +kernel) (ea_cons (ee_var (pv 0)) ea_nil)) ee_int (nomark _)) (ew_or1 (et_not (et_tru (ee_call (ok_is_name T) (hr.mono (by decide)) (by rfl) T.g_is_name T.kp_is_name T.b_is_name (ea_cons (ee_ix (ee_var (pv 0)) ee_int) ea_nil)))))))) (ss_one (es_ret ee_bl)) ss_nil)
  (ss_one (es_ret (ee_and (ee_isi (T := "tuple") (by rfl) T.n_isinstance (by rfl) T.n_tuple (by decide +kernel) (ee_ix (ee_var (pv 0)) ee_int)) (ee_and (ee_callB (cu_all rfl) (by rfl) T.n_all (by decide +kernel) (ea_cons (ee_lc (own := [("row", 1)]) rfl nd (ei_seq (ee_ix (ee_var (pv 0)) ee_int)) (blkOk_by (own := [("row", 1)]) (N := N_is_block) (sc := defScope st_is_block) (by decide +kernel)) (fun _ _ _ _ _ => (ep_name (i := 1) nd rfl (by first | exact Or.inl rfl | exact Or.inr rfl))) (fun _ _ _ _ _ => ets_nil) (fun _ _ _ _ _ => (ee_call (ok_is_row T) (hr.mono (by decide)) (by rfl) T.g_is_row T.kp_is_row T.b_is_row (ea_cons (ee_var (pv 1)) ea_nil))) (by decide)) ea_nil)) (ee_one (ee_call (ok_is_end T) (hr.mono (by decide)) (by rfl) T.g_is_end T.kp_is_end T.b_is_end (ea_cons (ee_ix (ee_var (pv 0)) ee_int) ea_nil))))))))
theorem ok_goals_in (T : Top K w mg ad fd) : FnOk P w K mg base CX0 1 ad.f_goals_in fd.goals_in ["end"] (spU K (gx ad) (liftP P_goals_in)) := by
  have nd := sc_goals_in.nd
  unfold P_goals_in
  refine fn_pure (fn_ok (k := 0) (s := c_goals_in) (np := 1) (n := 3) rfl rfl T.F_goals_in sc_goals_in (fun cdv A outer s0 H E hr => ?_))
  exact (ss_one (es_ret (ee_callTy cu_tuple (by rfl) T.n_tuple (by decide +kernel) (ea_cons (ee_lc (own := [("sort", 1), ("part", 2)]) rfl nd (ei_zip (by rfl) T.n_zip (ea_cons (ee_tab (by rfl) T.g_END_PARTS T.t_END_PARTS (ee_ix (ee_var (pv 0)) ee_int)) (ea_cons (ee_slice false (ee_var (pv 0)) (eo_some ee_int) eo_none) ea_nil))) (blkOk_by (own := [("sort", 1), ("part", 2)]) (N := N_goals_in) (sc := defScope st_goals_in) (by decide +kernel)) (fun _ _ _ _ _ => (ep_tup rfl (eps_cons (ep_name (i := 1) nd rfl (by first | exact Or.inl rfl | exact Or.inr rfl)) (eps_cons (ep_name (i := 2) nd rfl (by first | exact Or.inl rfl | exact Or.inr rfl)) eps_nil)))) (fun _ _ _ _ _ => (ets_one (et_cmp (ou_eq hr.units) (ee_var (pv 1)) ee_str (nomark _)))) (fun _ _ _ _ _ => (ee_var (pv 2))) (by decide)) ea_nil))))
theorem ok_is_program (T : Top K w mg ad fd) : FnOk P w K mg base CX0 6 ad.f_is_program fd.is_program ["thing"] (spU K (gx ad) (liftP P_is_program)) := by
  have nd := sc_is_program.nd
  unfold P_is_program
  refine fn_pure (fn_ok (k := 5) (s := c_is_program) (np := 1) (n := 6) rfl rfl T.F_is_program sc_is_program (fun cdv A outer s0 H E hr => ?_))
  exact (ss_cons (es_if (et_w (ew_or (et_not (et_tru (ee_isi (T := "tuple") (by rfl) T.n_isinstance (by rfl) T.n_tuple (by decide +kernel) (ee_var (pv 0))))) (ew_or1 (et_not (et_chain ou_le ou_le ee_int (ee_callB cu_len (by rfl) T.n_len (by decide +kernel) (ea_cons (ee_var (pv 0)) ea_nil)) (ee_glob (v := .int 24) (by rfl) T.k_MOST_BLOCKS ⟨_, rfl⟩ (fun _ _ => rfl))))))) (ss_one (es_ret ee_bl)) ss_nil)
  (ss_cons (es_if (et_not (et_tru (ee_callB (cu_all rfl) (by rfl) T.n_all (by decide +kernel) (ea_cons (ee_lc (own := [("block", 3)]) rfl nd (ei_seq (ee_var (pv 0))) (blkOk_by (own := [("block", 3)]) (N := N_is_program) (sc := defScope st_is_program) (by decide +kernel)) (fun _ _ _ _ _ => (ep_name (i := 3) nd rfl (by first | exact Or.inl rfl | exact Or.inr rfl))) (fun _ _ _ _ _ => ets_nil) (fun _ _ _ _ _ => (ee_call (ok_is_block T) (hr.mono (by decide)) (by rfl) T.g_is_block T.kp_is_block T.b_is_block (ea_cons (ee_var (pv 3)) ea_nil))) (by decide)) ea_nil)))) (ss_one (es_ret ee_bl)) ss_nil)
  (ss_cons (by first | exact es_setLc (i := 1) (own := [("block", 3)]) rfl nd rfl rfl (sw_true rfl rfl rfl (by decide +kernel)) (ei_seq (ee_var (pv 0))) (blkOk_by (own := [("block", 3)]) (N := N_is_program) (sc := defScope st_is_program) (by decide +kernel)) (fun _ _ _ _ _ => (ep_name (i := 3) nd rfl (by first | exact Or.inl rfl | exact Or.inr rfl))) (fun _ _ _ _ _ => ets_nil) (fun _ _ _ _ _ => (ee_ix (ee_var (pv 3)) ee_int)) (by decide) | exact es_set (i := 1) nd rfl (by first | exact Or.inl rfl | exact Or.inr rfl) (ee_lc (own := [("block", 3)]) rfl nd (ei_seq (ee_var (pv 0))) (blkOk_by (own := [("block", 3)]) (N := N_is_program) (sc := defScope st_is_program) (by decide +kernel)) (fun _ _ _ _ _ => (ep_name (i := 3) nd rfl (by first | exact Or.inl rfl | exact Or.inr rfl))) (fun _ _ _ _ _ => ets_nil) (fun _ _ _ _ _ => (ee_ix (ee_var (pv 3)) ee_int)) (by decide)))
  (ss_cons (by first | exact es_setL2 (i := 2) (c := ⟨(itAny (cVar 0)), (.nm 3), cYes, [3, 4]⟩) (c1 := ⟨(itAny (cBin ixU (cVar 3) (cCst (.int 1)))), (.nm 4), cYes, [4]⟩) false rfl nd rfl rfl (sw_true rfl rfl rfl (by decide +kernel)) (ei_anyK (ee_var (pv 0))) (blkOk_by (own := [("block", 3), ("row", 4)]) (N := N_is_program) (sc := defScope st_is_program) (by decide +kernel)) rfl (fun _ _ _ _ _ => (ep_name (i := 3) nd rfl (by first | exact Or.inl rfl | exact Or.inr rfl))) (fun _ _ _ _ _ => ets_nil) (fun _ _ _ _ _ => (ei_anyK (ee_ix (ee_var (pv 3)) ee_int))) (fun _ _ _ _ _ => (ep_name (i := 4) nd rfl (by first | exact Or.inl rfl | exact Or.inr rfl))) (fun _ _ _ _ _ => ets_nil) (fun _ _ _ _ _ => (ee_ix (ee_var (pv 4)) ee_int)) (by decide) (by decide) (by decide) | exact es_set (i := 2) nd rfl (by first | exact Or.inl rfl | exact Or.inr rfl) (ee_lc2 (c := ⟨(itAny (cVar 0)), (.nm 3), cYes, [3, 4]⟩) (c1 := ⟨(itAny (cBin ixU (cVar 3) (cCst (.int 1)))), (.nm 4), cYes, [4]⟩) false rfl nd (ei_anyK (ee_var (pv 0))) (blkOk_by (own := [("block", 3), ("row", 4)]) (N := N_is_program) (sc := defScope st_is_program) (by decide +kernel)) rfl (fun _ _ _ _ _ => (ep_name (i := 3) nd rfl (by first | exact Or.inl rfl | exact Or.inr rfl))) (fun _ _ _ _ _ => ets_nil) (fun _ _ _ _ _ => (ei_anyK (ee_ix (ee_var (pv 3)) ee_int))) (fun _ _ _ _ _ => (ep_name (i := 4) nd rfl (by first | exact Or.inl rfl | exact Or.inr rfl))) (fun _ _ _ _ _ => ets_nil) (fun _ _ _ _ _ => (ee_ix (ee_var (pv 4)) ee_int)) (by decide) (by decide) (by decide)))
  (ss_cons (es_if (et_w (ew_or (et_not (et_tru (ee_call (ok_are_unlike T) (hr.mono (by decide)) (by rfl) T.g_are_unlike T.kp_are_unlike T.b_are_unlike (ea_cons (ee_var (pv 1)) ea_nil)))) (ew_or (et_not (et_tru (ee_call (ok_are_unlike T) (hr.mono (by decide)) (by rfl) T.g_are_unlike T.kp_are_unlike T.b_are_unlike (ea_cons (ee_var (pv 2)) ea_nil)))) (ew_or1 (et_cmp ou_gt (ee_callB cu_len (by rfl) T.n_len (by decide +kernel) (ea_cons (ee_var (pv 2)) ea_nil)) (ee_glob (v := .int 100) (by rfl) T.k_MOST_ROWS ⟨_, rfl⟩ (fun _ _ => rfl)) (nomark _)))))) (ss_one (es_ret ee_bl)) ss_nil)
  (ss_cons (es_if (et_cmp ou_gt (ee_callB cu_len (by rfl) T.n_len (by decide +kernel) (ea_cons (ee_call (ok_names_of T) (hr.mono (by decide)) (by rfl) T.g_names_of T.kp_names_of T.b_names_of (ea_cons (ee_var (pv 0)) ea_nil)) ea_nil)) (ee_glob (v := .int 12) (by rfl) T.k_MOST_NAMES ⟨_, rfl⟩ (fun _ _ => rfl)) (nomark _)) (ss_one (es_ret ee_bl)) ss_nil)
  (ss_one (es_ret (ee_callB (cu_all rfl) (by rfl) T.n_all (by decide +kernel) (ea_cons (ee_lc2 (c := ⟨(itAny (cVar 0)), (.nm 3), cYes, [3, 5]⟩) (c1 := ⟨(itAny (cArg (liftP P_goals_in) (cCons (cBin ixU (cVar 3) (cCst (.int 2))) cNil))), (.nm 5), cYes, [5]⟩) false rfl nd (ei_anyK (ee_var (pv 0))) (blkOk_by (own := [("block", 3), ("goal", 5)]) (N := N_is_program) (sc := defScope st_is_program) (by decide +kernel)) rfl (fun _ _ _ _ _ => (ep_name (i := 3) nd rfl (by first | exact Or.inl rfl | exact Or.inr rfl))) (fun _ _ _ _ _ => ets_nil) (fun _ _ _ _ _ => (ei_anyK (ee_call (ok_goals_in T) (hr.mono (by decide)) (by rfl) T.g_goals_in T.kp_goals_in T.b_goals_in (ea_cons (ee_ix (ee_var (pv 3)) ee_int) ea_nil)))) (fun _ _ _ _ _ => (ep_name (i := 5) nd rfl (by first | exact Or.inl rfl | exact Or.inr rfl))) (fun _ _ _ _ _ => ets_nil) (fun _ _ _ _ _ => (ee_cmp (ou_in (hu_of hr)) (ee_var (pv 5)) (ee_var (pv 1)) (by rfl))) (by decide) (by decide) (by decide)) ea_nil))))))))))
theorem ok__law_named (T : Top K w mg ad fd) : FnOk P w K mg base CX0 2 ad.f__law_named fd._law_named ["_law_hand_here", "_law_many"] (spU K (gx ad) F__law_named) := by
  have nd := sc__law_named.nd
  unfold F__law_named
  refine fn_ok (k := 1) (s := c__law_named) (np := 2) (n := 9) rfl rfl T.F__law_named sc__law_named (fun cdv A outer s0 H E hr => ?_)
  exact (ss_cons (es_set (i := 2) nd rfl (by first | exact Or.inl rfl | exact Or.inr rfl) ee_str)
  (ss_cons (by first | exact es_setLc (i := 3) (own := [("_law_k", 7)]) rfl nd rfl rfl (sw_true rfl rfl rfl (by decide +kernel)) (ei_range1 (by rfl) T.n_range (ea_cons (ee_var (pv 1)) ea_nil)) (blkOk_by (own := [("_law_k", 7)]) (N := N__law_named) (sc := defScope st__law_named) (by decide +kernel)) (fun _ _ _ _ _ => (ep_name (i := 7) nd rfl (by first | exact Or.inl rfl | exact Or.inr rfl))) (fun _ _ _ _ _ => ets_nil) (fun _ _ _ _ _ => (ee_op ou_mulS (ee_ix (ee_var (pv 2)) (ee_var (pv 7))) (ee_op (ou_addA false) ee_int (ee_op ou_mod (ee_var (pv 7)) ee_int)))) (by decide) | exact es_set (i := 3) nd rfl (by first | exact Or.inl rfl | exact Or.inr rfl) (ee_lc (own := [("_law_k", 7)]) rfl nd (ei_range1 (by rfl) T.n_range (ea_cons (ee_var (pv 1)) ea_nil)) (blkOk_by (own := [("_law_k", 7)]) (N := N__law_named) (sc := defScope st__law_named) (by decide +kernel)) (fun _ _ _ _ _ => (ep_name (i := 7) nd rfl (by first | exact Or.inl rfl | exact Or.inr rfl))) (fun _ _ _ _ _ => ets_nil) (fun _ _ _ _ _ => (ee_op ou_mulS (ee_ix (ee_var (pv 2)) (ee_var (pv 7))) (ee_op (ou_addA false) ee_int (ee_op ou_mod (ee_var (pv 7)) ee_int)))) (by decide)))
  (ss_cons (by first | exact es_setLcM (i := 4) (own := [("_law_k", 7), ("_law_name", 8)]) rfl nd rfl rfl (sw_true rfl rfl rfl (by decide +kernel)) (ei_enum (by rfl) T.n_enumerate (ea_cons (ee_slice false (ee_var (pv 3)) eo_none (eo_some (ee_un uu_neg ee_int))) ea_nil)) (blkOk_by (own := [("_law_k", 7), ("_law_name", 8)]) (N := N__law_named) (sc := defScope st__law_named) (by decide +kernel)) (fun _ _ _ _ _ => (ep_tup rfl (eps_cons (ep_name (i := 7) nd rfl (by first | exact Or.inl rfl | exact Or.inr rfl)) (eps_cons (ep_name (i := 8) nd rfl (by first | exact Or.inl rfl | exact Or.inr rfl)) eps_nil)))) (fun _ _ _ _ _ => ets_nil) (fun _ _ _ _ _ => (ee_tup (ea_cons (ee_op (ou_addA false) (ee_var (pv 7)) ee_int) (ea_cons ee_str (ea_cons (ee_var (pv 8)) ea_nil))))) (by decide) | exact es_set (i := 4) nd rfl (by first | exact Or.inl rfl | exact Or.inr rfl) (ee_lcM (own := [("_law_k", 7), ("_law_name", 8)]) rfl nd (ei_enum (by rfl) T.n_enumerate (ea_cons (ee_slice false (ee_var (pv 3)) eo_none (eo_some (ee_un uu_neg ee_int))) ea_nil)) (blkOk_by (own := [("_law_k", 7), ("_law_name", 8)]) (N := N__law_named) (sc := defScope st__law_named) (by decide +kernel)) (fun _ _ _ _ _ => (ep_tup rfl (eps_cons (ep_name (i := 7) nd rfl (by first | exact Or.inl rfl | exact Or.inr rfl)) (eps_cons (ep_name (i := 8) nd rfl (by first | exact Or.inl rfl | exact Or.inr rfl)) eps_nil)))) (fun _ _ _ _ _ => ets_nil) (fun _ _ _ _ _ => (ee_tup (ea_cons (ee_op (ou_addA false) (ee_var (pv 7)) ee_int) (ea_cons ee_str (ea_cons (ee_var (pv 8)) ea_nil))))) (by decide)))
  (ss_cons (es_par2 rfl nd rfl rfl (by decide) rfl rfl (ea_cons (ee_call (ok__law_take T) (hr.mono (by decide)) (by rfl) T.g__law_take T.kp__law_take T.b__law_take (ea_cons (ee_var (pv 0)) (ea_cons ee_int ea_nil))) (ea_cons (ee_tup (ea_cons ee_str ea_nil)) ea_nil)) (by rfl))
  (ss_cons (es_if (et_cmp (ou_eq hr.units) (ee_var (pv 5)) ee_int (nomark _)) (ss_one (es_expr (ee_mt PySem.F.plainAttrs_list PySem.F.slot_list_append PySem.F.type_list_append mu_append (ee_var (pv 4)) (ea_cons (ee_tup (ea_cons ee_int (ea_cons ee_str (ea_cons (ee_ix (ee_var (pv 3)) (ee_un uu_neg ee_int)) (ea_cons ee_int ea_nil))))) ea_nil)))) (ss_one (es_if (et_cmp (ou_eq hr.units) (ee_var (pv 5)) ee_int (nomark _)) (ss_one (es_expr (ee_mt PySem.F.plainAttrs_list PySem.F.slot_list_append PySem.F.type_list_append mu_append (ee_var (pv 4)) (ea_cons (ee_tup (ea_cons ee_int (ea_cons ee_str (ea_cons (ee_ix (ee_var (pv 3)) (ee_un uu_neg ee_int)) ea_nil)))) ea_nil)))) (ss_one (es_set (i := 6) nd rfl (by first | exact Or.inl rfl | exact Or.inr rfl) (ee_tup (ea_cons ee_str (ea_cons (ee_ix (ee_var (pv 3)) (ee_un uu_neg ee_int)) (ea_cons ee_str (ea_cons ee_str ea_nil))))))))))
  (ss_one (es_ret (ee_tup (ea_cons (ee_tup (ea_cons ee_str (ea_cons (ee_callTy cu_tuple (by rfl) T.n_tuple (by decide +kernel) (ea_cons (ee_var (pv 4)) ea_nil)) (ea_cons (ee_var (pv 6)) ea_nil)))) (ea_cons (ee_tup (ea_cons ee_str (ea_cons (ee_tup ea_nil) (ea_cons (ee_tup (ea_cons ee_str ea_nil)) ea_nil)))) ea_nil))))))))))
theorem ok__law_deep (T : Top K w mg ad fd) : FnOk P w K mg base CX0 3 ad.f__law_deep fd._law_deep ["_law_hand_here"] (spU K (gx ad) F__law_deep) := by
  have nd := sc__law_deep.nd
  unfold F__law_deep
  refine fn_ok (k := 2) (s := c__law_deep) (np := 1) (n := 4) rfl rfl T.F__law_deep sc__law_deep (fun cdv A outer s0 H E hr => ?_)
  exact (ss_cons (es_set (i := 1) nd rfl (by first | exact Or.inl rfl | exact Or.inr rfl) (ee_call (ok__law_pick T) (hr.mono (by decide)) (by rfl) T.g__law_pick T.kp__law_pick T.b__law_pick (ea_cons (ee_var (pv 0)) (ea_cons (ee_lst (ea_cons (ee_tup ea_nil) (ea_cons (ee_lst ea_nil) (ea_cons ee_dnewI (ea_cons ee_non (ea_cons (ee_tup (ea_cons ee_str (ea_cons (ee_tup ea_nil) (ea_cons (ee_tup (ea_cons ee_str ea_nil)) ea_nil)))) ea_nil)))))) ea_nil))))
  (ss_cons (es_for PassesOwn.never rfl (ei_range1 (by rfl) T.n_range (ea_cons ee_int ea_nil)) (ep_name (i := 2) nd rfl (by first | exact Or.inl rfl | exact Or.inr rfl)) (ss_one (es_set (i := 1) nd rfl (by first | exact Or.inl rfl | exact Or.inr rfl) (ee_call (ok__law_pick T) (hr.mono (by decide)) (by rfl) T.g__law_pick T.kp__law_pick T.b__law_pick (ea_cons (ee_var (pv 0)) (ea_cons (ee_lst (ea_cons (ee_tup (ea_cons (ee_var (pv 1)) ea_nil)) (ea_cons (ee_lst (ea_cons (ee_var (pv 1)) ea_nil)) (ea_cons (ee_disp false (ed_cons ee_str (ee_var (pv 1)) ed_nil)) (ea_cons (ee_tup (ea_cons ee_str (ea_cons (ee_var (pv 1)) ea_nil))) ea_nil))))) ea_nil))))))
  (ss_cons (es_set (i := 3) nd rfl (by first | exact Or.inl rfl | exact Or.inr rfl) (ee_op (ou_rep false) (ee_lstM (ea_cons (ee_tup (ea_cons ee_str (ea_cons (ee_tup ea_nil) (ea_cons (ee_tup (ea_cons ee_str ea_nil)) ea_nil)))) ea_nil)) ee_int))
  (ss_one (es_ret (ee_call (ok__law_pick T) (hr.mono (by decide)) (by rfl) T.g__law_pick T.kp__law_pick T.b__law_pick (ea_cons (ee_var (pv 0)) (ea_cons (ee_lst (ea_cons (ee_var (pv 1)) (ea_cons (ee_callTy cu_tuple (by rfl) T.n_tuple (by decide +kernel) (ea_cons (ee_var (pv 3)) ea_nil)) (ea_cons (ee_var (pv 3)) (ea_cons (ee_op ou_mulS ee_str ee_int) (ea_cons (ee_op ou_mul (ee_op ou_pow ee_int ee_int) (ee_op ou_pow ee_int ee_int)) (ea_cons (ee_trg rfl (by rfl) T.n_tuple (by rfl) T.n_range ee_int) ea_nil))))))) ea_nil))))))))
theorem ok_law (T : Top K w mg ad fd) : FnOk P w K mg base CX0 7 ad.f_law fd.law ["_law_script"] (spU K (gx ad) (liftP P_law)) := by
  have nd := sc_law.nd
  unfold P_law
  refine fn_pure (fn_ok (k := 6) (s := c_law) (np := 1) (n := 7) rfl rfl T.F_law sc_law (fun cdv A outer s0 H E hr => ?_))
  exact (ss_cons (es_if (et_cmp (ou_ne hr.units) (ee_lst (ea_cons (ee_glob (v := .int 1000003) (by rfl) T.k_WHEEL ⟨_, rfl⟩ (fun _ _ => rfl)) (ea_cons (ee_glob (v := .int 24) (by rfl) T.k_MOST_BLOCKS ⟨_, rfl⟩ (fun _ _ => rfl)) (ea_cons (ee_glob (v := .int 100) (by rfl) T.k_MOST_ROWS ⟨_, rfl⟩ (fun _ _ => rfl)) (ea_cons (ee_glob (v := .int 12) (by rfl) T.k_MOST_NAMES ⟨_, rfl⟩ (fun _ _ => rfl)) (ea_cons (ee_glob (v := .int 200) (by rfl) T.k_STEPS ⟨_, rfl⟩ (fun _ _ => rfl)) (ea_cons (ee_glob (v := .str "spare") (by rfl) T.k_SPARE ⟨_, rfl⟩ (fun _ _ => rfl)) ea_nil))))))) (ee_lst (ea_cons ee_int (ea_cons ee_int (ea_cons ee_int (ea_cons ee_int (ea_cons ee_int (ea_cons ee_str ea_nil))))))) (nomark _)) (ss_one (es_ret ee_bl)) ss_nil)
  (ss_cons (es_for PassesOwn.never rfl (ei_range1 (by rfl) T.n_range (ea_cons (ee_callB (cu_max rfl) (by rfl) T.n_max (by decide +kernel) (ea_cons ee_int (ea_cons (ee_callB (cu_min rfl) (by rfl) T.n_min (by decide +kernel) (ea_cons ee_int (ea_cons (ee_callB cu_len (by rfl) T.n_len (by decide +kernel) (ea_cons (ee_var (pv 0)) ea_nil)) ea_nil))) ea_nil))) ea_nil)) (ep_name (i := 1) nd rfl (by first | exact Or.inl rfl | exact Or.inr rfl)) (ss_cons (es_set (i := 2) nd rfl (by first | exact Or.inl rfl | exact Or.inr rfl) (ee_call (ok__law_hand T) (hr.mono (by decide)) (by rfl) T.g__law_hand T.kp__law_hand T.b__law_hand (ea_cons (ee_var (pv 0)) (ea_cons (ee_var (pv 1)) ea_nil))))
  (ss_cons (es_for PassesOwn.never rfl (ei_seq (ee_tup (ea_cons ee_int (ea_cons ee_int ea_nil)))) (ep_name (i := 3) nd rfl (by first | exact Or.inl rfl | exact Or.inr rfl)) (ss_one (es_if (et_not (et_tru (ee_call (ok__law_is T) (hr.mono (by decide)) (by rfl) T.g__law_is T.kp__law_is T.b__law_is (ea_cons (ee_call (ok_is_program T) (hr.mono (by decide)) (by rfl) T.g_is_program T.kp_is_program T.b_is_program (ea_cons (ee_callTy cu_tuple (by rfl) T.n_tuple (by decide +kernel) (ea_cons (ee_call (ok__law_blocks T) (hr.mono (by decide)) (by rfl) T.g__law_blocks T.kp__law_blocks T.b__law_blocks (ea_cons (ee_var (pv 2)) (ea_cons (ee_var (pv 3)) ea_nil))) ea_nil)) ea_nil)) (ea_cons (ee_cmp (ou_eq hr.units) (ee_var (pv 3)) ee_int (nomark _)) ea_nil))))) (ss_one (es_ret ee_bl)) ss_nil)))
  (ss_cons (es_for PassesOwn.never rfl (ei_seq (ee_tup (ea_cons ee_int (ea_cons ee_int ea_nil)))) (ep_name (i := 3) nd rfl (by first | exact Or.inl rfl | exact Or.inr rfl)) (ss_cons (es_set (i := 4) nd rfl (by first | exact Or.inl rfl | exact Or.inr rfl) (ee_call (ok__law_put T) (hr.mono (by decide)) (by rfl) T.g__law_put T.kp__law_put T.b__law_put (ea_cons (ee_var (pv 2)) (ea_cons (ee_call (ok__law_blocks T) (hr.mono (by decide)) (by rfl) T.g__law_blocks T.kp__law_blocks T.b__law_blocks (ea_cons (ee_var (pv 2)) (ea_cons (ee_op (ou_addA false) ee_int (ee_call (ok__law_take T) (hr.mono (by decide)) (by rfl) T.g__law_take T.kp__law_take T.b__law_take (ea_cons (ee_var (pv 2)) (ea_cons ee_int ea_nil)))) ea_nil))) (ea_cons (ee_call (ok__law_rows T) (hr.mono (by decide)) (by rfl) T.g__law_rows T.kp__law_rows T.b__law_rows (ea_cons (ee_var (pv 3)) (ea_cons (ee_lst (ea_cons ee_str (ea_cons ee_str (ea_cons ee_str ea_nil)))) ea_nil))) ea_nil)))))
  (ss_one (es_if (et_not (et_tru (ee_call (ok__law_is T) (hr.mono (by decide)) (by rfl) T.g__law_is T.kp__law_is T.b__law_is (ea_cons (ee_call (ok_is_program T) (hr.mono (by decide)) (by rfl) T.g_is_program T.kp_is_program T.b_is_program (ea_cons (ee_var (pv 4)) ea_nil)) (ea_cons (ee_cmp (ou_eq hr.units) (ee_var (pv 3)) ee_int (nomark _)) ea_nil))))) (ss_one (es_ret ee_bl)) ss_nil))))
  (ss_cons (es_for PassesOwn.never rfl (ei_seq (ee_tup (ea_cons ee_int (ea_cons ee_int ea_nil)))) (ep_name (i := 3) nd rfl (by first | exact Or.inl rfl | exact Or.inr rfl)) (ss_one (es_if (et_not (et_tru (ee_call (ok__law_is T) (hr.mono (by decide)) (by rfl) T.g__law_is T.kp__law_is T.b__law_is (ea_cons (ee_call (ok_is_program T) (hr.mono (by decide)) (by rfl) T.g_is_program T.kp_is_program T.b_is_program (ea_cons (ee_call (ok__law_named T) (hr.mono (by decide)) (by rfl) T.g__law_named T.kp__law_named T.b__law_named (ea_cons (ee_var (pv 2)) (ea_cons (ee_var (pv 3)) ea_nil))) ea_nil)) (ea_cons (ee_cmp (ou_eq hr.units) (ee_var (pv 3)) ee_int (nomark _)) ea_nil))))) (ss_one (es_ret ee_bl)) ss_nil)))
  (ss_one (es_for PassesOwn.never rfl (ei_range1 (by rfl) T.n_range (ea_cons ee_int ea_nil)) (ep_name (i := 5) nd rfl (by first | exact Or.inl rfl | exact Or.inr rfl)) (ss_cons (es_asg (ee_call (ok__law_small T) (hr.mono (by decide)) (by rfl) T.g__law_small T.kp__law_small T.b__law_small (ea_cons (ee_var (pv 2)) ea_nil)) (eg_pat (ep_tup rfl (eps_cons (ep_name (i := 4) nd rfl (by first | exact Or.inl rfl | exact Or.inr rfl)) (eps_cons (ep_name (i := 6) nd rfl (by first | exact Or.inl rfl | exact Or.inr rfl)) eps_nil)))))
  (ss_one (es_if (et_w (ew_or (et_not (et_tru (ee_call (ok__law_is T) (hr.mono (by decide)) (by rfl) T.g__law_is T.kp__law_is T.b__law_is (ea_cons (ee_call (ok_is_program T) (hr.mono (by decide)) (by rfl) T.g_is_program T.kp_is_program T.b_is_program (ea_cons (ee_var (pv 4)) ea_nil)) (ea_cons (ee_var (pv 6)) ea_nil))))) (ew_or1 (et_not (et_tru (ee_call (ok__law_is T) (hr.mono (by decide)) (by rfl) T.g__law_is T.kp__law_is T.b__law_is (ea_cons (ee_call (ok_is_program T) (hr.mono (by decide)) (by rfl) T.g_is_program T.kp_is_program T.b_is_program (ea_cons (ee_call (ok__law_deep T) (hr.mono (by decide)) (by rfl) T.g__law_deep T.kp__law_deep T.b__law_deep (ea_cons (ee_var (pv 2)) ea_nil)) ea_nil)) (ea_cons ee_bl ea_nil)))))))) (ss_one (es_ret ee_bl)) ss_nil))))))))))
  (ss_one (es_ret ee_bl))))
end
end K02


namespace K02
open PySem PySem.Spec PyProof.Rows L2 OF
theorem lg1100 {x : Int} (h : x.natAbs < 2 ^ 1100) : x.natAbs.log2 < 1100 := by
  by_cases h0 : x.natAbs = 0
  · rw [h0]; decide
  · rw [Nat.log2_lt h0]; exact h
theorem mulI_ok {i j : Int} (h1 : i.natAbs < 2 ^ 1100) (h2 : j.natAbs < 2 ^ 1100) : mulI i j = some (.int (i * j)) := by
  unfold mulI
  have := lg1100 h1
  have := lg1100 h2
  rw [if_pos (by omega)]
theorem divI_ok {i j : Int} (h0 : 0 < j) (h1 : j.natAbs < 2 ^ 1100) : divI i j = some (.int (i / j)) := by
  unfold divI
  have := lg1100 h1
  rw [if_pos ⟨h0, by omega⟩]
theorem modI_ok {i j : Int} (h0 : 0 < j) : modI i j = some (.int (i % j)) := by
  unfold modI
  rw [if_pos h0]
theorem sm {x : Int} (h : x.natAbs < 2 ^ 64) : x.natAbs < 2 ^ 1100 := Nat.lt_trans h (Nat.pow_lt_pow_right (by decide) (by decide))
def hnd (g b : Int) : O := .lst [.int g, .int b]
structure Hok (g b : Int) : Prop where
  g0 : 0 ≤ g
  g1 : g < 10 ^ 300
  b0 : 0 ≤ b
  b1 : b < 2305843009213693951
@[simp high] theorem addU_int {mu : Bool} {i j : Int} {S : Sto} : addU mu (.int i) (.int j) S = some (.int (i + j), S) := rfl
@[simp high] theorem ixU_ref {n : Nat} {i : Int} {S : Sto} : ixU (.ref n) (.int i) S = (match S[n]? with
  | some (.lst us) => (match atI us i with
    | some w => some (w, S)
    | none => none)
  | _ => none) := by
  simp only [ixU_ap, itmU_ref]
  cases S[n]? with
  | none => rfl
  | some o => cases o <;> rfl
theorem take_ok {S : Sto} {h : Nat} {g b : Int} (hS : S[h]? = some (hnd g b)) (hk : Hok g b) (m : Int) (hm0 : 0 < m) (hm1 : m < 1000000000000) :
    ∃ d g' b', F__law_take [.ref h, .int m] S = some (.int d, S.set h (hnd g' b')) ∧ 0 ≤ d ∧ d < m ∧ Hok g' b' := by
  obtain ⟨g0, g1, b0, b1⟩ := hk
  have hlt : h < S.length := (List.getElem?_eq_some_iff.mp hS).1
  have hset : ∀ o : O, (S.set h o)[h]? = some o := fun o => List.getElem?_set_self hlt
  clear hlt
  have i0 : ixN 2 0 = some 0 := rfl
  have i1 : ixN 2 1 = some 1 := rfl
  unfold F__law_take c__law_take
  unfold hnd at hS
  by_cases hg : 0 < g
  · refine ⟨g % m, g / m, b, ?_, Int.emod_nonneg _ (by omega), Int.emod_lt_of_pos _ hm0, ?_⟩
    · simp [hS, hg, modI_ok hm0, divI_ok hm0 (sm (show m.natAbs < 2 ^ 64 by omega)), hnd, i0]
    · exact ⟨Int.ediv_nonneg g0 (by omega), Int.lt_of_le_of_lt (Int.ediv_le_self _ g0) g1, b0, b1⟩
  · have e1 : mulI b 1181783497276652981 = some (.int (b * 1181783497276652981)) := mulI_ok (sm (by omega)) (sm (by decide))
    generalize hy : (b * 1181783497276652981 + 12345678910987) % 2305843009213693951 = y
    have y0 : 0 ≤ y := by rw [← hy]; exact Int.emod_nonneg _ (by decide)
    have y1 : y < 2305843009213693951 := by rw [← hy]; exact Int.emod_lt_of_pos _ (by decide)
    have m1 : ∀ i, modI i 2305843009213693951 = some (.int (i % 2305843009213693951)) := fun i => modI_ok (by decide)
    have m2 : ∀ i, modI i 2305843009213693921 = some (.int (i % 2305843009213693921)) := fun i => modI_ok (by decide)
    have m3 : ∀ i, modI i 65537 = some (.int (i % 65537)) := fun i => modI_ok (by decide)
    have d1 : ∀ i, divI i 65537 = some (.int (i / 65537)) := fun i => divI_ok (by decide) (sm (by decide))
    have d2 : ∀ i, divI i 97 = some (.int (i / 97)) := fun i => divI_ok (by decide) (sm (by decide))
    have e2 : mulI (y / 65537) (y % 65537 + 3) = some (.int (y / 65537 * (y % 65537 + 3))) := mulI_ok (sm (by omega)) (sm (by omega))
    generalize hx : y / 65537 * (y % 65537 + 3) % 2305843009213693921 / 97 = x
    refine ⟨x % m, g, y, ?_, Int.emod_nonneg _ (by omega), Int.emod_lt_of_pos _ hm0, ⟨g0, g1, y0, y1⟩⟩
    simp [hS, hg, hnd, i1, hset, e1, m1, hy, d1, m3, e2, m2, d2, hx, modI_ok hm0]
theorem take_wp {S : Sto} {h : Nat} {cs : List O} {g b m : Int} {Q : U × Sto → Prop} (hh : h < S.length) (hk : Hok g b) (m0 : 0 < m) (m1 : m < 1000000000000)
    (q : ∀ d g' b', 0 ≤ d → d < m → Hok g' b' → Q (.int d, St S h (hnd g' b') cs)) : wp (F__law_take [.ref h, .int m] (St S h (hnd g b) cs)) Q := by
  obtain ⟨d, g', b', e, d0, d1, k⟩ := take_ok (st_get hh) hk m m0 m1
  rw [st_set hh] at e
  exact wp_of e (q d g' b' d0 d1 k)
theorem atI_in {α : Type} {us : List α} {d : Int} (h0 : 0 ≤ d) (h1 : d < us.length) : ∃ u, atI us d = some u ∧ u ∈ us := atI_mem h0 h1
/-- one of a list -/
theorem pick_wp {S : Sto} {h : Nat} {cs : List O} {g b : Int} {us : List U} {Q : U × Sto → Prop} (hh : h < S.length) (hk : Hok g b) (n0 : us ≠ []) (n1 : us.length < 1000000)
    (q : ∀ u g' b', u ∈ us → Hok g' b' → Q (u, St S h (hnd g' b') cs)) : wp (F__law_pick [.ref h, .lst us] (St S h (hnd g b) cs)) Q := by
  unfold F__law_pick c__law_pick
  simp
  have : 0 < us.length := List.length_pos_iff.mpr n0
  refine take_wp hh hk (by omega) (by omega) fun d g' b' d0 d1 k => ?_
  obtain ⟨u, e, hu⟩ := atI_in d0 d1
  simp [e]
  exact q u g' b' hu k
/-- one of a cell's list -/
theorem pick_ref {S : Sto} {h j : Nat} {cs : List O} {g b : Int} {us : List U} {Q : U × Sto → Prop} (hh : h < S.length) (hk : Hok g b) (hj : ∀ o, (St S h o cs)[j]? = some (.lst us)) (n0 : us ≠ []) (n1 : us.length < 1000000)
    (q : ∀ u g' b', u ∈ us → Hok g' b' → Q (u, St S h (hnd g' b') cs)) : wp (F__law_pick [.ref h, .ref j] (St S h (hnd g b) cs)) Q := by
  unfold F__law_pick c__law_pick
  simp [hj]
  have : 0 < us.length := List.length_pos_iff.mpr n0
  refine take_wp hh hk (by omega) (by omega) fun d g' b' d0 d1 k => ?_
  obtain ⟨u, e, hu⟩ := atI_in d0 d1
  simp [hj, e]
  exact q u g' b' hu k
def letters : Str := "abcdefghijklmnopqrstuvwxyz"
/-- one of the letters -/
theorem pick_let {S : Sto} {h : Nat} {cs : List O} {g b : Int} {Q : U × Sto → Prop} (hh : h < S.length) (hk : Hok g b)
    (q : ∀ (c : Nat) g' b', c ∈ letters.cps.toList → Hok g' b' → Q (.str ⟨#[c]⟩, St S h (hnd g' b') cs)) : wp (F__law_pick [.ref h, .str "abcdefghijklmnopqrstuvwxyz"] (St S h (hnd g b) cs)) Q := by
  have hl : (Str.ofString "abcdefghijklmnopqrstuvwxyz").length = 26 := by decide +kernel
  have hz : (26 : Nat) ≤ sizeLine := le_size _ (by omega)
  unfold F__law_pick c__law_pick
  simp [hl, hz]
  refine take_wp hh hk (by omega) (by omega) fun d g' b' d0 d1 k => ?_
  obtain ⟨u, e, hu⟩ := atI_in (us := letters.cps.toList) (d := d) d0 (by
    have : letters.cps.toList.length = 26 := by decide +kernel
    rw [this]; exact d1)
  have e' : atI (Str.ofString "abcdefghijklmnopqrstuvwxyz").cps.toList d = some u := e
  simp [hl, hz, e']
  exact q u g' b' hu k
theorem pow_facts (a : Int) : ∃ A D E r : Int, powI 10 60 = some (.int A) ∧ powJ A 5 = some (.int D) ∧ powI 10 18 = some (.int E) ∧ modI a D = some (.int r) ∧ 0 ≤ r ∧ r < 10 ^ 300 := by
  refine ⟨10 ^ 60, 10 ^ 300, 10 ^ 18, a % 10 ^ 300, rfl, by kernel_rfl, rfl, modI_ok (by decide), Int.emod_nonneg _ (by decide), Int.emod_lt_of_pos _ (by decide)⟩
theorem hand_ok (ns : List Int) (k : Nat) (S : Sto) (hk : k < 100) (hn : ns.length ≤ 63) : ∃ g b, F__law_hand [.scr (ns.map .int), .int k] S = some (.ref S.length, S ++ [hnd g b]) ∧ Hok g b := by
  have m1 : ∀ i, modI i 2305843009213693951 = some (.int (i % 2305843009213693951)) := fun i => modI_ok (by decide)
  have e0 : mulI 3 (k : Int) = some (.int (3 * k)) := mulI_ok (sm (by decide)) (sm (by omega))
  have e1 : mulI 7919 (k : Int) = some (.int (7919 * k)) := mulI_ok (sm (by decide)) (sm (by omega))
  have kk : 0 ≤ (7919 * (k : Int)) * k ∧ (7919 * (k : Int)) * k ≤ 7919 * 100 * 100 := ⟨Int.mul_nonneg (by omega) (by omega), by apply Int.mul_le_mul <;> omega⟩
  have e1' : mulI (7919 * (k : Int)) k = some (.int (7919 * k * k)) := mulI_ok (sm (by omega)) (sm (by omega))
  generalize hz : 7919 * (k : Int) * k = z at kk e1'
  have main : ∀ x : Int, ∃ g b, Hok g b ∧ ∃ A D E r : Int, powI 10 60 = some (.int A) ∧ powJ A 5 = some (.int D) ∧ powI 10 18 = some (.int E) ∧ modI (if x < 0 then -x else x) D = some (.int r) ∧ mulI r (if E ≤ (if x < 0 then -x else x) then 1 else 0) = some (.int g) ∧ mulI (x % 2305843009213693951 + z + 11) 48271 = some (.int ((x % 2305843009213693951 + z + 11) * 48271)) ∧ b = (x % 2305843009213693951 + z + 11) * 48271 % 2305843009213693951 := by
    intro x
    obtain ⟨A, D, E, r, p60, q1, p18, q3, r0, r1⟩ := pow_facts (if x < 0 then -x else x)
    generalize (if x < 0 then -x else x) = a at q3 ⊢
    refine ⟨r * (if E ≤ a then 1 else 0), _, ⟨?_, ?_, Int.emod_nonneg _ (by decide), Int.emod_lt_of_pos _ (by decide)⟩, A, D, E, r, p60, q1, p18, q3, ?_, mulI_ok (sm (by omega)) (sm (by decide)), rfl⟩
    · split <;> omega
    · split <;> omega
    · have hr : r.natAbs < 2 ^ 1100 := by
        have h1 : r.natAbs < 10 ^ 300 := by omega
        exact Nat.lt_trans h1 (by decide +kernel)
      split
      · exact mulI_ok hr (sm (by decide))
      · exact mulI_ok hr (sm (by decide))
  unfold F__law_hand c__law_hand
  by_cases hl : k < ns.length
  · obtain ⟨g, b, hgb, A, D, E, r, p60, q1, p18, q3, q4, q5, rfl⟩ := main ns[k]
    have hat : atI (ns.map U.int) k = some (.int ns[k]) := by
      rw [OF.atI_nat]
      simp [hl]
    refine ⟨g, _, ?_, hgb⟩
    by_cases hE : E ≤ (if ns[k] < 0 then -ns[k] else ns[k])
    · simp only [hE, if_true] at q4
      simp [hl, hat, absU, e0, p60, q1, q3, p18, m1, e1, e1', hE, q4, q5, hnd]
    · simp only [hE, if_false] at q4
      simp [hl, hat, absU, e0, p60, q1, q3, p18, m1, e1, e1', hE, q4, q5, hnd]
  · obtain ⟨g, b, hgb, A, D, E, r, p60, q1, p18, q3, q4, q5, rfl⟩ := main (3 * k + ns.length)
    refine ⟨g, _, ?_, hgb⟩
    by_cases hE : E ≤ (if (3 * (k : Int) + ns.length) < 0 then -(3 * (k : Int) + ns.length) else (3 * (k : Int) + ns.length))
    · simp only [hE, if_true] at q4
      simp [hl, absU, e0, p60, q1, q3, p18, m1, e1, e1', hE, q4, q5, hnd]
    · simp only [hE, if_false] at q4
      simp [hl, absU, e0, p60, q1, q3, p18, m1, e1, e1', hE, q4, q5, hnd]
end K02

namespace K02
open PySem PySem.Spec PyProof.Rows L2 OF
def mk (l : List Nat) : Str := ⟨l.toArray⟩
theorem mk_app (a b : List Nat) : mk a ++ mk b = mk (a ++ b) := by
  show Str.append (mk a) (mk b) = _
  simp [Str.append, mk]
@[simp] theorem mk_len (a : List Nat) : (mk a).length = a.length := by simp [mk, Str.length]
@[simp] theorem mk_size (a : List Nat) : (mk a).cps.size = a.length := by simp [mk]
theorem mk_inj {a b : List Nat} (h : mk a = mk b) : a = b := by
  have : (mk a).cps.toList = (mk b).cps.toList := by rw [h]
  simpa [mk] using this
theorem mk_one (c : Nat) : (⟨#[c]⟩ : Str) = mk [c] := rfl
theorem cut_lo (l : List Nat) (n : Nat) : cutS (mk l) none (some (n : Int)) = mk (l.take n) := by
  unfold cutS
  simp only [mk_len, HT.sIx_none, HT.sIx_nat]
  show (⟨_⟩ : Str) = ⟨_⟩
  congr 1
  simp [mk]
theorem cut_hi (l : List Nat) (n : Nat) : cutS (mk l) (some (n : Int)) none = mk (l.drop n) := by
  unfold cutS
  simp only [mk_len, HT.sIx_none, HT.sIx_nat]
  show (⟨_⟩ : Str) = ⟨_⟩
  congr 1
  simp [mk]
  by_cases h : n ≤ l.length
  · rw [Nat.min_eq_left h, List.take_of_length_le (by simp)]
  · rw [Nat.min_eq_right (by omega)]
    simp
    omega
@[simp] theorem setLast (cs : List O) (x y : O) : (cs ++ [x]).set cs.length y = cs ++ [y] := by
  rw [List.set_append_right _ _ (Nat.le_refl _)]
  simp
@[simp high] theorem st_putL {S : Sto} {h : Nat} {o : O} {cs : List O} {x y : O} : (St S h o (cs ++ [x])).set (S.length + cs.length) y = St S h o (cs ++ [y]) := by
  rw [st_put, setLast]
theorem anyF_str (x : Str) : ∀ ns : List Str, ((ns.map U.str).any fun y => eqF y (.str x)) = decide (x ∈ ns)
  | [] => by simp
  | y :: ns => by
    have ih := anyF_str x ns
    rw [List.map_cons, List.any_cons, ih]
    simp only [eqF]
    by_cases h : y = x
    · simp [h]
    · have h' : ¬ x = y := fun z => h z.symm
      simp [h, h']
theorem allF_str : ∀ ns : List Str, (ns.map U.str).all flatU = true
  | [] => rfl
  | y :: ns => by rw [List.map_cons, List.all_cons, allF_str ns]; rfl
inductive Wd where
  | plus | less | times | part | same | below
  deriving DecidableEq
def Wd.s : Wd → Str
  | .plus => "plus" | .less => "less" | .times => "times" | .part => "part" | .same => "same" | .below => "below"
inductive Rw where
  | put (n : Int) (g : Str) (v : Int)
  | copy (n : Int) (g a : Str)
  | bin (w : Wd) (n : Int) (g a b : Str)
  | ask (n : Int) (g : Str)
  | say (n : Int) (a : Str)
inductive En where
  | go (b : Str)
  | iff (a b c : Str)
  | stop
structure Bk where
  name : Str
  rows : List Rw
  en : En
def encR : Rw → U
  | .put n g v => .tup [.int n, .str "put", .str g, .int v]
  | .copy n g a => .tup [.int n, .str "copy", .str g, .str a]
  | .bin w n g a b => .tup [.int n, .str w.s, .str g, .str a, .str b]
  | .ask n g => .tup [.int n, .str "ask", .str g]
  | .say n a => .tup [.int n, .str "say", .str a]
def encE : En → U
  | .go b => .tup [.str "go", .str b]
  | .iff a b c => .tup [.str "if", .str a, .str b, .str c]
  | .stop => .tup [.str "stop"]
def encB (b : Bk) : U := .tup [.str b.name, .tup (b.rows.map encR), encE b.en]
def Rw.asks : Rw → List Str
  | .put _ _ _ => [] | .copy _ _ a => [a] | .bin _ _ _ a b => [a, b] | .ask _ _ => [] | .say _ a => [a]
def Rw.gives : Rw → Option Str
  | .put _ g _ => some g | .copy _ g _ => some g | .bin _ _ g _ _ => some g | .ask _ g => some g | .say _ _ => none
def En.asks : En → List Str
  | .go _ => [] | .iff a _ _ => [a] | .stop => []
theorem asked_row (r : Rw) : P_asked_by [encR r] = some (.tup (r.asks.map .str)) := by
  cases r with
  | bin w n g a b => cases w <;> kernel_rfl
  | _ => kernel_rfl
theorem asked_end (r : En) : P_asked_by [encE r] = some (.tup (r.asks.map .str)) := by
  cases r <;> kernel_rfl
def optS : Option Str → U
  | some x => .str x
  | none => .non
theorem given_row (r : Rw) : P_given_by [encR r] = some (optS r.gives) := by
  cases r with
  | bin w n g a b => cases w <;> kernel_rfl
  | _ => kernel_rfl
@[simp] theorem noref_encR (r : Rw) : noref (encR r) = true := by cases r <;> simp [encR]
@[simp] theorem noref_encE (r : En) : noref (encE r) = true := by cases r <;> simp [encE]
def InW (x : Int) : Prop := 0 ≤ x ∧ x < 1000003
def Rw.num : Rw → Int
  | .put n _ _ => n | .copy n _ _ => n | .bin _ n _ _ _ => n | .ask n _ => n | .say n _ => n
@[simp high] theorem ix_encR (r : Rw) (S : Sto) : ixU (encR r) (.int 0) S = some (.int r.num, S) := by
  cases r <;> simp [encR, Rw.num]
def Rw.ok : Rw → Prop
  | .put _ _ v => InW v
  | _ => True
def encP (p : List Bk) : U := .tup (p.map encB)
theorem norefs_rows (rs : List Rw) : norefs (rs.map encR) = true := norefs_all _ fun u hu => by
  obtain ⟨r, _, rfl⟩ := List.mem_map.mp hu
  exact noref_encR r
@[simp] theorem noref_encB (b : Bk) : noref (encB b) = true := by simp [encB, norefs_rows]
@[simp] theorem noref_encP (p : List Bk) : noref (encP p) = true := by
  simp only [encP, noref_tup]
  exact norefs_all _ fun u hu => by
    obtain ⟨r, _, rfl⟩ := List.mem_map.mp hu
    exact noref_encB r
def En.goals : En → List Str
  | .go b => [b] | .iff _ b c => [b, c] | .stop => []
end K02

namespace K02
open PySem PySem.Spec PyProof.Rows L2 OF
/-! names and numbers, of any data -/
def isL (k : Nat) : Bool := decide (k ∈ (Str.ofString "abcdefghijklmnopqrstuvwxyz").cps.toList)
def nameB : U → Bool
  | .str x => decide (1 ≤ x.length ∧ x.length ≤ 8) && x.cps.toList.all isL
  | _ => false
def numB (lo hi : Int) : U → Bool
  | .int i => decide (lo ≤ i ∧ i ≤ hi)
  | _ => false
/-- of few parts and signs -/
def few (u : U) : Prop := dat (10 ^ 40) u = true ∧ wt u ≤ 30000
theorem sz {x : Str} (h : few (.str x)) : x.length ≤ sizeLine := le_size _ (by have := h.2; simp only [wt] at this; have e : x.length = x.cps.size := rfl; omega)
theorem is_number_ok {u : U} {lo hi : Int} (h : few u) : P_is_number [u, .int lo, .int hi] = some (.bl (numB lo hi u)) := by
  unfold P_is_number c_is_number
  obtain ⟨h, hw⟩ := h
  cases u <;> first | (simp [dat] at h; done) | (simp [numB]; done) | skip
  case int i => by_cases h1 : lo ≤ i <;> simp [numB, h1]
theorem in_let (k : Nat) (S : Sto) : inU false (.str ⟨#[k]⟩) (.str "abcdefghijklmnopqrstuvwxyz") S = some (.bl (isL k), S) := rfl
theorem signs_in {c : Cm U} (x : Str) (env : Env') (S : Sto) (j : Nat) (hj : ∀ k, c (env.set j (some (.str ⟨#[k]⟩))) S = some (.bl (isL k), S)) : mapC (.nm j) cYes c env (signsU x) S = some (x.cps.toList.map fun k => U.bl (isL k), S) := by
  unfold signsU
  induction x.cps.toList with
  | nil => rfl
  | cons k l ih => simp [-mapC_cons, mapC, bindP, cYes, hj k, ih]
theorem sg_len {α : Type} (f : Nat → α) (x : Str) (h : x.length ≤ sizeLine) : (x.cps.toList.map f).length ≤ sizeLine := by
  have e : x.length = x.cps.size := rfl
  rw [e] at h
  simpa using h
theorem is_name_ok {u : U} (h : few u) : P_is_name [u] = some (.bl (nameB u)) := by
  unfold P_is_name c_is_name
  have hz := @sz
  obtain ⟨hd, hw⟩ := h
  cases u <;> first | (simp [dat] at hd; done) | (simp [nameB]; done) | skip
  case str x =>
    have z := hz ⟨hd, hw⟩
    have hm := fun env => signs_in (c := cBin (inU false) (cVar 1) (cCst (.str "abcdefghijklmnopqrstuvwxyz"))) x [env, none] [] 1 (fun k => by simp [-inU_ap, in_let])
    have hb := boolsU_map isL x.cps.toList
    by_cases h1 : (1 : Int) ≤ x.length
    · by_cases h2 : (x.length : Int) ≤ 8
      · have h3 : 1 ≤ x.length ∧ x.length ≤ 8 := by omega
        have hl : x.cps.size ≤ sizeLine := z
        simp [-mapC_cons, z, h1, h2, hm, hb, nameB, h3, hl]
      · have h3 : ¬ (1 ≤ x.length ∧ x.length ≤ 8) := by omega
        simp [-mapC_cons, z, h1, h2, nameB, h3]
    · have h3 : ¬ (1 ≤ x.length ∧ x.length ≤ 8) := by omega
      simp [-mapC_cons, z, h1, nameB, h3]
end K02

namespace K02
open PySem PySem.Spec PyProof.Rows L2 OF
/-! parts -/
theorem wts_mem {u : U} : ∀ {us : List U}, u ∈ us → wt u ≤ wts us
  | v :: us, h => by
    rcases List.mem_cons.mp h with rfl | h
    · simp only [wts]; omega
    · have := wts_mem h; simp only [wts]; omega
theorem wts_len : ∀ (us : List U), us.length ≤ wts us
  | [] => Nat.le_refl _
  | u :: us => by have := wts_len us; simp only [wts, List.length_cons]; omega
theorem few_mem {us : List U} (h : few (.tup us)) : ∀ u ∈ us, few u := fun u hu => by
  obtain ⟨a, b⟩ := h
  simp only [dat] at a
  simp only [wt] at b
  have := wts_mem hu
  exact ⟨dats_mem.mp a u hu, by omega⟩
theorem few_len {us : List U} (h : few (.tup us)) : us.length ≤ 30000 := by
  have := h.2
  simp only [wt] at this
  have := wts_len us
  omega
theorem few_noref {u : U} (h : few u) : noref u = true := dat_noref u h.1
def fitP (s : Nat) (u : U) : Bool := if s = 110 then numB 0 1000002 u else nameB u
def partsB (ss : List Nat) (us : List U) : Bool := decide (us.length = ss.length) && (ss.zip us).all fun p => fitP p.1 p.2
theorem sign_n (s : Nat) : (({ cps := #[s] } : Str) = Str.ofString "n") = (s = 110) := by
  rw [show Str.ofString "n" = ⟨#[110]⟩ by decide +kernel]
  simp
theorem fits_part_ok {s : Nat} {u : U} (h : few u) : P_fits_part [.str ⟨#[s]⟩, u] = some (.bl (fitP s u)) := by
  unfold P_fits_part c_fits_part
  have hn := few_noref h
  have e := sign_n s
  by_cases hs : s = 110
  · have e' : (({ cps := #[110] } : Str) = Str.ofString "n") := by rw [sign_n]
    simp [e', hs, fitP, hn, gu_is_number_1_high, pickL, is_number_ok h, norefs, noref]
  · simp [e, hs, fitP, hn, is_name_ok h, norefs]
theorem zip_signs (ss : List Nat) (us : List U) : zipU (ss.map fun c => U.str ⟨#[c]⟩) us = (ss.zip us).map fun p => U.tup [.str ⟨#[p.1]⟩, p.2] := by
  simp [zipU, List.zip_map_left]
theorem are_parts_ok {x : Str} {us : List U} (hx : x.length ≤ 10) (hl : us.length ≤ 30000) (h : ∀ u ∈ us, few u) : P_are_parts [.str x, .lst us] = some (.bl (partsB x.cps.toList us)) := by
  unfold P_are_parts c_are_parts
  have zx : x.length ≤ sizeLine := le_size _ (by omega)
  have hm : mapC (.tp [.nm 2, .nm 3]) cYes (cArg (liftP P_fits_part) (cCons (cVar 2) (cCons (cVar 3) cNil))) [some (U.str x), some (U.lst us), none, none] ((x.cps.toList.zip us).map fun p => U.tup [.str ⟨#[p.1]⟩, p.2]) [] = some ((x.cps.toList.zip us).map fun p => U.bl (fitP p.1 p.2), []) := by
    generalize hz : x.cps.toList.zip us = zz
    have hq : ∀ p ∈ zz, few p.2 := fun p hp => h p.2 (by rw [← hz] at hp; exact (List.of_mem_zip hp).2)
    clear hz
    induction zz with
    | nil => rfl
    | cons p zz ih =>
      have fp := hq p (by simp)
      have ih := ih fun q hq' => hq q (by simp [hq'])
      simp [-mapC_cons, mapC, bindP, bindPs, cYes, ih, fits_part_ok fp, few_noref fp, norefs, noref]
  have hb := boolsU_map (fun p : Nat × U => fitP p.1 p.2) (x.cps.toList.zip us)
  have hzl : ((x.cps.toList.zip us).map fun p => U.bl (fitP p.1 p.2)).length ≤ sizeLine := le_size _ (by simp; omega)
  have hzs := zip_signs x.cps.toList us
  by_cases hc : us.length = x.cps.size
  · have hc' : us.length = x.length := hc
    simp [-mapC_cons, -List.map_map, -List.length_map, zx, hc', signsU, hzs, hm, hb, hzl, partsB, hc]
    intro _; rfl
  · have hc' : ¬ us.length = x.length := hc
    have hc2 : ¬ ((us.length : Int) = (x.length : Int)) := by omega
    simp [-mapC_cons, zx, hc, hc2, partsB]
end K02

namespace K02
open PySem PySem.Spec PyProof.Rows L2 OF
/-! rows -/
def rpS (x : Str) : Str := match tab_ROW_PARTS.lookup x with
  | some (.str s) => s
  | _ => ""
def rpL (x : Str) : List Nat := (rpS x).cps.toList
def epS (x : Str) : Str := match tab_END_PARTS.lookup x with
  | some (.str s) => s
  | _ => ""
theorem row_tab {x : Str} (h : x ∈ keys_ROW_PARTS) : tab_ROW_PARTS.lookup x = some (.str (rpS x)) ∧ (rpS x).length ≤ 3 ∧ 1 ≤ (rpS x).length := by
  simp only [keys_ROW_PARTS, List.mem_cons, List.not_mem_nil, or_false] at h
  rcases h with rfl | rfl | rfl | rfl | rfl | rfl | rfl | rfl | rfl | rfl <;> exact ⟨rfl, by decide +kernel, by decide +kernel⟩
theorem end_tab {x : Str} (h : x ∈ keys_END_PARTS) : tab_END_PARTS.lookup x = some (.str (epS x)) ∧ (epS x).length ≤ 3 := by
  simp only [keys_END_PARTS, List.mem_cons, List.not_mem_nil, or_false] at h
  rcases h with rfl | rfl | rfl <;> exact ⟨rfl, by decide +kernel⟩
theorem rpL_put : rpL "put" = [103, 110] := by decide +kernel
theorem rpL_copy : rpL "copy" = [103, 97] := by decide +kernel
theorem rpL_plus : rpL "plus" = [103, 97, 97] := by decide +kernel
theorem rpL_less : rpL "less" = [103, 97, 97] := by decide +kernel
theorem rpL_times : rpL "times" = [103, 97, 97] := by decide +kernel
theorem rpL_part : rpL "part" = [103, 97, 97] := by decide +kernel
theorem rpL_same : rpL "same" = [103, 97, 97] := by decide +kernel
theorem rpL_below : rpL "below" = [103, 97, 97] := by decide +kernel
theorem rpL_ask : rpL "ask" = [103] := by decide +kernel
theorem rpL_say : rpL "say" = [97] := by decide +kernel
def rowB : U → Bool
  | .tup (n :: .str x :: ps) => numB 1 9999 n && (decide (x ∈ keys_ROW_PARTS) && partsB (rpL x) ps)
  | _ => false
def sameB (ps : List U) : Bool := match (ps[1]? : Option U), (ps[2]? : Option U) with
  | some (U.str a), some (U.str b) => decide (a = b)
  | _, _ => false
def endB : U → Bool
  | .tup (.str x :: ps) => (decide (x ∈ keys_END_PARTS) && partsB (epS x).cps.toList ps) && !(decide (x = "if") && sameB ps)
  | _ => false
theorem is_row_ok {u : U} (h : few u) : P_is_row [u] = some (.bl (rowB u)) := by
  unfold P_is_row c_is_row
  have h' := h
  obtain ⟨hd, hw⟩ := h'
  cases u <;> first | (simp [dat] at hd; done) | (simp [rowB]; done) | skip
  case tup us =>
    have hm := few_mem h
    have hl := few_len h
    match us with
    | [] => simp [rowB]
    | [a] => simp [rowB]
    | a :: w :: ps =>
      have ha := hm a (by simp)
      have hw := hm w (by simp)
      have hp : ∀ u ∈ ps, few u := fun u hu => hm u (by simp [hu])
      have hpl : ps.length ≤ 30000 := by simp at hl; omega
      have na := few_noref ha
      have hnum := is_number_ok (lo := 1) (hi := 9999) ha
      have lt2 : ¬ ((ps.length : Int) + 1 + 1 < 2) := by omega
      cases hn : numB 1 9999 a with
      | false =>
        rw [hn] at hnum
        have e : rowB (.tup (a :: w :: ps)) = false := by cases w <;> simp [rowB, hn]
        simp [lt2, gu_is_number_1_low, pickL, hnum, norefs, na, noref, e]
      | true =>
        rw [hn] at hnum
        cases w with
        | str x =>
          by_cases hk : x ∈ keys_ROW_PARTS
          · obtain ⟨t1, t2, t3⟩ := row_tab hk
            have hap : P_are_parts [.str (rpS x), .lst ps] = some (.bl (partsB (rpL x) ps)) := are_parts_ok (x := rpS x) (us := ps) (by omega) hpl hp
            have hnr : norefs ps = true := dats_norefs ps (dats_mem.mpr fun u hu => (hp u hu).1)
            have e : rowB (.tup (a :: .str x :: ps)) = partsB (rpL x) ps := by simp [rowB, hn, hk]
            simp [lt2, gu_is_number_1_low, pickL, hnum, norefs, na, noref, e, hk, t1, hap, hnr]
          · have e : rowB (.tup (a :: .str x :: ps)) = false := by simp [rowB, hk]
            simp [lt2, gu_is_number_1_low, pickL, hnum, norefs, na, noref, e, hk]
        | _ => first | (have := hw.1; simp [dat] at this; done) | simp [lt2, gu_is_number_1_low, pickL, hnum, norefs, na, noref, rowB]
theorem is_end_ok {u : U} (h : few u) : P_is_end [u] = some (.bl (endB u)) := by
  unfold P_is_end c_is_end
  have h' := h
  obtain ⟨hd, hw⟩ := h'
  cases u <;> first | (simp [dat] at hd; done) | (simp [endB]; done) | skip
  case tup us =>
    have hm := few_mem h
    have hl := few_len h
    match us with
    | [] => simp [endB]
    | w :: ps =>
      have hw := hm w (by simp)
      have hp : ∀ u ∈ ps, few u := fun u hu => hm u (by simp [hu])
      have hpl : ps.length ≤ 30000 := by simp at hl; omega
      have lt2 : ¬ ((ps.length : Int) + 1 = 0) := by omega
      cases w with
      | str x =>
        by_cases hk : x ∈ keys_END_PARTS
        · obtain ⟨t1, t2⟩ := end_tab hk
          have hap := are_parts_ok (x := epS x) (us := ps) (by omega) hpl hp
          have hnr : norefs ps = true := dats_norefs ps (dats_mem.mpr fun u hu => (hp u hu).1)
          cases hq : partsB (epS x).cps.toList ps with
          | false =>
            rw [hq] at hap
            simp [lt2, norefs, noref, hk, t1, hap, hnr, endB, hq]
          | true =>
            rw [hq] at hap
            by_cases hi : x = "if"
            · have hs : (epS x).cps.toList = [97, 98, 98] := by rw [hi]; decide +kernel
              rw [hs] at hq
              match ps, hq with
              | [p0, p1, p2], hq =>
                simp [partsB, fitP] at hq
                obtain ⟨q0, q1, q2⟩ := hq
                cases p1 <;> first | (simp [nameB] at q1; done) | skip
                cases p2 <;> first | (simp [nameB] at q2; done) | skip
                rename_i a b
                subst hi
                have hs2 : partsB (epS (Str.ofString "if")).cps.toList [p0, .str a, .str b] = true := by rw [hs]; simp [partsB, fitP, q0, q1, q2]
                have n0 := few_noref (hp p0 (by simp))
                by_cases hab : a = b
                · subst hab
                  simp [norefs, noref, hk, t1, hap, n0, endB, hs2, sameB]
                · simp [norefs, noref, hk, t1, hap, n0, endB, hs2, sameB, hab]
            · simp [lt2, norefs, noref, hk, t1, hap, hnr, endB, hq, hi]
        · simp [lt2, endB, hk]
      | _ => first | (have := hw.1; simp [dat] at this; done) | simp [lt2, endB]
end K02

namespace K02
open PySem PySem.Spec PyProof.Rows L2 OF
theorem epL_go : (epS "go").cps.toList = [98] := by decide +kernel
theorem epL_if : (epS "if").cps.toList = [97, 98, 98] := by decide +kernel
theorem epL_stop : (epS "stop").cps.toList = [] := by decide +kernel
end K02

namespace K02
open PySem PySem.Spec PyProof.Rows L2 OF
/-! blocks -/
def blockB : U → Bool
  | .tup [n, .tup rs, e] => nameB n && (rs.all rowB && endB e)
  | _ => false
theorem rows_all {f : U → Bool} {c : Cm U} (env : Env') (S : Sto) (j : Nat) : ∀ (us : List U), (∀ u ∈ us, c (env.set j (some u)) S = some (.bl (f u), S)) → mapC (.nm j) cYes c env us S = some (us.map fun u => U.bl (f u), S)
  | [], _ => rfl
  | u :: us, h => by
    have ih := rows_all (f := f) env S j us fun v hv => h v (by simp [hv])
    simp [-mapC_cons, mapC, bindP, cYes, h u (by simp), ih]
theorem is_block_ok {u : U} (h : few u) : P_is_block [u] = some (.bl (blockB u)) := by
  unfold P_is_block c_is_block
  have h' := h
  obtain ⟨hd, hw⟩ := h'
  cases u <;> first | (simp [dat] at hd; done) | (simp [blockB]; done) | skip
  case tup us =>
    have hm := few_mem h
    have hl := few_len h
    by_cases h3 : us.length = 3
    · match us, h3 with
      | [n, r, e], _ =>
        have fn := hm n (by simp)
        have fr := hm r (by simp)
        have fe := hm e (by simp)
        have nn := few_noref fn
        have ne := few_noref fe
        have hnm := is_name_ok fn
        have hen := is_end_ok fe
        cases q : nameB n with
        | false =>
          rw [q] at hnm
          have e0 : blockB (.tup [n, r, e]) = false := by cases r <;> simp [blockB, q]
          simp [hnm, norefs, nn, e0]
        | true =>
          rw [q] at hnm
          cases r with
          | tup rs =>
            have hrs := few_mem fr
            have hrl := few_len fr
            have hz : rs.length ≤ sizeLine := le_size _ (by omega)
            have hN := rows_all (f := rowB) (c := cArg (liftP P_is_row) (cCons (cVar 1) cNil)) [some (U.tup [n, .tup rs, e]), none] [] 1 rs (fun u hu => by simp [is_row_ok (hrs u hu), norefs, few_noref (hrs u hu)])
            have hb := boolsU_map rowB rs
            cases qr : rs.all rowB <;> simp [-mapC_cons, hnm, norefs, nn, ne, hN, hb, hz, hen, blockB, q, qr]
          | _ => first | (have := fr.1; simp [dat] at this; done) | simp [hnm, norefs, nn, blockB]
    · have h3' : ¬ ((us.length : Int) = 3) := by omega
      have e : blockB (.tup us) = false := by
        match us, h3 with
        | [], _ => rfl
        | [a], _ => rfl
        | [a, b], _ => cases b <;> simp [blockB]
        | [a, b, c], h3 => simp at h3
        | a :: b :: c :: d :: t, _ => simp [blockB]
      simp [h3', e]
end K02

namespace K02
open PySem PySem.Spec PyProof.Rows L2 OF
/-! what ends and rows that are such look like -/
theorem name_str {a : U} (h : nameB a = true) : ∃ y, a = .str y := by cases a <;> first | exact ⟨_, rfl⟩ | simp [nameB] at h
theorem end_shape {e : U} (h : endB e = true) : (∃ a, nameB (.str a) = true ∧ e = .tup [.str "go", .str a]) ∨ (∃ a b c, nameB (.str a) = true ∧ nameB (.str b) = true ∧ nameB (.str c) = true ∧ b ≠ c ∧ e = .tup [.str "if", .str a, .str b, .str c]) ∨ e = .tup [.str "stop"] := by
  match e, h with
  | .tup (.str x :: ps), h =>
    simp only [endB, Bool.and_eq_true, decide_eq_true_eq] at h
    obtain ⟨⟨hk, hp⟩, hs⟩ := h
    simp only [keys_END_PARTS, List.mem_cons, List.not_mem_nil, or_false] at hk
    rcases hk with rfl | rfl | rfl
    · rw [epL_go] at hp
      match ps, hp with
      | [a], hp =>
        simp [partsB, fitP] at hp
        obtain ⟨y, rfl⟩ := name_str hp
        exact .inl ⟨y, hp, rfl⟩
    · rw [epL_if] at hp
      match ps, hp with
      | [a, b, c], hp =>
        simp [partsB, fitP] at hp
        obtain ⟨p1, p2, p3⟩ := hp
        obtain ⟨y1, rfl⟩ := name_str p1
        obtain ⟨y2, rfl⟩ := name_str p2
        obtain ⟨y3, rfl⟩ := name_str p3
        refine .inr (.inl ⟨y1, y2, y3, p1, p2, p3, ?_, rfl⟩)
        simpa [sameB] using hs
    · rw [epL_stop] at hp
      match ps, hp with
      | [], hp => exact .inr (.inr rfl)
def goalsU : U → List U
  | .tup [.str _, .str a] => [.str a]
  | .tup [.str _, .str _, .str b, .str c] => [.str b, .str c]
  | _ => []
theorem sg_b : signsU (Str.ofString "b") = [.str ⟨#[98]⟩] := by
  show (Str.ofString "b").cps.toList.map _ = _
  rw [show (Str.ofString "b").cps.toList = [98] by decide +kernel]; rfl
theorem sg_abb : signsU (Str.ofString "abb") = [.str ⟨#[97]⟩, .str ⟨#[98]⟩, .str ⟨#[98]⟩] := by
  show (Str.ofString "abb").cps.toList.map _ = _
  rw [show (Str.ofString "abb").cps.toList = [97, 98, 98] by decide +kernel]; rfl
theorem sg_e : signsU (Str.ofString "") = [] := by
  show (Str.ofString "").cps.toList.map _ = _
  rw [show (Str.ofString "").cps.toList = [] by decide +kernel]; rfl
theorem s98 : (({ cps := #[98] } : Str) = Str.ofString "b") = True := by
  rw [show Str.ofString "b" = ⟨#[98]⟩ by decide +kernel]; simp
theorem s97 : (({ cps := #[97] } : Str) = Str.ofString "b") = False := by
  rw [show Str.ofString "b" = ⟨#[98]⟩ by decide +kernel]; simp
theorem goals_in_ok {e : U} (h : endB e = true) : P_goals_in [e] = some (.tup (goalsU e)) := by
  unfold P_goals_in c_goals_in
  rcases end_shape h with ⟨a, _, rfl⟩ | ⟨a, b, c, _, _, _, _, rfl⟩ | rfl
  · simp [tab_END_PARTS, List.lookup, sg_b, zipU, s98, goalsU, noref, norefs]
  · simp [tab_END_PARTS, List.lookup, sg_abb, zipU, s98, s97, goalsU, noref, norefs]
  · simp [tab_END_PARTS, List.lookup, sg_e, zipU, goalsU, noref, norefs]
theorem num_int {lo hi : Int} {a : U} (h : numB lo hi a = true) : ∃ n, a = .int n := by cases a <;> first | exact ⟨_, rfl⟩ | simp [numB] at h
/-- a row that is one: its number, its word, its names, its worth -/
inductive RwU : U → Prop
  | put (n x m) (hn : numB 1 9999 (.int n) = true) (hx : nameB (.str x) = true) (hm : numB 0 1000002 (.int m) = true) : RwU (.tup [.int n, .str "put", .str x, .int m])
  | copy (n x a) (hn : numB 1 9999 (.int n) = true) (hx : nameB (.str x) = true) (ha : nameB (.str a) = true) : RwU (.tup [.int n, .str "copy", .str x, .str a])
  | two (n w x a b) (hn : numB 1 9999 (.int n) = true) (hw : w ∈ (["plus", "less", "times", "part", "same", "below"] : List Str)) (hx : nameB (.str x) = true) (ha : nameB (.str a) = true) (hb : nameB (.str b) = true) : RwU (.tup [.int n, .str w, .str x, .str a, .str b])
  | ask (n x) (hn : numB 1 9999 (.int n) = true) (hx : nameB (.str x) = true) : RwU (.tup [.int n, .str "ask", .str x])
  | say (n x) (hn : numB 1 9999 (.int n) = true) (hx : nameB (.str x) = true) : RwU (.tup [.int n, .str "say", .str x])
theorem row_shape {e : U} (h : rowB e = true) : RwU e := by
  match e, h with
  | .tup (n :: .str x :: ps), h =>
    simp only [rowB, Bool.and_eq_true, decide_eq_true_eq] at h
    obtain ⟨hn, hk, hp⟩ := h
    obtain ⟨i, rfl⟩ := num_int hn
    have three : rpL x = [103, 97, 97] → x ∈ (["plus", "less", "times", "part", "same", "below"] : List Str) → RwU (.tup (.int i :: .str x :: ps)) := fun e hw => by
      rw [e] at hp
      match ps, hp with
      | [a, b, c], hp =>
        simp [partsB, fitP] at hp
        obtain ⟨p1, p2, p3⟩ := hp
        obtain ⟨y1, rfl⟩ := name_str p1
        obtain ⟨y2, rfl⟩ := name_str p2
        obtain ⟨y3, rfl⟩ := name_str p3
        exact .two i x y1 y2 y3 hn hw p1 p2 p3
    simp only [keys_ROW_PARTS, List.mem_cons, List.not_mem_nil, or_false] at hk
    rcases hk with rfl | rfl | rfl | rfl | rfl | rfl | rfl | rfl | rfl | rfl
    · rw [rpL_put] at hp
      match ps, hp with
      | [a, b], hp =>
        simp [partsB, fitP] at hp
        obtain ⟨y1, rfl⟩ := name_str hp.1
        obtain ⟨m, rfl⟩ := num_int hp.2
        exact .put i y1 m hn hp.1 hp.2
    · rw [rpL_copy] at hp
      match ps, hp with
      | [a, b], hp =>
        simp [partsB, fitP] at hp
        obtain ⟨y1, rfl⟩ := name_str hp.1
        obtain ⟨y2, rfl⟩ := name_str hp.2
        exact .copy i y1 y2 hn hp.1 hp.2
    · exact three rpL_plus (by simp)
    · exact three rpL_less (by simp)
    · exact three rpL_times (by simp)
    · exact three rpL_part (by simp)
    · exact three rpL_same (by simp)
    · exact three rpL_below (by simp)
    · rw [rpL_ask] at hp
      match ps, hp with
      | [a], hp =>
        simp [partsB, fitP] at hp
        obtain ⟨y1, rfl⟩ := name_str hp
        exact .ask i y1 hn hp
    · rw [rpL_say] at hp
      match ps, hp with
      | [a], hp =>
        simp [partsB, fitP] at hp
        obtain ⟨y1, rfl⟩ := name_str hp
        exact .say i y1 hn hp
end K02

namespace K02
open PySem PySem.Spec PyProof.Rows L2 OF
/-! names asked and given -/
def askU : U → List U
  | .tup [.int _, .str w, .str x, .int _] => []
  | .tup [.int _, .str w, .str x, .str a] => [.str a]
  | .tup [.int _, .str w, .str x, .str a, .str b] => [.str a, .str b]
  | .tup [.int _, .str w, .str x] => if w = ("say" : Str) then [.str x] else []
  | .tup [.str w, .str a, .str b, .str c] => [.str a]
  | _ => []
theorem tb (w : Str) (s : Str) (h : tab_ROW_PARTS.lookup w = some (.str s)) : tab_ROW_PARTS.lookup w = some (.str s) := h
theorem sg_gn : signsU (Str.ofString "gn") = [.str ⟨#[103]⟩, .str ⟨#[110]⟩] := by
  show (Str.ofString "gn").cps.toList.map _ = _
  rw [show (Str.ofString "gn").cps.toList = [103, 110] by decide +kernel]; rfl
theorem sg_ga : signsU (Str.ofString "ga") = [.str ⟨#[103]⟩, .str ⟨#[97]⟩] := by
  show (Str.ofString "ga").cps.toList.map _ = _
  rw [show (Str.ofString "ga").cps.toList = [103, 97] by decide +kernel]; rfl
theorem sg_gaa : signsU (Str.ofString "gaa") = [.str ⟨#[103]⟩, .str ⟨#[97]⟩, .str ⟨#[97]⟩] := by
  show (Str.ofString "gaa").cps.toList.map _ = _
  rw [show (Str.ofString "gaa").cps.toList = [103, 97, 97] by decide +kernel]; rfl
theorem sg_g : signsU (Str.ofString "g") = [.str ⟨#[103]⟩] := by
  show (Str.ofString "g").cps.toList.map _ = _
  rw [show (Str.ofString "g").cps.toList = [103] by decide +kernel]; rfl
theorem sg_a : signsU (Str.ofString "a") = [.str ⟨#[97]⟩] := by
  show (Str.ofString "a").cps.toList.map _ = _
  rw [show (Str.ofString "a").cps.toList = [97] by decide +kernel]; rfl
theorem ea (k : Nat) : (({ cps := #[k] } : Str) = Str.ofString "a") = (k = 97) := by
  rw [show Str.ofString "a" = ⟨#[97]⟩ by decide +kernel]; simp
theorem six_tab {w : Str} (h : w ∈ (["plus", "less", "times", "part", "same", "below"] : List Str)) : tab_ROW_PARTS.lookup w = some (.str "gaa") := by
  simp only [List.mem_cons, List.not_mem_nil, or_false] at h
  rcases h with rfl | rfl | rfl | rfl | rfl | rfl <;> rfl
theorem asked_row_ok {e : U} (h : rowB e = true) : P_asked_by [e] = some (.tup (askU e)) := by
  unfold P_asked_by c_asked_by
  cases row_shape h with
  | put n x m => simp [tab_ROW_PARTS, List.lookup, sg_gn, zipU, ea, askU, noref, norefs]
  | copy n x a => simp [tab_ROW_PARTS, List.lookup, sg_ga, zipU, ea, askU, noref, norefs]
  | two n w x a b hn hw => simp [six_tab hw, sg_gaa, zipU, ea, askU, noref, norefs]
  | ask n x => simp [tab_ROW_PARTS, List.lookup, sg_g, zipU, ea, askU, noref, norefs]
  | say n x => simp [tab_ROW_PARTS, List.lookup, sg_a, zipU, ea, askU, noref, norefs]
theorem asked_end_ok {e : U} (h : endB e = true) : P_asked_by [e] = some (.tup (askU e)) := by
  unfold P_asked_by c_asked_by
  rcases end_shape h with ⟨a, _, rfl⟩ | ⟨a, b, c, _, _, _, _, rfl⟩ | rfl
  · simp [tab_END_PARTS, List.lookup, sg_b, zipU, ea, askU, noref, norefs]
  · simp [tab_END_PARTS, List.lookup, sg_abb, zipU, ea, askU, noref, norefs]
  · simp [tab_END_PARTS, List.lookup, sg_e, zipU, ea, askU, noref, norefs]
end K02

namespace K02
open PySem PySem.Spec PyProof.Rows L2 OF
def giveU : U → U
  | .tup (.int _ :: .str w :: .str x :: _) => if w = ("say" : Str) then .non else .str x
  | _ => .non
theorem st_gn : Txt.startswith (Str.ofString "gn") (Str.ofString "g") = true := by decide +kernel
theorem st_ga : Txt.startswith (Str.ofString "ga") (Str.ofString "g") = true := by decide +kernel
theorem st_gaa : Txt.startswith (Str.ofString "gaa") (Str.ofString "g") = true := by decide +kernel
theorem st_g : Txt.startswith (Str.ofString "g") (Str.ofString "g") = true := by decide +kernel
theorem st_a : Txt.startswith (Str.ofString "a") (Str.ofString "g") = false := by decide +kernel
theorem six_say {w : Str} (h : w ∈ (["plus", "less", "times", "part", "same", "below"] : List Str)) : ¬ w = ("say" : Str) := by
  simp only [List.mem_cons, List.not_mem_nil, or_false] at h
  rcases h with rfl | rfl | rfl | rfl | rfl | rfl <;> decide +kernel
theorem given_row_ok {e : U} (h : rowB e = true) : P_given_by [e] = some (giveU e) := by
  unfold P_given_by c_given_by
  cases row_shape h with
  | put n x m => simp [tab_ROW_PARTS, List.lookup, startU, st_gn, giveU, noref, norefs, tyOkU]
  | copy n x a => simp [tab_ROW_PARTS, List.lookup, startU, st_ga, giveU, noref, norefs, tyOkU]
  | two n w x a b hn hw => simp [six_tab hw, startU, st_gaa, giveU, noref, norefs, tyOkU, six_say hw]
  | ask n x => simp [tab_ROW_PARTS, List.lookup, startU, st_g, giveU, noref, norefs, tyOkU]
  | say n x => simp [tab_ROW_PARTS, List.lookup, startU, st_a, giveU, noref, norefs, tyOkU]
end K02

namespace K02
open PySem PySem.Spec PyProof.Rows L2 OF
inductive Ln where
  | row (r : Rw)
  | en (e : En)
def encL : Ln → U
  | .row r => encR r
  | .en e => encE e
def Ln.asks : Ln → List Str
  | .row r => r.asks
  | .en e => e.asks
def Ln.gives : Ln → Option Str
  | .row r => r.gives
  | .en _ => none
theorem asked_ln (l : Ln) : P_asked_by [encL l] = some (.tup (l.asks.map .str)) := by
  cases l with
  | row r => exact asked_row r
  | en e => exact asked_end e
@[simp] theorem noref_encL (l : Ln) : noref (encL l) = true := by cases l <;> simp [encL]
def Bk.lines (b : Bk) : List Ln := b.rows.map .row ++ [.en b.en]
theorem addS_len : ∀ (l acc : List Str), (addS acc l).length ≤ acc.length + l.length
  | [], acc => by simp
  | k :: l, acc => by
    rw [addS_cons]
    have := addS_len l (if k ∈ acc then acc else acc ++ [k])
    split at this <;> rename_i h
    · rw [if_pos h]; simp at this ⊢; omega
    · rw [if_neg h]; simp at this ⊢; omega
theorem namA (env : Env') (S : Sto) (us0 : List U) (hl : env.length = 7) : ∀ (as acc : List Str), acc.length + as.length ≤ 100000 →
    loopA (.nm 6) cYes env none us0 (outD (cVar 6) (cCst (.bl true))) (as.map .str) (trK acc) S = some (trK (addS acc as), S)
  | [], acc, _ => by simp [loopA]
  | a :: as, acc, hc => by
    simp at hc
    have g6 : (env.set 6 (some (.str a)))[6]? = some (some (.str a)) := List.getElem?_set_self (by omega)
    have az : (trK acc).length < sizeLine := by have := le_size 200000 (by omega); simp; omega
    have hlen : (if a ∈ acc then acc else acc ++ [a]).length + as.length ≤ 100000 := by
      by_cases h : a ∈ acc
      · rw [if_pos h]; omega
      · rw [if_neg h, List.length_append, List.length_singleton]; omega
    have ih := namA env S us0 hl as (if a ∈ acc then acc else acc ++ [a]) hlen
    have ou : outD (cVar 6) (cCst (.bl true)) (env.set 6 (some (.str a))) (trK acc) S = some (trK (if a ∈ acc then acc else acc ++ [a]), S) := by
      unfold outD
      rw [← put_trK]
      simp [g6, az]
      simpa using az
    rw [List.map_cons, loopA, addS_cons]
    simp only [gok_none, if_true, bindP_nm]
    simp [ou, ih]
noncomputable def cl2 : Bd (List (Key × U)) := clauseA ⟨(itAny (cArg (liftP P_asked_by) (cCons (cVar 5) cNil))), (.nm 6), cYes, [6]⟩ (outD (cVar 6) (cCst (.bl true)))
theorem cl2_ok (l : Ln) (env : Env') (S : Sto) (acc : List Str) (hl : env.length = 7) (h5 : env[5]? = some (some (encL l))) (hc : acc.length + l.asks.length ≤ 100000) : cl2 env (trK acc) S = some (trK (addS acc l.asks), S) := by
  have a := namA (wipeE env [6]) S (l.asks.map .str) (by simp [wipeE, hl]) l.asks acc hc
  have nr := noref_encL l
  have it : itAny (cArg (liftP P_asked_by) (cCons (cVar 5) cNil)) env S = some ((l.asks.map .str, none), S) := by
    unfold itAny
    simp [h5, asked_ln, nr]
  unfold cl2 clauseA
  simp only [it, a]
theorem namB (env : Env') (S : Sto) (us0 : List U) (hl : env.length = 7) : ∀ (ls : List Ln) (acc : List Str), acc.length + (ls.flatMap Ln.asks).length ≤ 100000 →
    loopA (.nm 5) cYes env none us0 cl2 (ls.map encL) (trK acc) S = some (trK (addS acc (ls.flatMap Ln.asks)), S)
  | [], acc, _ => by simp [loopA]
  | l :: ls, acc, hc => by
    simp at hc
    have g5 : (env.set 5 (some (encL l)))[5]? = some (some (encL l)) := List.getElem?_set_self (by omega)
    have c := cl2_ok l (env.set 5 (some (encL l))) S acc (by simp [hl]) g5 (by omega)
    have ih := namB env S us0 hl ls (addS acc l.asks) (by have := addS_len l.asks acc; simp; omega)
    rw [List.map_cons, loopA, List.flatMap_cons, addS_app]
    simp only [gok_none, if_true, bindP_nm]
    simp [c, ih]
noncomputable def cl1 : Bd (List (Key × U)) := clauseA ⟨(itAny (cBin (addU false) (cVar 3) (cArg oTup (cCons (cVar 4) cNil)))), (.nm 5), cYes, [5, 6]⟩ cl2
def allAsks (p : List Bk) : List Str := p.flatMap fun b => b.lines.flatMap Ln.asks
theorem namC (env : Env') (S : Sto) (us0 : List U) (hl : env.length = 7) : ∀ (p : List Bk) (acc : List Str), acc.length + (allAsks p).length ≤ 100000 → (∀ b ∈ p, b.rows.length ≤ 30000) →
    loopA (.tp [(.nm 2), (.nm 3), (.nm 4)]) cYes env none us0 cl1 (p.map encB) (trK acc) S = some (trK (addS acc (allAsks p)), S)
  | [], acc, _, _ => by simp [loopA, allAsks]
  | b :: p, acc, hc, hr => by
    have hb := hr b (by simp)
    have hc' : acc.length + (b.lines.flatMap Ln.asks).length + (allAsks p).length ≤ 100000 := by
      unfold allAsks at hc ⊢
      rw [List.flatMap_cons, List.length_append] at hc
      omega
    have ih := namC env S us0 hl p (addS acc (b.lines.flatMap Ln.asks)) (by have := addS_len (b.lines.flatMap Ln.asks) acc; omega) fun x hx => hr x (by simp [hx])
    rw [show allAsks (b :: p) = b.lines.flatMap Ln.asks ++ allAsks p from rfl, addS_app, List.map_cons, loopA]
    simp only [gok_none, if_true]
    rw [show bindP (.tp [(.nm 2), (.nm 3), (.nm 4)]) (encB b) = some [(2, .str b.name), (3, .tup (b.rows.map encR)), (4, encE b.en)] from rfl]
    obtain ⟨E, hE⟩ : ∃ E, setAll env [(2, .str b.name), (3, .tup (b.rows.map encR)), (4, encE b.en)] = E := ⟨_, rfl⟩
    have el : E.length = 7 := by rw [← hE]; simp [setAll, hl]
    have e3 : E[3]? = some (some (.tup (b.rows.map encR))) := by rw [← hE]; simp [setAll, hl]
    have e4 : E[4]? = some (some (encE b.en)) := by rw [← hE]; simp [setAll, hl]
    have z1 : (1 : Nat) ≤ sizeLine := le_size _ (by omega)
    have z2 : b.rows.length + 1 ≤ sizeLine := le_size _ (by omega)
    have eL : b.rows.map encR ++ [encE b.en] = b.lines.map encL := by unfold Bk.lines; simp [encL]
    have it : itAny (cBin (addU false) (cVar 3) (cArg oTup (cCons (cVar 4) cNil))) E S = some ((b.lines.map encL, none), S) := by
      rw [← eL]
      unfold itAny
      simp [e3, e4, z1, z2]
    have sa := namB (wipeE E [5, 6]) S (b.lines.map encL) (by simp [wipeE, el]) b.lines acc (by omega)
    have ca : cl1 E (trK acc) S = some (trK (addS acc (b.lines.flatMap Ln.asks)), S) := by
      unfold cl1 clauseA
      simp only [it, sa]
    simp only [hE]
    simp [ca, ih]
noncomputable def gvT : Cm Bool := (cTru (cBin (isN true) (cArg (liftP P_given_by) (cCons (cVar 5) cNil)) (cCst .non)))
theorem gvT_ok (r : Rw) (env : Env') (S : Sto) (h : env[5]? = some (some (encR r))) : gvT env S = some (r.gives.isSome, S) := by
  have g := given_row r
  unfold gvT
  cases hg : r.gives with
  | none => rw [hg] at g; simp [h, g, optS]
  | some x => rw [hg] at g; simp [h, g, optS]
theorem ix2_encR {r : Rw} {g : Str} (hg : r.gives = some g) (S : Sto) : ixU (encR r) (.int 2) S = some (.str g, S) := by
  cases r <;> simp [Rw.gives] at hg <;> subst hg <;> simp [encR]
noncomputable def gvO : Bd (List (Key × U)) := outD (cBin ixU (cVar 5) (cCst (.int 2))) (cCst (.bl true))
theorem gvA (env : Env') (S : Sto) (us0 : List U) (hl : env.length = 7) : ∀ (rs : List Rw) (acc : List Str), acc.length + rs.length ≤ 100000 →
    loopA (.nm 5) gvT env none us0 gvO (rs.map encR) (trK acc) S = some (trK (addS acc (rs.filterMap Rw.gives)), S)
  | [], acc, _ => by simp [loopA]
  | r :: rs, acc, hc => by
    simp at hc
    have g5 : (env.set 5 (some (encR r)))[5]? = some (some (encR r)) := List.getElem?_set_self (by omega)
    have ht := gvT_ok r (env.set 5 (some (encR r))) S g5
    have az : (trK acc).length < sizeLine := by have := le_size 200000 (by omega); simp; omega
    rw [List.map_cons, loopA]
    simp only [gok_none, if_true, bindP_nm]
    cases hg : r.gives with
    | none =>
      rw [hg] at ht
      have ih := gvA env S us0 hl rs acc (by omega)
      simp [ht, ih, hg]
    | some a =>
      rw [hg] at ht
      have hlen : (if a ∈ acc then acc else acc ++ [a]).length + rs.length ≤ 100000 := by
        by_cases h : a ∈ acc
        · rw [if_pos h]; omega
        · rw [if_neg h, List.length_append, List.length_singleton]; omega
      have ih := gvA env S us0 hl rs (if a ∈ acc then acc else acc ++ [a]) hlen
      have ou : gvO (env.set 5 (some (encR r))) (trK acc) S = some (trK (if a ∈ acc then acc else acc ++ [a]), S) := by
        unfold gvO outD
        rw [← put_trK]
        simp [-ixU_ap, g5, ix2_encR hg]
        simpa using az
      rw [List.filterMap_cons, hg]
      simp only
      rw [addS_cons]
      simp [ht, ou, ih]
noncomputable def cg1 : Bd (List (Key × U)) := clauseA ⟨(itAny (cVar 3)), (.nm 5), gvT, [5]⟩ gvO
def allGives (p : List Bk) : List Str := p.flatMap fun b => b.rows.filterMap Rw.gives
theorem gvC (env : Env') (S : Sto) (us0 : List U) (hl : env.length = 7) : ∀ (p : List Bk) (acc : List Str), acc.length + (p.flatMap Bk.rows).length ≤ 100000 →
    loopA (.tp [(.nm 2), (.nm 3), (.nm 4)]) cYes env none us0 cg1 (p.map encB) (trK acc) S = some (trK (addS acc (allGives p)), S)
  | [], acc, _ => by simp [loopA, allGives]
  | b :: p, acc, hc => by
    rw [List.flatMap_cons, List.length_append] at hc
    have fl : (b.rows.filterMap Rw.gives).length ≤ b.rows.length := List.length_filterMap_le _ _
    have ih := gvC env S us0 hl p (addS acc (b.rows.filterMap Rw.gives)) (by have := addS_len (b.rows.filterMap Rw.gives) acc; omega)
    rw [show allGives (b :: p) = b.rows.filterMap Rw.gives ++ allGives p from rfl, addS_app, List.map_cons, loopA]
    simp only [gok_none, if_true]
    rw [show bindP (.tp [(.nm 2), (.nm 3), (.nm 4)]) (encB b) = some [(2, .str b.name), (3, .tup (b.rows.map encR)), (4, encE b.en)] from rfl]
    obtain ⟨E, hE⟩ : ∃ E, setAll env [(2, .str b.name), (3, .tup (b.rows.map encR)), (4, encE b.en)] = E := ⟨_, rfl⟩
    have el : E.length = 7 := by rw [← hE]; simp [setAll, hl]
    have e3 : E[3]? = some (some (.tup (b.rows.map encR))) := by rw [← hE]; simp [setAll, hl]
    have it : itAny (cVar 3) E S = some ((b.rows.map encR, none), S) := by
      unfold itAny
      simp [e3]
    have sa := gvA (wipeE E [5]) S (b.rows.map encR) (by simp [wipeE, el]) b.rows acc (by omega)
    have ca : cg1 E (trK acc) S = some (trK (addS acc (b.rows.filterMap Rw.gives)), S) := by
      unfold cg1 clauseA
      simp only [it, sa]
    simp only [hE]
    simp [ca, ih]
/-- the names of a program -/
def nameSet (p : List Bk) : List Str := addS (addS [] (allAsks p)) (addS [] (allGives p))
theorem names_of_ok {p : List Bk} (h1 : (allAsks p).length ≤ 30000) (h2 : (p.flatMap Bk.rows).length ≤ 30000) (h3 : ∀ b ∈ p, b.rows.length ≤ 30000) (h4 : (nameSet p).length < 64) : P_names_of [encP p] = some (.lst ((sortS (nameSet p)).map .str)) := by
  have a := namC [some (encP p), none, none, none, none, none, none] [] (p.map encB) rfl p [] (by rw [List.length_nil]; omega) h3
  have g := gvC [some (encP p), some (.ref 0), none, none, none, none, none] [.dct (trK (addS [] (allAsks p)))] (p.map encB) rfl p [] (by rw [List.length_nil]; omega)
  have t0 : trK [] = [] := rfl
  rw [t0] at a g
  have g1 : (addS [] (allGives p)).length ≤ 30000 := by
    have := addS_len (allGives p) []
    have e : (allGives p).length ≤ (p.flatMap Bk.rows).length := by
      unfold allGives
      rw [← List.filterMap_flatMap]
      exact List.length_filterMap_le _ _
    simp at this
    omega
  have a1 : (addS [] (allAsks p)).length ≤ 30000 := by have := addS_len (allAsks p) []; simp at this; omega
  have z1 : (trK (addS [] (allAsks p))).length + (trK (addS [] (allGives p))).length ≤ sizeLine := le_size _ (by simp; omega)
  have sl : (sortS (nameSet p)).length = (nameSet p).length := List.length_mergeSort _
  have sz : (sortS (nameSet p)).length ≤ sizeLine := le_size _ (by omega)
  have it : ∀ y S, itAny (cVar 0) [some (encP p), y, none, none, none, none, none] S = some ((p.map encB, none), S) := fun y S => rfl
  have ca : cDcN true ⟨(itAny (cVar 0)), (.tp [(.nm 2), (.nm 3), (.nm 4)]), cYes, [2, 3, 4, 5, 6]⟩ (clauseA ⟨(itAny (cBin (addU false) (cVar 3) (cArg oTup (cCons (cVar 4) cNil)))), (.nm 5), cYes, [5, 6]⟩ (clauseA ⟨(itAny (cArg (liftP P_asked_by) (cCons (cVar 5) cNil))), (.nm 6), cYes, [6]⟩ (outD (cVar 6) (cCst (.bl true))))) [some (encP p), none, none, none, none, none, none] [] = some (.ref 0, [.dct (trK (addS [] (allAsks p)))]) := by
    unfold cl1 cl2 at a
    unfold cDcN
    rw [clauseA]
    simp only [it]
    rw [show wipeE [some (encP p), none, none, none, none, none, none] [2, 3, 4, 5, 6] = [some (encP p), none, none, none, none, none, none] from rfl, a]
    rfl
  have cb : cDcN false ⟨(itAny (cVar 0)), (.tp [(.nm 2), (.nm 3), (.nm 4)]), cYes, [2, 3, 4, 5]⟩ (clauseA ⟨(itAny (cVar 3)), (.nm 5), (cTru (cBin (isN true) (cArg (liftP P_given_by) (cCons (cVar 5) cNil)) (cCst .non))), [5]⟩ (outD (cBin ixU (cVar 5) (cCst (.int 2))) (cCst (.bl true)))) [some (encP p), some (.ref 0), none, none, none, none, none] [.dct (trK (addS [] (allAsks p)))] = some (.dct (trK (addS [] (allGives p))), [.dct (trK (addS [] (allAsks p)))]) := by
    unfold cg1 gvT gvO at g
    unfold cDcN
    rw [clauseA]
    simp only [it]
    rw [show wipeE [some (encP p), some (.ref 0), none, none, none, none, none] [2, 3, 4, 5] = [some (encP p), some (.ref 0), none, none, none, none, none] from rfl, g]
    rfl
  have up : updU (.ref 0) [.dct (trK (addS [] (allGives p)))] [.dct (trK (addS [] (allAsks p)))] = some (.non, [.dct (trK (nameSet p))]) := by
    have mm := merge_trK (addS [] (allGives p)) (addS [] (allAsks p))
    unfold updU nameSet
    simp only [List.getElem?_cons_zero, dctU_dct]
    rw [if_pos z1, mm]
    rfl
  have so : sortedU false (.ref 0) [.dct (trK (nameSet p))] = some (.lst ((sortS (nameSet p)).map .str), [.dct (trK (nameSet p))]) := by
    have : dctU [.dct (trK (nameSet p))] (.ref 0) = some (trK (nameSet p)) := rfl
    unfold sortedU
    simp only [this, strsK_trK]
    rw [if_pos h4]
    rfl
  have nr : norefs ((sortS (nameSet p)).map U.str) = true := norefs_all _ fun u hu => by
    obtain ⟨x, _, rfl⟩ := List.mem_map.mp hu
    rfl
  unfold P_names_of c_names_of
  simp [ca, cb, up, so, nr]
end K02

namespace K02
open PySem PySem.Spec PyProof.Rows L2 OF
/-! things all of whose parts are blocks -/
theorem dec_row {u : U} (h : rowB u = true) : ∃ r : Rw, u = encR r := by
  cases row_shape h with
  | put n x m => exact ⟨.put n x m, rfl⟩
  | copy n x a => exact ⟨.copy n x a, rfl⟩
  | two n w x a b hn hw =>
    simp only [List.mem_cons, List.not_mem_nil, or_false] at hw
    rcases hw with rfl | rfl | rfl | rfl | rfl | rfl
    · exact ⟨.bin .plus n x a b, rfl⟩
    · exact ⟨.bin .less n x a b, rfl⟩
    · exact ⟨.bin .times n x a b, rfl⟩
    · exact ⟨.bin .part n x a b, rfl⟩
    · exact ⟨.bin .same n x a b, rfl⟩
    · exact ⟨.bin .below n x a b, rfl⟩
  | ask n x => exact ⟨.ask n x, rfl⟩
  | say n x => exact ⟨.say n x, rfl⟩
theorem dec_end {u : U} (h : endB u = true) : ∃ e : En, u = encE e := by
  rcases end_shape h with ⟨a, _, rfl⟩ | ⟨a, b, c, _, _, _, _, rfl⟩ | rfl
  · exact ⟨.go a, rfl⟩
  · exact ⟨.iff a b c, rfl⟩
  · exact ⟨.stop, rfl⟩
theorem dec_rows : ∀ {us : List U}, us.all rowB = true → ∃ rs : List Rw, us = rs.map encR
  | [], _ => ⟨[], rfl⟩
  | u :: us, h => by
    simp only [List.all_cons, Bool.and_eq_true] at h
    obtain ⟨r, rfl⟩ := dec_row h.1
    obtain ⟨rs, rfl⟩ := dec_rows h.2
    exact ⟨r :: rs, rfl⟩
theorem dec_block {u : U} (h : blockB u = true) : ∃ b : Bk, u = encB b := by
  match u, h with
  | .tup [n, .tup rs, e], h =>
    simp only [blockB, Bool.and_eq_true] at h
    obtain ⟨h1, h2, h3⟩ := h
    obtain ⟨x, rfl⟩ := name_str h1
    obtain ⟨rr, rfl⟩ := dec_rows h2
    obtain ⟨ee, rfl⟩ := dec_end h3
    exact ⟨⟨x, rr, ee⟩, rfl⟩
theorem dec_prog : ∀ {us : List U}, us.all blockB = true → ∃ p : List Bk, us = p.map encB
  | [], _ => ⟨[], rfl⟩
  | u :: us, h => by
    simp only [List.all_cons, Bool.and_eq_true] at h
    obtain ⟨b, rfl⟩ := dec_block h.1
    obtain ⟨p, rfl⟩ := dec_prog h.2
    exact ⟨b :: p, rfl⟩
end K02

namespace K02
open PySem PySem.Spec PyProof.Rows L2 OF
/-! is all unlike? -/
theorem keysV_strs : ∀ xs : List Str, keysV (xs.map .str) = some (xs.map .inr)
  | [] => rfl
  | x :: xs => by simp [keysV, keyU, keysV_strs xs]
theorem keysV_ints : ∀ xs : List Int, keysV (xs.map .int) = some (xs.map .inl)
  | [] => rfl
  | x :: xs => by simp [keysV, keyU, keysV_ints xs]
def unl (ks : List Key) : Bool := decide ((ddK ks).length = ks.length)
theorem unlike_strs {xs : List Str} (h : xs.length ≤ 4000) : P_are_unlike [.lst (xs.map .str)] = some (.bl (unl (xs.map .inr))) := by
  unfold P_are_unlike c_are_unlike
  simp [keysV_strs, h, unl]
  omega
theorem unlike_ints {xs : List Int} (h : xs.length ≤ 4000) : P_are_unlike [.lst (xs.map .int)] = some (.bl (unl (xs.map .inl))) := by
  unfold P_are_unlike c_are_unlike
  simp [keysV_ints, h, unl]
  omega
theorem unl_of {ks : List Key} (h : ks.Nodup) : unl ks = true := by
  have go : ∀ (l a : List Key), (a ++ l).Nodup → (l.foldl addK a) = a ++ l := by
    intro l
    induction l with
    | nil => intro a _; simp
    | cons x l ih =>
      intro a hn
      have hx : ¬ memK x a = true := fun z => by
        have := memK_iff.mp z
        have hn2 := (List.nodup_append.mp hn).2.2
        exact hn2 x this x (by simp) rfl
      rw [List.foldl_cons]
      have e : addK a x = a ++ [x] := by unfold addK; rw [if_neg hx]
      rw [e, ih (a ++ [x]) (by simpa using hn)]
      simp
  have := go ks [] (by simpa using h)
  unfold unl ddK
  rw [this]
  simp
end K02

namespace K02
open PySem PySem.Spec PyProof.Rows L2 OF
def numsL (p : List Bk) : List Int := p.flatMap fun b => b.rows.map Rw.num
theorem ix0_row (r : Rw) (S : Sto) : ixU (encR r) (.int 0) S = some (.int r.num, S) := by cases r <;> rfl
def num0 (u : U) : List U := match ixU u (.int 0) [] with
  | some (v, _) => [v]
  | none => []
theorem num0_row (r : Rw) : num0 (encR r) = [.int r.num] := by unfold num0; rw [ix0_row]
theorem nums_in {b : Bk} {x0 e1 e2 e5 : Option U} {S : Sto} (a : List U) (ha : a.length + b.rows.length ≤ 10000) : clauseA ⟨(itAny (cBin ixU (cVar 3) (cCst (.int 1)))), (.nm 4), cYes, [4]⟩ (outL (cBin ixU (cVar 4) (cCst (.int 0)))) [x0, e1, e2, some (encB b), none, e5] a S = some (a ++ b.rows.map fun r => .int r.num, S) := by
  have fm : (b.rows.map encR).flatMap num0 = b.rows.map fun r => U.int r.num := by
    induction b.rows with
    | nil => rfl
    | cons r rs ih => rw [List.map_cons, List.flatMap_cons, ih, num0_row]; rfl
  have q := loopA_flat (pt := .nm 4) (body := outL (cBin ixU (cVar 4) (cCst (.int 0)))) (env := [x0, e1, e2, some (encB b), none, e5]) (S := S) (us0 := b.rows.map encR) num0 10000 (b.rows.map encR) a (by rw [fm]; simpa using ha) (by
    intro u hu
    obtain ⟨r, _, rfl⟩ := List.mem_map.mp hu
    refine ⟨_, rfl, fun a' ha' => ?_⟩
    rw [num0_row] at ha' ⊢
    have z : a'.length < sizeLine := by have := le_size 20000 (by omega); simp at ha'; omega
    have i0 := ix0_row r S
    simp [-ixU_ap, outL, i0, z])
  rw [fm] at q
  unfold clauseA
  have it : itAny (cBin ixU (cVar 3) (cCst (.int 1))) [x0, e1, e2, some (encB b), none, e5] S = some ((b.rows.map encR, none), S) := rfl
  simp only [it]
  exact q
theorem nums_ok {p : List Bk} {e1 e2 e3 e4 e5 : Option U} {S : Sto} (h : (numsL p).length ≤ 10000) : cLcN false ⟨(itAny (cVar 0)), (.nm 3), cYes, [3, 4]⟩ (clauseA ⟨(itAny (cBin ixU (cVar 3) (cCst (.int 1)))), (.nm 4), cYes, [4]⟩ (outL (cBin ixU (cVar 4) (cCst (.int 0))))) [some (encP p), e1, e2, e3, e4, e5] S = some (.lst ((numsL p).map .int), S) := by
  have fb : ∀ b : Bk, (match encB b with | .tup [_, .tup rs, _] => rs.flatMap num0 | _ => []) = b.rows.map fun r => U.int r.num := by
    intro b
    show (b.rows.map encR).flatMap num0 = _
    induction b.rows with
    | nil => rfl
    | cons r rs ih => rw [List.map_cons, List.flatMap_cons, ih, num0_row]; rfl
  have fm : (p.map encB).flatMap (fun u => match u with | .tup [_, .tup rs, _] => rs.flatMap num0 | _ => []) = (numsL p).map U.int := by
    unfold numsL
    clear h
    induction p with
    | nil => rfl
    | cons b p ih => rw [List.map_cons, List.flatMap_cons, ih, List.flatMap_cons, List.map_append]; congr 1; rw [fb]; simp
  have q := loopA_flat (pt := .nm 3) (body := clauseA ⟨(itAny (cBin ixU (cVar 3) (cCst (.int 1)))), (.nm 4), cYes, [4]⟩ (outL (cBin ixU (cVar 4) (cCst (.int 0))))) (env := [some (encP p), e1, e2, none, none, e5]) (S := S) (us0 := p.map encB) (fun u => match u with | .tup [_, .tup rs, _] => rs.flatMap num0 | _ => []) 10000 (p.map encB) [] (by rw [fm]; simpa using h) (by
    intro u hu
    obtain ⟨b, _, rfl⟩ := List.mem_map.mp hu
    refine ⟨_, rfl, fun a' ha' => ?_⟩
    rw [fb] at ha' ⊢
    exact nums_in a' (by simpa using ha'))
  rw [fm] at q
  unfold cLcN
  rw [clauseA]
  have it : itAny (cVar 0) [some (encP p), e1, e2, e3, e4, e5] S = some ((p.map encB, none), S) := rfl
  simp only [it]
  rw [show wipeE [some (encP p), e1, e2, e3, e4, e5] [3, 4] = [some (encP p), e1, e2, none, none, e5] from rfl, q]
  simp
end K02

namespace K02
open PySem PySem.Spec PyProof.Rows L2 OF
theorem goals_enc (e : En) : P_goals_in [encE e] = some (.tup (e.goals.map .str)) := by
  unfold P_goals_in c_goals_in
  cases e with
  | go b => simp [encE, En.goals, tab_END_PARTS, List.lookup, sg_b, zipU, s98, noref, norefs]
  | iff a b c => simp [encE, En.goals, tab_END_PARTS, List.lookup, sg_abb, zipU, s98, s97, noref, norefs]
  | stop => simp [encE, En.goals, tab_END_PARTS, List.lookup, sg_e, zipU, noref, norefs]
def goalsL (p : List Bk) : List Str := p.flatMap fun b => b.en.goals
theorem in_names (g : Str) (ns : List Str) (S : Sto) : inU false (.str g) (.lst (ns.map .str)) S = some (.bl (decide (g ∈ ns)), S) := by
  have fl : (ns.map U.str).all flatU = true := by
    rw [List.all_eq_true]
    intro u hu
    obtain ⟨x, _, rfl⟩ := List.mem_map.mp hu
    rfl
  have e := anyF_str g ns
  unfold inU inB
  simp only [itmU_lst]
  rw [if_pos ⟨rfl, fl⟩, e]
  rfl
theorem goals_cl {b : Bk} {x0 e2 e4 : Option U} {ns : List Str} {S : Sto} (a : List U) (ha : a.length + b.en.goals.length ≤ 10000) : clauseA ⟨(itAny (cArg (liftP P_goals_in) (cCons (cBin ixU (cVar 3) (cCst (.int 2))) cNil))), (.nm 5), cYes, [5]⟩ (outL (cBin (inU false) (cVar 5) (cVar 1))) [x0, some (.lst (ns.map .str)), e2, some (encB b), e4, none] a S = some (a ++ b.en.goals.map fun g => .bl (decide (g ∈ ns)), S) := by
  let f : U → List U := fun u => match u with | .str g => [.bl (decide (g ∈ ns))] | _ => []
  have fm : (b.en.goals.map U.str).flatMap f = b.en.goals.map fun g => U.bl (decide (g ∈ ns)) := by
    induction b.en.goals with
    | nil => rfl
    | cons r rs ih => rw [List.map_cons, List.flatMap_cons, ih]; rfl
  have q := loopA_flat (pt := .nm 5) (body := outL (cBin (inU false) (cVar 5) (cVar 1))) (env := [x0, some (.lst (ns.map .str)), e2, some (encB b), e4, none]) (S := S) (us0 := b.en.goals.map U.str) f 10000 (b.en.goals.map U.str) a (by rw [fm]; simpa using ha) (by
    intro u hu
    obtain ⟨r, _, rfl⟩ := List.mem_map.mp hu
    refine ⟨_, rfl, fun a' ha' => ?_⟩
    have ha2 : a'.length + 1 ≤ 10000 := ha'
    have z : a'.length < sizeLine := by have := le_size 20000 (by omega); omega
    have i0 := in_names r ns S
    show outL (cBin (inU false) (cVar 5) (cVar 1)) [x0, some (.lst (ns.map .str)), e2, some (encB b), e4, some (.str r)] a' S = some (a' ++ [.bl (decide (r ∈ ns))], S)
    have c : cBin (inU false) (cVar 5) (cVar 1) [x0, some (.lst (ns.map .str)), e2, some (encB b), e4, some (.str r)] S = some (.bl (decide (r ∈ ns)), S) := i0
    unfold outL
    rw [c]
    simp only [if_pos z])
  rw [fm] at q
  unfold clauseA
  have i2 : ixU (encB b) (.int 2) S = some (encE b.en, S) := rfl
  have it : itAny (cArg (liftP P_goals_in) (cCons (cBin ixU (cVar 3) (cCst (.int 2))) cNil)) [x0, some (.lst (ns.map .str)), e2, some (encB b), e4, none] S = some ((b.en.goals.map U.str, none), S) := by
    have g := goals_enc b.en
    have nr := noref_encE b.en
    simp [-ixU_ap, itAny, i2, g, nr, norefs]
  simp only [it]
  exact q
theorem goals_ok {p : List Bk} {e2 e3 e4 e5 : Option U} {ns : List Str} {S : Sto} (h : (goalsL p).length ≤ 10000) : cLcN false ⟨(itAny (cVar 0)), (.nm 3), cYes, [3, 5]⟩ (clauseA ⟨(itAny (cArg (liftP P_goals_in) (cCons (cBin ixU (cVar 3) (cCst (.int 2))) cNil))), (.nm 5), cYes, [5]⟩ (outL (cBin (inU false) (cVar 5) (cVar 1)))) [some (encP p), some (.lst (ns.map .str)), e2, e3, e4, e5] S = some (.lst ((goalsL p).map fun g => .bl (decide (g ∈ ns))), S) := by
  let f : U → List U := fun u => match P_goals_in [match u with | .tup [_, _, e] => e | _ => .non] with | some (.tup gs) => gs.map (fun (g : U) => match g with | .str g => U.bl (decide (g ∈ ns)) | _ => .non) | _ => []
  have fb : ∀ b : Bk, f (encB b) = b.en.goals.map fun g => U.bl (decide (g ∈ ns)) := by
    intro b
    show (match P_goals_in [encE b.en] with | some (.tup gs) => gs.map (fun (g : U) => match g with | .str g => U.bl (decide (g ∈ ns)) | _ => .non) | _ => []) = _
    rw [goals_enc]
    simp
  have fm : (p.map encB).flatMap f = (goalsL p).map fun g => U.bl (decide (g ∈ ns)) := by
    unfold goalsL
    clear h
    induction p with
    | nil => rfl
    | cons b p ih => rw [List.map_cons, List.flatMap_cons, ih, List.flatMap_cons, List.map_append, fb]
  have q := loopA_flat (pt := .nm 3) (body := clauseA ⟨(itAny (cArg (liftP P_goals_in) (cCons (cBin ixU (cVar 3) (cCst (.int 2))) cNil))), (.nm 5), cYes, [5]⟩ (outL (cBin (inU false) (cVar 5) (cVar 1)))) (env := [some (encP p), some (.lst (ns.map .str)), e2, none, e4, none]) (S := S) (us0 := p.map encB) f 10000 (p.map encB) [] (by rw [fm]; simpa using h) (by
    intro u hu
    obtain ⟨b, _, rfl⟩ := List.mem_map.mp hu
    refine ⟨_, rfl, fun a' ha' => ?_⟩
    rw [fb] at ha' ⊢
    exact goals_cl a' (by simpa using ha'))
  rw [fm] at q
  unfold cLcN
  rw [clauseA]
  have it : itAny (cVar 0) [some (encP p), some (.lst (ns.map .str)), e2, e3, e4, e5] S = some ((p.map encB, none), S) := rfl
  simp only [it]
  rw [show wipeE [some (encP p), some (.lst (ns.map .str)), e2, e3, e4, e5] [3, 5] = [some (encP p), some (.lst (ns.map .str)), e2, none, e4, none] from rfl, q]
  simp
end K02

namespace K02
open PySem PySem.Spec PyProof.Rows L2 OF
/-! is a thing a program? -/
def progP (p : List Bk) : Bool := unl ((p.map Bk.name).map .inr) && (unl ((numsL p).map .inl) && (decide ((numsL p).length ≤ 100) && (decide ((nameSet p).length ≤ 12) && (goalsL p).all fun g => decide (g ∈ p.map Bk.name))))
structure Sml (p : List Bk) : Prop where
  asks : (allAsks p).length ≤ 30000
  rows : (p.flatMap Bk.rows).length ≤ 4000
  names : (nameSet p).length < 64
theorem numsL_len (p : List Bk) : (numsL p).length = (p.flatMap Bk.rows).length := by
  unfold numsL
  induction p with
  | nil => rfl
  | cons b p ih => simp [ih]
theorem rows_le {p : List Bk} {b : Bk} (hb : b ∈ p) : b.rows.length ≤ (p.flatMap Bk.rows).length := by
  induction p with
  | nil => simp at hb
  | cons c p ih =>
    rw [List.flatMap_cons, List.length_append]
    rcases List.mem_cons.mp hb with rfl | hb
    · omega
    · have := ih hb; omega
theorem goals2_ (e : En) : e.goals.length ≤ 2 := by cases e <;> simp [En.goals]
theorem goalsL_len (p : List Bk) : (goalsL p).length ≤ 2 * p.length := by
  unfold goalsL
  induction p with
  | nil => simp
  | cons b p ih => have := goals2_ b.en; rw [List.flatMap_cons, List.length_append, List.length_cons]; omega
theorem heads {c : Cm U} (env : Env') (S : Sto) (j : Nat) : ∀ (p : List Bk), (∀ b ∈ p, c (env.set j (some (encB b))) S = some (.str b.name, S)) → mapC (.nm j) cYes c env (p.map encB) S = some ((p.map Bk.name).map .str, S)
  | [], _ => rfl
  | b :: p, h => by
    have ih := heads env S j p fun v hv => h v (by simp [hv])
    simp [-mapC_cons, mapC, bindP, cYes, h b (by simp), ih]
theorem bls (p : List Bk) (ns : List Str) : boolsU ((goalsL p).map fun g => U.bl (decide (g ∈ ns))) = some ((goalsL p).map fun g => decide (g ∈ ns)) := boolsU_map (fun g => decide (g ∈ ns)) (goalsL p)
theorem strs_nr (l : List Str) : norefs (l.map U.str) = true := norefs_all _ fun u hu => by
  obtain ⟨x, _, rfl⟩ := List.mem_map.mp hu
  rfl
theorem ints_nr (l : List Int) : norefs (l.map U.int) = true := norefs_all _ fun u hu => by
  obtain ⟨x, _, rfl⟩ := List.mem_map.mp hu
  rfl
theorem is_program_enc {p : List Bk} (hf : few (encP p)) (h0 : 1 ≤ p.length) (h1 : p.length ≤ 24) (hb : (p.map encB).all blockB = true) (hs : Sml p) : P_is_program [encP p] = some (.bl (progP p)) := by
  have hN := rows_all (f := blockB) (c := cArg (liftP P_is_block) (cCons (cVar 3) cNil)) [some (encP p), none, none, none, none, none] [] 3 (p.map encB) (fun u hu => by have := few_mem hf u hu; simp [is_block_ok this, norefs, few_noref this])
  have hB := boolsU_map blockB (p.map encB)
  have hZ : p.length ≤ sizeLine := le_size _ (by omega)
  have hH := heads (c := cBin ixU (cVar 3) (cCst (.int 0))) [some (encP p), none, none, none, none, none] [] 3 p (fun b _ => rfl)
  have nl := numsL_len p
  have hr := hs.rows
  have hnu := fun (e1 e2 e3 e4 e5 : Option U) => nums_ok (p := p) (e1 := e1) (e2 := e2) (e3 := e3) (e4 := e4) (e5 := e5) (S := []) (by omega)
  have u1 := unlike_strs (xs := p.map Bk.name) (by simp; omega)
  have u2 := unlike_ints (xs := numsL p) (by omega)
  have nm := names_of_ok (p := p) hs.asks (by omega) (fun b hb => by have := rows_le hb; omega) hs.names
  have gl := goalsL_len p
  have go := fun (e2 e3 e4 e5 : Option U) => goals_ok (p := p) (e2 := e2) (e3 := e3) (e4 := e4) (e5 := e5) (ns := p.map Bk.name) (S := []) (by omega)
  have gb := bls p (p.map Bk.name)
  have nr := noref_encP p
  have n1 := strs_nr (p.map Bk.name)
  have n2 := ints_nr (numsL p)
  have sl : (sortS (nameSet p)).length = (nameSet p).length := List.length_mergeSort _
  have he : encP p = .tup (p.map encB) := rfl
  have h0' : (1 : Int) ≤ (p.length : Int) := by omega
  have h1' : (p.length : Int) ≤ 24 := by omega
  unfold P_is_program c_is_program progP
  simp only [he] at hN hH hnu nm go nr ⊢
  have S1 : ∀ X : Prop, X → X := fun _ h => h
  cases q1 : unl ((p.map Bk.name).map .inr)
  · rw [q1] at u1
    simp [-mapC_cons, -List.map_map, -List.all_map, -List.mem_map, map_id_all, hN, hB, hZ, hb, h0, h1, h0', h1', hH, hnu, u1, nr, n1, n2, norefs]
  rw [q1] at u1
  cases q2 : unl ((numsL p).map .inl)
  · rw [q2] at u2
    simp [-mapC_cons, -List.map_map, -List.all_map, -List.mem_map, map_id_all, hN, hB, hZ, hb, h0, h1, h0', h1', hH, hnu, u1, u2, nr, n1, n2, norefs]
  rw [q2] at u2
  by_cases q3 : (numsL p).length ≤ 100
  · have q3' : ¬ (100 : Int) < ((numsL p).length : Int) := by omega
    by_cases q4 : (nameSet p).length ≤ 12
    · have q4' : ¬ (12 : Int) < ((nameSet p).length : Int) := by omega
      simp [-mapC_cons, -List.map_map, -List.all_map, -List.mem_map, map_id_all, hN, hB, hZ, hb, h0, h1, h0', h1', hH, hnu, u1, u2, nr, n1, n2, norefs, nm, q3, q3', q4, q4', sl, go, gb]
    · have q4' : (12 : Int) < ((nameSet p).length : Int) := by omega
      simp [-mapC_cons, -List.map_map, -List.all_map, -List.mem_map, map_id_all, hN, hB, hZ, hb, h0, h1, h0', h1', hH, hnu, u1, u2, nr, n1, n2, norefs, nm, q3, q3', q4, q4', sl]
  · have q3' : (100 : Int) < ((numsL p).length : Int) := by omega
    simp [-mapC_cons, -List.map_map, -List.all_map, -List.mem_map, map_id_all, hN, hB, hZ, hb, h0, h1, h0', h1', hH, hnu, u1, u2, nr, n1, n2, norefs, q3, q3']
end K02

namespace K02
open PySem PySem.Spec PyProof.Rows L2 OF
/-! what is no program -/
theorem no_other {u : U} (h : ∀ us, u ≠ .tup us) (hd : dat (10 ^ 300) u = true) : P_is_program [u] = some (.bl false) := by
  cases u <;> first | (simp [dat] at hd; done) | (unfold P_is_program c_is_program; simp; done) | skip
  exact absurd rfl (h _)
theorem no_int (i : Int) : P_is_program [.int i] = some (.bl false) := by unfold P_is_program c_is_program; simp
theorem no_long {us : List U} (h : 24 < us.length) : P_is_program [.tup us] = some (.bl false) := by
  have a : (1 : Int) ≤ (us.length : Int) := by omega
  have c : ¬ (us.length : Int) ≤ 24 := by omega
  have c2 : ¬ us.length ≤ 24 := by omega
  have c3 : 1 ≤ us.length := by omega
  unfold P_is_program c_is_program
  simp [a, c, c2, c3]
theorem no_blocks {us : List U} (hf : few (.tup us)) (hb : us.all blockB = false) : P_is_program [.tup us] = some (.bl false) := by
  have hl := few_len hf
  have hZ : us.length ≤ sizeLine := le_size _ (by omega)
  by_cases h1 : 1 ≤ us.length ∧ us.length ≤ 24
  · have h0' : (1 : Int) ≤ (us.length : Int) := by omega
    have h1' : (us.length : Int) ≤ 24 := by omega
    have hN := rows_all (f := blockB) (c := cArg (liftP P_is_block) (cCons (cVar 3) cNil)) [some (.tup us), none, none, none, none, none] [] 3 us (fun u hu => by have := few_mem hf u hu; simp [is_block_ok this, norefs, few_noref this])
    have hB := boolsU_map blockB us
    unfold P_is_program c_is_program
    simp [-mapC_cons, -List.map_map, -List.all_map, map_id_all, hN, hB, hZ, hb, h0', h1', h1.1, h1.2]
  · by_cases h2 : 1 ≤ us.length
    · exact no_long (by omega)
    · have : us = [] := by cases us <;> simp at h2 ⊢
      subst this
      unfold P_is_program c_is_program
      simp
theorem is_ok (b c : Bool) : P__law_is [.bl b, .bl c] = some (.bl (b == c)) := by
  unfold P__law_is c__law_is
  cases b <;> cases c <;> simp <;> rfl
/-- small programs -/
structure Fine (p : List Bk) : Prop where
  f : few (encP p)
  l0 : 1 ≤ p.length
  l1 : p.length ≤ 24
  b : (p.map encB).all blockB = true
  s : Sml p
theorem fine_isp {p : List Bk} (h : Fine p) : P_is_program [encP p] = some (.bl (progP p)) := is_program_enc h.f h.l0 h.l1 h.b h.s
def fineB (p : List Bk) : Bool := (dat (10 ^ 40) (encP p) && decide (wt (encP p) ≤ 30000)) && (decide (1 ≤ p.length) && decide (p.length ≤ 24) && ((p.map encB).all blockB && (decide ((allAsks p).length ≤ 30000) && (decide ((p.flatMap Bk.rows).length ≤ 4000) && decide ((nameSet p).length < 64)))))
theorem fine_of {p : List Bk} (h : fineB p = true) : Fine p := by
  unfold fineB at h
  simp only [Bool.and_eq_true, decide_eq_true_eq] at h
  obtain ⟨⟨a, b⟩, ⟨c, d⟩, e, f, g, i⟩ := h
  exact ⟨⟨a, b⟩, c, d, e, f, g, i⟩
def mkP (r : Rw) (k : Nat) (e e2 : En) (rev : Bool) : List Bk :=
  let l : List Bk := [⟨"here", (List.range k).map (fun (i : Nat) => Rw.ask (100 + (i : Int)) "a") ++ [r], e⟩, ⟨"there", [], e2⟩]
  if rev then l.reverse else l
def goodR : List Rw := [.put 1 "a" 0, .put 9999 "a" 1000002, .say 1 "abcdefgh", .bin .plus 1 "a" "a" "a"]
def endsL : List (En × Bool) := [(.go "here", true), (.go "there", true), (.go "nowhere", false), (.stop, true), (.iff "a" "here" "there", true)]
def ends2 : List En := [.stop, .go "here"]
theorem small_dec : (goodR.all fun r => [0, 1, 2, 3].all fun k => endsL.all fun e => ends2.all fun e2 => [false, true].all fun rev => fineB (mkP r k e.1 e2 rev) && (progP (mkP r k e.1 e2 rev) == e.2)) = true := by decide +kernel
theorem small_ok {r : Rw} {k : Nat} {e : En × Bool} {e2 : En} {rev : Bool} (h1 : r ∈ goodR) (h2 : k ∈ [0, 1, 2, 3]) (h3 : e ∈ endsL) (h4 : e2 ∈ ends2) : P_is_program [encP (mkP r k e.1 e2 rev)] = some (.bl e.2) := by
  have h := List.all_eq_true.mp (List.all_eq_true.mp (List.all_eq_true.mp (List.all_eq_true.mp (List.all_eq_true.mp small_dec r h1) k h2) e h3) e2 h4) rev (by cases rev <;> simp)
  rw [Bool.and_eq_true] at h
  rw [fine_isp (fine_of h.1), eq_of_beq h.2]
end K02

namespace K02
open PySem PySem.Spec PyProof.Rows L2 OF
def rowsU : List (U × Bool) := [(.tup [.int 1, .str "put", .str "a", .int 0], true), (.tup [.int 9999, .str "put", .str "a", .int 1000002], true), (.tup [.int 0, .str "put", .str "a", .int 0], false),
  (.tup [.int 10000, .str "put", .str "a", .int 0], false), (.tup [.int 1, .str "put", .str "a", .int 1000003], false), (.tup [.int 1, .str "put", .str "a", .int (-1)], false),
  (.tup [.int 1, .str "say", .str "abcdefgh"], true), (.tup [.int 1, .str "say", .str "abcdefghi"], false), (.tup [.int 1, .str "say", .str ""], false),
  (.tup [.int 1, .str "put", .str "a", .bl true], false), (.tup [.bl true, .str "put", .str "a", .int 0], false), (.tup [.int 1, .str "plus", .str "a", .str "a", .str "a"], true)]
def endsU : List (U × Bool) := [(.tup [.str "go", .str "here"], true), (.tup [.str "go", .str "there"], true), (.tup [.str "go", .str "nowhere"], false), (.tup [.str "stop"], true), (.tup [.str "if", .str "a", .str "here", .str "there"], true), (.tup [.str "if", .str "a", .str "here", .str "here"], false)]
def ends2U : List U := [.tup [.str "stop"], .tup [.str "go", .str "here"]]
def asksU (k : Nat) : List U := (List.range k).map fun (i : Nat) => U.tup [.int (100 + (i : Int)), .str "ask", .str "a"]
def mkU (row : U) (k : Nat) (e e2 : U) (rev : Bool) : List U :=
  if rev then [.tup [.str "there", .tup [], e2], .tup [.str "here", .tup (asksU k ++ [row]), e]] else [.tup [.str "here", .tup (asksU k ++ [row]), e], .tup [.str "there", .tup [], e2]]
def badB (us : List U) : Bool := dat (10 ^ 40) (.tup us) && (decide (wt (.tup us) ≤ 30000) && !us.all blockB)
/-- rows and ends by their places -/
theorem bad_dec : ((List.range 12).all fun i => [0, 1, 2, 3].all fun k => (List.range 6).all fun j => ends2U.all fun e2 => [false, true].all fun rev =>
    ((i == 0 || i == 1 || i == 6 || i == 11) && j != 5) || (badB (mkU (rowsU.getD i (.non, false)).1 k (endsU.getD j (.non, false)).1 e2 rev) && !((rowsU.getD i (.non, false)).2 && (endsU.getD j (.non, false)).2))) = true := by decide +kernel
theorem mkU_enc (r : Rw) (k : Nat) (e e2 : En) (rev : Bool) : .tup (mkU (encR r) k (encE e) (encE e2) rev) = encP (mkP r k e e2 rev) := by
  have ha : asksU k ++ [encR r] = ((List.range k).map (fun (i : Nat) => Rw.ask (100 + (i : Int)) "a") ++ [r]).map encR := by
    unfold asksU
    rw [List.map_append, List.map_map]
    rfl
  unfold mkU mkP encP
  cases rev
  · simp only [Bool.false_eq_true, if_false, List.map_cons, List.map_nil, encB]
    rw [ha]
  · simp only [if_true, List.reverse_cons, List.reverse_nil, List.nil_append, List.cons_append, List.map_cons, List.map_nil, encB]
    rw [ha]
theorem small_all {i j k : Nat} {e2 : U} {rev : Bool} (hi : i < 12) (hk : k < 4) (hj : j < 6) (he : e2 ∈ ends2U) : P_is_program [.tup (mkU (rowsU.getD i (.non, false)).1 k (endsU.getD j (.non, false)).1 e2 rev)] = some (.bl ((rowsU.getD i (.non, false)).2 && (endsU.getD j (.non, false)).2)) := by
  have hk' : k ∈ [0, 1, 2, 3] := by
    have : k = 0 ∨ k = 1 ∨ k = 2 ∨ k = 3 := by omega
    simpa using this
  have h := List.all_eq_true.mp (List.all_eq_true.mp (List.all_eq_true.mp (List.all_eq_true.mp (List.all_eq_true.mp bad_dec i (List.mem_range.mpr hi)) k hk') j (List.mem_range.mpr hj)) e2 he) rev (by cases rev <;> simp)
  rw [Bool.or_eq_true] at h
  rcases h with h | h
  · have he2 : ∃ x ∈ ends2, e2 = encE x := by
      simp only [ends2U, List.mem_cons, List.not_mem_nil, or_false] at he
      rcases he with rfl | rfl
      · exact ⟨.stop, by simp [ends2], rfl⟩
      · exact ⟨.go "here", by simp [ends2], rfl⟩
    obtain ⟨x, hx, rfl⟩ := he2
    have hr : ∃ r ∈ goodR, (rowsU.getD i (.non, false)) = (encR r, true) := by
      simp only [Bool.and_eq_true, Bool.or_eq_true, beq_iff_eq] at h
      rcases h.1 with ((rfl | rfl) | rfl) | rfl
      · exact ⟨.put 1 "a" 0, by simp [goodR], rfl⟩
      · exact ⟨.put 9999 "a" 1000002, by simp [goodR], rfl⟩
      · exact ⟨.say 1 "abcdefgh", by simp [goodR], rfl⟩
      · exact ⟨.bin .plus 1 "a" "a" "a", by simp [goodR], rfl⟩
    have hje : ∃ y ∈ endsL, (endsU.getD j (.non, false)) = (encE y.1, y.2) := by
      have h5 : j ≠ 5 := by
        simp only [Bool.and_eq_true, bne_iff_ne] at h
        exact h.2
      have : j = 0 ∨ j = 1 ∨ j = 2 ∨ j = 3 ∨ j = 4 := by omega
      rcases this with rfl | rfl | rfl | rfl | rfl
      · exact ⟨(.go "here", true), by simp [endsL], rfl⟩
      · exact ⟨(.go "there", true), by simp [endsL], rfl⟩
      · exact ⟨(.go "nowhere", false), by simp [endsL], rfl⟩
      · exact ⟨(.stop, true), by simp [endsL], rfl⟩
      · exact ⟨(.iff "a" "here" "there", true), by simp [endsL], rfl⟩
    obtain ⟨r, hr1, hr2⟩ := hr
    obtain ⟨y, hy1, hy2⟩ := hje
    rw [hr2, hy2]
    simp only [Bool.true_and]
    rw [mkU_enc, small_ok hr1 hk' hy1 hx]
  · rw [Bool.and_eq_true] at h
    have hf : ((rowsU.getD i (.non, false)).2 && (endsU.getD j (.non, false)).2) = false := by have := h.2; rw [Bool.not_eq_true'] at this; exact this
    rw [hf]
    have hb := h.1
    unfold badB at hb
    simp only [Bool.and_eq_true, decide_eq_true_eq, Bool.not_eq_true'] at hb
    exact no_blocks ⟨hb.1, hb.2.1⟩ hb.2.2
theorem asks_map (env : Env') (S : Sto) (hl : env.length = 11) : ∀ ks : List Nat, mapC (.nm 10) cYes (cArg oTup (cCons (cBin (addU false) (cCst (.int 100)) (cVar 10)) (cCons (cCst (.str "ask")) (cCons (cCst (.str "a")) cNil)))) env (ks.map fun (i : Nat) => U.int (i : Int)) S = some (ks.map (fun (i : Nat) => U.tup [.int (100 + (i : Int)), .str "ask", .str "a"]), S)
  | [] => rfl
  | k :: ks => by
    have ih := asks_map env S hl ks
    have g : (env.set 10 (some (.int (k : Int))))[10]? = some (some (.int (k : Int))) := List.getElem?_set_self (by omega)
    rw [List.map_cons, List.map_cons, mapC_cons]
    simp [-mapC_cons, g, ih]
theorem getD_mem {α : Type} {l : List α} {x d : α} (h : x ∈ l) : ∃ i, i < l.length ∧ l.getD i d = x := by
  obtain ⟨i, hi, e⟩ := List.mem_iff_getElem.mp h
  exact ⟨i, hi, by rw [List.getD_eq_getElem?_getD, List.getElem?_eq_getElem hi]; exact e⟩
section
variable {S : Sto} {h : Nat} {cs : List O}
theorem small_wp {g b : Int} {Q : U × Sto → Prop} (hh : h < S.length) (hk : Hok g b)
    (q : ∀ us fl g' b', P_is_program [.tup us] = some (.bl fl) → noref (.tup us) = true → Hok g' b' → Q (.tup [.tup us, .bl fl], St S h (hnd g' b') cs)) : wp (F__law_small [.ref h] (St S h (hnd g b) cs)) Q := by
  have z : ∀ m : Nat, m ≤ 100 → m ≤ sizeLine := fun m hm => le_size _ (by omega)
  have z1 := z 6 (by omega)
  have z2 := z 9 (by omega)
  have z3 := z 12 (by omega)
  unfold F__law_small c__law_small
  simp [-mapC_cons, -wq_map, z1, z2, z3]
  refine pick_wp hh hk (by simp) (by simp) fun u g1 b1 hu k1 => ?_
  obtain ⟨⟨row, fl⟩, hm, rfl⟩ := List.mem_map.mp (show u ∈ rowsU.map fun p => U.tup [p.1, .bl p.2] from hu)
  simp [-mapC_cons, -wq_map]
  refine take_wp hh k1 (by omega) (by omega) fun t g2 b2 t0 t1 k2 => ?_
  obtain ⟨k, rfl⟩ : ∃ k : Nat, t = k := ⟨t.toNat, by omega⟩
  have k3 : (-4611686018427387904 : Int) ≤ k := by omega
  have k4 : (k : Int) < 4611686018427387904 := by omega
  have am := fun env S hl => asks_map env S hl (List.range k)
  have ak : (List.range k).map (fun (i : Nat) => U.tup [.int (100 + (i : Int)), .str "ask", .str "a"]) = asksU k := rfl
  rw [ak] at am
  have al : (asksU k).length = k := by simp [asksU]
  have az := z k (by omega)
  have az1 := z (k + 1) (by omega)
  simp [-mapC_cons, -wq_map, k3, k4, rangeU_eq, am, al, az]
  refine pick_wp hh k2 (by simp) (by simp) fun u g3 b3 hu3 k5 => ?_
  obtain ⟨⟨e, fl2⟩, hm2, rfl⟩ := List.mem_map.mp (show u ∈ endsU.map fun p => U.tup [p.1, .bl p.2] from hu3)
  simp [-mapC_cons, -wq_map]
  refine pick_wp hh k5 (by simp) (by simp) fun e2 g4 b4 hu4 k6 => ?_
  have he2 : e2 ∈ ends2U := hu4
  simp [-mapC_cons, -wq_map, al, az1]
  refine pick_wp hh k6 (by simp) (by simp) fun st g5 b5 hu5 k7 => ?_
  obtain ⟨i, hi, ei⟩ := getD_mem (d := (U.non, false)) hm
  obtain ⟨j, hj, ej⟩ := getD_mem (d := (U.non, false)) hm2
  have nrr : noref row = true := by
    have : ∀ p ∈ rowsU, noref p.1 = true := by
      intro p hp
      simp only [rowsU, List.mem_cons, List.not_mem_nil, or_false] at hp
      rcases hp with rfl | rfl | rfl | rfl | rfl | rfl | rfl | rfl | rfl | rfl | rfl | rfl <;> rfl
    exact this _ hm
  have nre : noref e = true := by
    have : ∀ p ∈ endsU, noref p.1 = true := by
      intro p hp
      simp only [endsU, List.mem_cons, List.not_mem_nil, or_false] at hp
      rcases hp with rfl | rfl | rfl | rfl | rfl | rfl <;> rfl
    exact this _ hm2
  have nr2 : noref e2 = true := by
    simp only [ends2U, List.mem_cons, List.not_mem_nil, or_false] at he2
    rcases he2 with rfl | rfl <;> rfl
  have nra : norefs (asksU k) = true := norefs_all _ fun u hu => by
    obtain ⟨x, _, rfl⟩ := List.mem_map.mp hu
    rfl
  have key : ∀ rev, P_is_program [.tup (mkU row k e e2 rev)] = some (.bl (fl && fl2)) ∧ noref (.tup (mkU row k e e2 rev)) = true := by
    intro rev
    have := small_all (rev := rev) hi (show k < 4 by omega) hj he2
    rw [ei, ej] at this
    refine ⟨this, ?_⟩
    have na : norefs (asksU k ++ [row]) = true := norefs_all _ fun u hu => by
      rcases List.mem_append.mp hu with hu | hu
      · obtain ⟨x, _, rfl⟩ := List.mem_map.mp hu
        rfl
      · rw [List.mem_singleton.mp hu]; exact nrr
    unfold mkU
    cases rev <;> simp [noref, norefs, na, nre, nr2]
  simp only [List.mem_cons, List.not_mem_nil, or_false] at hu5
  rcases hu5 with rfl | rfl
  · obtain ⟨a1, a2⟩ := key false
    cases fl <;> simp [-mapC_cons, -wq_map] <;> exact q _ _ _ _ a1 a2 k7
  · obtain ⟨a1, a2⟩ := key true
    cases fl <;> simp [-mapC_cons, -wq_map] <;> exact q _ _ _ _ a1 a2 k7
end
end K02

namespace K02
open PySem PySem.Spec PyProof.Rows L2 OF
/-! deep and wide things -/
/-- wrapped n times -/
structure Dp (n : Nat) (u : U) : Prop where
  a : dat (10 ^ 40) u = true
  w : wt u ≤ 20 + 4 * n
  nb : 1 ≤ n → blockB u = false
  al : 2 ≤ n → ∀ us, u = .tup us → us.all blockB = false
def wraps (u : U) : List U := [.tup [u], .lst [u], .dct [(.inr "a", u)], .tup [.str "a", u]]
theorem sz_a : (Str.ofString "a").cps.size = 1 := by decide +kernel
theorem asc_a : asc (Str.ofString "a") = true := by decide +kernel
theorem wrap_dp {n : Nat} {u v : U} (h : Dp n u) (hv : v ∈ wraps u) : Dp (n + 1) v := by
  have a1 := h.a
  have a2 := h.w
  have ka : okK (10 ^ 40) (.inr (Str.ofString "a")) = true := asc_a
  simp only [wraps, List.mem_cons, List.not_mem_nil, or_false] at hv
  rcases hv with rfl | rfl | rfl | rfl
  · refine ⟨by simp [dat, dats, a1], by simp only [wt, wts]; omega, fun _ => by simp [blockB], fun h2 us e => ?_⟩
    cases e
    simp [h.nb (by omega)]
  · exact ⟨by simp [dat, dats, a1], by simp only [wt, wts]; omega, fun _ => by simp [blockB], fun h2 us e => by cases e⟩
  · exact ⟨by simp [dat, datk, a1, ka], by simp only [wt, wtk, sz_a]; omega, fun _ => by simp [blockB], fun h2 us e => by cases e⟩
  · refine ⟨by simp [dat, dats, a1, asc_a], by simp only [wt, wts, sz_a]; omega, fun _ => by simp [blockB], fun h2 us e => ?_⟩
    cases e
    simp [blockB]
theorem base_dp : ∀ u ∈ [U.tup [], .lst [], .dct [], .non, .tup [.str "a", .tup [], .tup [.str "stop"]]], Dp 0 u := by
  have ss : (Str.ofString "stop").cps.size = 4 := by decide +kernel
  have as : asc (Str.ofString "stop") = true := by decide +kernel
  intro u hu
  simp only [List.mem_cons, List.not_mem_nil, or_false] at hu
  rcases hu with rfl | rfl | rfl | rfl | rfl <;> refine ⟨?_, ?_, fun h => by omega, fun h => by omega⟩ <;> simp [dat, dats, datk, wt, wts, wtk, sz_a, asc_a, ss, as]
theorem deep_no {n : Nat} {u : U} (h : Dp n u) (hn : 2 ≤ n) (hn2 : n ≤ 100) : P_is_program [u] = some (.bl false) := by
  by_cases ht : ∃ us, u = .tup us
  · obtain ⟨us, rfl⟩ := ht
    exact no_blocks ⟨h.a, by have := h.w; omega⟩ (h.al hn us rfl)
  · exact no_other (fun us e => ht ⟨us, e⟩) (dat_mono (by decide +kernel) u h.a)
def wideU : U := .tup [.str "a", .tup [], .tup [.str "stop"]]
section
variable {S : Sto} {h : Nat} {cs : List O}
def wI (S : Sto) (h : Nat) (cs : List O) (x3 : Option U) (us : List U) (env : Env') (S' : Sto) : Prop := ∃ (n : Nat) (v : U) (x2 : Option U) (g b : Int), us.length + n = 6 ∧ Dp n v ∧ Hok g b ∧ env = [some (.ref h), some v, x2, x3] ∧ S' = St S h (hnd g b) cs
theorem wrap_loop {g b : Int} {u : U} {x2 x3 : Option U} {Q : Fl × Env' × Sto → Prop} (hh : h < S.length) (hk : Hok g b) (hu : Dp 0 u)
    (q : ∀ v x2 g' b', Dp 6 v → Hok g' b' → Q (.nx, [some (.ref h), some v, x2, x3], St S h (hnd g' b') cs)) :
    wp (loopF (.nm 2) (sAsg (cArg F__law_pick (cCons (cVar 0) (cCons (cArg oLst (cCons (cArg oTup (cCons (cVar 1) cNil)) (cCons (cArg oLst (cCons (cVar 1) cNil)) (cCons (cDisp false [((cCst (.str "a")), (cVar 1))]) (cCons (cArg oTup (cCons (cCst (.str "a")) (cCons (cVar 1) cNil))) cNil))))) cNil))) (gmName 1)) (rangeU 0 6) [some (.ref h), some u, x2, x3] (St S h (hnd g b) cs)) Q := by
  refine wp_loop_inv (I := wI S h cs x3) ?_ ?_ _ _ _ ⟨0, u, x2, g, b, by simp [rangeU], hu, hk, rfl, rfl⟩
  · rintro e S' ⟨n, v, y2, g, b, hn, hv, k, rfl, rfl⟩
    simp at hn
    subst hn
    exact q v y2 g b hv k
  · rintro w us e S' ⟨n, v, y2, g, b, hn, hv, k, rfl, rfl⟩
    simp at hn
    simp [keyU]
    refine pick_wp hh k (by simp) (by simp) fun r g1 b1 hr k1 => ?_
    simp
    exact ⟨n + 1, r, _, g1, b1, by omega, wrap_dp hv hr, k1, rfl, rfl⟩
theorem pw60 : powI 10 60 = some (.int (10 ^ 60)) := rfl
theorem ml60 : mulI 1000000000000000000000000000000000000000000000000000000000000 1000000000000000000000000000000000000000000000000000000000000 = some (.int (1000000000000000000000000000000000000000000000000000000000000 * 1000000000000000000000000000000000000000000000000000000000000)) := mulI_ok (by decide +kernel) (by decide +kernel)
theorem mul_a : ∃ x : Str, ∀ S : Sto, mulSU (.str "a") (.int 4900) S = some (.str x, S) ∧ asc x = true := by
  refine ⟨Txt.mul "a" 4900, fun S => ⟨?_, by decide +kernel⟩⟩
  have : MulOk "a" 4900 := ⟨by decide +kernel, fun _ _ => by decide +kernel, fun _ _ => by decide +kernel⟩
  show (open Classical in if MulOk "a" 4900 then _ else _) = _
  rw [if_pos this]
theorem rep_w {n : Nat} {S : Sto} (hr : S[n]? = some (.lst [wideU])) : repU false (.ref n) (.int 300) S = some (.lst (List.replicate 300 wideU), S) := by
  have z : 300 ≤ sizeLine := le_size _ (by omega)
  unfold repU
  simp only [hr]
  rw [if_pos ⟨by omega, by simpa using z⟩]
  simp [List.flatten]
theorem wide_ex : ∃ ws : List U, ws.length = 300 ∧ norefs ws = true ∧ ∀ (n : Nat) (S : Sto), S[n]? = some (.lst [wideU]) → repU false (.ref n) (.int 300) S = some (.lst ws, S) :=
  ⟨List.replicate 300 wideU, List.length_replicate, norefs_all _ fun u hu => by rw [(List.mem_replicate.mp hu).2]; rfl, fun n S h => rep_w h⟩
theorem deep_wp {g b : Int} {Q : U × Sto → Prop} (hh : h < S.length) (hk : Hok g b)
    (q : ∀ u jk g' b', P_is_program [u] = some (.bl false) → noref u = true → Hok g' b' → Q (u, St S h (hnd g' b') (cs ++ jk))) : wp (F__law_deep [.ref h] (St S h (hnd g b) cs)) Q := by
  obtain ⟨xa, hxa⟩ := mul_a
  obtain ⟨ws, wl, nrw, hws⟩ := wide_ex
  unfold F__law_deep c__law_deep
  simp [-loopF_cons, -wq_loop]
  refine pick_wp hh hk (by simp) (by simp) fun u g1 b1 hu k1 => ?_
  simp [-loopF_cons, -wq_loop]
  refine wrap_loop hh k1 (base_dp u hu) fun v x2 g2 b2 hv k2 => ?_
  simp [-loopF_cons, -wq_loop]
  have rp := hws (S.length + cs.length) (St S h (hnd g2 b2) (cs ++ [.lst [wideU]])) (by simp)
  unfold wideU at rp
  have m1 := fun S => (hxa S).1
  simp [-loopF_cons, -wq_loop, rp, m1, pw60, ml60]
  refine pick_wp hh k2 (by simp) (by simp) fun r g3 b3 hr k3 => ?_
  simp only [List.mem_cons, List.not_mem_nil, or_false] at hr
  rcases hr with rfl | rfl | rfl | rfl | rfl | rfl
  · exact q _ _ _ _ (deep_no hv (by omega) (by omega)) (dat_noref r hv.a) k3
  · exact q _ _ _ _ (no_long (by omega)) (by simpa only [noref] using nrw) k3
  · refine q _ _ _ _ (by unfold P_is_program c_is_program; simp) (by simpa only [noref] using nrw) k3
  · refine q _ _ _ _ (by unfold P_is_program c_is_program; simp) rfl k3
  · exact q _ _ _ _ (no_int _) rfl k3
  · exact q _ _ _ _ (no_long (by simp [rangeU])) (by simp only [noref]; exact norefs_all _ fun u hu => by obtain ⟨i, _, rfl⟩ := List.mem_map.mp hu; rfl) k3
end
end K02

namespace K02
open PySem PySem.Spec PyProof.Rows L2 OF
def letL : List Nat := (Str.ofString "abcdefghijklmnopqrstuvwxyz").cps.toList
theorem letL_len : letL.length = 26 := by decide +kernel
theorem lets_z : (Str.ofString "abcdefghijklmnopqrstuvwxyz").length ≤ sizeLine := le_size _ (by decide +kernel)
def let1 (k : Nat) : Str := ⟨#[letL.getD k 97]⟩
theorem ix_let (k : Nat) (hk : k < 26) (S : Sto) : ixU (.str "abcdefghijklmnopqrstuvwxyz") (.int (k : Int)) S = some (.str (let1 k), S) := by
  have hl := letL_len
  have z := lets_z
  have a : atI (Str.ofString "abcdefghijklmnopqrstuvwxyz").cps.toList (k : Int) = some (letL.getD k 97) := by
    rw [OF.atI_nat]
    show letL[k]? = _
    rw [List.getD_eq_getElem?_getD, List.getElem?_eq_getElem (by omega)]
    rfl
  simp [z, a, let1]
def nmK (k : Nat) : Str := Txt.mul (let1 k) (1 + (k : Int) % 8)
theorem mul_ok1 {z : Str} {n : Int} (hz : z.length = 1) (h0 : 1 ≤ n) (h1 : n ≤ 8) : MulOk z n := by
  have : n = 1 ∨ n = 2 ∨ n = 3 ∨ n = 4 ∨ n = 5 ∨ n = 6 ∨ n = 7 ∨ n = 8 := by omega
  unfold MulOk
  rw [hz]
  rcases this with rfl | rfl | rfl | rfl | rfl | rfl | rfl | rfl <;> exact ⟨by decide +kernel, fun _ _ => by decide +kernel, fun _ _ => by decide +kernel⟩
theorem mul_let (k : Nat) (S : Sto) : mulSU (.str (let1 k)) (.int (1 + (k : Int) % 8)) S = some (.str (nmK k), S) := by
  have : MulOk (let1 k) (1 + (k : Int) % 8) := mul_ok1 rfl (by omega) (by omega)
  show (open Classical in if MulOk (let1 k) (1 + (k : Int) % 8) then _ else _) = _
  rw [if_pos this]
  rfl
theorem names_map (env : Env') (S : Sto) (hl : env.length = 9) (h2 : env[2]? = some (some (.str "abcdefghijklmnopqrstuvwxyz"))) : ∀ ks : List Nat, (∀ k ∈ ks, k < 26) → mapC (.nm 7) cYes (cBin mulSU (cBin ixU (cVar 2) (cVar 7)) (cBin (addU false) (cCst (.int 1)) (cBin (o2I modI) (cVar 7) (cCst (.int 8))))) env (ks.map fun (i : Nat) => U.int (i : Int)) S = some (ks.map (fun (i : Nat) => U.str (nmK i)), S)
  | [], _ => rfl
  | k :: ks, hk => by
    have ih := names_map env S hl h2 ks fun j hj => hk j (by simp [hj])
    have g : (env.set 7 (some (.int (k : Int))))[7]? = some (some (.int (k : Int))) := List.getElem?_set_self (by omega)
    have g2 : (env.set 7 (some (.int (k : Int))))[2]? = some (some (.str "abcdefghijklmnopqrstuvwxyz")) := by rw [List.getElem?_set_ne (by decide)]; exact h2
    have m : modI (k : Int) 8 = some (.int ((k : Int) % 8)) := modI_ok (by decide)
    rw [List.map_cons, List.map_cons, mapC_cons]
    simp [-mapC_cons, -ixU_ap, g, g2, ih, ix_let k (hk k (by simp)), m, mul_let]
theorem enum_map (env : Env') (S : Sto) (hl : env.length = 9) (f : Nat → U) : ∀ ks : List Nat, mapC (.tp [(.nm 7), (.nm 8)]) cYes (cArg oTup (cCons (cBin (addU false) (cVar 7) (cCst (.int 1))) (cCons (cCst (.str "ask")) (cCons (cVar 8) cNil)))) env (ks.map fun (i : Nat) => U.tup [.int (i : Int), f i]) S = some (ks.map (fun (i : Nat) => U.tup [.int ((i : Int) + 1), .str "ask", f i]), S)
  | [] => rfl
  | k :: ks => by
    have ih := enum_map env S hl f ks
    rw [List.map_cons, List.map_cons, mapC_cons]
    simp [-mapC_cons, hl, ih]
theorem enum_names (n : Nat) : enumU ((List.range n).map fun (i : Nat) => U.str (nmK i)) = (List.range n).map fun (i : Nat) => U.tup [.int (i : Int), .str (nmK i)] := by
  unfold enumU zipU
  rw [List.length_map, List.length_range, rangeU_eq, List.zip_map', List.map_map]
  rfl
def namR (n : Nat) : List Rw := (List.range n).map fun (i : Nat) => Rw.ask ((i : Int) + 1) (nmK i)
def namP (n w : Nat) : List Bk := [⟨"here", namR n ++ (if w = 0 then [.put 9999 (nmK n) 1000002] else if w = 1 then [.say 9998 (nmK n)] else []), if w = 2 then .iff (nmK n) "here" "there" else .stop⟩, ⟨"there", [], .stop⟩]
theorem nam_dec : ([0, 1, 2].all fun w => (fineB (namP 11 w) && progP (namP 11 w)) && (fineB (namP 12 w) && !progP (namP 12 w))) = true := by decide +kernel
theorem nam_ok {n w : Nat} (hn : n = 11 ∨ n = 12) (hw : w < 3) : P_is_program [encP (namP n w)] = some (.bl (decide (n = 11))) := by
  have hw' : w ∈ [0, 1, 2] := by
    have : w = 0 ∨ w = 1 ∨ w = 2 := by omega
    simpa using this
  have h := List.all_eq_true.mp nam_dec w hw'
  simp only [Bool.and_eq_true, Bool.not_eq_true'] at h
  rcases hn with rfl | rfl
  · rw [fine_isp (fine_of h.1.1), h.1.2]; rfl
  · rw [fine_isp (fine_of h.2.1), h.2.2]; rfl
section
variable {S : Sto} {h : Nat} {cs : List O}
theorem named_wp {g b : Int} {n : Nat} {Q : U × Sto → Prop} (hh : h < S.length) (hk : Hok g b) (hn : n = 11 ∨ n = 12)
    (q : ∀ w jk g' b', w < 3 → Hok g' b' → Q (encP (namP n w), St S h (hnd g' b') (cs ++ jk))) : wp (F__law_named [.ref h, .int ((n + 1 : Nat) : Int)] (St S h (hnd g b) cs)) Q := by
  have n1 : n ≤ 12 := by omega
  have z : ∀ m : Nat, m ≤ 100 → m ≤ sizeLine := fun m hm => le_size _ (by omega)
  have z1 := z (n + 1) (by omega)
  have z0 := z n (by omega)
  have m1 : ((n : Int) + 1) < 4611686018427387904 := by omega
  have m2 : (-4611686018427387904 : Int) ≤ (n : Int) + 1 := by omega
  have nm := names_map [some (.ref h), some (.int ((n : Int) + 1)), some (.str "abcdefghijklmnopqrstuvwxyz"), none, none, none, none, none, none] (St S h (hnd g b) cs) rfl rfl (List.range (n + 1)) (by simp; omega)
  have tn : ((n : Int) + 1).toNat = n + 1 := by omega
  unfold F__law_named c__law_named
  simp [-mapC_cons, -wq_map, m1, m2, tn, rangeU_eq, nm, z1]
  have tk : List.take n (List.map (fun i => U.str (nmK i)) (List.range (n + 1))) = List.map (fun i => U.str (nmK i)) (List.range n) := by
    rw [← List.map_take, List.take_range, Nat.min_eq_left (by omega)]
  rw [tk, enum_names]
  have em := enum_map [some (.ref h), some (.int ((n : Int) + 1)), some (.str "abcdefghijklmnopqrstuvwxyz"), some (U.lst (List.map (fun i => U.str (nmK i)) (List.range (n + 1)))), none, none, none, none, none] (St S h (hnd g b) cs) rfl (fun i => U.str (nmK i)) (List.range n)
  have er : List.map (fun (i : Nat) => U.tup [.int ((i : Int) + 1), .str "ask", .str (nmK i)]) (List.range n) = (namR n).map encR := by
    unfold namR
    rw [List.map_map]
    rfl
  rw [er] at em
  have rl : (namR n).length = n := by simp [namR]
  refine wq_of em ?_
  simp [-mapC_cons, -wq_map, rl, z0]
  refine take_wp hh hk (by omega) (by omega) fun t g1 b1 t0 t1 k1 => ?_
  have la : atI (List.map (fun i => U.str (nmK i)) (List.range (n + 1))) (-1) = some (.str (nmK n)) := by
    rw [List.range_succ, List.map_append, List.map_singleton]
    exact OF.atI_last _ _
  have zl : (namR n).length < sizeLine := by rw [rl]; have := z 99 (by omega); omega
  simp [-mapC_cons, -wq_map]
  refine wiH_dec (fun h0 => ?_) (fun h0 => ?_)
  · simp [la, zl]
    have e : encP (namP n 0) = U.tup [U.tup [.str "here", .tup ((namR n).map encR ++ [.tup [.int 9999, .str "put", .str (nmK n), .int 1000002]]), .tup [.str "stop"]], .tup [.str "there", .tup [], .tup [.str "stop"]]] := by simp [namP, encP, encB, encE, encR]
    rw [← e]
    exact q 0 _ _ _ (by omega) k1
  simp
  refine wiH_dec (fun h1 => ?_) (fun h1 => ?_)
  · simp [la, zl]
    have e : encP (namP n 1) = U.tup [U.tup [.str "here", .tup ((namR n).map encR ++ [.tup [.int 9998, .str "say", .str (nmK n)]]), .tup [.str "stop"]], .tup [.str "there", .tup [], .tup [.str "stop"]]] := by simp [namP, encP, encB, encE, encR]
    rw [← e]
    exact q 1 _ _ _ (by omega) k1
  · simp [la, zl]
    have e : encP (namP n 2) = U.tup [U.tup [.str "here", .tup ((namR n).map encR), .tup [.str "if", .str (nmK n), .str "here", .str "there"]], .tup [.str "there", .tup [], .tup [.str "stop"]]] := by simp [namP, encP, encB, encE, encR]
    rw [← e]
    exact q 2 _ _ _ (by omega) k1
end
end K02

namespace K02
open PySem PySem.Spec PyProof.Rows L2 OF
/-! blocks without rows -/
def two (k j : Nat) : Str := mk [letL.getD k 97, letL.getD j 97]
structure Nam (xs : List Str) : Prop where
  two : ∀ i (h : i < xs.length), ∃ j, j < 26 ∧ xs[i] = K02.two i j
theorem let_add (k j : Nat) : let1 k ++ let1 j = two k j := by
  show Str.append (let1 k) (let1 j) = _
  simp [Str.append, let1, two, mk]
section
variable {S : Sto} {h : Nat} {cs : List O}
theorem nam_wp {x1 x3 x4 x5 : Option U} (hh : h < S.length) : ∀ (n k : Nat) (g b : Int) (Q : List U × Sto → Prop), k + n ≤ 26 → Hok g b →
    (∀ (xs : List Str) g' b', xs.length = n → (∀ i (hi : i < xs.length), ∃ j, j < 26 ∧ xs[i] = two (k + i) j) → Hok g' b' → Q (xs.map .str, St S h (hnd g' b') cs)) →
    wp (mapC (.nm 6) cYes (cBin (addU false) (cBin ixU (cVar 2) (cVar 6)) (cBin ixU (cVar 2) (cBin (o2I modI) (cBin (addU false) (cBin (o2I mulI) (cVar 6) (cCst (.int 7))) (cArg F__law_take (cCons (cVar 0) (cCons (cCst (.int 26)) cNil)))) (cCst (.int 26))))) [some (.ref h), x1, some (.str "abcdefghijklmnopqrstuvwxyz"), x3, x4, x5, none] ((List.range' k n).map fun (i : Nat) => U.int (i : Int)) (St S h (hnd g b) cs)) Q
  | 0, k, g, b, Q, hn, hk, q => by
    simp
    simpa using q [] g b rfl (by simp) hk
  | n + 1, k, g, b, Q, hn, hk, q => by
    have ml : mulI (k : Int) 7 = some (.int ((k : Int) * 7)) := mulI_ok (sm (by omega)) (sm (by omega))
    have ik := ix_let k (by omega)
    rw [List.range'_succ, List.map_cons]
    simp [-mapC_cons, -ixU_ap, ml, ik]
    refine take_wp hh hk (by omega) (by omega) fun t g1 b1 t0 t1 k1 => ?_
    obtain ⟨j, hj⟩ : ∃ j : Nat, ((k : Int) * 7 + t) % 26 = j := ⟨(((k : Int) * 7 + t) % 26).toNat, by omega⟩
    have j26 : j < 26 := by omega
    have md : modI ((k : Int) * 7 + t) 26 = some (.int j) := by rw [← hj]; exact modI_ok (by decide)
    have ij := ix_let j j26
    have z : (let1 k).length + (let1 j).length ≤ sizeLine := le_size _ (by show 1 + 1 < _; omega)
    simp [-mapC_cons, -ixU_ap, md, ij, z, let_add]
    refine nam_wp (x1 := x1) (x3 := x3) hh n (k + 1) g1 b1 _ (by omega) k1 fun xs g2 b2 l0 l1 k2 => ?_
    simp
    have := q (two k j :: xs) g2 b2 (by simp [l0]) (by
      intro i hi
      cases i with
      | zero => exact ⟨j, j26, rfl⟩
      | succ i =>
        obtain ⟨j', h1, h2⟩ := l1 i (by simpa using hi)
        exact ⟨j', h1, by rw [List.getElem_cons_succ, h2]; congr 1; omega⟩) k2
    simpa using this
noncomputable def blB : Sm := (sExpr (cMt "list" appU (cVar 4) (cCons (cArg oTup (cCons (cVar 5) (cCons (cArg oTup cNil) (cCons (cArg oTup (cCons (cCst (.str "go")) (cCons (cArg F__law_pick (cCons (cVar 0) (cCons (cVar 3) cNil))) cNil))) cNil)))) cNil)))
structure Bare (xs : List Str) (b : Bk) : Prop where
  rows : b.rows = []
  en : ∃ g ∈ xs, b.en = .go g
theorem bl_loop {x1 x2 x6 : Option U} {xs : List Str} (hh : h < S.length) (h0 : xs ≠ []) (h1 : xs.length ≤ 100) {Q : Fl × Env' × Sto → Prop} : ∀ (ys : List Str) (p : List Bk) (g b : Int) (x5 : Option U), p.length + ys.length ≤ 100 → Hok g b →
    (∀ p' g' b' x5, p'.map Bk.name = ys → (∀ b ∈ p', Bare xs b) → Hok g' b' → Q (.nx, [some (.ref h), x1, x2, some (.lst (xs.map .str)), some (.ref (S.length + cs.length)), x5, x6], St S h (hnd g' b') (cs ++ [.lst ((p ++ p').map encB)]))) →
    wp (loopF (.nm 5) blB (ys.map .str) [some (.ref h), x1, x2, some (.lst (xs.map .str)), some (.ref (S.length + cs.length)), x5, x6] (St S h (hnd g b) (cs ++ [.lst (p.map encB)]))) Q
  | [], p, g, b, x5, hl, hk, q => by
    simp
    simpa using q [] g b x5 rfl (by simp) hk
  | y :: ys, p, g, b, x5, hl, hk, q => by
    simp at hl
    have z : p.length < sizeLine := by have := le_size 200 (by omega); omega
    have ih := fun x g1 b1 k1 q => bl_loop (x1 := x1) (x2 := x2) (x6 := x6) (xs := xs) (Q := Q) hh h0 h1 ys (p ++ [⟨y, [], .go x⟩]) g1 b1 (some (.str y)) (by simp; omega) k1 q
    unfold blB at ih ⊢
    simp [-loopF_cons]
    refine pick_wp hh hk (by simpa using h0) (by simp; omega) fun u g1 b1 hu k1 => ?_
    obtain ⟨x, hx, rfl⟩ := List.mem_map.mp hu
    simp [-loopF_cons, z]
    have := ih x g1 b1 k1 fun p' g' b' x5 e1 e2 k' => by
      have := q (⟨y, [], .go x⟩ :: p') g' b' x5 (by simp [e1]) (by
        intro b hb
        rcases List.mem_cons.mp hb with rfl | hb
        · exact ⟨rfl, x, hx, rfl⟩
        · exact e2 b hb) k'
      simpa using this
    simpa [encB, encE] using this
theorem blocks_wp {n : Nat} {g b : Int} {Q : U × Sto → Prop} (hh : h < S.length) (hk : Hok g b) (n0 : 1 ≤ n) (n1 : n ≤ 26)
    (q : ∀ (xs : List Str) (p : List Bk) g' b', xs.length = n → (∀ i (hi : i < xs.length), ∃ j, j < 26 ∧ xs[i] = two i j) → p.map Bk.name = xs → (∀ b ∈ p, Bare xs b) → Hok g' b' → Q (.ref (S.length + cs.length), St S h (hnd g' b') (cs ++ [.lst (p.map encB)]))) :
    wp (F__law_blocks [.ref h, .int (n : Int)] (St S h (hnd g b) cs)) Q := by
  have m1 : (n : Int) < 4611686018427387904 := by omega
  have m2 : (-4611686018427387904 : Int) ≤ (n : Int) := by omega
  have zn : n ≤ sizeLine := le_size _ (by omega)
  unfold F__law_blocks c__law_blocks
  simp [-mapC_cons, -wq_map, -loopF_cons, -wq_loop, m1, m2]
  rw [rangeU_eq, List.range_eq_range']
  refine nam_wp hh n 0 g b _ (by omega) hk fun xs g1 b1 xl xn k1 => ?_
  have zx : xs.length ≤ sizeLine := by omega
  simp [-mapC_cons, -wq_map, -loopF_cons, -wq_loop, zx]
  refine bl_loop (S := S) (cs := cs) (x1 := some (.int (n : Int))) (x2 := some (.str "abcdefghijklmnopqrstuvwxyz")) (x6 := none) (xs := xs) hh (by rintro rfl; simp at xl; omega) (by omega) xs [] g1 b1 none (by simp; omega) k1 ?_
  intro p g2 b2 x5 e1 e2 k2
  simp
  exact q xs p g2 b2 xl (by simpa using xn) e1 e2 k2
end
end K02

namespace OF
open PySem PySem.Spec PyProof.Rows L2
/-! walks over cells that stay -/
theorem wp_loopG_inv {pt : Pat} {b : Sm} {g : Option Nat} {us0 : List U} {Q : Fl × Env' × Sto → Prop} (I : List U → Env' → Sto → Prop) (gd : ∀ us e S, I us e S → gok g us0 S) (fin : ∀ e S, I [] e S → Q (.nx, e, S))
    (step : ∀ u us e S, I (u :: us) e S → wp (bindP pt u) fun bs => wp (b (setAll e bs) S) fun r => ∃ e2 S2, r = (.nx, e2, S2) ∧ I us e2 S2) : ∀ us e S, I us e S → wp (loopG pt b g us0 us e S) Q
  | [], e, S, h => ⟨_, by unfold loopG; rw [if_pos (gd _ _ _ h)], fin e S h⟩
  | u :: us, e, S, h => by
    obtain ⟨bs, e1, r, e2, e', S', rfl, h'⟩ := step u us e S h
    obtain ⟨z, e3, q⟩ := wp_loopG_inv I gd fin step us e' S' h'
    refine ⟨z, ?_, q⟩
    unfold loopG
    rw [if_pos (gd _ _ _ h), e1]
    simp only [e2, e3]
end OF

namespace K02
open PySem PySem.Spec PyProof.Rows L2 OF
/-! many rows -/
def rowK (k : Nat) : Rw := if k % 3 = 0 then .bin .plus ((k : Int) + 1) "a" "b" "a" else if k % 3 = 1 then .copy ((k : Int) + 1) "b" "c" else .say ((k : Int) + 1) "c"
noncomputable def rwB : Sm := (sSeq (sPar2 4 5 (cCons (cBin ixU (cVar 1) (cBin (o2I modI) (cVar 3) (cArg (on1 lenU) (cCons (cVar 1) cNil)))) (cCons (cBin ixU (cVar 1) (cBin (o2I modI) (cBin (addU false) (cVar 3) (cCst (.int 1))) (cArg (on1 lenU) (cCons (cVar 1) cNil)))) cNil)))
  (sExpr (cMt "list" appU (cVar 2) (cCons (cBin ixU (cArg oLst (cCons (cArg oTup (cCons (cBin (addU false) (cVar 3) (cCst (.int 1))) (cCons (cCst (.str "plus")) (cCons (cVar 4) (cCons (cVar 5) (cCons (cVar 4) cNil)))))) (cCons (cArg oTup (cCons (cBin (addU false) (cVar 3) (cCst (.int 1))) (cCons (cCst (.str "copy")) (cCons (cVar 4) (cCons (cVar 5) cNil))))) (cCons (cArg oTup (cCons (cBin (addU false) (cVar 3) (cCst (.int 1))) (cCons (cCst (.str "say")) (cCons (cVar 4) cNil)))) cNil)))) (cBin (o2I modI) (cVar 3) (cCst (.int 3)))) cNil))))
theorem rows_cut : c__law_rows = (sSeq (sAsg (cArg oLstM cNil) (gmName 2)) (sSeq (sFor (itR1 (cCons (cVar 0) cNil)) (.nm 3) rwB) (sRet (cVar 2)))) := rfl
theorem rwB_ok (k : Nat) (S : Sto) (us : List U) (x0 x4 x5 : Option U) (hu : us.length ≤ 1000) : ∃ y4 y5, rwB [x0, some (.lst [.str "a", .str "b", .str "c"]), some (.ref S.length), some (.int (k : Int)), x4, x5] (S ++ [.lst us]) = some (.nx, [x0, some (.lst [.str "a", .str "b", .str "c"]), some (.ref S.length), some (.int (k : Int)), y4, y5], S ++ [.lst (us ++ [encR (rowK k)])]) := by
  have z : us.length < sizeLine := by have := le_size 2000 (by omega); omega
  have m1 : modI (k : Int) 3 = some (.int ((k : Int) % 3)) := modI_ok (by decide)
  have m2 : modI ((k : Int) + 1) 3 = some (.int (((k : Int) + 1) % 3)) := modI_ok (by decide)
  unfold rwB
  have : k % 3 = 0 ∨ k % 3 = 1 ∨ k % 3 = 2 := by omega
  rcases this with h | h | h
  · have e1 : (k : Int) % 3 = 0 := by omega
    have e2 : ((k : Int) + 1) % 3 = 1 := by omega
    exact ⟨some (.str "a"), some (.str "b"), by simp [m1, m2, e1, e2, z, rowK, h, encR, Wd.s]⟩
  · have e1 : (k : Int) % 3 = 1 := by omega
    have e2 : ((k : Int) + 1) % 3 = 2 := by omega
    exact ⟨some (.str "b"), some (.str "c"), by simp [m1, m2, e1, e2, z, rowK, h, encR, Wd.s]⟩
  · have e1 : (k : Int) % 3 = 2 := by omega
    have e2 : ((k : Int) + 1) % 3 = 0 := by omega
    exact ⟨some (.str "c"), some (.str "a"), by simp [m1, m2, e1, e2, z, rowK, h, encR, Wd.s]⟩
theorem rows_loop (S : Sto) (x0 : Option U) : ∀ (ks : List Nat) (us : List U) (x3 x4 x5 : Option U), us.length + ks.length ≤ 1000 → ∃ y3 y4 y5, loopF (.nm 3) rwB (ks.map fun (i : Nat) => U.int (i : Int)) [x0, some (.lst [.str "a", .str "b", .str "c"]), some (.ref S.length), x3, x4, x5] (S ++ [.lst us]) = some (.nx, [x0, some (.lst [.str "a", .str "b", .str "c"]), some (.ref S.length), y3, y4, y5], S ++ [.lst (us ++ ks.map fun k => encR (rowK k))])
  | [], us, x3, x4, x5, _ => ⟨x3, x4, x5, by simp⟩
  | k :: ks, us, x3, x4, x5, h => by
    simp at h
    obtain ⟨z4, z5, e⟩ := rwB_ok k S us x0 x4 x5 (by omega)
    obtain ⟨y3, y4, y5, ih⟩ := rows_loop S x0 ks (us ++ [encR (rowK k)]) (some (.int (k : Int))) z4 z5 (by simp; omega)
    refine ⟨y3, y4, y5, ?_⟩
    rw [List.map_cons, loopF_cons]
    simp [-loopF_cons, e, ih]
theorem rows_wp (n : Nat) (hn : n ≤ 1000) (S : Sto) {Q : U × Sto → Prop} (q : Q (.ref S.length, S ++ [.lst (((List.range n).map rowK).map encR)])) : wp (F__law_rows [.int (n : Int), .lst [.str "a", .str "b", .str "c"]] S) Q := by
  obtain ⟨y3, y4, y5, e⟩ := rows_loop S (some (.int (n : Int))) (List.range n) [] none none none (by simp; omega)
  have m1 : (n : Int) < 4611686018427387904 := by omega
  have m2 : (-4611686018427387904 : Int) ≤ (n : Int) := by omega
  unfold F__law_rows
  rw [rows_cut]
  simp [-loopF_cons, -wq_loop, m1, m2]
  rw [rangeU_eq]
  refine wq_of e ?_
  simpa [Function.comp_def] using q
/-! rows put into blocks -/
def bkc (b : Bk) : O := .lst [.str b.name, .tup (b.rows.map encR), encE b.en]
def refs (S : Sto) (cs : List O) (n : Nat) : List U := (List.range n).map fun i => U.ref (S.length + (cs.length + i))
section
variable {S : Sto} {h : Nat} {o : O} {D tl : List O} {p : List Bk} {k n : Nat}
theorem atI_refs (hk : k < n) : atI (refs S D n) (k : Int) = some (.ref (S.length + (D.length + k))) := by
  rw [OF.atI_nat]
  simp [refs, hk]
theorem cell_at {b : Bk} (hk : p[k]? = some b) : (D ++ p.map bkc)[D.length + k]? = some (bkc b) := by
  rw [List.getElem?_append_right (by omega), Nat.add_sub_cancel_left, List.getElem?_map, hk]
  rfl
theorem cell_set {b : Bk} : (D ++ p.map bkc).set (D.length + k) (bkc b) = D ++ (p.set k b).map bkc := by
  rw [List.set_append_right _ _ (by omega), Nat.add_sub_cancel_left, List.map_set]
theorem lists_map {env : Env'} {i1 : Nat} {us0 : List U} (hl : env.length = 8) : ∀ (p : List Bk) (D : List O), D[i1]? = some (.lst us0) → mapG (.nm 7) cYes (cArg (on1 (listU true)) (cCons (cVar 7) cNil)) env (some (S.length + i1)) us0 (p.map encB) (St S h o D) = some (refs S D p.length, St S h o (D ++ p.map bkc))
  | [], D, hD => by
    unfold mapG
    simp [hD, refs]
  | b :: p, D, hD => by
    have ih := lists_map hl p (D ++ [bkc b]) (by rw [List.getElem?_append_left (List.getElem?_eq_some_iff.mp hD).1, hD])
    have g7 : (env.set 7 (some (encB b)))[7]? = some (some (encB b)) := List.getElem?_set_self (by omega)
    have c : cArg (on1 (listU true)) (cCons (cVar 7) cNil) (env.set 7 (some (encB b))) (St S h o D) = some (.ref (S.length + D.length), St S h o (D ++ [bkc b])) := by
      have e : encB b = .tup [.str b.name, .tup (b.rows.map encR), encE b.en] := rfl
      rw [e] at g7 ⊢
      simp [g7, bkc]
    rw [List.map_cons]
    unfold mapG
    have hg : gok (some (S.length + i1)) us0 (St S h o D) := by show (St S h o D)[S.length + i1]? = _; rw [st_at]; exact hD
    rw [if_pos hg]
    simp only [bindP_nm, cYes, setAll_cons, setAll_nil, c, ih]
    have r1 : refs S D (b :: p).length = .ref (S.length + D.length) :: refs S (D ++ [bkc b]) p.length := by
      unfold refs
      rw [List.length_cons, List.range_succ_eq_map]
      simp
      intro i _
      omega
    rw [r1]
    simp
theorem tups_map {env : Env'} (hl : env.length = 8) : ∀ (q p : List Bk) (i : Nat), (∀ j b, q[j]? = some b → p[i + j]? = some b) → mapC (.nm 7) cYes (cArg (on1 tupleU) (cCons (cVar 7) cNil)) env ((List.range' i q.length).map fun i => U.ref (S.length + (D.length + i))) (St S h o (D ++ p.map bkc)) = some (q.map encB, St S h o (D ++ p.map bkc))
  | [], p, i, _ => rfl
  | b :: q, p, i, hq => by
    have ih := tups_map hl q p (i + 1) fun j c hj => by
      have := hq (j + 1) c (by simpa using hj)
      rw [← this]
      congr 1
      omega
    have h0 := hq 0 b rfl
    have ce := cell_at (D := D) h0
    have g7 : (env.set 7 (some (.ref (S.length + (D.length + i)))))[7]? = some (some (.ref (S.length + (D.length + i)))) := List.getElem?_set_self (by omega)
    have e : encB b = .tup [.str b.name, .tup (b.rows.map encR), encE b.en] := rfl
    rw [Nat.add_zero] at ce
    rw [List.length_cons, List.range'_succ, List.map_cons, List.map_cons, mapC_cons]
    simp [-mapC_cons, g7, ce, bkc, ih, e]
end
end K02

namespace K02
open PySem PySem.Spec PyProof.Rows L2 OF
noncomputable def ptB : Sm := (sSeq (sAsg (cIf (cTru (cVar 4)) (cVar 5) (cArg F__law_take (cCons (cVar 0) (cCons (cArg (on1 lenU) (cCons (cVar 3) cNil)) cNil)))) (gmName 5))
  (sSetI setL (cBin ixU (cVar 3) (cVar 5)) (cCst (.int 1)) (cBin (addU false) (cBin ixU (cBin ixU (cVar 3) (cVar 5)) (cCst (.int 1))) (cArg oTup (cCons (cVar 6) cNil)))))
/-- the same blocks with more rows -/
structure Put (p0 p : List Bk) (rs : List Rw) : Prop where
  len : p.length = p0.length
  nm : p.map Bk.name = p0.map Bk.name
  en : p.map Bk.en = p0.map Bk.en
  rows : (p.flatMap Bk.rows).Perm rs
theorem flat_set : ∀ (p : List Bk) (k : Nat) (b : Bk) (r : Rw), p[k]? = some b → ((p.set k { b with rows := b.rows ++ [r] }).flatMap Bk.rows).Perm (p.flatMap Bk.rows ++ [r])
  | [], k, b, r, h => by simp at h
  | c :: p, 0, b, r, h => by
    simp at h
    subst h
    simp only [List.set_cons_zero, List.flatMap_cons, List.append_assoc]
    exact List.Perm.append_left _ (List.perm_append_comm)
  | c :: p, k + 1, b, r, h => by
    have := flat_set p k b r (by simpa using h)
    simp only [List.set_cons_succ, List.flatMap_cons, List.append_assoc]
    exact List.Perm.append_left _ this
theorem set_map {α β : Type} (f : α → β) : ∀ (l : List α) (k : Nat) (a b : α), l[k]? = some a → f b = f a → (l.set k b).map f = l.map f
  | [], _, _, _, h, _ => by simp at h
  | x :: l, 0, a, b, h, e => by simp at h; subst h; simp [e]
  | x :: l, k + 1, a, b, h, e => by simp [set_map f l k a b (by simpa using h) e]
theorem Put.step {p0 p : List Bk} {rs : List Rw} (h : Put p0 p rs) {k : Nat} {b : Bk} (hk : p[k]? = some b) (r : Rw) : Put p0 (p.set k { b with rows := b.rows ++ [r] }) (rs ++ [r]) := by
  refine ⟨by simp [h.len], ?_, ?_, ?_⟩
  · rw [set_map Bk.name p k b { b with rows := b.rows ++ [r] } hk rfl, h.nm]
  · rw [set_map Bk.en p k b { b with rows := b.rows ++ [r] } hk rfl, h.en]
  · exact (flat_set p k b r hk).trans (h.rows.append_right _)
section
variable {S : Sto} {h : Nat} {D : List O}
def pI (S : Sto) (h : Nat) (D : List O) (p0 : List Bk) (all : List Rw) (x1 x2 x7 : Option U) (fl : Bool) (us : List U) (env : Env') (X : Sto) : Prop :=
  ∃ (p : List Bk) (rs rest : List Rw) (at_ : Nat) (g b : Int) (x6 : Option U), us = rest.map encR ∧ rs ++ rest = all ∧ Put p0 p rs ∧ at_ < p0.length ∧ Hok g b ∧ env = [some (.ref h), x1, x2, some (.lst (refs S D p0.length)), some (.bl fl), some (.int (at_ : Int)), x6, x7] ∧ X = St S h (hnd g b) (D ++ p.map bkc)
theorem put_loop {p0 : List Bk} {all : List Rw} {x1 x2 x7 : Option U} {fl : Bool} {Q : Fl × Env' × Sto → Prop} {i2 : Nat} (hh : h < S.length) (h0 : 1 ≤ p0.length) (h1 : p0.length ≤ 100) (ha : all.length ≤ 200) (hD : D[i2]? = some (.lst (all.map encR)))
    (q : ∀ p g' b' x5 x6, Put p0 p all → Hok g' b' → Q (.nx, [some (.ref h), x1, x2, some (.lst (refs S D p0.length)), some (.bl fl), x5, x6, x7], St S h (hnd g' b') (D ++ p.map bkc))) :
    ∀ us env X, pI S h D p0 all x1 x2 x7 fl us env X → wp (loopG (.nm 6) ptB (some (S.length + i2)) (all.map encR) us env X) Q := by
  refine wp_loopG_inv (pI S h D p0 all x1 x2 x7 fl) ?_ ?_ ?_
  · rintro us e X ⟨p, rs, rest, at_, g, b, x6, rfl, hr, hp, hat, hk, rfl, rfl⟩
    show (St S h (hnd g b) (D ++ p.map bkc))[S.length + i2]? = _
    rw [st_at, List.getElem?_append_left (List.getElem?_eq_some_iff.mp hD).1, hD]
  · rintro e X ⟨p, rs, rest, at_, g, b, x6, hu, hr, hp, hat, hk, rfl, rfl⟩
    have : rest = [] := by cases rest <;> simp at hu ⊢
    subst this
    rw [List.append_nil] at hr
    subst hr
    exact q p g b _ _ hp hk
  · rintro u us e X ⟨p, rs, rest, at_, g, b, x6, hu, hr, hp, hat, hk, rfl, rfl⟩
    cases rest with
    | nil => simp at hu
    | cons r rest =>
      simp only [List.map_cons, List.cons.injEq] at hu
      obtain ⟨rfl, rfl⟩ := hu
      have rl : (refs S D p0.length).length = p0.length := by simp [refs]
      have rz : p0.length ≤ sizeLine := le_size _ (by omega)
      have rows_le : ∀ b ∈ p, b.rows.length ≤ 200 := fun c hc => by
        have h1 := hp.rows.length_eq
        have h2 := K02.rows_le hc
        have h3 := congrArg List.length hr
        rw [List.length_append] at h3
        omega
      have fin : ∀ (k : Nat) g' b', k < p0.length → Hok g' b' → wp ((sSetI setL (cBin ixU (cVar 3) (cVar 5)) (cCst (.int 1)) (cBin (addU false) (cBin ixU (cBin ixU (cVar 3) (cVar 5)) (cCst (.int 1))) (cArg oTup (cCons (cVar 6) cNil)))) [some (.ref h), x1, x2, some (.lst (refs S D p0.length)), some (.bl fl), some (.int (k : Int)), some (encR r), x7] (St S h (hnd g' b') (D ++ p.map bkc))) fun r' => ∃ e2 S2, r' = (.nx, e2, S2) ∧ pI S h D p0 all x1 x2 x7 fl (rest.map encR) e2 S2 := by
        intro k g' b' hk' k'
        have kp : k < p.length := by rw [hp.len]; exact hk'
        have hb : p[k]? = some p[k] := List.getElem?_eq_getElem kp
        have ca := cell_at (D := D) hb
        have ai := atI_refs (S := S) (D := D) hk'
        have cs := cell_set (D := D) (p := p) (k := k) (b := { p[k] with rows := p[k].rows ++ [r] })
        have lz := rows_le _ (List.getElem_mem kp)
        have z1 : p[k].rows.length + 1 ≤ sizeLine := le_size _ (by omega)
        have z0 : (1 : Nat) ≤ sizeLine := le_size _ (by omega)
        generalize p[k] = bk at hb ca cs z1
        have ca : (D ++ p.map bkc)[D.length + k]? = some (.lst [.str bk.name, .tup (bk.rows.map encR), encE bk.en]) := ca
        have cs : (D ++ p.map bkc).set (D.length + k) (.lst [.str bk.name, .tup (bk.rows.map encR ++ [encR r]), encE bk.en]) = D ++ (p.set k { bk with rows := bk.rows ++ [r] }).map bkc := by
          rw [← cs]
          simp [bkc]
        have ixn : ixN 3 1 = some 1 := rfl
        simp [ai, ca, z1, z0, ixn, cs]
        exact ⟨_, _, ⟨rfl, rfl⟩, _, rs ++ [r], rest, k, g', b', _, rfl, by simpa using hr, hp.step hb r, hk', k', rfl, by rw [List.map_set]⟩
      unfold ptB
      cases fl with
      | true =>
        have := fin at_ g b hat hk
        simp at this ⊢
        exact this
      | false =>
        simp [rl, rz]
        refine take_wp hh hk (by omega) (by omega) fun t g1 b1 t0 t1 k1 => ?_
        obtain ⟨k, rfl⟩ : ∃ k : Nat, t = k := ⟨t.toNat, by omega⟩
        have := fin k g1 b1 (by omega) k1
        simp at this ⊢
        exact this
theorem put_cut : c__law_put = (sSeq (sPar2 3 4 (cCons (cLcG (itAny (cVar 1)) (.nm 7) cYes (cArg (on1 (listU true)) (cCons (cVar 7) cNil)) [7]) (cCons (cBin (eqU false) (cArg F__law_take (cCons (cVar 0) (cCons (cCst (.int 2)) cNil))) (cCst (.int 0))) cNil)))
  (sSeq (sAsg (cArg F__law_take (cCons (cVar 0) (cCons (cArg (on1 lenU) (cCons (cVar 3) cNil)) cNil))) (gmName 5))
  (sSeq (sForG (itAny (cVar 2)) (.nm 6) ptB)
  (sRet (cArg (on1 tupleU) (cCons (cLc (itSeq (cVar 3)) (.nm 7) cYes (cArg (on1 tupleU) (cCons (cVar 7) cNil)) [7]) cNil)))))) := rfl
theorem put_wp {i1 i2 : Nat} {p0 : List Bk} {all : List Rw} {g b : Int} {Q : U × Sto → Prop} (hh : h < S.length) (hk : Hok g b) (d1 : D[i1]? = some (.lst (p0.map encB))) (d2 : D[i2]? = some (.lst (all.map encR))) (h0 : 1 ≤ p0.length) (h1 : p0.length ≤ 100) (ha : all.length ≤ 200) (hb : ∀ b ∈ p0, b.rows = [])
    (q : ∀ p g' b' jk, Put p0 p all → Hok g' b' → Q (encP p, St S h (hnd g' b') (D ++ jk))) : wp (F__law_put [.ref h, .ref (S.length + i1), .ref (S.length + i2)] (St S h (hnd g b) D)) Q := by
  have z : p0.length ≤ sizeLine := le_size _ (by omega)
  have rl : (refs S D p0.length).length = p0.length := by simp [refs]
  have lm := lists_map (S := S) (h := h) (o := hnd g b) (env := [some (.ref h), some (.ref (S.length + i1)), some (.ref (S.length + i2)), none, none, none, none, none]) (i1 := i1) (us0 := p0.map encB) rfl p0 D d1
  have lc : cLcG (itAny (cVar 1)) (.nm 7) cYes (cArg (on1 (listU true)) (cCons (cVar 7) cNil)) [7] [some (.ref h), some (.ref (S.length + i1)), some (.ref (S.length + i2)), none, none, none, none, none] (St S h (hnd g b) D) = some (.lst (refs S D p0.length), St S h (hnd g b) (D ++ p0.map bkc)) := by
    have it : itAny (cVar 1) [some (.ref h), some (.ref (S.length + i1)), some (.ref (S.length + i2)), none, none, none, none, none] (St S h (hnd g b) D) = some ((p0.map encB, some (S.length + i1)), St S h (hnd g b) D) := by
      unfold itAny
      simp [d1]
    unfold cLcG cLcGL
    simp only [it]
    rw [show wipeE [some (.ref h), some (.ref (S.length + i1)), some (.ref (S.length + i2)), none, none, none, none, none] [7] = [some (.ref h), some (.ref (S.length + i1)), some (.ref (S.length + i2)), none, none, none, none, none] from rfl, lm]
    simp [rl, z]
  have p00 : Put p0 p0 [] := by
    refine ⟨rfl, rfl, rfl, ?_⟩
    have : p0.flatMap Bk.rows = [] := by
      rw [List.flatMap_eq_nil_iff]
      exact hb
    rw [this]
  unfold F__law_put
  rw [put_cut]
  simp [lc]
  refine take_wp hh hk (by omega) (by omega) fun t g1 b1 t0 t1 k1 => ?_
  simp [rl, z]
  refine take_wp hh k1 (by omega) (by omega) fun t2 g2 b2 t20 t21 k2 => ?_
  obtain ⟨a, rfl⟩ : ∃ a : Nat, t2 = a := ⟨t2.toNat, by omega⟩
  have it2 : ∀ env : Env', env[2]? = some (some (.ref (S.length + i2))) → itAny (cVar 2) env (St S h (hnd g2 b2) (D ++ p0.map bkc)) = some ((all.map encR, some (S.length + i2)), St S h (hnd g2 b2) (D ++ p0.map bkc)) := by
    intro env he
    have : (D ++ p0.map bkc)[i2]? = some (.lst (all.map encR)) := by rw [List.getElem?_append_left (List.getElem?_eq_some_iff.mp d2).1, d2]
    unfold itAny
    simp [he, this]
  unfold sForG
  simp [it2]
  refine put_loop (S := S) (D := D) (p0 := p0) (all := all) hh h0 h1 ha d2 ?_ _ _ _ ⟨p0, [], all, a, g2, b2, none, rfl, rfl, p00, by omega, k2, rfl, rfl⟩
  intro p g3 b3 x5 x6 hp k3
  have tm := fun env he => tups_map (S := S) (h := h) (o := hnd g3 b3) (D := D) (env := env) he p p 0 (by simp)
  have rr : refs S D p0.length = (List.range' 0 p.length).map fun i => U.ref (S.length + (D.length + i)) := by
    unfold refs
    rw [hp.len, List.range_eq_range']
  have pz : p.length ≤ sizeLine := by rw [hp.len]; exact z
  simp [-mapC_cons, -wq_map, rr]
  refine wq_of (tm _ rfl) ?_
  simp [pz]
  exact q p g3 b3 _ hp k3
end
end K02

namespace K02
open PySem PySem.Spec PyProof.Rows L2 OF
def Rw.parts : Rw → List Str
  | .put _ x _ => [x]
  | .copy _ x a => [x, a]
  | .bin _ _ x a b => [x, a, b]
  | .ask _ x => [x]
  | .say _ x => [x]
theorem parts_le (r : Rw) : r.parts.length ≤ 3 := by cases r <;> simp [Rw.parts]
theorem parts_mem (r : Rw) (x : Str) : x ∈ r.parts ↔ x ∈ r.asks ∨ r.gives = some x := by
  cases r <;> simp [Rw.parts, Rw.asks, Rw.gives, eq_comm, or_comm, or_assoc, or_left_comm]
theorem key_bin (w : Wd) : w.s ∈ keys_ROW_PARTS ∧ rpL w.s = [103, 97, 97] := by
  cases w <;> exact ⟨by simp [keys_ROW_PARTS, Wd.s], by decide +kernel⟩
def Rw.okv : Rw → Bool
  | .put _ _ v => numB 0 1000002 (.int v)
  | _ => true
theorem rowB_enc (r : Rw) : rowB (encR r) = (numB 1 9999 (.int r.num) && ((r.parts.all fun x => nameB (.str x)) && r.okv)) := by
  cases r with
  | put n x v => simp [encR, rowB, Rw.num, Rw.parts, Rw.okv, keys_ROW_PARTS, rpL_put, partsB, fitP]
  | copy n x a => simp [encR, rowB, Rw.num, Rw.parts, Rw.okv, keys_ROW_PARTS, rpL_copy, partsB, fitP]
  | bin w n x a b => simp [encR, rowB, Rw.num, Rw.parts, Rw.okv, (key_bin w).1, (key_bin w).2, partsB, fitP]
  | ask n x => simp [encR, rowB, Rw.num, Rw.parts, Rw.okv, keys_ROW_PARTS, rpL_ask, partsB, fitP]
  | say n x => simp [encR, rowB, Rw.num, Rw.parts, Rw.okv, keys_ROW_PARTS, rpL_say, partsB, fitP]
theorem endB_enc (e : En) : endB (encE e) = ((e.asks.all fun x => nameB (.str x)) && ((e.goals.all fun x => nameB (.str x)) && decide e.goals.Nodup)) := by
  cases e with
  | go b => simp [encE, endB, En.asks, En.goals, keys_END_PARTS, epL_go, partsB, fitP]
  | iff a b c => simp [encE, endB, En.asks, En.goals, keys_END_PARTS, epL_if, partsB, fitP, sameB]; cases nameB (.str a) <;> cases nameB (.str b) <;> cases nameB (.str c) <;> simp
  | stop => simp [encE, endB, En.asks, En.goals, keys_END_PARTS, epL_stop, partsB]
theorem blockB_enc (b : Bk) : blockB (encB b) = (nameB (.str b.name) && ((b.rows.map encR).all rowB && endB (encE b.en))) := rfl
theorem asks2 (r : Rw) : r.asks.length ≤ 2 := by cases r <;> simp [Rw.asks]
theorem lines_asks (b : Bk) : (b.lines.flatMap Ln.asks).length ≤ 2 * b.rows.length + 1 := by
  have h1 : b.en.asks.length ≤ 1 := by cases b.en <;> simp [En.asks]
  unfold Bk.lines
  rw [List.flatMap_append, List.length_append]
  have h2 : ((b.rows.map Ln.row).flatMap Ln.asks).length ≤ 2 * b.rows.length := by
    induction b.rows with
    | nil => simp
    | cons r rs ih =>
      have := asks2 r
      rw [List.map_cons, List.flatMap_cons, List.length_append, List.length_cons]
      show r.asks.length + _ ≤ _
      omega
  simp only [List.flatMap_cons, List.flatMap_nil, List.append_nil]
  show _ + b.en.asks.length ≤ _
  omega
theorem allAsks_len : ∀ p : List Bk, (allAsks p).length ≤ 2 * (p.flatMap Bk.rows).length + p.length
  | [] => by simp [allAsks]
  | b :: p => by
    have := allAsks_len p
    have := lines_asks b
    rw [show allAsks (b :: p) = b.lines.flatMap Ln.asks ++ allAsks p from rfl, List.flatMap_cons, List.length_append, List.length_append, List.length_cons]
    omega
theorem wts_app : ∀ (us vs : List U), wts (us ++ vs) = wts us + wts vs
  | [], vs => by simp [wts]
  | u :: us, vs => by simp only [List.cons_append, wts, wts_app us vs]; omega
theorem letL_all : ∀ c ∈ letL, isL c = true ∧ c < 128 := by decide +kernel
theorem letL_get {k : Nat} (hk : k < 26) : letL.getD k 97 ∈ letL := by
  have := letL_len
  rw [List.getD_eq_getElem?_getD, List.getElem?_eq_getElem (by omega)]
  exact List.getElem_mem _
theorem letL_nd : letL.Nodup := by decide +kernel
theorem two_name {i j : Nat} (hi : i < 26) (hj : j < 26) : nameB (.str (two i j)) = true ∧ asc (two i j) = true ∧ (two i j).cps.size = 2 := by
  have h1 := letL_all _ (letL_get hi)
  have h2 := letL_all _ (letL_get hj)
  refine ⟨?_, ?_, by simp [two]⟩
  · simp only [nameB, two, mk, Bool.and_eq_true]
    refine ⟨decide_eq_true ⟨by simp [Str.length], by simp [Str.length]⟩, ?_⟩
    simp only [List.all_cons, List.all_nil, Bool.and_true, Bool.and_eq_true]
    exact ⟨h1.1, h2.1⟩
  · simp only [asc, two, mk, List.all_cons, List.all_nil, Bool.and_true, Bool.and_eq_true]
    exact ⟨decide_eq_true h1.2, decide_eq_true h2.2⟩
theorem two_inj {i j i' j' : Nat} (hi : i < 26) (hi' : i' < 26) (e : two i j = two i' j') : i = i' := by
  have h := mk_inj e
  have hl := letL_len
  have h0 : letL.getD i 97 = letL.getD i' 97 := by simpa using (List.cons.inj h).1
  rw [List.getD_eq_getElem?_getD, List.getElem?_eq_getElem (by omega), List.getD_eq_getElem?_getD, List.getElem?_eq_getElem (by omega)] at h0
  exact (List.getElem_inj letL_nd).mp h0
theorem xs_nodup {xs : List Str} (hl : xs.length ≤ 26) (h : ∀ i (hi : i < xs.length), ∃ j, j < 26 ∧ xs[i] = two i j) : xs.Nodup := by
  rw [List.Nodup, List.pairwise_iff_getElem]
  intro i j hi hj hij e
  obtain ⟨a, _, ea⟩ := h i hi
  obtain ⟨b, _, eb⟩ := h j hj
  rw [ea, eb] at e
  have := two_inj (by omega) (by omega) e
  omega
theorem xs_name {xs : List Str} (hl : xs.length ≤ 26) (h : ∀ i (hi : i < xs.length), ∃ j, j < 26 ∧ xs[i] = two i j) : ∀ x ∈ xs, nameB (.str x) = true ∧ asc x = true ∧ x.cps.size = 2 := by
  intro x hx
  obtain ⟨i, hi, rfl⟩ := List.mem_iff_getElem.mp hx
  obtain ⟨j, hj, e⟩ := h i hi
  rw [e]
  exact two_name (by omega) hj
theorem rowK_dec : ((List.range 101).all fun k => (rowB (encR (rowK k)) && dat (10 ^ 40) (encR (rowK k))) && (decide (wt (encR (rowK k)) ≤ 30) && (((rowK k).parts.all fun x => decide (x ∈ (["a", "b", "c"] : List Str))) && decide ((rowK k).num = (k : Int) + 1)))) = true := by decide +kernel
structure Big (xs : List Str) (m : Nat) (p : List Bk) : Prop where
  nm : p.map Bk.name = xs
  l0 : 1 ≤ p.length
  l1 : p.length ≤ 24
  xn : ∀ i (hi : i < xs.length), ∃ j, j < 26 ∧ xs[i] = two i j
  en : ∀ b ∈ p, ∃ g ∈ xs, b.en = .go g
  rows : (p.flatMap Bk.rows).Perm ((List.range m).map rowK)
theorem rowK_of {m : Nat} (hm : m ≤ 101) {r : Rw} (h : r ∈ (List.range m).map rowK) : rowB (encR r) = true ∧ dat (10 ^ 40) (encR r) = true ∧ wt (encR r) ≤ 30 ∧ (∀ x ∈ r.parts, x ∈ (["a", "b", "c"] : List Str)) := by
  obtain ⟨k, hk, rfl⟩ := List.mem_map.mp h
  have hk' := List.mem_range.mp hk
  have := List.all_eq_true.mp rowK_dec k (List.mem_range.mpr (by omega))
  simp only [Bool.and_eq_true, decide_eq_true_eq, List.all_eq_true] at this
  exact ⟨this.1.1, this.1.2, this.2.1, fun x hx => this.2.2.1 x hx⟩
theorem go_wt : (Str.ofString "go").cps.size = 2 := by decide +kernel
theorem go_asc : asc (Str.ofString "go") = true := by decide +kernel
theorem rows_wt {m : Nat} (hm : m ≤ 101) : ∀ rs : List Rw, (∀ r ∈ rs, r ∈ (List.range m).map rowK) → wts (rs.map encR) ≤ 31 * rs.length ∧ dats (10 ^ 40) (rs.map encR) = true
  | [], _ => ⟨by simp [wts], by simp [dats]⟩
  | r :: rs, h => by
    obtain ⟨a, b⟩ := rows_wt hm rs fun x hx => h x (by simp [hx])
    obtain ⟨h1, h2, h3, h4⟩ := rowK_of hm (h r (by simp))
    refine ⟨?_, ?_⟩
    · simp only [List.map_cons, wts, List.length_cons]; omega
    · simp only [List.map_cons, dats, Bool.and_eq_true]; exact ⟨h2, b⟩
section
variable {xs : List Str} {m : Nat} {p : List Bk}
theorem Big.mem (h : Big xs m p) {b : Bk} (hb : b ∈ p) {r : Rw} (hr : r ∈ b.rows) : r ∈ (List.range m).map rowK := h.rows.mem_iff.mp (List.mem_flatMap.mpr ⟨b, hb, hr⟩)
theorem blocks_wt {xs : List Str} {m : Nat} (hm : m ≤ 101) (hx : ∀ x ∈ xs, nameB (.str x) = true ∧ asc x = true ∧ x.cps.size = 2) : ∀ p : List Bk, (∀ b ∈ p, b.name ∈ xs ∧ (∃ g ∈ xs, b.en = .go g) ∧ ∀ r ∈ b.rows, r ∈ (List.range m).map rowK) → wts (p.map encB) ≤ 12 * p.length + 31 * (p.flatMap Bk.rows).length ∧ dats (10 ^ 40) (p.map encB) = true
  | [], _ => ⟨by simp [wts], by simp [dats]⟩
  | b :: p, h => by
    obtain ⟨a, c⟩ := blocks_wt hm hx p fun x hx => h x (by simp [hx])
    obtain ⟨h1, ⟨g, hg, eg⟩, h3⟩ := h b (by simp)
    obtain ⟨r1, r2⟩ := rows_wt hm b.rows h3
    obtain ⟨n1, n2, n3⟩ := hx _ h1
    obtain ⟨m1, m2, m3⟩ := hx _ hg
    rw [List.flatMap_cons, List.length_append, List.length_cons, List.map_cons]
    refine ⟨?_, ?_⟩
    · simp only [wts, encB, wt, eg, encE, n3, m3, go_wt]; omega
    · simp only [dats, encB, dat, eg, encE, n2, m2, r2, go_asc, c, Bool.and_self, Bool.and_true]
theorem Big.names (h : Big xs m p) (hm : m ≤ 101) : ∀ x ∈ nameSet p, x ∈ (["a", "b", "c"] : List Str) := by
  intro x hx
  unfold nameSet at hx
  rw [addS_mem, addS_mem, addS_mem] at hx
  unfold allAsks allGives Bk.lines at hx
  simp only [List.mem_flatMap, List.mem_append, List.not_mem_nil, false_or, List.mem_map, List.mem_singleton, List.mem_filterMap] at hx
  rcases hx with ⟨b, hb, l, (⟨r, hr, rfl⟩ | rfl), hx⟩ | ⟨b, hb, r, hr, hx⟩
  · exact (rowK_of hm (h.mem hb hr)).2.2.2 x ((parts_mem r x).mpr (.inl hx))
  · obtain ⟨g, _, e⟩ := h.en b hb
    have : x ∈ (En.go g).asks := by rw [← e]; exact hx
    simp [En.asks] at this
  · exact (rowK_of hm (h.mem hb hr)).2.2.2 x ((parts_mem r x).mpr (.inr hx))
theorem Big.few_names (h : Big xs m p) (hm : m ≤ 101) : (nameSet p).length ≤ 3 := by
  have := nodup_len (addS_nodup (addS [] (allGives p)) _ (addS_nodup (allAsks p) [] List.nodup_nil)) (h.names hm)
  simpa [nameSet] using this
theorem Big.len (h : Big xs m p) : (p.flatMap Bk.rows).length = m := by rw [h.rows.length_eq]; simp
theorem Big.fine (h : Big xs m p) (hm : m ≤ 101) : Fine p := by
  have hl : xs.length = p.length := by rw [← h.nm]; simp
  have l1 := h.l1
  have hx := xs_name (by omega) h.xn
  have pl := h.len
  have bn : ∀ b ∈ p, b.name ∈ xs := fun b hb => by rw [← h.nm]; exact List.mem_map_of_mem hb
  obtain ⟨w1, w2⟩ := blocks_wt hm hx p fun b hb => ⟨bn b hb, h.en b hb, fun r hr => h.mem hb hr⟩
  refine ⟨⟨by simpa only [encP, dat] using w2, by simp only [encP, wt]; omega⟩, h.l0, h.l1, ?_, ?_, ?_, ?_⟩
  · rw [List.all_eq_true]
    intro u hu
    obtain ⟨b, hb, rfl⟩ := List.mem_map.mp hu
    obtain ⟨g, hg, eg⟩ := h.en b hb
    rw [blockB_enc, eg, endB_enc]
    simp only [Bool.and_eq_true, List.all_eq_true]
    refine ⟨(hx _ (bn b hb)).1, fun v hv => ?_, by simp [En.asks], by simp only [En.goals, List.mem_singleton, forall_eq]; exact (hx _ hg).1, by simp [En.goals]⟩
    obtain ⟨r, hr, rfl⟩ := List.mem_map.mp hv
    exact (rowK_of hm (h.mem hb hr)).1
  · have := allAsks_len p
    omega
  · omega
  · have := h.few_names hm
    omega
theorem Big.isp (h : Big xs m p) (hm : m ≤ 101) : P_is_program [encP p] = some (.bl (decide (m ≤ 100))) := by
  have hl : xs.length = p.length := by rw [← h.nm]; simp
  have l1 := h.l1
  have nums : numsL p = (p.flatMap Bk.rows).map Rw.num := by
    unfold numsL
    rw [List.map_flatMap]
  have nk : ((List.range m).map rowK).map Rw.num = (List.range m).map fun (k : Nat) => (k : Int) + 1 := by
    rw [List.map_map]
    apply List.map_congr_left
    intro k hk
    have hk' := List.mem_range.mp hk
    have := List.all_eq_true.mp rowK_dec k (List.mem_range.mpr (by omega))
    simp only [Bool.and_eq_true, decide_eq_true_eq, List.all_eq_true] at this
    exact this.2.2.2
  have nn : (numsL p).Nodup := by
    rw [nums, (h.rows.map Rw.num).nodup_iff, nk]
    exact List.nodup_range.map _ fun a b hab e => hab (by omega)
  have nl : (numsL p).length = m := by rw [numsL_len, h.len]
  have fn := h.few_names hm
  rw [fine_isp (h.fine hm)]
  unfold progP
  rw [unl_of (h.nm ▸ (xs_nodup (by omega) h.xn).map Sum.inr (fun a b hab e => hab (Sum.inr.inj e))), unl_of (nn.map Sum.inl (fun a b hab e => hab (Sum.inl.inj e))), nl, decide_eq_true (show (nameSet p).length ≤ 12 by omega)]
  have hg : ((goalsL p).all fun g => decide (g ∈ p.map Bk.name)) = true := by
    rw [List.all_eq_true]
    intro g hg
    unfold goalsL at hg
    obtain ⟨b, hb, hg⟩ := List.mem_flatMap.mp hg
    obtain ⟨x, hx, e⟩ := h.en b hb
    rw [e] at hg
    simp [En.goals] at hg
    rw [h.nm, hg]
    exact decide_eq_true hx
  rw [hg]
  simp
end
end K02

namespace K02
open PySem PySem.Spec PyProof.Rows L2 OF
noncomputable def lA : Sm := (sIf (cNotT (cTru (cArg (liftP P__law_is) (cCons (cArg (liftP P_is_program) (cCons (cArg (on1 tupleU) (cCons (cArg F__law_blocks (cCons (cVar 2) (cCons (cVar 3) cNil))) cNil)) cNil)) (cCons (cBin (eqU false) (cVar 3) (cCst (.int 24))) cNil)))))
  (sRet (cCst (.bl false)))
  sNil)
noncomputable def lB : Sm := (sSeq (sAsg (cArg F__law_put (cCons (cVar 2) (cCons (cArg F__law_blocks (cCons (cVar 2) (cCons (cBin (addU false) (cCst (.int 1)) (cArg F__law_take (cCons (cVar 2) (cCons (cCst (.int 24)) cNil)))) cNil))) (cCons (cArg F__law_rows (cCons (cVar 3) (cCons (cArg oLst (cCons (cCst (.str "a")) (cCons (cCst (.str "b")) (cCons (cCst (.str "c")) cNil)))) cNil))) cNil)))) (gmName 4))
  (sIf (cNotT (cTru (cArg (liftP P__law_is) (cCons (cArg (liftP P_is_program) (cCons (cVar 4) cNil)) (cCons (cBin (eqU false) (cVar 3) (cCst (.int 100))) cNil)))))
  (sRet (cCst (.bl false)))
  sNil))
noncomputable def lC : Sm := (sIf (cNotT (cTru (cArg (liftP P__law_is) (cCons (cArg (liftP P_is_program) (cCons (cArg F__law_named (cCons (cVar 2) (cCons (cVar 3) cNil))) cNil)) (cCons (cBin (eqU false) (cVar 3) (cCst (.int 12))) cNil)))))
  (sRet (cCst (.bl false)))
  sNil)
noncomputable def lD : Sm := (sSeq (sAsg (cArg F__law_small (cCons (cVar 2) cNil)) (gmPat (.tp [(.nm 4), (.nm 6)])))
  (sIf (cOrT (cNotT (cTru (cArg (liftP P__law_is) (cCons (cArg (liftP P_is_program) (cCons (cVar 4) cNil)) (cCons (cVar 6) cNil))))) (cNotT (cTru (cArg (liftP P__law_is) (cCons (cArg (liftP P_is_program) (cCons (cArg F__law_deep (cCons (cVar 2) cNil)) cNil)) (cCons (cCst (.bl false)) cNil))))))
  (sRet (cCst (.bl false)))
  sNil))
noncomputable def lE : Sm := (sSeq (sAsg (cArg F__law_hand (cCons (cVar 0) (cCons (cVar 1) cNil))) (gmName 2))
  (sSeq (sFor (itSeq (cArg oTup (cCons (cCst (.int 24)) (cCons (cCst (.int 25)) cNil)))) (.nm 3) lA)
  (sSeq (sFor (itSeq (cArg oTup (cCons (cCst (.int 100)) (cCons (cCst (.int 101)) cNil)))) (.nm 3) lB)
  (sSeq (sFor (itSeq (cArg oTup (cCons (cCst (.int 12)) (cCons (cCst (.int 13)) cNil)))) (.nm 3) lC)
  (sFor (itR1 (cCons (cCst (.int 12)) cNil)) (.nm 5) lD)))))
theorem law_cut : c_law = (sSeq (sIf (cTru (cBin (eqU true) (cArg oLst (cCons (cCst (.int 1000003)) (cCons (cCst (.int 24)) (cCons (cCst (.int 100)) (cCons (cCst (.int 12)) (cCons (cCst (.int 200)) (cCons (cCst (.str "spare")) cNil))))))) (cArg oLst (cCons (cCst (.int 1000003)) (cCons (cCst (.int 24)) (cCons (cCst (.int 100)) (cCons (cCst (.int 12)) (cCons (cCst (.int 200)) (cCons (cCst (.str "spare")) cNil)))))))))
  (sRet (cCst (.bl false)))
  sNil)
  (sSeq (sFor (itR1 (cCons (cArg (on2 maxU) (cCons (cCst (.int 1)) (cCons (cArg (on2 minU) (cCons (cCst (.int 3)) (cCons (cArg (on1 lenU) (cCons (cVar 0) cNil)) cNil))) cNil))) cNil)) (.nm 1) lE)
  (sRet (cCst (.bl true))))) := rfl
section
variable {S : Sto} {h : Nat} {cs : List O} {x0 x1 x4 x5 x6 : Option U}
theorem A_wp {g b : Int} {n : Nat} {Q : Fl × Env' × Sto → Prop} (hh : h < S.length) (hk : Hok g b) (hn : n = 24 ∨ n = 25)
    (q : ∀ g' b' jk, Hok g' b' → Q (.nx, [x0, x1, some (.ref h), some (.int (n : Int)), x4, x5, x6], St S h (hnd g' b') (cs ++ jk))) : wp (lA [x0, x1, some (.ref h), some (.int (n : Int)), x4, x5, x6] (St S h (hnd g b) cs)) Q := by
  unfold lA
  simp
  refine blocks_wp hh hk (by omega) (by omega) fun xs p g1 b1 xl xn pn pb k1 => ?_
  have pl : p.length = n := by rw [← xl, ← pn]; simp
  have nr := noref_encP p
  have he : encP p = .tup (p.map encB) := rfl
  have isp : P_is_program [encP p] = some (.bl (decide (n = 24))) := by
    rcases hn with rfl | rfl
    · have big : Big xs 0 p := ⟨pn, by omega, by omega, xn, fun b hb => (pb b hb).en, by
        have : p.flatMap Bk.rows = [] := by rw [List.flatMap_eq_nil_iff]; exact fun b hb => (pb b hb).rows
        rw [this]; simp⟩
      exact big.isp (by omega)
    · exact no_long (by simp; omega)
  rw [he] at nr isp
  have io := is_ok (decide (n = 24)) (decide (n = 24))
  have en : decide ((n : Int) = 24) = decide (n = 24) := by rcases hn with rfl | rfl <;> rfl
  simp [nr, norefs, isp, en, io]
  exact q g1 b1 _ k1
theorem B_wp {g b : Int} {n : Nat} {Q : Fl × Env' × Sto → Prop} (hh : h < S.length) (hk : Hok g b) (hn : n = 100 ∨ n = 101)
    (q : ∀ g' b' jk x4, Hok g' b' → Q (.nx, [x0, x1, some (.ref h), some (.int (n : Int)), x4, x5, x6], St S h (hnd g' b') (cs ++ jk))) : wp (lB [x0, x1, some (.ref h), some (.int (n : Int)), x4, x5, x6] (St S h (hnd g b) cs)) Q := by
  unfold lB
  simp
  refine take_wp hh hk (by omega) (by omega) fun t g0 b0 t0 t1 k0 => ?_
  obtain ⟨m, hm⟩ : ∃ m : Nat, 1 + t = m := ⟨(1 + t).toNat, by omega⟩
  simp [hm]
  refine blocks_wp hh k0 (by omega) (by omega) fun xs p g1 b1 xl xn pn pb k1 => ?_
  have pl : p.length = m := by rw [← xl, ← pn]; simp
  simp
  refine rows_wp n (by omega) _ ?_
  simp [-List.map_map]
  have r1 : (St S h (hnd g1 b1) (cs ++ [O.lst (p.map encB)])).length = S.length + (cs.length + 1) := by simp
  refine put_wp (D := cs ++ [O.lst (p.map encB), O.lst (((List.range n).map rowK).map encR)]) (p0 := p) (all := (List.range n).map rowK) (i1 := cs.length) (i2 := cs.length + 1) hh k1 (by simp) (by simp) (by omega) (by omega) (by simp; omega) (fun b hb => (pb b hb).rows) fun p2 g2 b2 jk hp k2 => ?_
  have nr := noref_encP p2
  have big : Big xs n p2 := by
    refine ⟨by rw [hp.nm, pn], by rw [hp.len]; omega, by rw [hp.len]; omega, xn, fun b hb => ?_, hp.rows⟩
    have : b.en ∈ p.map Bk.en := by rw [← hp.en]; exact List.mem_map_of_mem hb
    obtain ⟨c, hc, e⟩ := List.mem_map.mp this
    obtain ⟨x, hx, ex⟩ := (pb c hc).en
    exact ⟨x, hx, by rw [← e, ex]⟩
  have isp := big.isp (by omega)
  have io := is_ok (decide (n ≤ 100)) (decide (n ≤ 100))
  have en : decide ((n : Int) = 100) = decide (n ≤ 100) := by rcases hn with rfl | rfl <;> rfl
  simp [nr, norefs, isp, en, io]
  exact q g2 b2 _ _ k2
theorem C_wp {g b : Int} {n : Nat} {N : Int} {Q : Fl × Env' × Sto → Prop} (hh : h < S.length) (hk : Hok g b) (hn : n = 11 ∨ n = 12) (hN : N = ((n + 1 : Nat) : Int))
    (q : ∀ g' b' jk, Hok g' b' → Q (.nx, [x0, x1, some (.ref h), some (.int N), x4, x5, x6], St S h (hnd g' b') (cs ++ jk))) : wp (lC [x0, x1, some (.ref h), some (.int N), x4, x5, x6] (St S h (hnd g b) cs)) Q := by
  have nw := fun Q => named_wp (S := S) (cs := cs) (Q := Q) hh hk hn
  rw [← hN] at nw
  unfold lC
  simp
  refine nw _ ?_
  intro w jk g1 b1 hw k1
  have nr := noref_encP (namP n w)
  have isp := nam_ok hn hw
  have io := is_ok (decide (n = 11)) (decide (n = 11))
  have en : decide (N = 12) = decide (n = 11) := by rw [hN]; rcases hn with rfl | rfl <;> rfl
  simp [nr, norefs, isp, en, io]
  exact q g1 b1 _ k1
theorem D_wp {g b : Int} {Q : Fl × Env' × Sto → Prop} {x3 : Option U} (hh : h < S.length) (hk : Hok g b)
    (q : ∀ g' b' jk x4 x6, Hok g' b' → Q (.nx, [x0, x1, some (.ref h), x3, x4, x5, x6], St S h (hnd g' b') (cs ++ jk))) : wp (lD [x0, x1, some (.ref h), x3, x4, x5, x6] (St S h (hnd g b) cs)) Q := by
  unfold lD
  simp
  refine small_wp hh hk fun us fl g1 b1 i1 n1 k1 => ?_
  have io := is_ok fl fl
  simp [i1, n1, norefs, io]
  refine deep_wp hh k1 fun u jk g2 b2 i2 n2 k2 => ?_
  have io2 := is_ok false false
  simp [i2, n2, norefs, io2]
  exact q g2 b2 _ _ _ k2
def dI (S : Sto) (h : Nat) (cs : List O) (x0 x1 x3 : Option U) (us : List U) (env : Env') (X : Sto) : Prop := ∃ (jk : List O) (x4 x5 x6 : Option U) (g b : Int), Hok g b ∧ env = [x0, x1, some (.ref h), x3, x4, x5, x6] ∧ X = St S h (hnd g b) (cs ++ jk)
theorem E_wp (ns : List Int) (hn : ns.length ≤ 63) (k : Nat) (hk : k < 100) (x2 x3 x4 x5 x6 : Option U) (S : Sto) :
    wp (lE [some (.scr (ns.map .int)), some (.int k), x2, x3, x4, x5, x6] S) fun r => ∃ y2 y3 y4 y5 y6 S', r = (.nx, [some (.scr (ns.map .int)), some (.int k), y2, y3, y4, y5, y6], S') := by
  obtain ⟨g, b, e, k1⟩ := hand_ok ns k S hk hn
  have hS : (S ++ [hnd g b])[S.length]? = some (hnd g b) := by simp
  unfold lE
  simp [-loopF_cons, e]
  have hh := st_lt hS
  have es := st_of hS
  generalize S ++ [hnd g b] = S1 at hS hh es ⊢
  generalize S.length = h at hS hh es ⊢
  rw [es]
  refine A_wp (n := 24) hh k1 (.inl rfl) fun g1 b1 j1 k1 => ?_
  simp [-loopF_cons]
  refine A_wp (n := 25) hh k1 (.inr rfl) fun g2 b2 j2 k2 => ?_
  simp [-loopF_cons]
  refine B_wp (n := 100) hh k2 (.inl rfl) fun g3 b3 j3 y4 k3 => ?_
  simp [-loopF_cons]
  refine B_wp (n := 101) hh k3 (.inr rfl) fun g4 b4 j4 y4 k4 => ?_
  simp [-loopF_cons]
  refine C_wp (n := 11) hh k4 (.inl rfl) rfl fun g5 b5 j5 k5 => ?_
  simp [-loopF_cons]
  refine C_wp (n := 12) hh k5 (.inr rfl) rfl fun g6 b6 j6 k6 => ?_
  simp [-loopF_cons, -wq_loop]
  refine wp_loop_inv (I := dI S1 h [] (some (.scr (ns.map .int))) (some (.int k)) (some (.int 13))) ?_ ?_ _ _ _ ⟨_, _, _, _, g6, b6, k6, rfl, by simp; rfl⟩
  · rintro e X ⟨jk, y4, y5, y6, g, b, k, rfl, rfl⟩
    simp
  · rintro u us e X ⟨jk, y4, y5, y6, g, b, k, rfl, rfl⟩
    simp only [bindP_nm, wp_some, setAll_cons, setAll_nil, List.set_cons_succ, List.set_cons_zero]
    refine D_wp hh k fun g7 b7 j7 z4 z6 k7 => ?_
    exact ⟨jk ++ j7, _, _, _, g7, b7, k7, rfl, by simp⟩
theorem max_nat (m : Int) (h : m < 100) : ∃ K : Nat, (∀ S : Sto, maxU (.int 1) (.int m) S = some (.int K, S)) ∧ K < 100 := by
  by_cases h1 : m > 1
  · refine ⟨m.toNat, fun S => ?_, by omega⟩
    show some (U.int (if m > 1 then m else 1), S) = _
    rw [if_pos h1, Int.toNat_of_nonneg (by omega)]
  · refine ⟨1, fun S => ?_, by omega⟩
    show some (U.int (if m > 1 then m else 1), S) = _
    rw [if_neg h1]
    rfl
theorem law_true (ns : List Int) (hn : ns.length ≤ 63) : P_law [.scr (ns.map .int)] = some (.bl true) := by
  suffices h : wp (P_law [.scr (ns.map .int)]) (fun u => u = .bl true) by
    obtain ⟨u, e, rfl⟩ := h
    exact e
  obtain ⟨m, hm, hm1⟩ : ∃ m : Int, (∀ S : Sto, minU (.int 3) (.int (ns.length : Int)) S = some (.int m, S)) ∧ m < 100 := by
    refine ⟨if (ns.length : Int) < 3 then (ns.length : Int) else 3, fun S => rfl, ?_⟩
    split <;> omega
  obtain ⟨K, hK, hK2⟩ := max_nat m hm1
  have hK3 : (K : Int) < 4611686018427387904 := by omega
  have q0 : ∀ S, OF.eqU true (.lst [.int 1000003, .int 24, .int 100, .int 12, .int 200, .str "spare"]) (.lst [.int 1000003, .int 24, .int 100, .int 12, .int 200, .str "spare"]) S = some (.bl false, S) := fun S => eqU_same (by decide +kernel)
  unfold P_law
  rw [law_cut]
  simp [-loopF_cons, hm, hK, hK3, q0]
  rw [rangeU_eq]
  refine wp_loop_inv (I := fun us env S => ∃ (ks : List Nat) (x1 x2 x3 x4 x5 x6 : Option U), us = ks.map (fun (i : Nat) => U.int (i : Int)) ∧ (∀ k ∈ ks, k < 100) ∧ env = [some (.scr (ns.map .int)), x1, x2, x3, x4, x5, x6]) ?_ ?_ _ _ _ ⟨List.range K, none, none, none, none, none, none, rfl, fun k hk => by have := List.mem_range.mp hk; omega, rfl⟩
  · rintro e S ⟨ks, x1, x2, x3, x4, x5, x6, hu, hks, rfl⟩
    simp
  · rintro u us e S ⟨ks, x1, x2, x3, x4, x5, x6, hu, hks, rfl⟩
    cases ks with
    | nil => cases hu
    | cons k ks =>
      simp only [List.map_cons, List.cons.injEq] at hu
      obtain ⟨rfl, rfl⟩ := hu
      simp only [bindP_nm, wp_some, setAll_cons, setAll_nil, List.set_cons_succ, List.set_cons_zero]
      refine wp_mono (E_wp ns hn k (hks k (by simp)) _ _ _ _ _ _) ?_
      rintro _ ⟨y2, y3, y4, y5, y6, S', rfl⟩
      exact ⟨ks, _, _, _, _, _, _, rfl, fun k hk => hks k (by simp [hk]), rfl⟩
end
end K02

namespace K02
open PySem PySem.Spec PyProof.Rows L2 OF
theorem all_mk {l : PySem.W.OpenLaw} {w : World} {K : PySem.W.Frag} {h : Heap} {mg : Str → Option Value} {fa f__law_hand f__law_take f__law_put f__law_pick f__law_small f__law_is f__law_blocks f__law_rows f_are_unlike f_asked_by f_given_by f_names_of f_is_name f_is_number D_is_number f_fits_part f_are_parts f_is_end f_is_row f_is_block f_goals_in f_is_program f__law_named f__law_deep f_law d_END_PARTS d_ROW_PARTS : Addr} (X : K.In h) (G : h.Ns mainGlobals mg) (hfa : mg "law" = some (.ref fa))
    {od__law_hand an__law_hand od__law_take an__law_take od__law_put an__law_put od__law_pick an__law_pick od__law_small an__law_small od__law_is an__law_is od__law_blocks an__law_blocks od__law_rows an__law_rows od_are_unlike an_are_unlike od_asked_by an_asked_by od_given_by an_given_by od_names_of an_names_of od_is_name an_is_name od_is_number an_is_number od_fits_part an_fits_part od_are_parts an_are_parts od_is_end an_is_end od_is_row an_is_row od_is_block an_is_block od_goals_in an_goals_in od_is_program an_is_program od__law_named an__law_named od__law_deep an__law_deep od_law an_law : Option Addr} {sl__law_hand sl__law_take sl__law_put sl__law_pick sl__law_small sl__law_is sl__law_blocks sl__law_rows sl_are_unlike sl_asked_by sl_given_by sl_names_of sl_is_name sl_is_number sl_fits_part sl_are_parts sl_is_end sl_is_row sl_is_block sl_goals_in sl_is_program sl__law_named sl__law_deep sl_law : Array (Option Value)} {oc__law_hand dc__law_hand pm__law_hand cd__law_hand ct__law_hand kV__law_hand oc__law_take dc__law_take pm__law_take cd__law_take ct__law_take kV__law_take oc__law_put dc__law_put pm__law_put cd__law_put ct__law_put kV__law_put oc__law_pick dc__law_pick pm__law_pick cd__law_pick ct__law_pick kV__law_pick oc__law_small dc__law_small pm__law_small cd__law_small ct__law_small kV__law_small oc__law_is dc__law_is pm__law_is cd__law_is ct__law_is kV__law_is oc__law_blocks dc__law_blocks pm__law_blocks cd__law_blocks ct__law_blocks kV__law_blocks oc__law_rows dc__law_rows pm__law_rows cd__law_rows ct__law_rows kV__law_rows oc_are_unlike dc_are_unlike pm_are_unlike cd_are_unlike ct_are_unlike kV_are_unlike oc_asked_by dc_asked_by pm_asked_by cd_asked_by ct_asked_by kV_asked_by oc_given_by dc_given_by pm_given_by cd_given_by ct_given_by kV_given_by oc_names_of dc_names_of pm_names_of cd_names_of ct_names_of kV_names_of oc_is_name dc_is_name pm_is_name cd_is_name ct_is_name kV_is_name oc_is_number dc_is_number pm_is_number cd_is_number ct_is_number oc_fits_part dc_fits_part pm_fits_part cd_fits_part ct_fits_part kV_fits_part oc_are_parts dc_are_parts pm_are_parts cd_are_parts ct_are_parts kV_are_parts oc_is_end dc_is_end pm_is_end cd_is_end ct_is_end kV_is_end oc_is_row dc_is_row pm_is_row cd_is_row ct_is_row kV_is_row oc_is_block dc_is_block pm_is_block cd_is_block ct_is_block kV_is_block oc_goals_in dc_goals_in pm_goals_in cd_goals_in ct_goals_in kV_goals_in oc_is_program dc_is_program pm_is_program cd_is_program ct_is_program kV_is_program oc__law_named dc__law_named pm__law_named cd__law_named ct__law_named kV__law_named oc__law_deep dc__law_deep pm__law_deep cd__law_deep ct__law_deep kV__law_deep oc_law dc_law pm_law cd_law ct_law kV_law : Value} {w_is_number_low : Tok} {w_is_number_high : Tok} {t_LETTERS : Tok} {t_MOST_BLOCKS : Tok} {t_MOST_NAMES : Tok} {t_MOST_ROWS : Tok} {t_MOST_SIGNS : Tok} {t_SPARE : Tok} {t_STEPS : Tok} {t_WHEEL : Tok} {es_END_PARTS : Array DictEntry} {en_END_PARTS : Nat} {tt_END_PARTS_0 : Tok} {tt_END_PARTS_1 : Tok} {tt_END_PARTS_2 : Tok} {es_ROW_PARTS : Array DictEntry} {en_ROW_PARTS : Nat} {tt_ROW_PARTS_0 : Tok} {tt_ROW_PARTS_1 : Tok} {tt_ROW_PARTS_2 : Tok} {tt_ROW_PARTS_3 : Tok} {tt_ROW_PARTS_4 : Tok} {tt_ROW_PARTS_5 : Tok} {tt_ROW_PARTS_6 : Tok} {tt_ROW_PARTS_7 : Tok} {tt_ROW_PARTS_8 : Tok} {tt_ROW_PARTS_9 : Tok}
    (a__law_hand : PySem.W.nsIn K mainGlobals "_law_hand" = some (some (.ref f__law_hand)))
    (l__law_hand : K.lookup f__law_hand = some ⟨oc__law_hand, od__law_hand, .func (PySem.W.fnOf "_law_hand" "_law_hand" (defArgs st__law_hand) (defBody st__law_hand) (defScope st__law_hand) .none kV__law_hand dc__law_hand pm__law_hand an__law_hand cd__law_hand ct__law_hand), sl__law_hand⟩)
    (c__law_hand : PySem.W.codeIn K cd__law_hand "_law_hand" = true)
    (k__law_hand : PySem.W.keepIn K (.ref f__law_hand) = true)
    (a__law_take : PySem.W.nsIn K mainGlobals "_law_take" = some (some (.ref f__law_take)))
    (l__law_take : K.lookup f__law_take = some ⟨oc__law_take, od__law_take, .func (PySem.W.fnOf "_law_take" "_law_take" (defArgs st__law_take) (defBody st__law_take) (defScope st__law_take) .none kV__law_take dc__law_take pm__law_take an__law_take cd__law_take ct__law_take), sl__law_take⟩)
    (c__law_take : PySem.W.codeIn K cd__law_take "_law_take" = true)
    (k__law_take : PySem.W.keepIn K (.ref f__law_take) = true)
    (a__law_put : PySem.W.nsIn K mainGlobals "_law_put" = some (some (.ref f__law_put)))
    (l__law_put : K.lookup f__law_put = some ⟨oc__law_put, od__law_put, .func (PySem.W.fnOf "_law_put" "_law_put" (defArgs st__law_put) (defBody st__law_put) (defScope st__law_put) .none kV__law_put dc__law_put pm__law_put an__law_put cd__law_put ct__law_put), sl__law_put⟩)
    (c__law_put : PySem.W.codeIn K cd__law_put "_law_put" = true)
    (k__law_put : PySem.W.keepIn K (.ref f__law_put) = true)
    (a__law_pick : PySem.W.nsIn K mainGlobals "_law_pick" = some (some (.ref f__law_pick)))
    (l__law_pick : K.lookup f__law_pick = some ⟨oc__law_pick, od__law_pick, .func (PySem.W.fnOf "_law_pick" "_law_pick" (defArgs st__law_pick) (defBody st__law_pick) (defScope st__law_pick) .none kV__law_pick dc__law_pick pm__law_pick an__law_pick cd__law_pick ct__law_pick), sl__law_pick⟩)
    (c__law_pick : PySem.W.codeIn K cd__law_pick "_law_pick" = true)
    (k__law_pick : PySem.W.keepIn K (.ref f__law_pick) = true)
    (a__law_small : PySem.W.nsIn K mainGlobals "_law_small" = some (some (.ref f__law_small)))
    (l__law_small : K.lookup f__law_small = some ⟨oc__law_small, od__law_small, .func (PySem.W.fnOf "_law_small" "_law_small" (defArgs st__law_small) (defBody st__law_small) (defScope st__law_small) .none kV__law_small dc__law_small pm__law_small an__law_small cd__law_small ct__law_small), sl__law_small⟩)
    (c__law_small : PySem.W.codeIn K cd__law_small "_law_small" = true)
    (k__law_small : PySem.W.keepIn K (.ref f__law_small) = true)
    (a__law_is : PySem.W.nsIn K mainGlobals "_law_is" = some (some (.ref f__law_is)))
    (l__law_is : K.lookup f__law_is = some ⟨oc__law_is, od__law_is, .func (PySem.W.fnOf "_law_is" "_law_is" (defArgs st__law_is) (defBody st__law_is) (defScope st__law_is) .none kV__law_is dc__law_is pm__law_is an__law_is cd__law_is ct__law_is), sl__law_is⟩)
    (c__law_is : PySem.W.codeIn K cd__law_is "_law_is" = true)
    (k__law_is : PySem.W.keepIn K (.ref f__law_is) = true)
    (a__law_blocks : PySem.W.nsIn K mainGlobals "_law_blocks" = some (some (.ref f__law_blocks)))
    (l__law_blocks : K.lookup f__law_blocks = some ⟨oc__law_blocks, od__law_blocks, .func (PySem.W.fnOf "_law_blocks" "_law_blocks" (defArgs st__law_blocks) (defBody st__law_blocks) (defScope st__law_blocks) .none kV__law_blocks dc__law_blocks pm__law_blocks an__law_blocks cd__law_blocks ct__law_blocks), sl__law_blocks⟩)
    (c__law_blocks : PySem.W.codeIn K cd__law_blocks "_law_blocks" = true)
    (k__law_blocks : PySem.W.keepIn K (.ref f__law_blocks) = true)
    (a__law_rows : PySem.W.nsIn K mainGlobals "_law_rows" = some (some (.ref f__law_rows)))
    (l__law_rows : K.lookup f__law_rows = some ⟨oc__law_rows, od__law_rows, .func (PySem.W.fnOf "_law_rows" "_law_rows" (defArgs st__law_rows) (defBody st__law_rows) (defScope st__law_rows) .none kV__law_rows dc__law_rows pm__law_rows an__law_rows cd__law_rows ct__law_rows), sl__law_rows⟩)
    (c__law_rows : PySem.W.codeIn K cd__law_rows "_law_rows" = true)
    (k__law_rows : PySem.W.keepIn K (.ref f__law_rows) = true)
    (a_are_unlike : PySem.W.nsIn K mainGlobals "are_unlike" = some (some (.ref f_are_unlike)))
    (l_are_unlike : K.lookup f_are_unlike = some ⟨oc_are_unlike, od_are_unlike, .func (PySem.W.fnOf "are_unlike" "are_unlike" (defArgs st_are_unlike) (defBody st_are_unlike) (defScope st_are_unlike) .none kV_are_unlike dc_are_unlike pm_are_unlike an_are_unlike cd_are_unlike ct_are_unlike), sl_are_unlike⟩)
    (c_are_unlike : PySem.W.codeIn K cd_are_unlike "are_unlike" = true)
    (k_are_unlike : PySem.W.keepIn K (.ref f_are_unlike) = true)
    (a_asked_by : PySem.W.nsIn K mainGlobals "asked_by" = some (some (.ref f_asked_by)))
    (l_asked_by : K.lookup f_asked_by = some ⟨oc_asked_by, od_asked_by, .func (PySem.W.fnOf "asked_by" "asked_by" (defArgs st_asked_by) (defBody st_asked_by) (defScope st_asked_by) .none kV_asked_by dc_asked_by pm_asked_by an_asked_by cd_asked_by ct_asked_by), sl_asked_by⟩)
    (c_asked_by : PySem.W.codeIn K cd_asked_by "asked_by" = true)
    (k_asked_by : PySem.W.keepIn K (.ref f_asked_by) = true)
    (a_given_by : PySem.W.nsIn K mainGlobals "given_by" = some (some (.ref f_given_by)))
    (l_given_by : K.lookup f_given_by = some ⟨oc_given_by, od_given_by, .func (PySem.W.fnOf "given_by" "given_by" (defArgs st_given_by) (defBody st_given_by) (defScope st_given_by) .none kV_given_by dc_given_by pm_given_by an_given_by cd_given_by ct_given_by), sl_given_by⟩)
    (c_given_by : PySem.W.codeIn K cd_given_by "given_by" = true)
    (k_given_by : PySem.W.keepIn K (.ref f_given_by) = true)
    (a_names_of : PySem.W.nsIn K mainGlobals "names_of" = some (some (.ref f_names_of)))
    (l_names_of : K.lookup f_names_of = some ⟨oc_names_of, od_names_of, .func (PySem.W.fnOf "names_of" "names_of" (defArgs st_names_of) (defBody st_names_of) (defScope st_names_of) .none kV_names_of dc_names_of pm_names_of an_names_of cd_names_of ct_names_of), sl_names_of⟩)
    (c_names_of : PySem.W.codeIn K cd_names_of "names_of" = true)
    (k_names_of : PySem.W.keepIn K (.ref f_names_of) = true)
    (a_is_name : PySem.W.nsIn K mainGlobals "is_name" = some (some (.ref f_is_name)))
    (l_is_name : K.lookup f_is_name = some ⟨oc_is_name, od_is_name, .func (PySem.W.fnOf "is_name" "is_name" (defArgs st_is_name) (defBody st_is_name) (defScope st_is_name) .none kV_is_name dc_is_name pm_is_name an_is_name cd_is_name ct_is_name), sl_is_name⟩)
    (c_is_name : PySem.W.codeIn K cd_is_name "is_name" = true)
    (k_is_name : PySem.W.keepIn K (.ref f_is_name) = true)
    (a_is_number : PySem.W.nsIn K mainGlobals "is_number" = some (some (.ref f_is_number)))
    (l_is_number : K.lookup f_is_number = some ⟨oc_is_number, od_is_number, .func (PySem.W.fnOf "is_number" "is_number" (defArgs st_is_number) (defBody st_is_number) (defScope st_is_number) .none (.ref D_is_number) dc_is_number pm_is_number an_is_number cd_is_number ct_is_number), sl_is_number⟩)
    (c_is_number : PySem.W.codeIn K cd_is_number "is_number" = true)
    (k_is_number : PySem.W.keepIn K (.ref f_is_number) = true)
    (kw_is_number_low : PySem.W.nsIn K D_is_number "low" = some (some (.int 0 w_is_number_low)))
    (kw_is_number_high : PySem.W.nsIn K D_is_number "high" = some (some (.int 9999 w_is_number_high)))
    (a_fits_part : PySem.W.nsIn K mainGlobals "fits_part" = some (some (.ref f_fits_part)))
    (l_fits_part : K.lookup f_fits_part = some ⟨oc_fits_part, od_fits_part, .func (PySem.W.fnOf "fits_part" "fits_part" (defArgs st_fits_part) (defBody st_fits_part) (defScope st_fits_part) .none kV_fits_part dc_fits_part pm_fits_part an_fits_part cd_fits_part ct_fits_part), sl_fits_part⟩)
    (c_fits_part : PySem.W.codeIn K cd_fits_part "fits_part" = true)
    (k_fits_part : PySem.W.keepIn K (.ref f_fits_part) = true)
    (a_are_parts : PySem.W.nsIn K mainGlobals "are_parts" = some (some (.ref f_are_parts)))
    (l_are_parts : K.lookup f_are_parts = some ⟨oc_are_parts, od_are_parts, .func (PySem.W.fnOf "are_parts" "are_parts" (defArgs st_are_parts) (defBody st_are_parts) (defScope st_are_parts) .none kV_are_parts dc_are_parts pm_are_parts an_are_parts cd_are_parts ct_are_parts), sl_are_parts⟩)
    (c_are_parts : PySem.W.codeIn K cd_are_parts "are_parts" = true)
    (k_are_parts : PySem.W.keepIn K (.ref f_are_parts) = true)
    (a_is_end : PySem.W.nsIn K mainGlobals "is_end" = some (some (.ref f_is_end)))
    (l_is_end : K.lookup f_is_end = some ⟨oc_is_end, od_is_end, .func (PySem.W.fnOf "is_end" "is_end" (defArgs st_is_end) (defBody st_is_end) (defScope st_is_end) .none kV_is_end dc_is_end pm_is_end an_is_end cd_is_end ct_is_end), sl_is_end⟩)
    (c_is_end : PySem.W.codeIn K cd_is_end "is_end" = true)
    (k_is_end : PySem.W.keepIn K (.ref f_is_end) = true)
    (a_is_row : PySem.W.nsIn K mainGlobals "is_row" = some (some (.ref f_is_row)))
    (l_is_row : K.lookup f_is_row = some ⟨oc_is_row, od_is_row, .func (PySem.W.fnOf "is_row" "is_row" (defArgs st_is_row) (defBody st_is_row) (defScope st_is_row) .none kV_is_row dc_is_row pm_is_row an_is_row cd_is_row ct_is_row), sl_is_row⟩)
    (c_is_row : PySem.W.codeIn K cd_is_row "is_row" = true)
    (k_is_row : PySem.W.keepIn K (.ref f_is_row) = true)
    (a_is_block : PySem.W.nsIn K mainGlobals "is_block" = some (some (.ref f_is_block)))
    (l_is_block : K.lookup f_is_block = some ⟨oc_is_block, od_is_block, .func (PySem.W.fnOf "is_block" "is_block" (defArgs st_is_block) (defBody st_is_block) (defScope st_is_block) .none kV_is_block dc_is_block pm_is_block an_is_block cd_is_block ct_is_block), sl_is_block⟩)
    (c_is_block : PySem.W.codeIn K cd_is_block "is_block" = true)
    (k_is_block : PySem.W.keepIn K (.ref f_is_block) = true)
    (a_goals_in : PySem.W.nsIn K mainGlobals "goals_in" = some (some (.ref f_goals_in)))
    (l_goals_in : K.lookup f_goals_in = some ⟨oc_goals_in, od_goals_in, .func (PySem.W.fnOf "goals_in" "goals_in" (defArgs st_goals_in) (defBody st_goals_in) (defScope st_goals_in) .none kV_goals_in dc_goals_in pm_goals_in an_goals_in cd_goals_in ct_goals_in), sl_goals_in⟩)
    (c_goals_in : PySem.W.codeIn K cd_goals_in "goals_in" = true)
    (k_goals_in : PySem.W.keepIn K (.ref f_goals_in) = true)
    (a_is_program : PySem.W.nsIn K mainGlobals "is_program" = some (some (.ref f_is_program)))
    (l_is_program : K.lookup f_is_program = some ⟨oc_is_program, od_is_program, .func (PySem.W.fnOf "is_program" "is_program" (defArgs st_is_program) (defBody st_is_program) (defScope st_is_program) .none kV_is_program dc_is_program pm_is_program an_is_program cd_is_program ct_is_program), sl_is_program⟩)
    (c_is_program : PySem.W.codeIn K cd_is_program "is_program" = true)
    (k_is_program : PySem.W.keepIn K (.ref f_is_program) = true)
    (a__law_named : PySem.W.nsIn K mainGlobals "_law_named" = some (some (.ref f__law_named)))
    (l__law_named : K.lookup f__law_named = some ⟨oc__law_named, od__law_named, .func (PySem.W.fnOf "_law_named" "_law_named" (defArgs st__law_named) (defBody st__law_named) (defScope st__law_named) .none kV__law_named dc__law_named pm__law_named an__law_named cd__law_named ct__law_named), sl__law_named⟩)
    (c__law_named : PySem.W.codeIn K cd__law_named "_law_named" = true)
    (k__law_named : PySem.W.keepIn K (.ref f__law_named) = true)
    (a__law_deep : PySem.W.nsIn K mainGlobals "_law_deep" = some (some (.ref f__law_deep)))
    (l__law_deep : K.lookup f__law_deep = some ⟨oc__law_deep, od__law_deep, .func (PySem.W.fnOf "_law_deep" "_law_deep" (defArgs st__law_deep) (defBody st__law_deep) (defScope st__law_deep) .none kV__law_deep dc__law_deep pm__law_deep an__law_deep cd__law_deep ct__law_deep), sl__law_deep⟩)
    (c__law_deep : PySem.W.codeIn K cd__law_deep "_law_deep" = true)
    (k__law_deep : PySem.W.keepIn K (.ref f__law_deep) = true)
    (a_law : PySem.W.nsIn K mainGlobals "law" = some (some (.ref f_law)))
    (l_law : K.lookup f_law = some ⟨oc_law, od_law, .func (PySem.W.fnOf "law" "law" (defArgs st_law) (defBody st_law) (defScope st_law) .none kV_law dc_law pm_law an_law cd_law ct_law), sl_law⟩)
    (c_law : PySem.W.codeIn K cd_law "law" = true)
    (k_law : PySem.W.keepIn K (.ref f_law) = true)
    (n_abs : PySem.W.nsIn K mainGlobals "abs" = some none)
    (n_all : PySem.W.nsIn K mainGlobals "all" = some none)
    (n_bool : PySem.W.nsIn K mainGlobals "bool" = some none)
    (n_enumerate : PySem.W.nsIn K mainGlobals "enumerate" = some none)
    (n_int : PySem.W.nsIn K mainGlobals "int" = some none)
    (n_isinstance : PySem.W.nsIn K mainGlobals "isinstance" = some none)
    (n_len : PySem.W.nsIn K mainGlobals "len" = some none)
    (n_list : PySem.W.nsIn K mainGlobals "list" = some none)
    (n_max : PySem.W.nsIn K mainGlobals "max" = some none)
    (n_min : PySem.W.nsIn K mainGlobals "min" = some none)
    (n_range : PySem.W.nsIn K mainGlobals "range" = some none)
    (n_set : PySem.W.nsIn K mainGlobals "set" = some none)
    (n_sorted : PySem.W.nsIn K mainGlobals "sorted" = some none)
    (n_str : PySem.W.nsIn K mainGlobals "str" = some none)
    (n_tuple : PySem.W.nsIn K mainGlobals "tuple" = some none)
    (n_zip : PySem.W.nsIn K mainGlobals "zip" = some none)
    (kk_LETTERS : PySem.W.nsIn K mainGlobals "LETTERS" = some (some (.str "abcdefghijklmnopqrstuvwxyz" t_LETTERS)))
    (kk_MOST_BLOCKS : PySem.W.nsIn K mainGlobals "MOST_BLOCKS" = some (some (.int 24 t_MOST_BLOCKS)))
    (kk_MOST_NAMES : PySem.W.nsIn K mainGlobals "MOST_NAMES" = some (some (.int 12 t_MOST_NAMES)))
    (kk_MOST_ROWS : PySem.W.nsIn K mainGlobals "MOST_ROWS" = some (some (.int 100 t_MOST_ROWS)))
    (kk_MOST_SIGNS : PySem.W.nsIn K mainGlobals "MOST_SIGNS" = some (some (.int 8 t_MOST_SIGNS)))
    (kk_SPARE : PySem.W.nsIn K mainGlobals "SPARE" = some (some (.str "spare" t_SPARE)))
    (kk_STEPS : PySem.W.nsIn K mainGlobals "STEPS" = some (some (.int 200 t_STEPS)))
    (kk_WHEEL : PySem.W.nsIn K mainGlobals "WHEEL" = some (some (.int 1000003 t_WHEEL)))
    (g_END_PARTS : PySem.W.nsIn K mainGlobals "END_PARTS" = some (some (.ref d_END_PARTS)))
    (lt_END_PARTS : K.lookup d_END_PARTS = some ⟨.type "dict", none, .dict es_END_PARTS en_END_PARTS, #[]⟩)
    (KEYS_END_PARTS : PySem.W.KeysLit w.params es_END_PARTS.toList)
    (NAMES_END_PARTS : keyNames es_END_PARTS = keys_END_PARTS.map some)
    (LOW_END_PARTS : (d_END_PARTS == sysModules) = false)
    (e_END_PARTS_0 : PySem.W.nsIn K d_END_PARTS "go" = some (some (.str "b" tt_END_PARTS_0)))
    (e_END_PARTS_1 : PySem.W.nsIn K d_END_PARTS "if" = some (some (.str "abb" tt_END_PARTS_1)))
    (e_END_PARTS_2 : PySem.W.nsIn K d_END_PARTS "stop" = some (some (.str "" tt_END_PARTS_2)))
    (g_ROW_PARTS : PySem.W.nsIn K mainGlobals "ROW_PARTS" = some (some (.ref d_ROW_PARTS)))
    (lt_ROW_PARTS : K.lookup d_ROW_PARTS = some ⟨.type "dict", none, .dict es_ROW_PARTS en_ROW_PARTS, #[]⟩)
    (KEYS_ROW_PARTS : PySem.W.KeysLit w.params es_ROW_PARTS.toList)
    (NAMES_ROW_PARTS : keyNames es_ROW_PARTS = keys_ROW_PARTS.map some)
    (LOW_ROW_PARTS : (d_ROW_PARTS == sysModules) = false)
    (e_ROW_PARTS_0 : PySem.W.nsIn K d_ROW_PARTS "put" = some (some (.str "gn" tt_ROW_PARTS_0)))
    (e_ROW_PARTS_1 : PySem.W.nsIn K d_ROW_PARTS "copy" = some (some (.str "ga" tt_ROW_PARTS_1)))
    (e_ROW_PARTS_2 : PySem.W.nsIn K d_ROW_PARTS "plus" = some (some (.str "gaa" tt_ROW_PARTS_2)))
    (e_ROW_PARTS_3 : PySem.W.nsIn K d_ROW_PARTS "less" = some (some (.str "gaa" tt_ROW_PARTS_3)))
    (e_ROW_PARTS_4 : PySem.W.nsIn K d_ROW_PARTS "times" = some (some (.str "gaa" tt_ROW_PARTS_4)))
    (e_ROW_PARTS_5 : PySem.W.nsIn K d_ROW_PARTS "part" = some (some (.str "gaa" tt_ROW_PARTS_5)))
    (e_ROW_PARTS_6 : PySem.W.nsIn K d_ROW_PARTS "same" = some (some (.str "gaa" tt_ROW_PARTS_6)))
    (e_ROW_PARTS_7 : PySem.W.nsIn K d_ROW_PARTS "below" = some (some (.str "gaa" tt_ROW_PARTS_7)))
    (e_ROW_PARTS_8 : PySem.W.nsIn K d_ROW_PARTS "ask" = some (some (.str "g" tt_ROW_PARTS_8)))
    (e_ROW_PARTS_9 : PySem.W.nsIn K d_ROW_PARTS "say" = some (some (.str "a" tt_ROW_PARTS_9)))
    : ∃ fd : FuncData, (∀ (s : Shared) (v : Value), BindsTo s fd ⟨[v], []⟩ [("_law_script", v)]) ∧ ∀ base : Heap, K.In base → base.Ns mainGlobals mg → FnOk l.prog w K mg base CX0 7 fa fd ["_law_script"] (spLaw K) := by
  have e := hfa.symm.trans (PySem.W.mg_of X G a_law)
  have e2 : fa = f_law := by injection e with e; injection e
  rw [e2]
  let ad : Ad := ⟨f__law_hand, f__law_take, f__law_put, f__law_pick, f__law_small, f__law_is, f__law_blocks, f__law_rows, f_are_unlike, f_asked_by, f_given_by, f_names_of, f_is_name, f_is_number, f_fits_part, f_are_parts, f_is_end, f_is_row, f_is_block, f_goals_in, f_is_program, f__law_named, f__law_deep, f_law, d_END_PARTS, d_ROW_PARTS, t_LETTERS, t_MOST_BLOCKS, t_MOST_NAMES, t_MOST_ROWS, t_MOST_SIGNS, t_SPARE, t_STEPS, t_WHEEL⟩
  let fd : Fd := ⟨(PySem.W.fnOf "_law_hand" "_law_hand" (defArgs st__law_hand) (defBody st__law_hand) (defScope st__law_hand) .none kV__law_hand dc__law_hand pm__law_hand an__law_hand cd__law_hand ct__law_hand), (PySem.W.fnOf "_law_take" "_law_take" (defArgs st__law_take) (defBody st__law_take) (defScope st__law_take) .none kV__law_take dc__law_take pm__law_take an__law_take cd__law_take ct__law_take), (PySem.W.fnOf "_law_put" "_law_put" (defArgs st__law_put) (defBody st__law_put) (defScope st__law_put) .none kV__law_put dc__law_put pm__law_put an__law_put cd__law_put ct__law_put), (PySem.W.fnOf "_law_pick" "_law_pick" (defArgs st__law_pick) (defBody st__law_pick) (defScope st__law_pick) .none kV__law_pick dc__law_pick pm__law_pick an__law_pick cd__law_pick ct__law_pick), (PySem.W.fnOf "_law_small" "_law_small" (defArgs st__law_small) (defBody st__law_small) (defScope st__law_small) .none kV__law_small dc__law_small pm__law_small an__law_small cd__law_small ct__law_small), (PySem.W.fnOf "_law_is" "_law_is" (defArgs st__law_is) (defBody st__law_is) (defScope st__law_is) .none kV__law_is dc__law_is pm__law_is an__law_is cd__law_is ct__law_is), (PySem.W.fnOf "_law_blocks" "_law_blocks" (defArgs st__law_blocks) (defBody st__law_blocks) (defScope st__law_blocks) .none kV__law_blocks dc__law_blocks pm__law_blocks an__law_blocks cd__law_blocks ct__law_blocks), (PySem.W.fnOf "_law_rows" "_law_rows" (defArgs st__law_rows) (defBody st__law_rows) (defScope st__law_rows) .none kV__law_rows dc__law_rows pm__law_rows an__law_rows cd__law_rows ct__law_rows), (PySem.W.fnOf "are_unlike" "are_unlike" (defArgs st_are_unlike) (defBody st_are_unlike) (defScope st_are_unlike) .none kV_are_unlike dc_are_unlike pm_are_unlike an_are_unlike cd_are_unlike ct_are_unlike), (PySem.W.fnOf "asked_by" "asked_by" (defArgs st_asked_by) (defBody st_asked_by) (defScope st_asked_by) .none kV_asked_by dc_asked_by pm_asked_by an_asked_by cd_asked_by ct_asked_by), (PySem.W.fnOf "given_by" "given_by" (defArgs st_given_by) (defBody st_given_by) (defScope st_given_by) .none kV_given_by dc_given_by pm_given_by an_given_by cd_given_by ct_given_by), (PySem.W.fnOf "names_of" "names_of" (defArgs st_names_of) (defBody st_names_of) (defScope st_names_of) .none kV_names_of dc_names_of pm_names_of an_names_of cd_names_of ct_names_of), (PySem.W.fnOf "is_name" "is_name" (defArgs st_is_name) (defBody st_is_name) (defScope st_is_name) .none kV_is_name dc_is_name pm_is_name an_is_name cd_is_name ct_is_name), (PySem.W.fnOf "is_number" "is_number" (defArgs st_is_number) (defBody st_is_number) (defScope st_is_number) .none (.ref D_is_number) dc_is_number pm_is_number an_is_number cd_is_number ct_is_number), (PySem.W.fnOf "fits_part" "fits_part" (defArgs st_fits_part) (defBody st_fits_part) (defScope st_fits_part) .none kV_fits_part dc_fits_part pm_fits_part an_fits_part cd_fits_part ct_fits_part), (PySem.W.fnOf "are_parts" "are_parts" (defArgs st_are_parts) (defBody st_are_parts) (defScope st_are_parts) .none kV_are_parts dc_are_parts pm_are_parts an_are_parts cd_are_parts ct_are_parts), (PySem.W.fnOf "is_end" "is_end" (defArgs st_is_end) (defBody st_is_end) (defScope st_is_end) .none kV_is_end dc_is_end pm_is_end an_is_end cd_is_end ct_is_end), (PySem.W.fnOf "is_row" "is_row" (defArgs st_is_row) (defBody st_is_row) (defScope st_is_row) .none kV_is_row dc_is_row pm_is_row an_is_row cd_is_row ct_is_row), (PySem.W.fnOf "is_block" "is_block" (defArgs st_is_block) (defBody st_is_block) (defScope st_is_block) .none kV_is_block dc_is_block pm_is_block an_is_block cd_is_block ct_is_block), (PySem.W.fnOf "goals_in" "goals_in" (defArgs st_goals_in) (defBody st_goals_in) (defScope st_goals_in) .none kV_goals_in dc_goals_in pm_goals_in an_goals_in cd_goals_in ct_goals_in), (PySem.W.fnOf "is_program" "is_program" (defArgs st_is_program) (defBody st_is_program) (defScope st_is_program) .none kV_is_program dc_is_program pm_is_program an_is_program cd_is_program ct_is_program), (PySem.W.fnOf "_law_named" "_law_named" (defArgs st__law_named) (defBody st__law_named) (defScope st__law_named) .none kV__law_named dc__law_named pm__law_named an__law_named cd__law_named ct__law_named), (PySem.W.fnOf "_law_deep" "_law_deep" (defArgs st__law_deep) (defBody st__law_deep) (defScope st__law_deep) .none kV__law_deep dc__law_deep pm__law_deep an__law_deep cd__law_deep ct__law_deep), (PySem.W.fnOf "law" "law" (defArgs st_law) (defBody st_law) (defScope st_law) .none kV_law dc_law pm_law an_law cd_law ct_law)⟩
  have F__law_hand : Fun K "_law_hand" "_law_hand" st__law_hand f__law_hand (PySem.W.fnOf "_law_hand" "_law_hand" (defArgs st__law_hand) (defBody st__law_hand) (defScope st__law_hand) .none kV__law_hand dc__law_hand pm__law_hand an__law_hand cd__law_hand ct__law_hand) := fun_mk (st := st__law_hand) l__law_hand c__law_hand k__law_hand
  have b__law_hand := F__law_hand.binds (ps := ["_law_script", "_law_k"]) fun _ _ _ _ _ _ us hl => match us, hl with | [_, _], _ => rfl
  have F__law_take : Fun K "_law_take" "_law_take" st__law_take f__law_take (PySem.W.fnOf "_law_take" "_law_take" (defArgs st__law_take) (defBody st__law_take) (defScope st__law_take) .none kV__law_take dc__law_take pm__law_take an__law_take cd__law_take ct__law_take) := fun_mk (st := st__law_take) l__law_take c__law_take k__law_take
  have b__law_take := F__law_take.binds (ps := ["_law_hand_here", "_law_many"]) fun _ _ _ _ _ _ us hl => match us, hl with | [_, _], _ => rfl
  have F__law_put : Fun K "_law_put" "_law_put" st__law_put f__law_put (PySem.W.fnOf "_law_put" "_law_put" (defArgs st__law_put) (defBody st__law_put) (defScope st__law_put) .none kV__law_put dc__law_put pm__law_put an__law_put cd__law_put ct__law_put) := fun_mk (st := st__law_put) l__law_put c__law_put k__law_put
  have b__law_put := F__law_put.binds (ps := ["_law_hand_here", "_law_blocks_here", "_law_rows_here"]) fun _ _ _ _ _ _ us hl => match us, hl with | [_, _, _], _ => rfl
  have F__law_pick : Fun K "_law_pick" "_law_pick" st__law_pick f__law_pick (PySem.W.fnOf "_law_pick" "_law_pick" (defArgs st__law_pick) (defBody st__law_pick) (defScope st__law_pick) .none kV__law_pick dc__law_pick pm__law_pick an__law_pick cd__law_pick ct__law_pick) := fun_mk (st := st__law_pick) l__law_pick c__law_pick k__law_pick
  have b__law_pick := F__law_pick.binds (ps := ["_law_hand_here", "_law_some"]) fun _ _ _ _ _ _ us hl => match us, hl with | [_, _], _ => rfl
  have F__law_small : Fun K "_law_small" "_law_small" st__law_small f__law_small (PySem.W.fnOf "_law_small" "_law_small" (defArgs st__law_small) (defBody st__law_small) (defScope st__law_small) .none kV__law_small dc__law_small pm__law_small an__law_small cd__law_small ct__law_small) := fun_mk (st := st__law_small) l__law_small c__law_small k__law_small
  have b__law_small := F__law_small.binds (ps := ["_law_hand_here"]) fun _ _ _ _ _ _ us hl => match us, hl with | [_], _ => rfl
  have F__law_is : Fun K "_law_is" "_law_is" st__law_is f__law_is (PySem.W.fnOf "_law_is" "_law_is" (defArgs st__law_is) (defBody st__law_is) (defScope st__law_is) .none kV__law_is dc__law_is pm__law_is an__law_is cd__law_is ct__law_is) := fun_mk (st := st__law_is) l__law_is c__law_is k__law_is
  have b__law_is := F__law_is.binds (ps := ["_law_told", "_law_due"]) fun _ _ _ _ _ _ us hl => match us, hl with | [_, _], _ => rfl
  have F__law_blocks : Fun K "_law_blocks" "_law_blocks" st__law_blocks f__law_blocks (PySem.W.fnOf "_law_blocks" "_law_blocks" (defArgs st__law_blocks) (defBody st__law_blocks) (defScope st__law_blocks) .none kV__law_blocks dc__law_blocks pm__law_blocks an__law_blocks cd__law_blocks ct__law_blocks) := fun_mk (st := st__law_blocks) l__law_blocks c__law_blocks k__law_blocks
  have b__law_blocks := F__law_blocks.binds (ps := ["_law_hand_here", "_law_many"]) fun _ _ _ _ _ _ us hl => match us, hl with | [_, _], _ => rfl
  have F__law_rows : Fun K "_law_rows" "_law_rows" st__law_rows f__law_rows (PySem.W.fnOf "_law_rows" "_law_rows" (defArgs st__law_rows) (defBody st__law_rows) (defScope st__law_rows) .none kV__law_rows dc__law_rows pm__law_rows an__law_rows cd__law_rows ct__law_rows) := fun_mk (st := st__law_rows) l__law_rows c__law_rows k__law_rows
  have b__law_rows := F__law_rows.binds (ps := ["_law_many", "_law_names"]) fun _ _ _ _ _ _ us hl => match us, hl with | [_, _], _ => rfl
  have F_are_unlike : Fun K "are_unlike" "are_unlike" st_are_unlike f_are_unlike (PySem.W.fnOf "are_unlike" "are_unlike" (defArgs st_are_unlike) (defBody st_are_unlike) (defScope st_are_unlike) .none kV_are_unlike dc_are_unlike pm_are_unlike an_are_unlike cd_are_unlike ct_are_unlike) := fun_mk (st := st_are_unlike) l_are_unlike c_are_unlike k_are_unlike
  have b_are_unlike := F_are_unlike.binds (ps := ["things"]) fun _ _ _ _ _ _ us hl => match us, hl with | [_], _ => rfl
  have F_asked_by : Fun K "asked_by" "asked_by" st_asked_by f_asked_by (PySem.W.fnOf "asked_by" "asked_by" (defArgs st_asked_by) (defBody st_asked_by) (defScope st_asked_by) .none kV_asked_by dc_asked_by pm_asked_by an_asked_by cd_asked_by ct_asked_by) := fun_mk (st := st_asked_by) l_asked_by c_asked_by k_asked_by
  have b_asked_by := F_asked_by.binds (ps := ["row"]) fun _ _ _ _ _ _ us hl => match us, hl with | [_], _ => rfl
  have F_given_by : Fun K "given_by" "given_by" st_given_by f_given_by (PySem.W.fnOf "given_by" "given_by" (defArgs st_given_by) (defBody st_given_by) (defScope st_given_by) .none kV_given_by dc_given_by pm_given_by an_given_by cd_given_by ct_given_by) := fun_mk (st := st_given_by) l_given_by c_given_by k_given_by
  have b_given_by := F_given_by.binds (ps := ["row"]) fun _ _ _ _ _ _ us hl => match us, hl with | [_], _ => rfl
  have F_names_of : Fun K "names_of" "names_of" st_names_of f_names_of (PySem.W.fnOf "names_of" "names_of" (defArgs st_names_of) (defBody st_names_of) (defScope st_names_of) .none kV_names_of dc_names_of pm_names_of an_names_of cd_names_of ct_names_of) := fun_mk (st := st_names_of) l_names_of c_names_of k_names_of
  have b_names_of := F_names_of.binds (ps := ["program"]) fun _ _ _ _ _ _ us hl => match us, hl with | [_], _ => rfl
  have F_is_name : Fun K "is_name" "is_name" st_is_name f_is_name (PySem.W.fnOf "is_name" "is_name" (defArgs st_is_name) (defBody st_is_name) (defScope st_is_name) .none kV_is_name dc_is_name pm_is_name an_is_name cd_is_name ct_is_name) := fun_mk (st := st_is_name) l_is_name c_is_name k_is_name
  have b_is_name := F_is_name.binds (ps := ["thing"]) fun _ _ _ _ _ _ us hl => match us, hl with | [_], _ => rfl
  have KW_is_number : ∀ q ∈ ([("low", (.int 0)), ("high", (.int 9999))] : List (Str × V)), ∃ u, PySem.W.nsIn K D_is_number q.1 = some (some u) ∧ RelV q.2 u := by
    intro q hq
    rcases List.mem_cons.mp hq with e | hq
    · subst e; exact ⟨_, kw_is_number_low, ⟨_, rfl⟩⟩
    rcases List.mem_cons.mp hq with e | hq
    · subst e; exact ⟨_, kw_is_number_high, ⟨_, rfl⟩⟩
    cases hq
  have F_is_number : FunD K "is_number" "is_number" (defArgs st_is_number) (defBody st_is_number) (defScope st_is_number) [] [("low", (.int 0)), ("high", (.int 9999))] f_is_number (PySem.W.fnOf "is_number" "is_number" (defArgs st_is_number) (defBody st_is_number) (defScope st_is_number) .none (.ref D_is_number) dc_is_number pm_is_number an_is_number cd_is_number ct_is_number) := ⟨⟨oc_is_number, od_is_number, _, _, dc_is_number, pm_is_number, an_is_number, cd_is_number, ct_is_number, sl_is_number, rfl, l_is_number, c_is_number, .inl ⟨rfl, rfl⟩, .inr ⟨D_is_number, rfl, KW_is_number⟩⟩, k_is_number⟩
  have F_fits_part : Fun K "fits_part" "fits_part" st_fits_part f_fits_part (PySem.W.fnOf "fits_part" "fits_part" (defArgs st_fits_part) (defBody st_fits_part) (defScope st_fits_part) .none kV_fits_part dc_fits_part pm_fits_part an_fits_part cd_fits_part ct_fits_part) := fun_mk (st := st_fits_part) l_fits_part c_fits_part k_fits_part
  have b_fits_part := F_fits_part.binds (ps := ["sort", "thing"]) fun _ _ _ _ _ _ us hl => match us, hl with | [_, _], _ => rfl
  have F_are_parts : Fun K "are_parts" "are_parts" st_are_parts f_are_parts (PySem.W.fnOf "are_parts" "are_parts" (defArgs st_are_parts) (defBody st_are_parts) (defScope st_are_parts) .none kV_are_parts dc_are_parts pm_are_parts an_are_parts cd_are_parts ct_are_parts) := fun_mk (st := st_are_parts) l_are_parts c_are_parts k_are_parts
  have b_are_parts := F_are_parts.binds (ps := ["sorts", "things"]) fun _ _ _ _ _ _ us hl => match us, hl with | [_, _], _ => rfl
  have F_is_end : Fun K "is_end" "is_end" st_is_end f_is_end (PySem.W.fnOf "is_end" "is_end" (defArgs st_is_end) (defBody st_is_end) (defScope st_is_end) .none kV_is_end dc_is_end pm_is_end an_is_end cd_is_end ct_is_end) := fun_mk (st := st_is_end) l_is_end c_is_end k_is_end
  have b_is_end := F_is_end.binds (ps := ["thing"]) fun _ _ _ _ _ _ us hl => match us, hl with | [_], _ => rfl
  have F_is_row : Fun K "is_row" "is_row" st_is_row f_is_row (PySem.W.fnOf "is_row" "is_row" (defArgs st_is_row) (defBody st_is_row) (defScope st_is_row) .none kV_is_row dc_is_row pm_is_row an_is_row cd_is_row ct_is_row) := fun_mk (st := st_is_row) l_is_row c_is_row k_is_row
  have b_is_row := F_is_row.binds (ps := ["thing"]) fun _ _ _ _ _ _ us hl => match us, hl with | [_], _ => rfl
  have F_is_block : Fun K "is_block" "is_block" st_is_block f_is_block (PySem.W.fnOf "is_block" "is_block" (defArgs st_is_block) (defBody st_is_block) (defScope st_is_block) .none kV_is_block dc_is_block pm_is_block an_is_block cd_is_block ct_is_block) := fun_mk (st := st_is_block) l_is_block c_is_block k_is_block
  have b_is_block := F_is_block.binds (ps := ["thing"]) fun _ _ _ _ _ _ us hl => match us, hl with | [_], _ => rfl
  have F_goals_in : Fun K "goals_in" "goals_in" st_goals_in f_goals_in (PySem.W.fnOf "goals_in" "goals_in" (defArgs st_goals_in) (defBody st_goals_in) (defScope st_goals_in) .none kV_goals_in dc_goals_in pm_goals_in an_goals_in cd_goals_in ct_goals_in) := fun_mk (st := st_goals_in) l_goals_in c_goals_in k_goals_in
  have b_goals_in := F_goals_in.binds (ps := ["end"]) fun _ _ _ _ _ _ us hl => match us, hl with | [_], _ => rfl
  have F_is_program : Fun K "is_program" "is_program" st_is_program f_is_program (PySem.W.fnOf "is_program" "is_program" (defArgs st_is_program) (defBody st_is_program) (defScope st_is_program) .none kV_is_program dc_is_program pm_is_program an_is_program cd_is_program ct_is_program) := fun_mk (st := st_is_program) l_is_program c_is_program k_is_program
  have b_is_program := F_is_program.binds (ps := ["thing"]) fun _ _ _ _ _ _ us hl => match us, hl with | [_], _ => rfl
  have F__law_named : Fun K "_law_named" "_law_named" st__law_named f__law_named (PySem.W.fnOf "_law_named" "_law_named" (defArgs st__law_named) (defBody st__law_named) (defScope st__law_named) .none kV__law_named dc__law_named pm__law_named an__law_named cd__law_named ct__law_named) := fun_mk (st := st__law_named) l__law_named c__law_named k__law_named
  have b__law_named := F__law_named.binds (ps := ["_law_hand_here", "_law_many"]) fun _ _ _ _ _ _ us hl => match us, hl with | [_, _], _ => rfl
  have F__law_deep : Fun K "_law_deep" "_law_deep" st__law_deep f__law_deep (PySem.W.fnOf "_law_deep" "_law_deep" (defArgs st__law_deep) (defBody st__law_deep) (defScope st__law_deep) .none kV__law_deep dc__law_deep pm__law_deep an__law_deep cd__law_deep ct__law_deep) := fun_mk (st := st__law_deep) l__law_deep c__law_deep k__law_deep
  have b__law_deep := F__law_deep.binds (ps := ["_law_hand_here"]) fun _ _ _ _ _ _ us hl => match us, hl with | [_], _ => rfl
  have F_law : Fun K "law" "law" st_law f_law (PySem.W.fnOf "law" "law" (defArgs st_law) (defBody st_law) (defScope st_law) .none kV_law dc_law pm_law an_law cd_law ct_law) := fun_mk (st := st_law) l_law c_law k_law
  have b_law := F_law.binds (ps := ["_law_script"]) fun _ _ _ _ _ _ us hl => match us, hl with | [_], _ => rfl
  have t_END_PARTS : KTab K w (gx ad) d_END_PARTS tab_END_PARTS := (ktab_cons (v := (.str "b")) lt_END_PARTS KEYS_END_PARTS e_END_PARTS_0 ⟨_, rfl⟩ (fun _ _ => rfl) (ktab_cons (v := (.str "abb")) lt_END_PARTS KEYS_END_PARTS e_END_PARTS_1 ⟨_, rfl⟩ (fun _ _ => rfl) (ktab_cons (v := (.str "")) lt_END_PARTS KEYS_END_PARTS e_END_PARTS_2 ⟨_, rfl⟩ (fun _ _ => rfl) ktab_nil)))
  have t_ROW_PARTS : KTab K w (gx ad) d_ROW_PARTS tab_ROW_PARTS := (ktab_cons (v := (.str "gn")) lt_ROW_PARTS KEYS_ROW_PARTS e_ROW_PARTS_0 ⟨_, rfl⟩ (fun _ _ => rfl) (ktab_cons (v := (.str "ga")) lt_ROW_PARTS KEYS_ROW_PARTS e_ROW_PARTS_1 ⟨_, rfl⟩ (fun _ _ => rfl) (ktab_cons (v := (.str "gaa")) lt_ROW_PARTS KEYS_ROW_PARTS e_ROW_PARTS_2 ⟨_, rfl⟩ (fun _ _ => rfl) (ktab_cons (v := (.str "gaa")) lt_ROW_PARTS KEYS_ROW_PARTS e_ROW_PARTS_3 ⟨_, rfl⟩ (fun _ _ => rfl) (ktab_cons (v := (.str "gaa")) lt_ROW_PARTS KEYS_ROW_PARTS e_ROW_PARTS_4 ⟨_, rfl⟩ (fun _ _ => rfl) (ktab_cons (v := (.str "gaa")) lt_ROW_PARTS KEYS_ROW_PARTS e_ROW_PARTS_5 ⟨_, rfl⟩ (fun _ _ => rfl) (ktab_cons (v := (.str "gaa")) lt_ROW_PARTS KEYS_ROW_PARTS e_ROW_PARTS_6 ⟨_, rfl⟩ (fun _ _ => rfl) (ktab_cons (v := (.str "gaa")) lt_ROW_PARTS KEYS_ROW_PARTS e_ROW_PARTS_7 ⟨_, rfl⟩ (fun _ _ => rfl) (ktab_cons (v := (.str "g")) lt_ROW_PARTS KEYS_ROW_PARTS e_ROW_PARTS_8 ⟨_, rfl⟩ (fun _ _ => rfl) (ktab_cons (v := (.str "a")) lt_ROW_PARTS KEYS_ROW_PARTS e_ROW_PARTS_9 ⟨_, rfl⟩ (fun _ _ => rfl) ktab_nil))))))))))
  have T : Top K w mg ad fd := by
    refine {
      F__law_hand := F__law_hand,
      b__law_hand := b__law_hand,
      g__law_hand := PySem.W.mg_of X G a__law_hand,
      F__law_take := F__law_take,
      b__law_take := b__law_take,
      g__law_take := PySem.W.mg_of X G a__law_take,
      F__law_put := F__law_put,
      b__law_put := b__law_put,
      g__law_put := PySem.W.mg_of X G a__law_put,
      F__law_pick := F__law_pick,
      b__law_pick := b__law_pick,
      g__law_pick := PySem.W.mg_of X G a__law_pick,
      F__law_small := F__law_small,
      b__law_small := b__law_small,
      g__law_small := PySem.W.mg_of X G a__law_small,
      F__law_is := F__law_is,
      b__law_is := b__law_is,
      g__law_is := PySem.W.mg_of X G a__law_is,
      F__law_blocks := F__law_blocks,
      b__law_blocks := b__law_blocks,
      g__law_blocks := PySem.W.mg_of X G a__law_blocks,
      F__law_rows := F__law_rows,
      b__law_rows := b__law_rows,
      g__law_rows := PySem.W.mg_of X G a__law_rows,
      F_are_unlike := F_are_unlike,
      b_are_unlike := b_are_unlike,
      g_are_unlike := PySem.W.mg_of X G a_are_unlike,
      F_asked_by := F_asked_by,
      b_asked_by := b_asked_by,
      g_asked_by := PySem.W.mg_of X G a_asked_by,
      F_given_by := F_given_by,
      b_given_by := b_given_by,
      g_given_by := PySem.W.mg_of X G a_given_by,
      F_names_of := F_names_of,
      b_names_of := b_names_of,
      g_names_of := PySem.W.mg_of X G a_names_of,
      F_is_name := F_is_name,
      b_is_name := b_is_name,
      g_is_name := PySem.W.mg_of X G a_is_name,
      F_is_number := F_is_number,
      g_is_number := PySem.W.mg_of X G a_is_number,
      F_fits_part := F_fits_part,
      b_fits_part := b_fits_part,
      g_fits_part := PySem.W.mg_of X G a_fits_part,
      F_are_parts := F_are_parts,
      b_are_parts := b_are_parts,
      g_are_parts := PySem.W.mg_of X G a_are_parts,
      F_is_end := F_is_end,
      b_is_end := b_is_end,
      g_is_end := PySem.W.mg_of X G a_is_end,
      F_is_row := F_is_row,
      b_is_row := b_is_row,
      g_is_row := PySem.W.mg_of X G a_is_row,
      F_is_block := F_is_block,
      b_is_block := b_is_block,
      g_is_block := PySem.W.mg_of X G a_is_block,
      F_goals_in := F_goals_in,
      b_goals_in := b_goals_in,
      g_goals_in := PySem.W.mg_of X G a_goals_in,
      F_is_program := F_is_program,
      b_is_program := b_is_program,
      g_is_program := PySem.W.mg_of X G a_is_program,
      F__law_named := F__law_named,
      b__law_named := b__law_named,
      g__law_named := PySem.W.mg_of X G a__law_named,
      F__law_deep := F__law_deep,
      b__law_deep := b__law_deep,
      g__law_deep := PySem.W.mg_of X G a__law_deep,
      F_law := F_law,
      b_law := b_law,
      g_law := PySem.W.mg_of X G a_law,
      n_abs := PySem.W.mg_none_of X G n_abs,
      n_all := PySem.W.mg_none_of X G n_all,
      n_bool := PySem.W.mg_none_of X G n_bool,
      n_enumerate := PySem.W.mg_none_of X G n_enumerate,
      n_int := PySem.W.mg_none_of X G n_int,
      n_isinstance := PySem.W.mg_none_of X G n_isinstance,
      n_len := PySem.W.mg_none_of X G n_len,
      n_list := PySem.W.mg_none_of X G n_list,
      n_max := PySem.W.mg_none_of X G n_max,
      n_min := PySem.W.mg_none_of X G n_min,
      n_range := PySem.W.mg_none_of X G n_range,
      n_set := PySem.W.mg_none_of X G n_set,
      n_sorted := PySem.W.mg_none_of X G n_sorted,
      n_str := PySem.W.mg_none_of X G n_str,
      n_tuple := PySem.W.mg_none_of X G n_tuple,
      n_zip := PySem.W.mg_none_of X G n_zip,
      k_LETTERS := PySem.W.mg_of X G kk_LETTERS,
      k_MOST_BLOCKS := PySem.W.mg_of X G kk_MOST_BLOCKS,
      k_MOST_NAMES := PySem.W.mg_of X G kk_MOST_NAMES,
      k_MOST_ROWS := PySem.W.mg_of X G kk_MOST_ROWS,
      k_MOST_SIGNS := PySem.W.mg_of X G kk_MOST_SIGNS,
      k_SPARE := PySem.W.mg_of X G kk_SPARE,
      k_STEPS := PySem.W.mg_of X G kk_STEPS,
      k_WHEEL := PySem.W.mg_of X G kk_WHEEL,
      g_END_PARTS := PySem.W.mg_of X G g_END_PARTS,
      t_END_PARTS := t_END_PARTS,
      i_END_PARTS := ⟨_, _, ⟨lt_END_PARTS, KEYS_END_PARTS, LOW_END_PARTS⟩, NAMES_END_PARTS⟩,
      g_ROW_PARTS := PySem.W.mg_of X G g_ROW_PARTS,
      t_ROW_PARTS := t_ROW_PARTS,
      i_ROW_PARTS := ⟨_, _, ⟨lt_ROW_PARTS, KEYS_ROW_PARTS, LOW_ROW_PARTS⟩, NAMES_ROW_PARTS⟩,
      d_is_number_1_high := F_is_number.kbinds0 (ps := ["thing", "low", "high"]) 1 ["high"] [("low", (.int 0))] (fun us mv ws => us ++ pickL [0, 1] (mv ++ ws)) (by simp) (by simp) (fun r1 r2 r3 => r1.append (vals_pick (r2.append r3) [0, 1])) (fun D doc pm an cdv ct us mv ws h1 h2 h3 => match us, mv, ws, h1, h2, h3 with | [u0], [m0], [w0], _, _, _ => ⟨_, _, _, _, _, _, rfl, rfl, rfl⟩),
      d_is_number_1_low := F_is_number.kbinds0 (ps := ["thing", "low", "high"]) 1 ["low"] [("high", (.int 9999))] (fun us mv ws => us ++ pickL [1, 0] (mv ++ ws)) (by simp) (by simp) (fun r1 r2 r3 => r1.append (vals_pick (r2.append r3) [1, 0])) (fun D doc pm an cdv ct us mv ws h1 h2 h3 => match us, mv, ws, h1, h2, h3 with | [u0], [m0], [w0], _, _, _ => ⟨_, _, _, _, _, _, rfl, rfl, rfl⟩) }
  exact ⟨(PySem.W.fnOf "law" "law" (defArgs st_law) (defBody st_law) (defScope st_law) .none kV_law dc_law pm_law an_law cd_law ct_law), fun s v => .of_eq rfl, fun base _ _ => ok_end (G := gx ad) (ok_law (ad := ad) (fd := fd) T) law_true⟩
end K02
open PySem PySem.W PyProof.Rows
set_option maxRecDepth 100000 in
set_option maxHeartbeats 0 in
theorem PySem.Challenge.cw_onceforms_k02_programs_at_their_bounds_holds : PySem.Challenge.rw_onceforms_k02_programs_at_their_bounds.Holds := by
  w_on; o_law; k_head; (case hw => w_witness2)
  k_fill
  refine L2.walk_of (l := PySem.Challenge.rw_onceforms_k02_programs_at_their_bounds) (n := 63) (k := 7) (x := "_law_script") (CX := fun _ => L2.CX0) (sp := fun w => OF.spLaw _) rfl (by decide) rfl ⟨rfl, by decide, by decide⟩ (fun w h Y => PySem.W.kIn_of Y) ?F (fun _ _ a ns hl _ hS => ⟨a, ns, rfl, hS, hl, fun _ => rfl⟩) (fun _ _ _ _ _ h => h)
  case F =>
    intro w mg fa h KX G hmg
    refine' K02.all_mk KX G hmg ?a__law_hand ?l__law_hand ?c__law_hand ?k__law_hand ?a__law_take ?l__law_take ?c__law_take ?k__law_take ?a__law_put ?l__law_put ?c__law_put ?k__law_put ?a__law_pick ?l__law_pick ?c__law_pick ?k__law_pick ?a__law_small ?l__law_small ?c__law_small ?k__law_small ?a__law_is ?l__law_is ?c__law_is ?k__law_is ?a__law_blocks ?l__law_blocks ?c__law_blocks ?k__law_blocks ?a__law_rows ?l__law_rows ?c__law_rows ?k__law_rows ?a_are_unlike ?l_are_unlike ?c_are_unlike ?k_are_unlike ?a_asked_by ?l_asked_by ?c_asked_by ?k_asked_by ?a_given_by ?l_given_by ?c_given_by ?k_given_by ?a_names_of ?l_names_of ?c_names_of ?k_names_of ?a_is_name ?l_is_name ?c_is_name ?k_is_name ?a_is_number ?l_is_number ?c_is_number ?k_is_number ?kw_is_number_low ?kw_is_number_high ?a_fits_part ?l_fits_part ?c_fits_part ?k_fits_part ?a_are_parts ?l_are_parts ?c_are_parts ?k_are_parts ?a_is_end ?l_is_end ?c_is_end ?k_is_end ?a_is_row ?l_is_row ?c_is_row ?k_is_row ?a_is_block ?l_is_block ?c_is_block ?k_is_block ?a_goals_in ?l_goals_in ?c_goals_in ?k_goals_in ?a_is_program ?l_is_program ?c_is_program ?k_is_program ?a__law_named ?l__law_named ?c__law_named ?k__law_named ?a__law_deep ?l__law_deep ?c__law_deep ?k__law_deep ?a_law ?l_law ?c_law ?k_law ?n_abs ?n_all ?n_bool ?n_enumerate ?n_int ?n_isinstance ?n_len ?n_list ?n_max ?n_min ?n_range ?n_set ?n_sorted ?n_str ?n_tuple ?n_zip ?kk_LETTERS ?kk_MOST_BLOCKS ?kk_MOST_NAMES ?kk_MOST_ROWS ?kk_MOST_SIGNS ?kk_SPARE ?kk_STEPS ?kk_WHEEL ?g_END_PARTS ?lt_END_PARTS ?KEYS_END_PARTS ?NAMES_END_PARTS ?LOW_END_PARTS ?e_END_PARTS_0 ?e_END_PARTS_1 ?e_END_PARTS_2 ?g_ROW_PARTS ?lt_ROW_PARTS ?KEYS_ROW_PARTS ?NAMES_ROW_PARTS ?LOW_ROW_PARTS ?e_ROW_PARTS_0 ?e_ROW_PARTS_1 ?e_ROW_PARTS_2 ?e_ROW_PARTS_3 ?e_ROW_PARTS_4 ?e_ROW_PARTS_5 ?e_ROW_PARTS_6 ?e_ROW_PARTS_7 ?e_ROW_PARTS_8 ?e_ROW_PARTS_9
    (case a__law_hand => first | k_is | rfl)
    (case l__law_hand => first | k_is | rfl)
    (case c__law_hand => first | k_is | rfl)
    (case k__law_hand => first | k_is | rfl)
    (case a__law_take => first | k_is | rfl)
    (case l__law_take => first | k_is | rfl)
    (case c__law_take => first | k_is | rfl)
    (case k__law_take => first | k_is | rfl)
    (case a__law_put => first | k_is | rfl)
    (case l__law_put => first | k_is | rfl)
    (case c__law_put => first | k_is | rfl)
    (case k__law_put => first | k_is | rfl)
    (case a__law_pick => first | k_is | rfl)
    (case l__law_pick => first | k_is | rfl)
    (case c__law_pick => first | k_is | rfl)
    (case k__law_pick => first | k_is | rfl)
    (case a__law_small => first | k_is | rfl)
    (case l__law_small => first | k_is | rfl)
    (case c__law_small => first | k_is | rfl)
    (case k__law_small => first | k_is | rfl)
    (case a__law_is => first | k_is | rfl)
    (case l__law_is => first | k_is | rfl)
    (case c__law_is => first | k_is | rfl)
    (case k__law_is => first | k_is | rfl)
    (case a__law_blocks => first | k_is | rfl)
    (case l__law_blocks => first | k_is | rfl)
    (case c__law_blocks => first | k_is | rfl)
    (case k__law_blocks => first | k_is | rfl)
    (case a__law_rows => first | k_is | rfl)
    (case l__law_rows => first | k_is | rfl)
    (case c__law_rows => first | k_is | rfl)
    (case k__law_rows => first | k_is | rfl)
    (case a_are_unlike => first | k_is | rfl)
    (case l_are_unlike => first | k_is | rfl)
    (case c_are_unlike => first | k_is | rfl)
    (case k_are_unlike => first | k_is | rfl)
    (case a_asked_by => first | k_is | rfl)
    (case l_asked_by => first | k_is | rfl)
    (case c_asked_by => first | k_is | rfl)
    (case k_asked_by => first | k_is | rfl)
    (case a_given_by => first | k_is | rfl)
    (case l_given_by => first | k_is | rfl)
    (case c_given_by => first | k_is | rfl)
    (case k_given_by => first | k_is | rfl)
    (case a_names_of => first | k_is | rfl)
    (case l_names_of => first | k_is | rfl)
    (case c_names_of => first | k_is | rfl)
    (case k_names_of => first | k_is | rfl)
    (case a_is_name => first | k_is | rfl)
    (case l_is_name => first | k_is | rfl)
    (case c_is_name => first | k_is | rfl)
    (case k_is_name => first | k_is | rfl)
    (case a_is_number => first | k_is | rfl)
    (case l_is_number => first | k_is | rfl)
    (case c_is_number => first | k_is | rfl)
    (case k_is_number => first | k_is | rfl)
    (case kw_is_number_low => first | k_is | rfl)
    (case kw_is_number_high => first | k_is | rfl)
    (case a_fits_part => first | k_is | rfl)
    (case l_fits_part => first | k_is | rfl)
    (case c_fits_part => first | k_is | rfl)
    (case k_fits_part => first | k_is | rfl)
    (case a_are_parts => first | k_is | rfl)
    (case l_are_parts => first | k_is | rfl)
    (case c_are_parts => first | k_is | rfl)
    (case k_are_parts => first | k_is | rfl)
    (case a_is_end => first | k_is | rfl)
    (case l_is_end => first | k_is | rfl)
    (case c_is_end => first | k_is | rfl)
    (case k_is_end => first | k_is | rfl)
    (case a_is_row => first | k_is | rfl)
    (case l_is_row => first | k_is | rfl)
    (case c_is_row => first | k_is | rfl)
    (case k_is_row => first | k_is | rfl)
    (case a_is_block => first | k_is | rfl)
    (case l_is_block => first | k_is | rfl)
    (case c_is_block => first | k_is | rfl)
    (case k_is_block => first | k_is | rfl)
    (case a_goals_in => first | k_is | rfl)
    (case l_goals_in => first | k_is | rfl)
    (case c_goals_in => first | k_is | rfl)
    (case k_goals_in => first | k_is | rfl)
    (case a_is_program => first | k_is | rfl)
    (case l_is_program => first | k_is | rfl)
    (case c_is_program => first | k_is | rfl)
    (case k_is_program => first | k_is | rfl)
    (case a__law_named => first | k_is | rfl)
    (case l__law_named => first | k_is | rfl)
    (case c__law_named => first | k_is | rfl)
    (case k__law_named => first | k_is | rfl)
    (case a__law_deep => first | k_is | rfl)
    (case l__law_deep => first | k_is | rfl)
    (case c__law_deep => first | k_is | rfl)
    (case k__law_deep => first | k_is | rfl)
    (case a_law => first | k_is | rfl)
    (case l_law => first | k_is | rfl)
    (case c_law => first | k_is | rfl)
    (case k_law => first | k_is | rfl)
    (case n_abs => first | k_is | rfl)
    (case n_all => first | k_is | rfl)
    (case n_bool => first | k_is | rfl)
    (case n_enumerate => first | k_is | rfl)
    (case n_int => first | k_is | rfl)
    (case n_isinstance => first | k_is | rfl)
    (case n_len => first | k_is | rfl)
    (case n_list => first | k_is | rfl)
    (case n_max => first | k_is | rfl)
    (case n_min => first | k_is | rfl)
    (case n_range => first | k_is | rfl)
    (case n_set => first | k_is | rfl)
    (case n_sorted => first | k_is | rfl)
    (case n_str => first | k_is | rfl)
    (case n_tuple => first | k_is | rfl)
    (case n_zip => first | k_is | rfl)
    (case kk_LETTERS => first | k_is | rfl)
    (case kk_MOST_BLOCKS => first | k_is | rfl)
    (case kk_MOST_NAMES => first | k_is | rfl)
    (case kk_MOST_ROWS => first | k_is | rfl)
    (case kk_MOST_SIGNS => first | k_is | rfl)
    (case kk_SPARE => first | k_is | rfl)
    (case kk_STEPS => first | k_is | rfl)
    (case kk_WHEEL => first | k_is | rfl)
    (case g_END_PARTS => first | k_is | rfl)
    (case lt_END_PARTS => first | k_is | rfl)
    (case KEYS_END_PARTS => k_keys)
    (case NAMES_END_PARTS => first | rfl | decide +kernel)
    (case LOW_END_PARTS => first | rfl | decide +kernel)
    (case e_END_PARTS_0 => first | k_is | rfl)
    (case e_END_PARTS_1 => first | k_is | rfl)
    (case e_END_PARTS_2 => first | k_is | rfl)
    (case g_ROW_PARTS => first | k_is | rfl)
    (case lt_ROW_PARTS => first | k_is | rfl)
    (case KEYS_ROW_PARTS => k_keys)
    (case NAMES_ROW_PARTS => first | rfl | decide +kernel)
    (case LOW_ROW_PARTS => first | rfl | decide +kernel)
    (case e_ROW_PARTS_0 => first | k_is | rfl)
    (case e_ROW_PARTS_1 => first | k_is | rfl)
    (case e_ROW_PARTS_2 => first | k_is | rfl)
    (case e_ROW_PARTS_3 => first | k_is | rfl)
    (case e_ROW_PARTS_4 => first | k_is | rfl)
    (case e_ROW_PARTS_5 => first | k_is | rfl)
    (case e_ROW_PARTS_6 => first | k_is | rfl)
    (case e_ROW_PARTS_7 => first | k_is | rfl)
    (case e_ROW_PARTS_8 => first | k_is | rfl)
    (case e_ROW_PARTS_9 => first | k_is | rfl)


