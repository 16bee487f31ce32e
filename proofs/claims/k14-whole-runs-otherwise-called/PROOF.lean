import PyProof.Rows.All
import PySem.Challenge.RW_onceforms_k14_whole_runs_otherwise_calle
import Wide.All
import OpenK.AllK
import Wide.FinOn
import HandS.ForMost
import HandS.Walk
import HandS.Zip
import HandS.Flow
import HandS.Defaults
import HandS.MakeKwOnly
import KE.GoesZip
import KE.GoesMore
import HandS.Wide
import HandS.Strs
import HandS.TupAny
import HandS.More
import HandS.IsInst
import HandS.Deep
import HandS.Style
import HandS.Ends
import PyProof.ReprRoads
import HandS.RaiseMore
import PyProof.ReprBulk
import HandS.Conv
import HandS.DictComp
import PyProof.Rows.StrMeet
import HandS.NoneIn
import KE.KSortTupG
import PyProof.NeData
import PyProof.Rows.IntBool
import HandS.SetKeys
import PyProof.StrBlock2
import KE.KRevSl
import PyProof.DictWalks
import KE.SortData
import KE.KDictList
import HandS.ListItems
import HandS.Set
import KE.KDictPairs
import HandS.TupMul
import HandS.SetBool
import PyProof.Rows.SortH.SortRunsSt
import Wide.More
import PyProof.FactsAll.set_2
import HandS.TupLen
import KE.KDictKeyed
import KE.DataCmp
import KE.GoesEnum
import KE.KDictZip
import KE.KDictSum
import HandS.WideBits
set_option Elab.async false
set_option linter.all false
set_option maxRecDepth 100000
set_option maxHeartbeats 4000000
set_option exponentiation.threshold 3000
namespace OF
open PySem PySem.Spec PyProof.Rows L2
inductive U where
  | non
  | bl (b : Bool)
  | int (i : Int)
  | str (x : Str)
  | tup (us : List U)
  | lst (us : List U)
  | scr (us : List U)
  | dct (kvs : List (Key × U))
  | fn (x : Str)
  | ref (n : Nat)
inductive O where
  | lst (us : List U)
  | dct (kvs : List (Key × U))
  | dtt (kvs : List (List Key × U))
  | ins (c : Str) (fs : List (Str × U))
  | frd (kvs : List (Key × U))
  | ftt (kvs : List (List Key × U))
abbrev Sto := List O
abbrev Env' := List (Option U)
structure Gx where
  cls : Str → Option Addr
  fns : Str → Option Addr
structure Mp where
  c : List Addr
  x : List Addr
section
variable (K : PySem.W.Frag) (G : Gx) (m : Mp) (H : Hp)
mutual
def RU : U → V → Prop
  | .non, v => v = .non
  | .bl b, v => v = .bl b
  | .int i, v => v = .int i
  | .str x, v => v = .str x
  | .tup us, v => ∃ a vs, v = .ref a ∧ (H a = some (.tup vs) ∧ a ∉ m.c ∧ a ∉ m.x ∨
      (us.length ≠ 2 ∧ us.length ≠ 3) ∧ ∃ (o : Obj) (its : Array Value) (n : Nat), K.lookup a = some o ∧ o.cls = .type "tuple" ∧ o.data = .seq its n ∧ its.size ≤ sizeLine ∧ Vals vs its.toList) ∧ RUs us vs
  | .lst us, v => ∃ a vs, v = .ref a ∧ Rd H a (.lst vs) ∧ a ∉ m.c ∧ a ∉ m.x ∧ RUs us vs
  | .scr us, v => ∃ a vs, v = .ref a ∧ (Rd H a (.lst vs) ∧ a ∉ m.c ∧ a ∉ m.x ∨
      ∃ (o : Obj) (its : Array Value) (n : Nat), K.lookup a = some o ∧ o.cls = .type "list" ∧ o.dict = none ∧ o.data = .seq its n ∧ its.size ≤ sizeLine ∧ Vals vs its.toList) ∧ RUs us vs
  | .dct kvs, v => ∃ a vs, v = .ref a ∧ Rd H a (.dK vs) ∧ a ∉ m.c ∧ a ∉ m.x ∧ RKs kvs vs
  | .fn x, v => ∃ a, v = .ref a ∧ G.fns x = some a
  | .ref n, v => ∃ a, v = .ref a ∧ m.c[n]? = some a
def RUs : List U → List V → Prop
  | [], vs => vs = []
  | u :: us, vs => ∃ v r, vs = v :: r ∧ RU u v ∧ RUs us r
def RKs : List (Key × U) → List (Key × V) → Prop
  | [], vs => vs = []
  | (k, u) :: us, vs => ∃ v r, vs = (k, v) :: r ∧ RU u v ∧ RKs us r
end
def RTs : List (List Key × U) → List (List Key × V) → Prop
  | [], vs => vs = []
  | (k, u) :: us, vs => ∃ v r, vs = (k, v) :: r ∧ RU K G m H u v ∧ RTs us r
def RFs : List (Str × U) → List (Str × V) → Prop
  | [], vs => vs = []
  | (k, u) :: us, vs => ∃ v r, vs = (k, v) :: r ∧ RU K G m H u v ∧ RFs us r
def RO : O → HO → Prop
  | .lst us, o => ∃ vs, o = .lst vs ∧ RUs K G m H us vs
  | .dct us, o => ∃ vs, o = .dK vs ∧ RKs K G m H us vs
  | .dtt us, o => ∃ vs, o = .dT vs ∧ RTs K G m H us vs
  | .ins c fs, o => ∃ C dx vs, o = .ins C dx vs ∧ G.cls c = some C ∧ RFs K G m H fs vs
  | .frd us, o => ∃ ob vs, o = .frz ob (.dK vs) ∧ RKs K G m H us vs
  | .ftt us, o => ∃ ob vs, o = .frz ob (.dT vs) ∧ RTs K G m H us vs
structure Rst (S : Sto) : Prop where
  nd : m.c.Nodup
  len : m.c.length = S.length
  ob : ∀ (n : Nat) o a, S[n]? = some o → m.c[n]? = some a → ∃ ho, H a = some ho ∧ RO K G m H o ho
  xs : ∀ a ∈ m.x, (H a).isSome = true
  nx : ∀ a ∈ m.x, a ∉ m.c
  tx : ∀ a ∈ m.x, ∀ xs, H a ≠ some (.tup xs)
def Renv (env : Env') (σ : L2.St) : Prop := env.length = σ.length ∧ ∀ (i : Nat) u, env[i]? = some (some u) → ∃ v, σ[i]? = some (some v) ∧ RU K G m H u v
end
structure Ext (m : Mp) (H : Hp) (m' : Mp) (H' : Hp) : Prop where
  pre : ∃ r, m'.c = m.c ++ r
  x : ∃ r, m'.x = r ++ m.x ∧ ∀ a ∈ r, H a = none
  keep : ∀ a o, H a = some o → a ∉ m.c → H' a = some o
  cells : ∀ a ∈ m.c, (H a).isSome = true → (H' a).isSome = true
  new : ∀ a ∈ m'.c, a ∉ m.c → H a = none
  fz : ∀ a ob u, H a = some (.frz ob u) → H' a = some (.frz ob u)
theorem Ext.refl (m : Mp) (H : Hp) : Ext m H m H := ⟨⟨[], by simp⟩, ⟨[], rfl, fun _ h => nomatch h⟩, fun _ _ h _ => h, fun _ _ h => h, fun _ h n => absurd h n, fun _ _ _ h => h⟩
theorem Ext.trans {m m1 m2 : Mp} {H H1 H2 : Hp} (a : Ext m H m1 H1) (b : Ext m1 H1 m2 H2) : Ext m H m2 H2 := by
  obtain ⟨r, hr⟩ := a.pre
  obtain ⟨r2, hr2⟩ := b.pre
  have sub : ∀ z, z ∈ m.c → z ∈ m1.c := fun z hz => by rw [hr]; exact List.mem_append_left _ hz
  have nin : ∀ z o, H z = some o → z ∉ m.c → z ∉ m1.c := fun z o h n h1 => by
    rw [a.new z h1 n] at h; cases h
  have back : ∀ z, H1 z = none → H z = none := fun z h => by
    cases q : H z with
    | none => rfl
    | some o =>
      by_cases hz : z ∈ m.c
      · have := a.cells z hz (by rw [q]; rfl)
        rw [h] at this; cases this
      · rw [a.keep z o q hz] at h; cases h
  obtain ⟨q1, hq1, n1⟩ := a.x
  obtain ⟨q2, hq2, n2⟩ := b.x
  refine ⟨⟨r ++ r2, by rw [hr2, hr, List.append_assoc]⟩, ⟨q2 ++ q1, by rw [hq2, hq1, List.append_assoc], fun z hz => ?_⟩, fun z o h n => b.keep z o (a.keep z o h n) (nin z o h n), fun z hz h => b.cells z (sub z hz) (a.cells z hz h), fun z hz n => ?_, fun z ob u h => b.fz z ob u (a.fz z ob u h)⟩
  · rcases List.mem_append.mp hz with hz | hz
    · exact back z (n2 z hz)
    · exact n1 z hz
  by_cases h1 : z ∈ m1.c
  · exact a.new z h1 n
  · have e := b.new z hz h1
    cases q : H z with
    | none => rfl
    | some o => rw [a.keep z o q n] at e; cases e
theorem Ext.nin {m m' : Mp} {H H' : Hp} (e : Ext m H m' H') {a : Addr} {o : HO} (h : H a = some o) (n : a ∉ m.c) : a ∉ m'.c := fun h1 => by
  rw [e.new a h1 n] at h; cases h
theorem Ext.rd {m m' : Mp} {H H' : Hp} (e : Ext m H m' H') {a : Addr} {u : HO} (h : Rd H a u) (n : a ∉ m.c) : Rd H' a u ∧ a ∉ m'.c := by
  rcases h with h | ⟨o, h⟩
  · exact ⟨.inl (e.keep a _ h n), e.nin h n⟩
  · exact ⟨.inr ⟨o, e.keep a _ h n⟩, e.nin h n⟩
theorem Ext.at {m m' : Mp} {H H' : Hp} (e : Ext m H m' H') {n : Nat} {a : Addr} (h : m.c[n]? = some a) : m'.c[n]? = some a := by
  obtain ⟨r, hr⟩ := e.pre
  rw [hr, List.getElem?_append_left (List.getElem?_eq_some_iff.mp h).1]
  exact h
section
variable {K : PySem.W.Frag} {G : Gx} {m m' : Mp} {H H' : Hp}
structure Keeps (m : Mp) (H : Hp) (m' : Mp) (H' : Hp) : Prop where
  rd : ∀ a u, Rd H a u → a ∉ m.c → a ∉ m.x → Rd H' a u ∧ a ∉ m'.c ∧ a ∉ m'.x
  at' : ∀ (n : Nat) a, m.c[n]? = some a → m'.c[n]? = some a
  tp : ∀ a xs, H a = some (.tup xs) → a ∉ m.c → a ∉ m.x → H' a = some (.tup xs)
theorem Ext.keeps (e : Ext m H m' H') : Keeps m H m' H' :=
  ⟨fun a u h n nx => ⟨(e.rd h n).1, (e.rd h n).2, by
    obtain ⟨r, hr, hn⟩ := e.x
    rw [hr]
    intro z
    rcases List.mem_append.mp z with z | z
    · have := hn a z
      rcases h with h | ⟨o, h⟩ <;> rw [this] at h <;> cases h
    · exact nx z⟩, fun _ _ h => e.at h, fun a _ h n _ => e.keep a _ h n⟩
mutual
theorem RU.keep (k : Keeps m H m' H') : ∀ (u : U) (v : V), RU K G m H u v → RU K G m' H' u v
  | .non, _, h => h
  | .bl _, _, h => h
  | .int _, _, h => h
  | .str _, _, h => h
  | .tup us, v, h => by
    unfold RU at h ⊢
    obtain ⟨a, vs, e, q, r⟩ := h
    refine ⟨a, vs, e, ?_, RUs.keep k us vs r⟩
    rcases q with ⟨q, n, nx⟩ | q
    · exact .inl ⟨k.tp a _ q n nx, (k.rd a _ (.inl q) n nx).2⟩
    · exact .inr q
  | .lst us, v, h => by
    unfold RU at h ⊢
    obtain ⟨a, vs, e, q, n, nx, r⟩ := h
    obtain ⟨q', n', nx'⟩ := k.rd a _ q n nx
    exact ⟨a, vs, e, q', n', nx', RUs.keep k us vs r⟩
  | .scr us, v, h => by
    unfold RU at h ⊢
    obtain ⟨a, vs, e, q, r⟩ := h
    refine ⟨a, vs, e, ?_, RUs.keep k us vs r⟩
    rcases q with ⟨q, n, nx⟩ | q
    · exact .inl (k.rd a _ q n nx)
    · exact .inr q
  | .dct us, v, h => by
    unfold RU at h ⊢
    obtain ⟨a, vs, e, q, n, nx, r⟩ := h
    obtain ⟨q', n', nx'⟩ := k.rd a _ q n nx
    exact ⟨a, vs, e, q', n', nx', RKs.keep k us vs r⟩
  | .fn x, v, h => by
    unfold RU at h ⊢
    exact h
  | .ref n, v, h => by
    unfold RU at h ⊢
    obtain ⟨a, e, q⟩ := h
    exact ⟨a, e, k.at' n a q⟩
theorem RUs.keep (k : Keeps m H m' H') : ∀ (us : List U) (vs : List V), RUs K G m H us vs → RUs K G m' H' us vs
  | [], _, h => h
  | u :: us, vs, h => by
    unfold RUs at h ⊢
    obtain ⟨v, r, e, q, t⟩ := h
    exact ⟨v, r, e, RU.keep k u v q, RUs.keep k us r t⟩
theorem RKs.keep (k : Keeps m H m' H') : ∀ (us : List (Key × U)) (vs : List (Key × V)), RKs K G m H us vs → RKs K G m' H' us vs
  | [], _, h => h
  | (c, u) :: us, vs, h => by
    unfold RKs at h ⊢
    obtain ⟨v, r, e, q, t⟩ := h
    exact ⟨v, r, e, RU.keep k u v q, RKs.keep k us r t⟩
end
theorem RTs.keep (k : Keeps m H m' H') : ∀ (us : List (List Key × U)) (vs : List (List Key × V)), RTs K G m H us vs → RTs K G m' H' us vs
  | [], _, h => h
  | (c, u) :: us, vs, h => by
    unfold RTs at h ⊢
    obtain ⟨v, r, e, q, t⟩ := h
    exact ⟨v, r, e, RU.keep k u v q, RTs.keep k us r t⟩
theorem RFs.keep (k : Keeps m H m' H') : ∀ (us : List (Str × U)) (vs : List (Str × V)), RFs K G m H us vs → RFs K G m' H' us vs
  | [], _, h => h
  | (c, u) :: us, vs, h => by
    unfold RFs at h ⊢
    obtain ⟨v, r, e, q, t⟩ := h
    exact ⟨v, r, e, RU.keep k u v q, RFs.keep k us r t⟩
theorem RO.keep (k : Keeps m H m' H') : ∀ (o : O) (ho : HO), RO K G m H o ho → RO K G m' H' o ho
  | .lst us, _, ⟨vs, e, r⟩ => ⟨vs, e, RUs.keep k us vs r⟩
  | .dct us, _, ⟨vs, e, r⟩ => ⟨vs, e, RKs.keep k us vs r⟩
  | .dtt us, _, ⟨vs, e, r⟩ => ⟨vs, e, RTs.keep k us vs r⟩
  | .ins c fs, _, ⟨C, dx, vs, e, q, r⟩ => ⟨C, dx, vs, e, q, RFs.keep k fs vs r⟩
  | .frd us, _, ⟨ob, vs, e, r⟩ => ⟨ob, vs, e, RKs.keep k us vs r⟩
  | .ftt us, _, ⟨ob, vs, e, r⟩ => ⟨ob, vs, e, RTs.keep k us vs r⟩
theorem Renv.keep (k : Keeps m H m' H') {env : Env'} {σ : L2.St} (r : Renv K G m H env σ) : Renv K G m' H' env σ :=
  ⟨r.1, fun i u h => let ⟨v, e, q⟩ := r.2 i u h; ⟨v, e, RU.keep k u v q⟩⟩
end
end OF
namespace OF
open PySem PySem.Spec PyProof.Rows L2
abbrev Cm (α : Type) := Env' → Sto → Option (α × Sto)
abbrev Op1 := U → Sto → Option (U × Sto)
abbrev Op2 := U → U → Sto → Option (U × Sto)
abbrev OpN := List U → Sto → Option (U × Sto)
def After (K : PySem.W.Frag) (G : Gx) (m : Mp) (H : Hp) (u : U) (S' : Sto) (Q : VK) : Prop := ∀ m' H' v, Ext m H m' H' → Rst K G m' H' S' → RU K G m' H' u v → Q v H'
def AfterB (K : PySem.W.Frag) (G : Gx) (m : Mp) (H : Hp) (b : Bool) (S' : Sto) (Q : Bool → Hp → Prop) : Prop := ∀ m' H', Ext m H m' H' → Rst K G m' H' S' → Q b H'
def AfterL (K : PySem.W.Frag) (G : Gx) (m : Mp) (H : Hp) (us : List U) (S' : Sto) (Q : List V → Hp → Prop) : Prop := ∀ m' H' vs, Ext m H m' H' → Rst K G m' H' S' → RUs K G m' H' us vs → Q vs H'
section
variable (K : PySem.W.Frag) (G : Gx)
def RE (c : Cm U) : TE := fun σ H Q => ∃ m S env u S', Rst K G m H S ∧ Renv K G m H env σ ∧ c env S = some (u, S') ∧ After K G m H u S' Q
def RT (c : Cm Bool) : TT := fun σ H Q => ∃ m S env b S', Rst K G m H S ∧ Renv K G m H env σ ∧ c env S = some (b, S') ∧ AfterB K G m H b S' Q
def RA (c : Cm (List U)) : TA := fun σ H Q => ∃ m S env us S', Rst K G m H S ∧ Renv K G m H env σ ∧ c env S = some (us, S') ∧ AfterL K G m H us S' Q
def r1U (f : Op1) : V → Hp → VK → Prop := fun x H Q => ∃ m S u z S', Rst K G m H S ∧ RU K G m H u x ∧ f u S = some (z, S') ∧ After K G m H z S' Q
def r2U (f : Op2) : R2 := fun x y H Q => ∃ m S u1 u2 z S', Rst K G m H S ∧ RU K G m H u1 x ∧ RU K G m H u2 y ∧ f u1 u2 S = some (z, S') ∧ After K G m H z S' Q
def rNU (f : OpN) : List V → Hp → VK → Prop := fun xs H Q => ∃ m S us z S', Rst K G m H S ∧ RUs K G m H us xs ∧ f us S = some (z, S') ∧ After K G m H z S' Q
def rMU (f : U → OpN) : V → List V → Hp → VK → Prop := fun x xs H Q => ∃ m S u us z S', Rst K G m H S ∧ RU K G m H u x ∧ RUs K G m H us xs ∧ f u us S = some (z, S') ∧ After K G m H z S' Q
end
variable {X : Cx} {G : Gx}
abbrev EE (G : Gx) (X : Cx) (e : Expr) (c : Cm U) : Prop := PE X e (RE X.K G c)
abbrev ET (G : Gx) (X : Cx) (e : Expr) (c : Cm Bool) : Prop := PT X e (RT X.K G c)
abbrev EW (G : Gx) (X : Cx) (e : Expr) (c : Cm Bool) : Prop := PW X e (RT X.K G c)
abbrev EA (G : Gx) (X : Cx) (es : List Expr) (c : Cm (List U)) : Prop := PA X es (RA X.K G c)
abbrev UnU (G : Gx) (X : Cx) (f : Value → Sem Value) (op : Op1) : Prop := UnR X f (r1U X.K G op)
abbrev OpU (G : Gx) (X : Cx) (f : Value → Value → Sem Value) (op : Op2) : Prop := OpR X f (r2U X.K G op)
abbrev CallU (G : Gx) (X : Cx) (f : Value) (op : OpN) : Prop := CallR X f (rNU X.K G op)
theorem _root_.L2.PE.imp {e : Expr} {t t' : TE} (h : PE X e t) (i : ∀ σ H Q, t' σ H Q → t σ H Q) : PE X e t' := ⟨fun pins s σ H Q I hw => h.run pins s σ H Q I (i σ H Q hw)⟩
theorem _root_.L2.PT.imp {e : Expr} {t t' : TT} (h : PT X e t) (i : ∀ σ H Q, t' σ H Q → t σ H Q) : PT X e t' := ⟨fun pins s σ H Q I hw => h.run pins s σ H Q I (i σ H Q hw)⟩
theorem _root_.L2.PW.imp {e : Expr} {t t' : TT} (h : PW X e t) (i : ∀ σ H Q, t' σ H Q → t σ H Q) : PW X e t' := ⟨fun wh pins s σ H Q I hw => h.run wh pins s σ H Q I (i σ H Q hw)⟩
theorem _root_.L2.PA.imp {e : List Expr} {t t' : TA} (h : PA X e t) (i : ∀ σ H Q, t' σ H Q → t σ H Q) : PA X e t' := ⟨fun p pins s σ H Q I hw => h.run p pins s σ H Q I (i σ H Q hw)⟩
theorem OpR.imp {f : Value → Value → Sem Value} {r r' : R2} (h : OpR X f r) (i : ∀ x y H Q, r' x y H Q → r x y H Q) : OpR X f r' := fun pins s σ H x y v u Q I rx ry q => h pins s σ H x y v u Q I rx ry (i x y H Q q)
theorem UnR.imp {f : Value → Sem Value} {r r' : V → Hp → VK → Prop} (h : UnR X f r) (i : ∀ x H Q, r' x H Q → r x H Q) : UnR X f r' := fun pins s σ H x v Q I rx q => h pins s σ H x v Q I rx (i x H Q q)
theorem CallR.imp {f : Value} {r r' : List V → Hp → VK → Prop} (h : CallR X f r) (i : ∀ x H Q, r' x H Q → r x H Q) : CallR X f r' := fun pins s σ H x v Q I rx q => h pins s σ H x v Q I rx (i x H Q q)
def cVar (i : Nat) : Cm U := fun env S => match env[i]? with
  | some (some u) => some (u, S)
  | _ => none
def cCst (u : U) : Cm U := fun _ S => some (u, S)
theorem ee_var {i : Nat} {x : Str} {pos : Pos} (h : PE X (.Name x pos) (tVar i)) : EE G X (.Name x pos) (cVar i) := by
  refine PE.imp h fun σ H Q ⟨m, S, env, u, S', st, re, hc, q⟩ => ?_
  unfold cVar at hc
  split at hc
  · rename_i u' hu
    cases hc
    obtain ⟨v, e, r⟩ := re.2 i _ hu
    exact ⟨v, e, q m H v (Ext.refl m H) st r⟩
  · cases hc
theorem ee_cst {e : Expr} {v : V} (u : U) (h : PE X e (tC v)) (hr : ∀ m H, RU X.K G m H u v) : EE G X e (cCst u) := by
  refine PE.imp h fun σ H Q ⟨m, S, env, u', S', st, re, hc, q⟩ => ?_
  cases hc
  exact q m H v (Ext.refl m H) st (hr m H)
theorem ee_int {i j pos} : EE G X (.Constant (.int i) j pos) (cCst (.int i)) := ee_cst _ pe_int fun _ _ => rfl
theorem ee_bl {b j pos} : EE G X (.Constant (.bool b) j pos) (cCst (.bl b)) := ee_cst _ pe_bl fun _ _ => rfl
theorem ee_non {j pos} : EE G X (.Constant .none j pos) (cCst .non) := ee_cst _ pe_non fun _ _ => rfl
theorem ee_str {x j pos} : EE G X (.Constant (.str x) j pos) (cCst (.str x)) := ee_cst _ pe_str fun _ _ => rfl
def cBin (f : Op2) (a b : Cm U) : Cm U := fun env S => match a env S with
  | none => none
  | some (u, S1) => match b env S1 with
    | none => none
    | some (v, S2) => f u v S2
def cUn (f : Op1) (a : Cm U) : Cm U := fun env S => match a env S with
  | none => none
  | some (u, S1) => f u S1
theorem cUn_some {f : Op1} {a : Cm U} {env : Env'} {S : Sto} {r : U × Sto} (h : cUn f a env S = some r) : ∃ u S1, a env S = some (u, S1) ∧ f u S1 = some r := by
  unfold cUn at h
  split at h
  · cases h
  · rename_i u S1 e
    exact ⟨u, S1, e, h⟩
theorem cBin_some {f : Op2} {a b : Cm U} {env : Env'} {S : Sto} {r : U × Sto} (h : cBin f a b env S = some r) : ∃ u S1 v S2, a env S = some (u, S1) ∧ b env S1 = some (v, S2) ∧ f u v S2 = some r := by
  unfold cBin at h
  split at h
  · cases h
  · rename_i u S1 e
    split at h
    · cases h
    · rename_i v S2 e2
      exact ⟨u, S1, v, S2, e, e2, h⟩
theorem re_op {K : PySem.W.Frag} {f : Op2} {ca cb : Cm U} {σ : L2.St} {H : Hp} {Q : VK} (h : RE K G (cBin f ca cb) σ H Q) : tOp (r2U K G f) (RE K G ca) (RE K G cb) σ H Q := by
  obtain ⟨m, S, env, z, S', st, re, hc, q⟩ := h
  obtain ⟨u, S1, v, S2, e1, e2, e3⟩ := cBin_some hc
  refine ⟨m, S, env, u, S1, st, re, e1, fun m1 H1 x x1 st1 r1 => ⟨m1, S1, env, v, S2, st1, re.keep x1.keeps, e2, fun m2 H2 y x2 st2 r2 => ⟨m2, S2, u, v, z, S', st2, RU.keep x2.keeps _ _ r1, r2, e3, fun m3 H3 w x3 st3 r3 => q m3 H3 w (x1.trans (x2.trans x3)) st3 r3⟩⟩⟩
theorem re_un {K : PySem.W.Frag} {f : Op1} {ca : Cm U} {σ : L2.St} {H : Hp} {Q : VK} (h : RE K G (cUn f ca) σ H Q) : tUn (r1U K G f) (RE K G ca) σ H Q := by
  obtain ⟨m, S, env, z, S', st, re, hc, q⟩ := h
  obtain ⟨u, S1, e1, e3⟩ := cUn_some hc
  exact ⟨m, S, env, u, S1, st, re, e1, fun m1 H1 x x1 st1 r1 => ⟨m1, S1, u, z, S', st1, r1, e3, fun m3 H3 w x3 st3 r3 => q m3 H3 w (x1.trans x3) st3 r3⟩⟩
variable {a b c : Expr} {ca cb cc : Cm U} {pos : Pos}
theorem ee_op {op : Operator} {f : Op2} (ho : OpU G X (binaryOp op) f) (ha : EE G X a ca) (hb : EE G X b cb) : EE G X (.BinOp a op b pos) (cBin f ca cb) := (pe_op ho ha hb).imp fun _ _ _ => re_op
theorem ee_un {op : UnaryOp} {f : Op1} (ho : UnU G X (unaryOp op) f) (ha : EE G X a ca) : EE G X (.UnaryOp op a pos) (cUn f ca) := (pe_un ho ha).imp fun _ _ _ => re_un
theorem ee_cmp {op : CmpOp} {f : Op2} (ho : OpU G X (compareOp op) f) (ha : EE G X a ca) (hb : EE G X b cb) (hm : behindInMarks op b = false) : EE G X (.Compare a [op] [b] pos) (cBin f ca cb) := (pe_cmpR ho ha hb hm).imp fun _ _ _ => re_op
def orO (f g : Op2) : Op2 := fun a b S => match f a b S with
  | some r => some r
  | none => g a b S
theorem opU_or {F : Value → Value → Sem Value} {f g : Op2} (hf : OpU G X F f) (hg : OpU G X F g) : OpU G X F (orO f g) := by
  intro pins s σ H x y v u Q I rx ry ⟨m, S, u1, u2, z, S', st, r1, r2, e, q⟩
  unfold orO at e
  split at e
  · rename_i r e'
    cases e
    exact hf pins s σ H x y v u Q I rx ry ⟨m, S, u1, u2, _, _, st, r1, r2, e', q⟩
  · exact hg pins s σ H x y v u Q I rx ry ⟨m, S, u1, u2, z, S', st, r1, r2, e, q⟩
theorem After.here {K : PySem.W.Frag} {m : Mp} {H : Hp} {u : U} {v : V} {S : Sto} {Q : VK} (q : After K G m H u S Q) (st : Rst K G m H S) (r : RU K G m H u v) : Q v H := q m H v (Ext.refl m H) st r
def o2I (f : Int → Int → Option U) : Op2 := fun a b S => match a, b with
  | .int i, .int j => (f i j).map (·, S)
  | _, _ => none
theorem o2I_some {f : Int → Int → Option U} {a b : U} {S : Sto} {r : U × Sto} (h : o2I f a b S = some r) : ∃ i j u, a = .int i ∧ b = .int j ∧ f i j = some u ∧ r = (u, S) := by
  unfold o2I at h
  split at h
  · rename_i i j
    cases e : f i j with
    | none => rw [e] at h; cases h
    | some u => rw [e] at h; cases h; exact ⟨i, j, u, rfl, rfl, e, rfl⟩
  · cases h
theorem opU_I {F : Value → Value → Sem Value} {C : Int → Int → Prop} {g : Int → Int → V} {f : Int → Int → Option U} (h : OpR X F (rI C g)) (hc : ∀ i j u, f i j = some u → C i j ∧ ∀ m H, RU X.K G m H u (g i j)) : OpU G X F (o2I f) := by
  refine OpR.imp h fun x y H Q ⟨m, S, u1, u2, z, S', st, r1, r2, e, q⟩ => ?_
  obtain ⟨i, j, u, rfl, rfl, e', er⟩ := o2I_some e
  cases er
  exact ⟨i, j, r1, r2, (hc i j _ e').1, q.here st ((hc i j _ e').2 m H)⟩
theorem opU_I0 {F : Value → Value → Sem Value} {g : Int → Int → V} {f : Int → Int → U} (h : OpR X F (rI0 g)) (hc : ∀ i j m H, RU X.K G m H (f i j) (g i j)) : OpU G X F (o2I fun i j => some (f i j)) := by
  refine OpR.imp h fun x y H Q ⟨m, S, u1, u2, z, S', st, r1, r2, e, q⟩ => ?_
  obtain ⟨i, j, u, rfl, rfl, e', er⟩ := o2I_some e
  cases er
  cases e'
  exact ⟨i, j, r1, r2, q.here st (hc i j m H)⟩
end OF
namespace OF
open PySem PySem.Spec PyProof.Rows L2
variable {X : Cx} {G : Gx}
section
variable {K : PySem.W.Frag} {m : Mp} {H : Hp} {S : Sto}
theorem keeps_upd {p : Addr} {o : HO} (hp : H p = none) : Keeps m H m (upd H p o) := by
  have ne : ∀ a u, Rd H a u → a ≠ p := fun a u h e => by
    subst e
    rcases h with h | ⟨o, h⟩ <;> rw [hp] at h <;> cases h
  refine ⟨fun a u h n nx => ⟨?_, n, nx⟩, fun _ _ h => h, fun a xs h n nx => by rw [upd_ne (ne a _ (.inl h))]; exact h⟩
  have := ne a u h
  rcases h with h | ⟨o, h⟩
  · exact .inl (by rw [upd_ne this]; exact h)
  · exact .inr ⟨o, by rw [upd_ne this]; exact h⟩
theorem RO.nt : ∀ {o : O} {ho : HO}, RO K G m H o ho → ∀ xs, ho ≠ .tup xs
  | .lst _, _, ⟨_, e, _⟩, _, h => by rw [e] at h; cases h
  | .dct _, _, ⟨_, e, _⟩, _, h => by rw [e] at h; cases h
  | .dtt _, _, ⟨_, e, _⟩, _, h => by rw [e] at h; cases h
  | .ins _ _, _, ⟨_, _, _, e, _⟩, _, h => by rw [e] at h; cases h
  | .frd _, _, ⟨_, _, e, _⟩, _, h => by rw [e] at h; cases h
  | .ftt _, _, ⟨_, _, e, _⟩, _, h => by rw [e] at h; cases h
theorem Rst.at (st : Rst K G m H S) {n : Nat} {o : O} (h : S[n]? = some o) : ∃ a ho, m.c[n]? = some a ∧ H a = some ho ∧ RO K G m H o ho := by
  have hl : n < m.c.length := by rw [st.len]; exact (List.getElem?_eq_some_iff.mp h).1
  obtain ⟨ho, e, r⟩ := st.ob n o _ h (List.getElem?_eq_getElem hl)
  exact ⟨_, ho, List.getElem?_eq_getElem hl, e, r⟩
theorem Rst.cell (st : Rst K G m H S) {a : Addr} (h : a ∈ m.c) : ∃ ho, H a = some ho := by
  obtain ⟨n, hn⟩ := List.getElem?_of_mem h
  have hl : n < S.length := by rw [← st.len]; exact (List.getElem?_eq_some_iff.mp hn).1
  obtain ⟨ho, e, _⟩ := st.ob n _ a (List.getElem?_eq_getElem hl) hn
  exact ⟨ho, e⟩
theorem Rst.nt (st : Rst K G m H S) {a : Addr} (h : a ∈ m.c) (xs : List V) : H a ≠ some (.tup xs) := fun z => by
  obtain ⟨n, hn⟩ := List.getElem?_of_mem h
  have hl : n < S.length := by rw [← st.len]; exact (List.getElem?_eq_some_iff.mp hn).1
  obtain ⟨ho, e, r⟩ := st.ob n _ a (List.getElem?_eq_getElem hl) hn
  rw [e] at z
  exact r.nt xs (Option.some.inj z)
theorem Rst.none_c (st : Rst K G m H S) {p : Addr} (hp : H p = none) : p ∉ m.c := fun h => by
  obtain ⟨ho, e⟩ := st.cell h
  rw [hp] at e; cases e
theorem Rst.none_x (st : Rst K G m H S) {p : Addr} (hp : H p = none) : p ∉ m.x := fun h => by
  have := st.xs p h
  rw [hp] at this; cases this
theorem Rst.new (st : Rst K G m H S) {p : Addr} {o : HO} (hp : H p = none) : Rst K G m (upd H p o) S := by
  refine ⟨st.nd, st.len, fun n ob a h1 h2 => ?_, fun a ha => ?_, st.nx, fun a ha xs => by rw [upd_ne (show a ≠ p from fun e => st.none_x hp (e ▸ ha))]; exact st.tx a ha xs⟩
  · obtain ⟨ho, e, r⟩ := st.ob n ob a h1 h2
    exact ⟨ho, by rw [upd_ne (ne_of_none e hp)]; exact e, RO.keep (keeps_upd hp) _ _ r⟩
  · by_cases e : a = p
    · subst e; rw [upd_same]; rfl
    · rw [upd_ne e]; exact st.xs a ha
theorem Ext.upd {p : Addr} {o : HO} (hp : H p = none) : Ext m H m (upd H p o) := by
  refine ⟨⟨[], by simp⟩, ⟨[], rfl, fun _ h => nomatch h⟩, fun a u h _ => by rw [upd_ne (ne_of_none h hp)]; exact h, fun a _ h => ?_, fun a h n => absurd h n, fun a ob u h => by rw [upd_ne (ne_of_none h hp)]; exact h⟩
  by_cases e : a = p
  · subst e; rw [upd_same]; rfl
  · rw [upd_ne e]; exact h
theorem Ext.cell {p : Addr} {o : HO} (hp : H p = none) : Ext m H ⟨m.c ++ [p], m.x⟩ (L2.upd H p o) := by
  refine ⟨⟨[p], rfl⟩, ⟨[], rfl, fun _ h => nomatch h⟩, fun a u h _ => by rw [upd_ne (ne_of_none h hp)]; exact h, fun a _ h => ?_, fun a h n => ?_, fun a ob u h => by rw [upd_ne (ne_of_none h hp)]; exact h⟩
  · by_cases e : a = p
    · subst e; rw [upd_same]; rfl
    · rw [upd_ne e]; exact h
  · rcases List.mem_append.mp h with h | h
    · exact absurd h n
    · have : a = p := by simpa using h
      subst this; exact hp
theorem Rst.push (st : Rst K G m H S) {p : Addr} {o : O} {ho : HO} (hp : H p = none) (r : RO K G ⟨m.c ++ [p], m.x⟩ (L2.upd H p ho) o ho) : Rst K G ⟨m.c ++ [p], m.x⟩ (L2.upd H p ho) (S ++ [o]) := by
  have k := (Ext.cell (m := m) (o := ho) hp).keeps
  refine ⟨?_, by simp [st.len], fun n ob a h1 h2 => ?_, fun a ha => ?_, fun a ha => ?_, fun a ha xs => by rw [upd_ne (show a ≠ p from fun e => st.none_x hp (e ▸ ha))]; exact st.tx a ha xs⟩
  · refine List.nodup_append.mpr ⟨st.nd, by simp, fun a ha b hb => ?_⟩
    have : b = p := by simpa using hb
    subst this
    intro e; subst e
    exact st.none_c hp ha
  · by_cases hn : n < S.length
    · rw [List.getElem?_append_left hn] at h1
      rw [List.getElem?_append_left (by rw [st.len]; exact hn)] at h2
      obtain ⟨ho', e, r'⟩ := st.ob n ob a h1 h2
      exact ⟨ho', by rw [upd_ne (ne_of_none e hp)]; exact e, RO.keep k _ _ r'⟩
    · rw [List.getElem?_append_right (by omega)] at h1
      rw [List.getElem?_append_right (by rw [st.len]; omega)] at h2
      have e0 : n - S.length = 0 := by
        have := (List.getElem?_eq_some_iff.mp h1).1
        simp at this; omega
      rw [e0] at h1
      rw [st.len, e0] at h2
      cases h1; cases h2
      exact ⟨ho, upd_same, r⟩
  · by_cases e : a = p
    · subst e; rw [upd_same]; rfl
    · rw [upd_ne e]; exact st.xs a ha
  · intro h
    rcases List.mem_append.mp h with h | h
    · exact st.nx a ha h
    · have : a = p := by simpa using h
      subst this
      exact st.none_x hp ha
theorem keeps_set {p : Addr} {o : HO} (hp : p ∈ m.c) : Keeps m H m (L2.upd H p o) := by
  refine ⟨fun a u h n nx => ⟨?_, n, nx⟩, fun _ _ h => h, fun a xs h n nx => by rw [upd_ne (show a ≠ p from fun e => n (e ▸ hp))]; exact h⟩
  have : a ≠ p := fun e => n (e ▸ hp)
  rcases h with h | ⟨o, h⟩
  · exact .inl (by rw [upd_ne this]; exact h)
  · exact .inr ⟨o, by rw [upd_ne this]; exact h⟩
theorem Ext.set {p : Addr} {o : HO} (hp : p ∈ m.c) (hf : ∀ ob u, H p ≠ some (.frz ob u)) : Ext m H m (L2.upd H p o) := by
  refine ⟨⟨[], by simp⟩, ⟨[], rfl, fun _ h => nomatch h⟩, fun a u h n => by
    have ne : a ≠ p := fun e => n (e ▸ hp)
    rw [upd_ne ne]; exact h, fun a _ h => ?_, fun a h n => absurd h n, fun a ob u h => by
      have ne : a ≠ p := fun e => hf ob u (e ▸ h)
      rw [upd_ne ne]; exact h⟩
  by_cases e : a = p
  · subst e; rw [upd_same]; rfl
  · rw [upd_ne e]; exact h
theorem Rst.set (st : Rst K G m H S) {n : Nat} {p : Addr} {o : O} {ho : HO} (hp : m.c[n]? = some p) (r : RO K G m (L2.upd H p ho) o ho) : Rst K G m (L2.upd H p ho) (S.set n o) := by
  have hm : p ∈ m.c := List.mem_of_getElem? hp
  refine ⟨st.nd, by simp [st.len], fun j ob a h1 h2 => ?_, fun a ha => ?_, st.nx, fun a ha xs => by rw [upd_ne (show a ≠ p from fun e => st.nx a ha (e ▸ hm))]; exact st.tx a ha xs⟩
  · by_cases hj : j = n
    · subst hj
      rw [hp] at h2; cases h2
      have hl : j < S.length := by rw [← st.len]; exact (List.getElem?_eq_some_iff.mp hp).1
      rw [List.getElem?_set_self hl] at h1
      cases h1
      exact ⟨ho, upd_same, r⟩
    · rw [List.getElem?_set_ne (Ne.symm hj)] at h1
      obtain ⟨ho', e, r'⟩ := st.ob j ob a h1 h2
      have ne : a ≠ p := fun e => by
        subst e
        exact hj (nd_ix st.nd h2 hp)
      exact ⟨ho', by rw [upd_ne ne]; exact e, RO.keep (keeps_set hm) _ _ r'⟩
  · by_cases e : a = p
    · subst e; rw [upd_same]; rfl
    · rw [upd_ne e]; exact st.xs a ha
theorem RUs.length : ∀ {us : List U} {vs : List V}, RUs K G m H us vs → vs.length = us.length
  | [], _, h => by unfold RUs at h; subst h; rfl
  | u :: us, vs, h => by
    unfold RUs at h
    obtain ⟨v, r, e, _, t⟩ := h
    subst e
    simp [RUs.length t]
theorem RUs.get : ∀ {us : List U} {vs : List V} {i : Nat} {u : U}, RUs K G m H us vs → us[i]? = some u → ∃ v, vs[i]? = some v ∧ RU K G m H u v
  | [], _, i, u, _, e => by simp at e
  | w :: us, vs, i, u, h, e => by
    unfold RUs at h
    obtain ⟨v, r, e1, q, t⟩ := h
    subst e1
    cases i with
    | zero => simp at e; subst e; exact ⟨v, rfl, q⟩
    | succ i =>
      simp at e
      obtain ⟨v', e', q'⟩ := RUs.get t e
      exact ⟨v', by simpa using e', q'⟩
theorem RUs.append : ∀ {us us' : List U} {vs vs' : List V}, RUs K G m H us vs → RUs K G m H us' vs' → RUs K G m H (us ++ us') (vs ++ vs')
  | [], _, _, _, h, h' => by unfold RUs at h; subst h; exact h'
  | u :: us, us', vs, vs', h, h' => by
    unfold RUs at h
    obtain ⟨v, r, e, q, t⟩ := h
    subst e
    show RUs K G m H (u :: (us ++ us')) (v :: (r ++ vs'))
    unfold RUs
    exact ⟨v, _, rfl, q, RUs.append t h'⟩
theorem RUs.one {u : U} {v : V} (r : RU K G m H u v) : RUs K G m H [u] [v] := by
  unfold RUs
  exact ⟨v, [], rfl, r, by unfold RUs; rfl⟩
theorem RUs.nil : RUs K G m H [] [] := by unfold RUs; rfl
theorem RUs.cons {u : U} {v : V} {us : List U} {vs : List V} (r : RU K G m H u v) (t : RUs K G m H us vs) : RUs K G m H (u :: us) (v :: vs) := by
  unfold RUs
  exact ⟨v, vs, rfl, r, t⟩
theorem RUs.uncons {u : U} {us : List U} {vs : List V} (t : RUs K G m H (u :: us) vs) : ∃ v r, vs = v :: r ∧ RU K G m H u v ∧ RUs K G m H us r := by
  unfold RUs at t
  exact t
theorem RUs.eqnil {vs : List V} (t : RUs K G m H [] vs) : vs = [] := by
  unfold RUs at t
  exact t
theorem RUs.take : ∀ {us : List U} {vs : List V} (n : Nat), RUs K G m H us vs → RUs K G m H (us.take n) (vs.take n)
  | us, vs, 0, _ => by simp; exact RUs.nil
  | [], _, n + 1, h => by unfold RUs at h; subst h; simp; exact RUs.nil
  | u :: us, vs, n + 1, h => by
    unfold RUs at h
    obtain ⟨v, r, e, q, t⟩ := h
    subst e
    exact RUs.cons q (RUs.take n t)
theorem RUs.drop : ∀ {us : List U} {vs : List V} (n : Nat), RUs K G m H us vs → RUs K G m H (us.drop n) (vs.drop n)
  | us, vs, 0, h => h
  | [], _, n + 1, h => by unfold RUs at h; subst h; exact RUs.nil
  | u :: us, vs, n + 1, h => by
    unfold RUs at h
    obtain ⟨v, r, e, q, t⟩ := h
    subst e
    exact RUs.drop n t
theorem RUs.set : ∀ {us : List U} {vs : List V} (i : Nat) {u : U} {v : V}, RU K G m H u v → RUs K G m H us vs → RUs K G m H (us.set i u) (vs.set i v)
  | [], _, i, u, v, _, h => by unfold RUs at h; subst h; exact RUs.nil
  | w :: us, vs, i, u, v, r, h => by
    unfold RUs at h
    obtain ⟨x, t, e, q, tl⟩ := h
    subst e
    cases i with
    | zero => exact RUs.cons r tl
    | succ i => exact RUs.cons q (RUs.set i r tl)
theorem RU.tupT {us : List U} {v : V} (h : RU K G m H (.tup us) v) : ∃ a vs, v = .ref a ∧ SqT K H a vs ∧ RUs K G m H us vs := by
  unfold RU at h
  obtain ⟨a, vs, e, q, r⟩ := h
  refine ⟨a, vs, e, ?_, r⟩
  rcases q with ⟨q, _⟩ | q
  · exact .inl (.inl q)
  · exact .inr q.2
theorem RU.lstL {us : List U} {v : V} (h : RU K G m H (.lst us) v) : ∃ a vs, v = .ref a ∧ SqL K H a vs ∧ RUs K G m H us vs := by
  unfold RU at h
  obtain ⟨a, vs, e, q, n, nx, r⟩ := h
  exact ⟨a, vs, e, .inl q, r⟩
theorem RU.lstR {us : List U} {v : V} (h : RU K G m H (.lst us) v) : ∃ a vs, v = .ref a ∧ Rd H a (.lst vs) ∧ a ∉ m.c ∧ a ∉ m.x ∧ RUs K G m H us vs := by
  unfold RU at h
  exact h
theorem RU.scrL {us : List U} {v : V} (h : RU K G m H (.scr us) v) : ∃ a vs, v = .ref a ∧ SqL K H a vs ∧ RUs K G m H us vs := by
  unfold RU at h
  obtain ⟨a, vs, e, q, r⟩ := h
  refine ⟨a, vs, e, ?_, r⟩
  rcases q with ⟨q, _⟩ | q
  · exact .inl q
  · exact .inr q
theorem RU.newTup {us : List U} {vs : List V} {p : Addr} (st : Rst K G m H S) (hp : H p = none) (r : RUs K G m H us vs) : RU K G m (L2.upd H p (.tup vs)) (.tup us) (.ref p) := by
  unfold RU
  exact ⟨p, vs, rfl, .inl ⟨upd_same, st.none_c hp, st.none_x hp⟩, RUs.keep (keeps_upd hp) _ _ r⟩
theorem RU.newLst {us : List U} {vs : List V} {p : Addr} (st : Rst K G m H S) (hp : H p = none) (r : RUs K G m H us vs) : RU K G m (L2.upd H p (.lst vs)) (.lst us) (.ref p) := by
  unfold RU
  exact ⟨p, vs, rfl, .inl upd_same, st.none_c hp, st.none_x hp, RUs.keep (keeps_upd hp) _ _ r⟩
theorem RU.cell {n : Nat} {a : Addr} (h : m.c[n]? = some a) : RU K G m H (.ref n) (.ref a) := by
  unfold RU
  exact ⟨a, rfl, h⟩
theorem After.tup {us : List U} {vs : List V} {Q : VK} (q : After K G m H (.tup us) S Q) (st : Rst K G m H S) (r : RUs K G m H us vs) : ∀ p, H p = none → Q (.ref p) (L2.upd H p (.tup vs)) := fun p hp =>
  q m _ _ (Ext.upd hp) (st.new hp) (RU.newTup st hp r)
theorem After.lst {us : List U} {vs : List V} {Q : VK} (q : After K G m H (.lst us) S Q) (st : Rst K G m H S) (r : RUs K G m H us vs) : ∀ p, H p = none → Q (.ref p) (L2.upd H p (.lst vs)) := fun p hp =>
  q m _ _ (Ext.upd hp) (st.new hp) (RU.newLst st hp r)
theorem After.cell {o : O} {ho : HO} {Q : VK} (q : After K G m H (.ref S.length) (S ++ [o]) Q) (st : Rst K G m H S) (r : RO K G m H o ho) : ∀ p, H p = none → Q (.ref p) (L2.upd H p ho) := fun p hp => by
  have r' := RO.keep (Ext.cell (m := m) (o := ho) hp).keeps _ _ r
  refine q _ _ _ (Ext.cell hp) (st.push hp r') (RU.cell ?_)
  rw [← st.len]
  simp
end
def cNil : Cm (List U) := fun _ S => some ([], S)
def cCons (a : Cm U) (r : Cm (List U)) : Cm (List U) := fun env S => match a env S with
  | none => none
  | some (u, S1) => match r env S1 with
    | none => none
    | some (us, S2) => some (u :: us, S2)
theorem cCons_some {a : Cm U} {r : Cm (List U)} {env : Env'} {S S' : Sto} {us : List U} (h : cCons a r env S = some (us, S')) : ∃ u S1 t, a env S = some (u, S1) ∧ r env S1 = some (t, S') ∧ us = u :: t := by
  unfold cCons at h
  split at h
  · cases h
  · rename_i u S1 e
    split at h
    · cases h
    · rename_i t S2 e2
      cases h
      exact ⟨u, S1, t, e, e2, rfl⟩
theorem re_cons {K : PySem.W.Frag} {ca : Cm U} {cr : Cm (List U)} {σ : L2.St} {H : Hp} {Q : List V → Hp → Prop} (h : RA K G (cCons ca cr) σ H Q) : tCons (RE K G ca) (RA K G cr) σ H Q := by
  obtain ⟨m, S, env, us, S', st, re, hc, q⟩ := h
  obtain ⟨u, S1, t, e1, e2, rfl⟩ := cCons_some hc
  refine ⟨m, S, env, u, S1, st, re, e1, fun m1 H1 x x1 st1 r1 => ⟨m1, S1, env, t, S', st1, re.keep x1.keeps, e2, fun m2 H2 xs x2 st2 r2 => ?_⟩⟩
  exact q m2 H2 (x :: xs) (x1.trans x2) st2 (RUs.cons (RU.keep x2.keeps _ _ r1) r2)
theorem ea_nil : EA G X [] cNil := pa_nil.imp fun σ H Q ⟨m, S, env, us, S', st, re, hc, q⟩ => by
  cases hc
  exact q m H [] (Ext.refl m H) st RUs.nil
theorem ea_cons {e : Expr} {es : List Expr} {ca : Cm U} {cr : Cm (List U)} (ha : EE G X e ca) (hr : EA G X es cr) (hs : starEach (e :: es) X.env = (false, eval e X.env) :: starEach es X.env := by rfl) : EA G X (e :: es) (cCons ca cr) := (pa_cons ha hr hs).imp fun _ _ _ => re_cons
def cArg (f : OpN) (a : Cm (List U)) : Cm U := fun env S => match a env S with
  | none => none
  | some (us, S1) => f us S1
theorem cArg_some {f : OpN} {a : Cm (List U)} {env : Env'} {S : Sto} {r : U × Sto} (h : cArg f a env S = some r) : ∃ us S1, a env S = some (us, S1) ∧ f us S1 = some r := by
  unfold cArg at h
  split at h
  · cases h
  · rename_i us S1 e
    exact ⟨us, S1, e, h⟩
theorem re_arg {K : PySem.W.Frag} {f : OpN} {ca : Cm (List U)} {σ : L2.St} {H : Hp} {Q : VK} (h : RE K G (cArg f ca) σ H Q) : RA K G ca σ H fun xs H1 => rNU K G f xs H1 Q := by
  obtain ⟨m, S, env, z, S', st, re, hc, q⟩ := h
  obtain ⟨us, S1, e1, e2⟩ := cArg_some hc
  exact ⟨m, S, env, us, S1, st, re, e1, fun m1 H1 xs x1 st1 r1 => ⟨m1, S1, us, z, S', st1, r1, e2, fun m2 H2 v x2 st2 r2 => q m2 H2 v (x1.trans x2) st2 r2⟩⟩
def oTup : OpN := fun us S => if us.length ≤ sizeLine then some (.tup us, S) else none
def oLst : OpN := fun us S => if us.length ≤ sizeLine then some (.lst us, S) else none
def oLstM : OpN := fun us S => if us.length ≤ sizeLine then some (.ref S.length, S ++ [.lst us]) else none
variable {es : List Expr} {ca : Cm (List U)} {pos : Pos}
theorem ee_tup {k : Nat} (h : EA G X es ca) : EE G X (.Tuple es k pos) (cArg oTup ca) := (pe_tup h).imp fun σ H Q h => by
  obtain ⟨m, S, env, us, S1, st, re, e1, q⟩ := re_arg h
  refine ⟨m, S, env, us, S1, st, re, e1, fun m1 H1 xs x1 st1 r1 => ?_⟩
  obtain ⟨m2, S2, us2, z, S', st2, r2, e2, q2⟩ := q m1 H1 xs x1 st1 r1
  unfold oTup at e2
  split at e2
  · cases e2
    exact ⟨by rw [r2.length]; assumption, q2.tup st2 r2⟩
  · cases e2
theorem ee_lst (h : EA G X es ca) : EE G X (.List es pos) (cArg oLst ca) := (pe_lst h).imp fun σ H Q h => by
  obtain ⟨m, S, env, us, S1, st, re, e1, q⟩ := re_arg h
  refine ⟨m, S, env, us, S1, st, re, e1, fun m1 H1 xs x1 st1 r1 => ?_⟩
  obtain ⟨m2, S2, us2, z, S', st2, r2, e2, q2⟩ := q m1 H1 xs x1 st1 r1
  unfold oLst at e2
  split at e2
  · cases e2
    exact ⟨by rw [r2.length]; assumption, q2.lst st2 r2⟩
  · cases e2
theorem ee_lstM (h : EA G X es ca) : EE G X (.List es pos) (cArg oLstM ca) := (pe_lst h).imp fun σ H Q h => by
  obtain ⟨m, S, env, us, S1, st, re, e1, q⟩ := re_arg h
  refine ⟨m, S, env, us, S1, st, re, e1, fun m1 H1 xs x1 st1 r1 => ?_⟩
  obtain ⟨m2, S2, us2, z, S', st2, r2, e2, q2⟩ := q m1 H1 xs x1 st1 r1
  unfold oLstM at e2
  split at e2
  · cases e2
    exact ⟨by rw [r2.length]; assumption, q2.cell st2 ⟨xs, rfl, r2⟩⟩
  · cases e2
end OF
namespace OF
open PySem PySem.Spec PyProof.Rows L2
variable {X : Cx} {G : Gx}
inductive Fl where
  | nx
  | ret (u : U)
  | brk
  | ct
abbrev Sm := Env' → Sto → Option (Fl × Env' × Sto)
def AfterE (K : PySem.W.Frag) (G : Gx) (m : Mp) (H : Hp) (env : Env') (S' : Sto) (Q : L2.St → Hp → Prop) : Prop := ∀ m' H' σ', Ext m H m' H' → Rst K G m' H' S' → Renv K G m' H' env σ' → Q σ' H'
def AfterS (K : PySem.W.Frag) (G : Gx) (m : Mp) (H : Hp) (fl : Fl) (env : Env') (S' : Sto) (D : Ends) : Prop := match fl with
  | .nx => AfterE K G m H env S' D.nx
  | .ret u => After K G m H u S' D.rt
  | .brk => AfterE K G m H env S' D.bk
  | .ct => AfterE K G m H env S' D.ct
def RS (K : PySem.W.Frag) (G : Gx) (c : Sm) : TS := fun D σ H => ∃ m S env fl env' S', Rst K G m H S ∧ Renv K G m H env σ ∧ c env S = some (fl, env', S') ∧ AfterS K G m H fl env' S' D
abbrev ES (G : Gx) (X : Cx) (st : Stmt) (c : Sm) : Prop := PS X st (RS X.K G c)
abbrev ESs (G : Gx) (X : Cx) (st : List Stmt) (c : Sm) : Prop := PSs X st (RS X.K G c)
theorem _root_.L2.PS.imp {st : Stmt} {t t' : TS} (h : PS X st t) (i : ∀ D σ H, t' D σ H → t D σ H) : PS X st t' := ⟨fun pins s σ H D I hw => h.run pins s σ H D I (i D σ H hw)⟩
theorem _root_.L2.PSs.imp {st : List Stmt} {t t' : TS} (h : PSs X st t) (i : ∀ D σ H, t' D σ H → t D σ H) : PSs X st t' := ⟨fun pins s σ H D I hw => h.run pins s σ H D I (i D σ H hw)⟩
theorem After.mono {K : PySem.W.Frag} {m m1 : Mp} {H H1 : Hp} {u : U} {S : Sto} {Q : VK} (q : After K G m H u S Q) (x : Ext m H m1 H1) : After K G m1 H1 u S Q := fun m' H' v x' st r => q m' H' v (x.trans x') st r
theorem AfterE.mono {K : PySem.W.Frag} {m m1 : Mp} {H H1 : Hp} {e : Env'} {S : Sto} {Q : L2.St → Hp → Prop} (q : AfterE K G m H e S Q) (x : Ext m H m1 H1) : AfterE K G m1 H1 e S Q := fun m' H' v x' st r => q m' H' v (x.trans x') st r
theorem AfterB.mono {K : PySem.W.Frag} {m m1 : Mp} {H H1 : Hp} {b : Bool} {S : Sto} {Q : Bool → Hp → Prop} (q : AfterB K G m H b S Q) (x : Ext m H m1 H1) : AfterB K G m1 H1 b S Q := fun m' H' x' st => q m' H' (x.trans x') st
theorem AfterS.mono {K : PySem.W.Frag} {m m1 : Mp} {H H1 : Hp} {fl : Fl} {e : Env'} {S : Sto} {D : Ends} (q : AfterS K G m H fl e S D) (x : Ext m H m1 H1) : AfterS K G m1 H1 fl e S D := by
  cases fl with
  | nx => exact AfterE.mono q x
  | ret u => exact After.mono q x
  | brk => exact AfterE.mono q x
  | ct => exact AfterE.mono q x
def sNil : Sm := fun env S => some (.nx, env, S)
def sSeq (a b : Sm) : Sm := fun env S => match a env S with
  | none => none
  | some (.nx, env1, S1) => b env1 S1
  | some r => some r
theorem ss_nil : ESs G X [] sNil := pss_nil.imp fun D σ H ⟨m, S, env, fl, env', S', st, re, hc, q⟩ => by
  cases hc
  exact q m H σ (Ext.refl m H) st re
theorem rs_seq {K : PySem.W.Frag} {a b : Sm} {D : Ends} {σ : L2.St} {H : Hp} (h : RS K G (sSeq a b) D σ H) : tSeq (RS K G a) (RS K G b) D σ H := by
  obtain ⟨m, S, env, fl, env', S', st, re, hc, q⟩ := h
  unfold sSeq at hc
  split at hc
  · cases hc
  · rename_i env1 S1 e
    exact ⟨m, S, env, .nx, env1, S1, st, re, e, fun m1 H1 σ1 x1 st1 re1 => ⟨m1, S1, env1, fl, env', S', st1, re1, hc, q.mono x1⟩⟩
  · rename_i r hne e
    cases hc
    refine ⟨m, S, env, fl, env', S', st, re, e, ?_⟩
    cases fl with
    | nx => exact absurd rfl (hne _ _)
    | ret u => exact q
    | brk => exact q
    | ct => exact q
theorem ss_cons {st : Stmt} {rest : List Stmt} {a b : Sm} (h1 : ES G X st a) (h2 : ESs G X rest b) : ESs G X (st :: rest) (sSeq a b) := (pss_cons h1 h2).imp fun _ _ _ => rs_seq
theorem ss_one {st : Stmt} {a : Sm} (h1 : ES G X st a) : ESs G X [st] a := pss_one h1
variable {e e' : Expr} {ca cb : Cm U} {pos : Pos}
def sExpr (a : Cm U) : Sm := fun env S => match a env S with
  | none => none
  | some (_, S1) => some (.nx, env, S1)
theorem es_expr (he : EE G X e ca) (hs : swapsWith e none pos.line X.env = pure false := by rfl) : ES G X (.Expr e pos) (sExpr ca) := (ps_expr he hs).imp fun D σ H ⟨m, S, env, fl, env', S', st, re, hc, q⟩ => by
  unfold sExpr at hc
  split at hc
  · cases hc
  · rename_i u S1 e1
    cases hc
    exact ⟨m, S, _, u, _, st, re, e1, fun m1 H1 v x1 st1 r1 => q m1 H1 σ x1 st1 (re.keep x1.keeps)⟩
def sRet (a : Cm U) : Sm := fun env S => match a env S with
  | none => none
  | some (u, S1) => some (.ret u, env, S1)
theorem es_ret (he : EE G X e ca) : ES G X (.Return (some e) pos) (sRet ca) := (ps_ret he).imp fun D σ H ⟨m, S, env, fl, env', S', st, re, hc, q⟩ => by
  unfold sRet at hc
  split at hc
  · cases hc
  · rename_i u S1 e1
    cases hc
    exact ⟨m, S, _, _, _, st, re, e1, q⟩
def sIf (c : Cm Bool) (a b : Sm) : Sm := fun env S => match c env S with
  | none => none
  | some (true, S1) => a env S1
  | some (false, S1) => b env S1
theorem es_if {c : Expr} {a b : List Stmt} {cc : Cm Bool} {sa sb : Sm} (hc : ET G X c cc) (ha : ESs G X a sa) (hb : ESs G X b sb) : ES G X (.If c a b pos) (sIf cc sa sb) := (ps_if hc ha hb).imp fun D σ H ⟨m, S, env, fl, env', S', st, re, hc, q⟩ => by
  unfold sIf at hc
  split at hc
  · cases hc
  · rename_i S1 e1
    refine ⟨m, S, env, true, S1, st, re, e1, fun m1 H1 x1 st1 => ?_⟩
    exact iteT ⟨m1, S1, env, fl, env', S', st1, re.keep x1.keeps, hc, q.mono x1⟩
  · rename_i S1 e1
    refine ⟨m, S, env, false, S1, st, re, e1, fun m1 H1 x1 st1 => ?_⟩
    exact iteF ⟨m1, S1, env, fl, env', S', st1, re.keep x1.keeps, hc, q.mono x1⟩
abbrev Gm := U → Env' → Sto → Option (Env' × Sto)
def RG (K : PySem.W.Frag) (G : Gx) (g : Gm) : TG := fun v σ H Q => ∃ m S env u env' S', Rst K G m H S ∧ Renv K G m H env σ ∧ RU K G m H u v ∧ g u env S = some (env', S') ∧ AfterE K G m H env' S' Q
abbrev EG (G : Gx) (X : Cx) (tg : Expr) (g : Gm) : Prop := PG X tg (RG X.K G g)
abbrev Gms := List U → Env' → Sto → Option (Env' × Sto)
theorem _root_.L2.PG.imp {tg : Expr} {t t' : TG} (h : PG X tg t) (i : ∀ v σ H Q, t' v σ H Q → t v σ H Q) : PG X tg t' := ⟨fun pins s σ H v u Q I r hw => h.run pins s σ H v u Q I r (i v σ H Q hw)⟩
theorem _root_.L2.PGs.imp {tg : List Expr} {t t' : TGs} (h : PGs X tg t) (i : ∀ v σ H Q, t' v σ H Q → t v σ H Q) : PGs X tg t' := ⟨fun pins s σ H v u Q I r hw => h.run pins s σ H v u Q I r (i v σ H Q hw)⟩
theorem Renv.set {K : PySem.W.Frag} {m : Mp} {H : Hp} {env : Env'} {σ : L2.St} {u : U} {v : V} (r : Renv K G m H env σ) (i : Nat) (h : RU K G m H u v) : Renv K G m H (env.set i (some u)) (σ.set i (some v)) := by
  refine ⟨by simp [r.1], fun j w hj => ?_⟩
  by_cases e : i = j
  · subst e
    have hl : i < env.length := by
      have := (List.getElem?_eq_some_iff.mp hj).1
      simpa using this
    rw [List.getElem?_set_self hl] at hj
    cases hj
    exact ⟨v, by rw [List.getElem?_set_self (by rw [← r.1]; exact hl)], h⟩
  · rw [List.getElem?_set_ne e] at hj
    obtain ⟨v', e', q⟩ := r.2 j w hj
    exact ⟨v', by rw [List.getElem?_set_ne e]; exact e', q⟩
def gmName (i : Nat) : Gm := fun u env S => some (env.set i (some u), S)
def gmsNil : Gms := fun us env S => match us with
  | [] => some (env, S)
  | _ => none
def gmsCons (g : Gm) (r : Gms) : Gms := fun us env S => match us with
  | [] => none
  | u :: t => match g u env S with
    | none => none
    | some (env1, S1) => r t env1 S1
def gmTup (n : Nat) (g : Gms) : Gm := fun u env S => match u with
  | .tup us => if us.length = n then g us env S else none
  | _ => none
def sAsg (a : Cm U) (g : Gm) : Sm := fun env S => match a env S with
  | none => none
  | some (u, S1) => match g u env S1 with
    | none => none
    | some (env2, S2) => some (.nx, env2, S2)
theorem rs_asg {K : PySem.W.Frag} {g : Gm} {D : Ends} {σ : L2.St} {H : Hp} (h : RS K G (sAsg ca g) D σ H) : tAsg (RE K G ca) (RG K G g) D σ H := by
  obtain ⟨m, S, env, fl, env', S', st, re, hc, q⟩ := h
  unfold sAsg at hc
  split at hc
  · cases hc
  · rename_i u S1 e1
    split at hc
    · cases hc
    · rename_i env2 S2 e2
      cases hc
      refine ⟨m, S, env, u, S1, st, re, e1, fun m1 H1 v x1 st1 r1 => ?_⟩
      exact ⟨m1, S1, env, u, _, _, st1, re.keep x1.keeps, r1, e2, AfterE.mono q x1⟩
theorem es_asg {tg : Expr} {g : Gm} (he : EE G X e ca) (hg : EG G X tg g) (hs : swapsWithSole [tg] e pos.line X.env = pure false := by rfl) (hw : swappedStores [tg] e X.env = pure none := by rfl)
    (h1 : (assignEach [tg] X.env).map (·.2) = [assign tg X.env] := by rfl) : ES G X (.Assign [tg] e pos) (sAsg ca g) := (ps_asg he hg hs hw h1).imp fun _ _ _ => rs_asg
theorem es_set {i : Nat} {x : Str} {pos' : Pos} (hN : X.N.Nodup) (hi : X.N[i]? = some x) (hx : Loc X.env.scope x) (he : EE G X e ca) (hs : swapsWith e (some (.Name x pos')) pos.line X.env = pure false := by rfl) (hf : X.fn x = true ∨ X.env.scope.names.lookup x = some .local := by first | exact .inl rfl | exact .inr rfl | assumption) :
    ES G X (.Assign [.Name x pos'] e pos) (sAsg ca (gmName i)) := (ps_set hN hi hx he hs hf).imp fun D σ H h => by
  obtain ⟨m, S, env, u, S1, st, re, e1, q⟩ := rs_asg h
  refine ⟨m, S, env, u, S1, st, re, e1, fun m1 H1 v x1 st1 r1 => ?_⟩
  obtain ⟨m2, S2, env2, u2, env3, S3, st2, re2, r2, e2, q2⟩ := q m1 H1 v x1 st1 r1
  cases e2
  exact q2 m2 H1 _ (Ext.refl m2 H1) st2 (re2.set i r2)
end OF
namespace OF
open PySem PySem.Spec PyProof.Rows L2
variable {X : Cx} {G : Gx}
def truU (S : Sto) : U → Option Bool
  | .non => some false
  | .bl b => some b
  | .int i => some (i != 0)
  | .str y => if y.length ≤ sizeLine then some ((y.length : Int) != 0) else none
  | .tup us => some (!us.isEmpty)
  | .lst us => some (!us.isEmpty)
  | .scr us => some (!us.isEmpty)
  | .ref n => match S[n]? with
    | some (.lst us) => some (!us.isEmpty)
    | some (.dct us) => some (!us.isEmpty)
    | _ => none
  | _ => none
section
variable {K : PySem.W.Frag} {m : Mp} {H : Hp} {S : Sto}
theorem RUs.empty {us : List U} {vs : List V} (r : RUs K G m H us vs) : us.isEmpty = vs.isEmpty := by
  have := r.length
  cases us <;> cases vs <;> simp at this ⊢
theorem RKs.length : ∀ {us : List (Key × U)} {vs : List (Key × V)}, RKs K G m H us vs → vs.length = us.length
  | [], _, h => by unfold RKs at h; subst h; rfl
  | (k, u) :: us, vs, h => by
    unfold RKs at h
    obtain ⟨v, r, e, _, t⟩ := h
    subst e
    simp [RKs.length t]
theorem truU_ok (st : Rst K G m H S) {u : U} {v : V} {k : Bool} (r : RU K G m H u v) (h : truU S u = some k) : TruV K v H k := by
  cases u with
  | non => cases r; cases h; rfl
  | bl b => cases r; cases h; rfl
  | int i => cases r; cases h; rfl
  | str y =>
    cases r
    simp only [truU] at h
    split at h
    · cases h; exact ⟨by assumption, rfl⟩
    · cases h
  | tup us =>
    obtain ⟨a, vs, rfl, hq, rv⟩ := r.tupT
    cases h
    exact .inr (.inl ⟨vs, hq, by rw [rv.empty]⟩)
  | lst us =>
    obtain ⟨a, vs, rfl, hq, rv⟩ := r.lstL
    cases h
    exact .inl ⟨vs, hq, by rw [rv.empty]⟩
  | scr us =>
    obtain ⟨a, vs, rfl, hq, rv⟩ := r.scrL
    cases h
    exact .inl ⟨vs, hq, by rw [rv.empty]⟩
  | dct us => cases h
  | fn x => cases h
  | ref n =>
    unfold RU at r
    obtain ⟨a, rfl, ha⟩ := r
    simp only [truU] at h
    split at h
    · rename_i us e
      cases h
      obtain ⟨a', ho, ha', e', vs, rfl, rv⟩ := st.at e
      rw [ha] at ha'; cases ha'
      exact .inl ⟨vs, SqL.of e', by rw [rv.empty]⟩
    · rename_i us e
      cases h
      obtain ⟨a', ho, ha', e', vs, rfl, rv⟩ := st.at e
      rw [ha] at ha'; cases ha'
      refine .inr (.inr ⟨vs, e', ?_⟩)
      have := rv.length
      cases us <;> cases vs <;> simp at this ⊢
    · cases h
end
def cTru (a : Cm U) : Cm Bool := fun env S => match a env S with
  | none => none
  | some (u, S1) => match truU S1 u with
    | none => none
    | some b => some (b, S1)
theorem cTru_some {a : Cm U} {env : Env'} {S S' : Sto} {b : Bool} (h : cTru a env S = some (b, S')) : ∃ u, a env S = some (u, S') ∧ truU S' u = some b := by
  unfold cTru at h
  split at h
  · cases h
  · rename_i u S1 e
    split at h
    · cases h
    · rename_i b' e2
      cases h
      exact ⟨u, e, e2⟩
variable {e a b c : Expr} {ca cb cc : Cm U} {ta tb tc : Cm Bool} {pos : Pos} {rest : List Expr}
theorem et_tru (ha : EE G X a ca) (he : ∀ whole, isTrue a X.env whole = (do let v ← whole; standAt a.pos; holding [v] (truthy v)) := by intro _; rfl) : ET G X a (cTru ca) := (pt_truth ha he).imp fun σ H Q ⟨m, S, env, k, S', st, re, hc, q⟩ => by
  obtain ⟨u, e1, e2⟩ := cTru_some hc
  exact ⟨m, S, env, u, S', st, re, e1, fun m1 H1 v x1 st1 r1 => ⟨k, truU_ok st1 r1 e2, q m1 H1 x1 st1⟩⟩
theorem et_cmp {op : CmpOp} {f : Op2} (ho : OpU G X (compareOp op) f) (ha : EE G X a ca) (hb : EE G X b cb) (hm : behindInMarks op b = false) : ET G X (.Compare a [op] [b] pos) (cTru (cBin f ca cb)) := by
  refine ⟨fun pins s σ H Q I hw => ?_⟩
  obtain ⟨m, S, env, k, S', st, re, hc, q⟩ := hw
  obtain ⟨u, e1, e2⟩ := cTru_some hc
  have hE : RE X.K G (cBin f ca cb) σ H (fun x H' => ∃ k', TruV X.K x H' k' ∧ Q k' H') := ⟨m, S, env, u, S', st, re, e1, fun m1 H1 v x1 st1 r1 => ⟨k, truU_ok st1 r1 e2, q m1 H1 x1 st1⟩⟩
  have hop := re_op hE
  refine wpAny_isTrue_Compare1 (binT ha hb I hop fun v u s2 x y H2 I2 rx ry q2 => ?_) hm
  refine thn (ho pins s2 σ H2 x y v u _ I2 rx ry q2) fun w s3 ⟨z, H3, I3, r3, q3⟩ => ?_
  exact tru_ok pins s3 σ H3 z w Q I3 r3 q3
def cAndT (a b : Cm Bool) : Cm Bool := fun env S => match a env S with
  | none => none
  | some (true, S1) => b env S1
  | some (false, S1) => some (false, S1)
def cOrT (a b : Cm Bool) : Cm Bool := fun env S => match a env S with
  | none => none
  | some (true, S1) => some (true, S1)
  | some (false, S1) => b env S1
def cNotT (a : Cm Bool) : Cm Bool := fun env S => match a env S with
  | none => none
  | some (k, S1) => some (!k, S1)
theorem ew_and1 (ha : ET G X a ta) : EW G X (.BoolOp .And [a] pos) ta := pw_and1 ha
theorem ew_or1 (ha : ET G X a ta) : EW G X (.BoolOp .Or [a] pos) ta := pw_or1 ha
theorem ew_and (ha : ET G X a ta) (hb : EW G X (.BoolOp .And (b :: rest) pos) tb) : EW G X (.BoolOp .And (a :: b :: rest) pos) (cAndT ta tb) := (pw_and ha hb).imp fun σ H Q ⟨m, S, env, k, S', st, re, hc, q⟩ => by
  unfold cAndT at hc
  split at hc
  · cases hc
  · rename_i S1 e1
    exact ⟨m, S, env, true, S1, st, re, e1, fun m1 H1 x1 st1 => iteT ⟨m1, S1, env, k, S', st1, re.keep x1.keeps, hc, q.mono x1⟩⟩
  · rename_i S1 e1
    cases hc
    exact ⟨m, S, env, false, _, st, re, e1, fun m1 H1 x1 st1 => iteF (q m1 H1 x1 st1)⟩
theorem ew_or (ha : ET G X a ta) (hb : EW G X (.BoolOp .Or (b :: rest) pos) tb) : EW G X (.BoolOp .Or (a :: b :: rest) pos) (cOrT ta tb) := (pw_or ha hb).imp fun σ H Q ⟨m, S, env, k, S', st, re, hc, q⟩ => by
  unfold cOrT at hc
  split at hc
  · cases hc
  · rename_i S1 e1
    cases hc
    exact ⟨m, S, env, true, _, st, re, e1, fun m1 H1 x1 st1 => iteT (q m1 H1 x1 st1)⟩
  · rename_i S1 e1
    exact ⟨m, S, env, false, S1, st, re, e1, fun m1 H1 x1 st1 => iteF ⟨m1, S1, env, k, S', st1, re.keep x1.keeps, hc, q.mono x1⟩⟩
theorem et_w (h : EW G X a ta) : ET G X a ta := h.pt
theorem et_not (ha : ET G X a ta) : ET G X (.UnaryOp .Not a pos) (cNotT ta) := (pt_not ha).imp fun σ H Q ⟨m, S, env, k, S', st, re, hc, q⟩ => by
  unfold cNotT at hc
  split at hc
  · cases hc
  · rename_i k' S1 e1
    cases hc
    exact ⟨m, S, env, k', _, st, re, e1, fun m1 H1 x1 st1 => q m1 H1 x1 st1⟩
def cIf (t : Cm Bool) (a b : Cm U) : Cm U := fun env S => match t env S with
  | none => none
  | some (true, S1) => a env S1
  | some (false, S1) => b env S1
theorem ee_if (hc : ET G X c tc) (ha : EE G X a ca) (hb : EE G X b cb) : EE G X (.IfExp c a b pos) (cIf tc ca cb) := (pe_ifExp hc ha hb).imp fun σ H Q ⟨m, S, env, z, S', st, re, hc, q⟩ => by
  unfold cIf at hc
  split at hc
  · cases hc
  · rename_i S1 e1
    exact ⟨m, S, env, true, S1, st, re, e1, fun m1 H1 x1 st1 => iteT ⟨m1, S1, env, z, S', st1, re.keep x1.keeps, hc, q.mono x1⟩⟩
  · rename_i S1 e1
    exact ⟨m, S, env, false, S1, st, re, e1, fun m1 H1 x1 st1 => iteF ⟨m1, S1, env, z, S', st1, re.keep x1.keeps, hc, q.mono x1⟩⟩
def startE (n : Nat) (us : List U) : Env' := us.map some ++ List.replicate (n - us.length) none
def runF (s : Sm) (np n : Nat) : OpN := fun us S => if us.length = np then (match s (startE n us) S with
  | some (.ret u, _, S') => some (u, S')
  | some (.nx, _, S') => some (.non, S')
  | _ => none) else none
def Len (n : Nat) (f : OpN) : Prop := ∀ us S r, f us S = some r → us.length = n
def spU (K : PySem.W.Frag) (G : Gx) (f : OpN) : Sp := fun vs H Q _ => rNU K G f vs H Q
theorem runF_len {s : Sm} {np n : Nat} : Len np (runF s np n) := fun us S r h => by
  unfold runF at h
  split at h
  · assumption
  · cases h
theorem spU_len {K : PySem.W.Frag} {n : Nat} {f : OpN} (h : Len n f) {vs : List V} {H : Hp} {Q : VK} {E : XK} (s : spU K G f vs H Q E) : vs.length = n := by
  obtain ⟨m, S, us, z, S', st, r, e, q⟩ := s
  rw [r.length]
  exact h _ _ _ e
theorem RUs.begin_ {K : PySem.W.Frag} {m : Mp} {H : Hp} {N : List Str} {us : List U} {vs : List V} (r : RUs K G m H us vs) : Renv K G m H (startE N.length us) (L2.start N vs) := by
  have hl := r.length
  refine ⟨by simp [startE, L2.start, hl], fun i u h => ?_⟩
  unfold startE at h
  unfold L2.start
  by_cases hi : i < us.length
  · rw [List.getElem?_append_left (by simpa using hi)] at h
    rw [List.getElem?_append_left (by simp [hl]; exact hi)]
    have h' : us[i]? = some u := by
      rw [List.getElem?_map] at h
      cases q : us[i]? with
      | none => rw [q] at h; cases h
      | some w => rw [q] at h; cases h; rfl
    obtain ⟨v, e, q⟩ := r.get h'
    exact ⟨v, by rw [List.getElem?_map, e]; rfl, q⟩
  · rw [List.getElem?_append_right (by simp; omega)] at h
    have := List.getElem?_replicate (n := N.length - us.length) (a := (none : Option U)) (i := i - (us.map some).length)
    rw [this] at h
    split at h <;> cases h
section
variable {P : Program} {w : World} {K : PySem.W.Frag} {mg : Str → Option Value} {base : Heap}
theorem fn_ok {x qual : Str} {st : Stmt} {f : Addr} {fd : FuncData} {N ps : List Str} {k np n : Nat} {s : Sm} (hnp : ps.length = np) (hn : N.length = n) (F : Fun K x qual st f fd) (S : FnScope N ps (defScope st))
    (h : ∀ (cdv : Value) (A : Around) (outer : List Env) (s0 : Shared) (H : Hp) (E : XK), Room k (A.deeper (envOfC qual (defScope st) s0.heap.objs.size f cdv)) →
      ESs G (cxOf CX0 P w K mg base N qual (defScope st) f cdv A outer s0 H E).nox (defBody st) s) :
    FnOk P w K mg base CX0 (k + 1) f fd ps (spU K G (runF s np n)) := by
  subst hnp hn
  refine F.ok S (fun vs H Q E h => spU_len runF_len h) fun cdv A outer s0 H vs Q E hr hsp => ?_
  obtain ⟨m, S0, us, z, S', st, r, e, q⟩ := hsp
  refine ⟨_, h cdv A outer s0 H E hr, ?_⟩
  unfold runF at e
  split at e
  · split at e
    · rename_i u env' S1 e1
      cases e
      exact ⟨m, S0, _, _, _, _, st, r.begin_, e1, q⟩
    · rename_i env' S1 e1
      cases e
      exact ⟨m, S0, _, _, _, _, st, r.begin_, e1, fun m1 H1 σ1 x1 st1 re1 => q m1 H1 .non x1 st1 rfl⟩
    · cases e
  · cases e
end
mutual
def noref : U → Bool
  | .tup us => norefs us
  | .lst us => norefs us
  | .scr us => norefs us
  | .dct kvs => norefk kvs
  | .ref _ => false
  | _ => true
def norefs : List U → Bool
  | [] => true
  | u :: us => noref u && norefs us
def norefk : List (Key × U) → Bool
  | [] => true
  | (_, u) :: us => noref u && norefk us
end
section
variable {K : PySem.W.Frag} {m m' : Mp} {H : Hp} {S : Sto}
mutual
theorem RU.noref (k : ∀ a : Addr, a ∉ m.c → a ∉ m.x → a ∉ m'.c ∧ a ∉ m'.x) : ∀ (u : U) (v : V), OF.noref u = true → RU K G m H u v → RU K G m' H u v
  | .non, _, _, h => h
  | .bl _, _, _, h => h
  | .int _, _, _, h => h
  | .str _, _, _, h => h
  | .tup us, v, n, h => by
    unfold RU at h ⊢
    obtain ⟨a, vs, e, q, r⟩ := h
    refine ⟨a, vs, e, ?_, RUs.noref k us vs n r⟩
    rcases q with ⟨q, n, nx⟩ | q
    · exact .inl ⟨q, k a n nx⟩
    · exact .inr q
  | .lst us, v, n, h => by
    unfold RU at h ⊢
    obtain ⟨a, vs, e, q, n1, nx, r⟩ := h
    exact ⟨a, vs, e, q, (k a n1 nx).1, (k a n1 nx).2, RUs.noref k us vs n r⟩
  | .scr us, v, n, h => by
    unfold RU at h ⊢
    obtain ⟨a, vs, e, q, r⟩ := h
    refine ⟨a, vs, e, ?_, RUs.noref k us vs n r⟩
    rcases q with ⟨q, n, nx⟩ | q
    · exact .inl ⟨q, k a n nx⟩
    · exact .inr q
  | .dct us, v, n, h => by
    unfold RU at h ⊢
    obtain ⟨a, vs, e, q, n1, nx, r⟩ := h
    exact ⟨a, vs, e, q, (k a n1 nx).1, (k a n1 nx).2, RKs.noref k us vs n r⟩
  | .fn x, v, _, h => by
    unfold RU at h ⊢
    exact h
  | .ref n, v, n', h => by cases n'
theorem RUs.noref (k : ∀ a : Addr, a ∉ m.c → a ∉ m.x → a ∉ m'.c ∧ a ∉ m'.x) : ∀ (us : List U) (vs : List V), norefs us = true → RUs K G m H us vs → RUs K G m' H us vs
  | [], _, _, h => h
  | u :: us, vs, n, h => by
    unfold RUs at h ⊢
    obtain ⟨v, r, e, q, t⟩ := h
    have n' : (OF.noref u && norefs us) = true := n
    rw [Bool.and_eq_true] at n'
    exact ⟨v, r, e, RU.noref k u v n'.1 q, RUs.noref k us r n'.2 t⟩
theorem RKs.noref (k : ∀ a : Addr, a ∉ m.c → a ∉ m.x → a ∉ m'.c ∧ a ∉ m'.x) : ∀ (us : List (Key × U)) (vs : List (Key × V)), norefk us = true → RKs K G m H us vs → RKs K G m' H us vs
  | [], _, _, h => h
  | (c, u) :: us, vs, n, h => by
    unfold RKs at h ⊢
    obtain ⟨v, r, e, q, t⟩ := h
    have n' : (OF.noref u && norefk us) = true := n
    rw [Bool.and_eq_true] at n'
    exact ⟨v, r, e, RU.noref k u v n'.1 q, RKs.noref k us r n'.2 t⟩
end
end
abbrev Pf := List U → Option U
def pureF (f : OpN) : Pf := fun us => match f us [] with
  | some (u, _) => if noref u = true then some u else none
  | none => none
def liftP (p : Pf) : OpN := fun us S => if norefs us = true then (match p us with
  | some u => some (u, S)
  | none => none) else none
theorem spU_pure {K : PySem.W.Frag} {f : OpN} {vs : List V} {H : Hp} {Q : VK} {E : XK} (s : spU K G (liftP (pureF f)) vs H Q E) : spU K G f vs H Q E := by
  obtain ⟨m, S, us, z, S', st, r, e, q⟩ := s
  unfold liftP at e
  split at e
  · rename_i hn
    split at e
    · rename_i u e1
      cases e
      unfold pureF at e1
      split at e1
      · rename_i u' S1 e2
        split at e1
        · rename_i hn2
          cases e1
          have st0 : Rst K G ⟨[], m.x ++ m.c⟩ H [] := ⟨by simp, rfl, fun n o a h => by simp at h, fun a ha => by
            rcases List.mem_append.mp ha with ha | ha
            · exact st.xs a ha
            · obtain ⟨ho, e⟩ := st.cell ha
              rw [e]; rfl, fun a _ h => (by cases h), fun a ha xs e => (List.mem_append.mp ha).elim (fun z => st.tx a z xs e) fun z => st.nt z xs e⟩
          refine ⟨⟨[], m.x ++ m.c⟩, [], us, z, S1, st0, RUs.noref (fun a h1 h2 => ⟨by simp, by simp [h1, h2]⟩) us vs hn r, e2, fun m1 H1 v x1 st1 r1 => ?_⟩
          have kp : ∀ a o, H a = some o → H1 a = some o := fun a o h => x1.keep a o h (by simp)
          have hx : ∀ a, a ∉ m1.x → a ∉ m.x ∧ a ∉ m.c := fun a h => by
            obtain ⟨r, hr, _⟩ := x1.x
            rw [hr] at h
            simp only [List.mem_append, not_or] at h
            exact h.2
          have ks : Keeps m H m H1 := ⟨fun a u h n nx => ⟨by
            rcases h with h | ⟨o, h⟩
            · exact .inl (kp a _ h)
            · exact .inr ⟨o, kp a _ h⟩, n, nx⟩, fun _ _ h => h, fun a xs h _ _ => kp a _ h⟩
          refine q m H1 v ⟨⟨[], by simp⟩, ⟨[], rfl, fun _ h => nomatch h⟩, fun a o h _ => kp a o h, fun a ha h => ?_, fun a h n => absurd h n, fun a ob u h => kp a _ h⟩ ⟨st.nd, st.len, fun n o a h1 h2 => ?_, fun a ha => ?_, st.nx, fun a ha xs e => by
            cases q : H a with
            | none => have := st.xs a ha; rw [q] at this; cases this
            | some o => rw [kp a o q] at e; exact st.tx a ha xs (q.trans e)⟩ (RU.noref (fun a h1 h2 => ⟨(hx a h2).2, (hx a h2).1⟩) z v hn2 r1)
          · cases q : H a with
            | none => rw [q] at h; cases h
            | some o => rw [kp a o q]; rfl
          · obtain ⟨ho, e, r⟩ := st.ob n o a h1 h2
            exact ⟨ho, kp a ho e, RO.keep ks _ _ r⟩
          · cases q : H a with
            | none => have := st.xs a ha; rw [q] at this; cases this
            | some o => rw [kp a o q]; rfl
        · cases e1
      · cases e1
    · cases e
  · cases e
theorem fn_pure {P : Program} {w : World} {K : PySem.W.Frag} {mg : Str → Option Value} {base : Heap} {k : Nat} {f : Addr} {fd : FuncData} {ps : List Str} {F : OpN} (h : FnOk P w K mg base CX0 k f fd ps (spU K G F)) :
    FnOk P w K mg base CX0 k f fd ps (spU K G (liftP (pureF F))) := h.imp fun _ _ _ _ => spU_pure
end OF
namespace OF
open PySem PySem.Spec PyProof.Rows L2
variable {X : Cx} {G : Gx}
variable {e o : Expr} {es : List Expr} {ca cb : Cm U} {cl ck : Cm (List U)} {pos apos p : Pos} {x mm : Str} {k : Nat} {f C : Addr} {fd : FuncData} {ps : List Str} {F : OpN}
theorem ee_call (h : FnOk X.prog X.w X.K X.mg X.base CX0 k f fd ps (spU X.K G F)) (hr : Room k X.A) (hg : Gl X x) (hm : X.mg x = some (.ref f)) (hk : PySem.W.keepIn X.K (.ref f) = true) (hb : Binds X.K fd ps [])
    (ha : EA G X (e :: es) cl) (hdb : (x == ("__debug__" : Str)) = false := by decide) (he : starEach (e :: es) X.env = (false, eval e X.env) :: starEach es X.env := by rfl) (hpl : (backTo pos (starEach es X.env)).any (·.1) = false := by rfl) :
    EE G X (.Call (.Name x p) (e :: es) [] pos) (cArg F cl) := (pe_call h hr hg hm hk hb .nil pass0 ha hdb he hpl).imp fun σ H Q h => by
  obtain ⟨m, S, env, us, S1, st, re, e1, q⟩ := re_arg h
  exact ⟨m, S, env, us, S1, st, re, e1, fun m1 H1 vs x1 st1 r1 => by
    show spU X.K G F (vs ++ []) H1 Q E0
    rw [List.append_nil]; exact q m1 H1 vs x1 st1 r1⟩
theorem ee_callD {ds : List Value} {dvs : List V} {dus : List U} (h : FnOk X.prog X.w X.K X.mg X.base CX0 k f fd ps (spU X.K G F)) (hr : Room k X.A) (hg : Gl X x) (hm : X.mg x = some (.ref f)) (hk : PySem.W.keepIn X.K (.ref f) = true) (hb : Binds X.K fd ps ds) (hd : Vals dvs ds)
    (hu : ∀ m H, RUs X.K G m H dus dvs)
    (ha : EA G X (e :: es) cl) (hdb : (x == ("__debug__" : Str)) = false := by decide) (he : starEach (e :: es) X.env = (false, eval e X.env) :: starEach es X.env := by rfl) (hpl : (backTo pos (starEach es X.env)).any (·.1) = false := by rfl) :
    EE G X (.Call (.Name x p) (e :: es) [] pos) (cArg (fun us => F (us ++ dus)) cl) := (pe_call h hr hg hm hk hb hd pass0 ha hdb he hpl).imp fun σ H Q h => by
  obtain ⟨m, S, env, us, S1, st, re, e1, q⟩ := re_arg h
  refine ⟨m, S, env, us, S1, st, re, e1, fun m1 H1 vs x1 st1 r1 => ?_⟩
  obtain ⟨m2, S2, us2, z, S', st2, r2, e2, q2⟩ := q m1 H1 vs x1 st1 r1
  exact ⟨m2, S2, us2 ++ dus, z, S', st2, r2.append (hu m2 H1), e2, q2⟩
def cArg2 (f : List U → OpN) (a b : Cm (List U)) : Cm U := fun env S => match a env S with
  | none => none
  | some (us, S1) => match b env S1 with
    | none => none
    | some (ws, S2) => f us ws S2
theorem cArg2_some {f : List U → OpN} {a b : Cm (List U)} {env : Env'} {S : Sto} {r : U × Sto} (h : cArg2 f a b env S = some r) : ∃ us S1 ws S2, a env S = some (us, S1) ∧ b env S1 = some (ws, S2) ∧ f us ws S2 = some r := by
  unfold cArg2 at h
  split at h
  · cases h
  · rename_i u S1 e
    split at h
    · cases h
    · rename_i v S2 e2
      exact ⟨u, S1, v, S2, e, e2, h⟩
abbrev EK (G : Gx) (X : Cx) (kws : List Keyword) (c : Cm (List U)) : Prop := PK X kws (RA X.K G c)
theorem _root_.L2.PK.imp {kws : List Keyword} {t t' : TA} (h : PK X kws t) (i : ∀ σ H Q, t' σ H Q → t σ H Q) : PK X kws t' := ⟨fun p pins s σ H Q I hw => h.run p pins s σ H Q I (i σ H Q hw)⟩
theorem ek_nil : EK G X [] cNil := pk_nil.imp fun σ H Q ⟨m, S, env, us, S', st, re, hc, q⟩ => by
  cases hc
  exact q m H [] (Ext.refl m H) st RUs.nil
theorem ek_cons {kws : List Keyword} {nm : Option Str} {kpos : Pos} (ha : EE G X e ca) (hr : EK G X kws cl) : EK G X (⟨nm, e, kpos⟩ :: kws) (cCons ca cl) := (pk_cons ha hr).imp fun _ _ _ => re_cons
variable {kws : List Keyword} {n nk : Nat} {ks : List Str} {g : List Value → List Value → List Value} {gV : List V → List V → List V}
theorem ee_callN (gU : List U → List U → List U) (h : FnOk X.prog X.w X.K X.mg X.base CX0 k f fd ps (spU X.K G F)) (hr : Room k X.A) (hg : Gl X x) (hm : X.mg x = some (.ref f)) (hk : PySem.W.keepIn X.K (.ref f) = true) (hb : KBn X.K fd ps n ks g gV)
    (hu : ∀ m H us vs ws zs, us.length = n → ws.length = ks.length → RUs X.K G m H us vs → RUs X.K G m H ws zs → RUs X.K G m H (gU us ws) (gV vs zs))
    (ha : EA G X (e :: es) cl) (hkw : EK G X kws ck) (hall : (backToKw pos (keywordEach kws X.env)).all (·.1.isSome) = true := by rfl) (hks : (backToKw pos (keywordEach kws X.env)).filterMap (·.1) = ks := by rfl)
    (hdb : (x == ("__debug__" : Str)) = false := by decide) (he : starEach (e :: es) X.env = (false, eval e X.env) :: starEach es X.env := by rfl)
    (hpl : ((backTo pos (starEach (e :: es) X.env)).any (·.1) || (backToKw pos (keywordEach kws X.env)).any (·.1.isNone)) = false := by rfl) :
    EE G X (.Call (.Name x p) (e :: es) kws pos) (cArg2 (fun us ws S => if us.length = n ∧ ws.length = ks.length then F (gU us ws) S else none) cl ck) := by
  refine (pe_callN h hr hg hm hk hb pass0 ha hkw hall hks hdb he hpl).imp fun σ H Q h => ?_
  obtain ⟨m, S, env, z, S', st, re, hc, q⟩ := h
  obtain ⟨us, S1, ws, S2, e1, e2, e3⟩ := cArg2_some hc
  split at e3
  · rename_i hl
    refine ⟨m, S, env, us, S1, st, re, e1, fun m1 H1 vs x1 st1 r1 => ⟨m1, S1, env, ws, S2, st1, re.keep x1.keeps, e2, fun m2 H2 zs x2 st2 r2 => ?_⟩⟩
    have r1' := RUs.keep x2.keeps _ _ r1
    exact ⟨by rw [r1.length]; exact hl.1, by rw [r2.length]; exact hl.2, m2, S2, gU us ws, z, S', st2, hu m2 H2 us vs ws zs hl.1 hl.2 r1' r2, e3, (q.mono x1).mono x2⟩
  · cases e3
def cMeth (c : Str) (mm : Str) (F : OpN) (a : Cm U) (r : Cm (List U)) : Cm U := fun env S => match a env S with
  | some (.ref n, S1) => match S1[n]? with
    | some (.ins c' fs) => if c' = c ∧ fs.lookup mm = none then (match r env S1 with
      | some (us, S2) => F (.ref n :: us) S2
      | none => none) else none
    | _ => none
  | _ => none
theorem cMeth_some {c mm : Str} {F : OpN} {a : Cm U} {r : Cm (List U)} {env : Env'} {S : Sto} {z : U × Sto} (h : cMeth c mm F a r env S = some z) : ∃ n S1 fs us S2, a env S = some (.ref n, S1) ∧ S1[n]? = some (.ins c fs) ∧ fs.lookup mm = none ∧ r env S1 = some (us, S2) ∧ F (.ref n :: us) S2 = some z := by
  unfold cMeth at h
  split at h
  · rename_i n S1 e1
    split at h
    · rename_i c' fs e2
      split at h
      · rename_i hc
        split at h
        · rename_i us S2 e3
          exact ⟨n, S1, fs, us, S2, e1, by rw [e2, hc.1], hc.2, e3, h⟩
        · cases h
      · cases h
    · cases h
  · cases h
theorem RFs.lookup {K : PySem.W.Frag} {m : Mp} {H : Hp} {f : Str} : ∀ {us : List (Str × U)} {vs : List (Str × V)}, RFs K G m H us vs → (us.lookup f = none → vs.lookup f = none) ∧ ∀ u, us.lookup f = some u → ∃ v, vs.lookup f = some v ∧ RU K G m H u v
  | [], _, h => by
    unfold RFs at h
    subst h
    exact ⟨fun _ => rfl, fun u h => by cases h⟩
  | (k, w) :: us, vs, h => by
    unfold RFs at h
    obtain ⟨v, r, rfl, q, t⟩ := h
    have ih := RFs.lookup (f := f) t
    simp only [List.lookup_cons]
    by_cases hk : (f == k) = true
    · rw [hk]
      exact ⟨fun h => (by cases h), fun u h => (by cases h; exact ⟨v, rfl, q⟩)⟩
    · rw [Bool.not_eq_true] at hk
      rw [hk]
      exact ih
theorem re_meth {K : PySem.W.Frag} {c : Str} {σ : L2.St} {H : Hp} {Q : VK} (hC : G.cls c = some C) (h : RE K G (cMeth c mm F ca cl) σ H Q) : tMeth C mm (spU K G F) [] E0 (RE K G ca) (RA K G cl) σ H Q := by
  obtain ⟨m, S, env, z, S', st, re, hc, q⟩ := h
  obtain ⟨n, S1, fs, us, S2, e1, e2, e3, e4, e5⟩ := cMeth_some hc
  refine ⟨m, S, env, .ref n, S1, st, re, e1, fun m1 H1 v x1 st1 r1 => ?_⟩
  obtain ⟨a, ho, ha, hH, C', dx, vs, rfl, hC', rf⟩ := st1.at e2
  rw [hC] at hC'; cases hC'
  unfold RU at r1
  obtain ⟨a', rfl, ha'⟩ := r1
  rw [ha] at ha'; cases ha'
  refine ⟨a, dx, vs, rfl, hH, (rf.lookup).1 e3, m1, S1, env, us, S2, st1, re.keep x1.keeps, e4, fun m2 H2 ws x2 st2 r2 => ?_⟩
  show spU K G F (V.ref a :: (ws ++ [])) H2 Q E0
  rw [List.append_nil]
  exact ⟨m2, S2, .ref n :: us, z, S', st2, RUs.cons (RU.cell (x2.at ha)) r2, e5, (q.mono x1).mono x2⟩
theorem ee_meth {c : Str} {pl : Sem Bool} (hC : G.cls c = some C) (he : EE G X o ca) (hc : Cls X.K C) (hm : Meth X.K C mm f) (h : FnOk X.prog X.w X.K X.mg X.base CX0 k f fd ps (spU X.K G F)) (hr : Room k X.A) (hb : Binds X.K fd ps []) (ha : EA G X (e :: es) cl)
    (hst : starEach (e :: es) X.env = (false, eval e X.env) :: starEach es X.env := by rfl) (hpl : (backTo pos (starEach es X.env)).any (·.1) = false := by rfl)
    (ht : eval (.Call (.Attribute o mm apos) (e :: es) [] pos) X.env = (do
      let ov ← eval o X.env
      standAt apos.atName
      let (f, first) ← holding [ov] (getMethod ov mm pl)
      callWith pos f first (backTo pos (starEach (e :: es) X.env)) (backToKw pos (keywordEach [] X.env))) := by rfl) :
    EE G X (.Call (.Attribute o mm apos) (e :: es) [] pos) (cMeth c mm F ca cl) := (pe_meth he hc hm h hr hb .nil pass0 ha hst hpl ht).imp fun _ _ _ => re_meth hC
theorem ee_meth0 {c : Str} {pl : Sem Bool} (hC : G.cls c = some C) (he : EE G X o ca) (hc : Cls X.K C) (hm : Meth X.K C mm f) (h : FnOk X.prog X.w X.K X.mg X.base CX0 k f fd ps (spU X.K G F)) (hr : Room k X.A) (hb : Binds X.K fd ps [])
    (ht : eval (.Call (.Attribute o mm apos) [] [] pos) X.env = (do
      let ov ← eval o X.env
      standAt apos.atName
      let (f, first) ← holding [ov] (getMethod ov mm pl)
      callWith pos f first (backTo pos (starEach [] X.env)) (backToKw pos (keywordEach [] X.env))) := by rfl) :
    EE G X (.Call (.Attribute o mm apos) [] [] pos) (cMeth c mm F ca cNil) := (pe_meth0 he hc hm h hr hb .nil pass0 ht).imp fun σ H Q h => by
  have h2 := re_meth hC h
  obtain ⟨m, S, env, u, S', st, re, e1, q⟩ := h2
  refine ⟨m, S, env, u, S', st, re, e1, fun m1 H1 v x1 st1 r1 => ?_⟩
  obtain ⟨a, dx, fs, e2, e3, e4, m2, S2, env2, us2, S3, st2, re2, e5, q2⟩ := q m1 H1 v x1 st1 r1
  cases e5
  exact ⟨a, dx, fs, e2, e3, e4, q2 m2 H1 [] (Ext.refl m2 H1) st2 RUs.nil⟩
def oMake (c : Str) (F : OpN) : OpN := fun us S => match F (.ref S.length :: us) (S ++ [.ins c []]) with
  | some (.non, S') => some (.ref S.length, S')
  | _ => none
theorem make_ok {K : PySem.W.Frag} {c : Str} {H1 : Hp} {Q : VK} {vs : List V} (hC : G.cls c = some C) (h : rNU K G (oMake c F) vs H1 Q) : ∀ x dx, H1 x = none → H1 dx = none → dx ≠ x →
    spU K G F (.ref x :: vs) (upd (upd H1 dx (.own x)) x (.ins C dx [])) (fun v H2 => v = .non ∧ Q (.ref x) H2) E0 := by
  intro x dx hx hdx ne
  obtain ⟨m, S, us, z, S', st, r, e, q⟩ := h
  unfold oMake at e
  split at e
  · rename_i S2 e1
    cases e
    have hx' : upd H1 dx (.own x) x = none := by rw [upd_ne (Ne.symm ne)]; exact hx
    have st1 : Rst K G m (upd H1 dx (.own x)) S := st.new hdx
    have x1 : Ext m H1 m (upd H1 dx (.own x)) := Ext.upd hdx
    have x2 : Ext m (upd H1 dx (.own x)) ⟨m.c ++ [x], m.x⟩ (upd (upd H1 dx (.own x)) x (.ins C dx [])) := Ext.cell hx'
    have st2 := st1.push (o := .ins c []) (ho := .ins C dx []) hx' ⟨C, dx, [], rfl, hC, by unfold RFs; rfl⟩
    have at' : (m.c ++ [x])[S.length]? = some x := by rw [← st.len]; simp
    refine ⟨_, _, .ref S.length :: us, .non, S', st2, RUs.cons (RU.cell at') (RUs.keep (x1.trans x2).keeps _ _ r), e1, fun m3 H3 v x3 st3 r3 => ⟨r3, ?_⟩⟩
    exact q m3 H3 _ ((x1.trans x2).trans x3) st3 (RU.cell (x3.at at'))
  · cases e
theorem ee_makeK {c : Str} (gU : List U → List U → List U) (hC : G.cls c = some C) (M : Mk X.K C f) (h : FnOk X.prog X.w X.K X.mg X.base CX0 k f fd ps (spU X.K G F)) (hr : Room (k + 1) X.A) (hg : Gl X x) (hm : X.mg x = some (.ref C)) (hb : KBn X.K fd ps (n + 1) ks g gV)
    (hu : ∀ m H u v us vs ws zs, us.length = n → ws.length = ks.length → RU X.K G m H u v → RUs X.K G m H us vs → RUs X.K G m H ws zs → ∃ t, gV (v :: vs) zs = v :: t ∧ RUs X.K G m H (gU us ws) t)
    (hl : ∀ (v : V) vs zs t, gV (v :: vs) zs = v :: t → ∀ w, gV (w :: vs) zs = w :: t)
    (ha : EA G X (e :: es) cl) (hkw : EK G X kws ck) (hall : (backToKw pos (keywordEach kws X.env)).all (·.1.isSome) = true := by rfl) (hks : (backToKw pos (keywordEach kws X.env)).filterMap (·.1) = ks := by rfl)
    (hdb : (x == ("__debug__" : Str)) = false := by decide) (he : starEach (e :: es) X.env = (false, eval e X.env) :: starEach es X.env := by rfl)
    (hpl : ((backTo pos (starEach (e :: es) X.env)).any (·.1) || (backToKw pos (keywordEach kws X.env)).any (·.1.isNone)) = false := by rfl) :
    EE G X (.Call (.Name x p) (e :: es) kws pos) (cArg2 (fun us ws S => if us.length = n ∧ ws.length = ks.length then oMake c F (gU us ws) S else none) cl ck) := by
  refine (pe_makeK M h hr hg hm hb pass0 ha hkw hall hks hdb he hpl).imp fun σ H Q h => ?_
  obtain ⟨m, S, env, z, S', st, re, hc, q⟩ := h
  obtain ⟨us, S1, ws, S2, e1, e2, e3⟩ := cArg2_some hc
  split at e3
  · rename_i hl'
    refine ⟨m, S, env, us, S1, st, re, e1, fun m1 H1 vs x1 st1 r1 => ⟨m1, S1, env, ws, S2, st1, re.keep x1.keeps, e2, fun m2 H2 zs x2 st2 r2 => ?_⟩⟩
    have r1' := RUs.keep x2.keeps _ _ r1
    obtain ⟨t, et, rt⟩ := hu m2 H2 .non .non us vs ws zs hl'.1 hl'.2 rfl r1' r2
    refine ⟨by rw [r1.length]; exact hl'.1, by rw [r2.length]; exact hl'.2, fun x dx hx hdx ne => ?_⟩
    rw [hl _ _ _ _ et (.ref x)]
    exact make_ok hC ⟨m2, S2, gU us ws, z, S', st2, rt, e3, (q.mono x1).mono x2⟩ x dx hx hdx ne
  · cases e3
def cFld (cs : List Str) (fn : Str) (a : Cm U) : Cm U := fun env S => match a env S with
  | some (.ref n, S1) => match S1[n]? with
    | some (.ins c fs) => if cs.contains c = true then (match fs.lookup fn with
      | some u => some (u, S1)
      | none => none) else none
    | _ => none
  | _ => none
theorem ee_fld {cs : List Str} {fn : Str} (hC : ∀ c C, cs.contains c = true → G.cls c = some C → Cls X.K C ∧ NoAttr X.K C fn) (he : EE G X o ca) (hb : attributeBase o fn X.env (eval o X.env) = eval o X.env := by rfl) : EE G X (.Attribute o fn pos) (cFld cs fn ca) :=
  (pe_fld he hb).imp fun σ H Q ⟨m, S, env, z, S', st, re, hc, q⟩ => by
    unfold cFld at hc
    split at hc
    · rename_i n S1 e1
      refine ⟨m, S, env, .ref n, S1, st, re, e1, fun m1 H1 v x1 st1 r1 => ?_⟩
      split at hc
      · rename_i c fs e2
        split at hc
        · rename_i hcs
          split at hc
          · rename_i u e3
            cases hc
            obtain ⟨a, ho, ha, hH, C', dx, vs, rfl, hC', rf⟩ := st1.at e2
            unfold RU at r1
            obtain ⟨a', rfl, ha'⟩ := r1
            rw [ha] at ha'; cases ha'
            obtain ⟨w, ew, rw'⟩ := (rf.lookup).2 _ e3
            obtain ⟨h1, h2⟩ := hC c C' hcs hC'
            exact ⟨a, C', dx, vs, w, rfl, hH, h1, h2, ew, q m1 H1 w x1 st1 rw'⟩
          · cases hc
        · cases hc
      · cases hc
    · cases hc
def putU (f : Str) (v : U) : List (Str × U) → List (Str × U)
  | [] => [(f, v)]
  | (k, w) :: r => if k = f then (k, v) :: r else (k, w) :: putU f v r
def sFldS (cs : List Str) (fn : Str) (a v : Cm U) : Sm := fun env S => match v env S with
  | some (u, S1) => match a env S1 with
    | some (.ref n, S2) => match S2[n]? with
      | some (.ins c fs) => if cs.contains c = true ∧ fs.length < 1000 then some (.nx, env, S2.set n (.ins c (putU fn u fs))) else none
      | _ => none
    | _ => none
  | _ => none
theorem RFs.put {K : PySem.W.Frag} {m : Mp} {H : Hp} {fn : Str} {u : U} {v : V} (r : RU K G m H u v) : ∀ {us : List (Str × U)} {vs : List (Str × V)}, RFs K G m H us vs → RFs K G m H (putU fn u us) (putF fn v vs) ∧ vs.length = us.length
  | [], _, h => by
    unfold RFs at h
    subst h
    refine ⟨?_, rfl⟩
    unfold putU putF RFs
    exact ⟨v, [], rfl, r, by unfold RFs; rfl⟩
  | (k, w) :: us, vs, h => by
    unfold RFs at h
    obtain ⟨v', t, rfl, q, tl⟩ := h
    obtain ⟨ih, hl⟩ := RFs.put r tl
    refine ⟨?_, by simp [hl]⟩
    unfold putU putF
    by_cases hk : k = fn
    · rw [if_pos hk, if_pos hk]
      unfold RFs
      exact ⟨v, t, rfl, r, tl⟩
    · rw [if_neg hk, if_neg hk]
      unfold RFs
      exact ⟨v', _, rfl, q, ih⟩
theorem es_fld {cs : List Str} {fn : Str} {pos' : Pos} (hC : ∀ c C, cs.contains c = true → G.cls c = some C → Cls X.K C ∧ NoAttr X.K C fn) (ho : EE G X o ca) (hv : EE G X e cb) (hs : swapsWith e (some (.Attribute o fn pos')) pos.line X.env = pure false := by rfl) :
    ES G X (.Assign [.Attribute o fn pos'] e pos) (sFldS cs fn ca cb) := (ps_fld ho hv hs).imp fun D σ H ⟨m, S, env, fl, env', S', st, re, hc, q⟩ => by
  unfold sFldS at hc
  split at hc
  · rename_i u S1 e1
    refine ⟨m, S, env, u, S1, st, re, e1, fun m1 H1 y x1 st1 r1 => ?_⟩
    split at hc
    · rename_i n S2 e2
      refine ⟨m1, S1, env, .ref n, S2, st1, re.keep x1.keeps, e2, fun m2 H2 v x2 st2 r2 => ?_⟩
      split at hc
      · rename_i c fs e3
        split at hc
        · rename_i hcs
          cases hc
          obtain ⟨a, ho, ha, hH, C', dx, vs, rfl, hC', rf⟩ := st2.at e3
          unfold RU at r2
          obtain ⟨a', rfl, ha'⟩ := r2
          rw [ha] at ha'; cases ha'
          obtain ⟨h1, h2⟩ := hC c C' hcs.1 hC'
          obtain ⟨rp, hl⟩ := RFs.put (fn := fn) (RU.keep x2.keeps _ _ r1) rf
          have hm : a ∈ m2.c := List.mem_of_getElem? ha
          have x3 : Ext m2 H2 m2 (upd H2 a (.ins C' dx (putF fn y vs))) := Ext.set hm (fun ob u e => by rw [hH] at e; cases e)
          refine ⟨a, C', dx, vs, rfl, hH, h1, h2, by rw [hl]; exact hcs.2, ?_⟩
          exact q m2 _ σ ((x1.trans x2).trans x3) (st2.set ha ⟨C', dx, _, rfl, hC', RFs.keep (keeps_set hm) _ _ rp⟩) (((re.keep x1.keeps).keep x2.keeps).keep x3.keeps)
        · cases hc
      · cases hc
    · cases hc
  · cases hc
inductive Pat where
  | nm (i : Nat)
  | tp (ps : List Pat)
mutual
def bindP : Pat → U → Option (List (Nat × U))
  | .nm i, u => some [(i, u)]
  | .tp ps, .tup us => bindPs ps us
  | .tp _, _ => none
def bindPs : List Pat → List U → Option (List (Nat × U))
  | [], [] => some []
  | p :: ps, u :: us => match bindP p u with
    | none => none
    | some a => match bindPs ps us with
      | none => none
      | some b => some (a ++ b)
  | _, _ => none
end
def setAll {α : Type} (σ : List (Option α)) : List (Nat × α) → List (Option α)
  | [] => σ
  | (i, v) :: r => setAll (σ.set i (some v)) r
theorem setAll_app {α : Type} : ∀ (a b : List (Nat × α)) (σ : List (Option α)), setAll σ (a ++ b) = setAll (setAll σ a) b
  | [], b, σ => rfl
  | (i, v) :: a, b, σ => setAll_app a b _
section
variable (K : PySem.W.Frag) (H : Hp)
mutual
def PatV : Pat → V → List (Nat × V) → Prop
  | .nm i, v, bs => bs = [(i, v)]
  | .tp ps, v, bs => ∃ a vs, v = .ref a ∧ SqT K H a vs ∧ PatVs ps vs bs
def PatVs : List Pat → List V → List (Nat × V) → Prop
  | [], vs, bs => vs = [] ∧ bs = []
  | p :: ps, vs, bs => ∃ v r b1 b2, vs = v :: r ∧ bs = b1 ++ b2 ∧ PatV p v b1 ∧ PatVs ps r b2
end
end
def tPat (K : PySem.W.Frag) (pt : Pat) : TG := fun v σ H Q => ∃ bs, PatV K H pt v bs ∧ Q (setAll σ bs) H
def tPats (K : PySem.W.Frag) (pt : List Pat) : TGs := fun v σ H Q => ∃ bs, PatVs K H pt v bs ∧ Q (setAll σ bs) H
abbrev EPt (X : Cx) (tg : Expr) (pt : Pat) : Prop := PG X tg (tPat X.K pt)
abbrev EPts (X : Cx) (tg : List Expr) (pt : List Pat) : Prop := PGs X tg (tPats X.K pt)
theorem PatVs.length {K : PySem.W.Frag} {H : Hp} : ∀ {ps : List Pat} {vs : List V} {bs : List (Nat × V)}, PatVs K H ps vs bs → vs.length = ps.length
  | [], vs, bs, h => by unfold PatVs at h; rw [h.1]; rfl
  | p :: ps, vs, bs, h => by
    unfold PatVs at h
    obtain ⟨v, r, b1, b2, rfl, _, _, t⟩ := h
    simp [PatVs.length t]
theorem ep_name {i : Nat} (hN : X.N.Nodup) (hi : X.N[i]? = some x) (hx : Loc X.env.scope x) (hf : X.fn x = true ∨ X.env.scope.names.lookup x = some .local := by first | exact .inl rfl | exact .inr rfl | assumption) : EPt X (.Name x pos) (.nm i) :=
  (pg_name hN hi hx hf).imp fun v σ H Q ⟨bs, h, q⟩ => by
    unfold PatV at h
    subst h
    exact q
theorem eps_nil : EPts X [] [] := pgs_nil.imp fun vs σ H Q ⟨bs, h, q⟩ => by
  unfold PatVs at h
  obtain ⟨rfl, rfl⟩ := h
  exact ⟨rfl, q⟩
theorem eps_cons {pt : Pat} {pts : List Pat} (h1 : EPt X e pt) (h2 : EPts X es pts) (hs : (assignEach (e :: es) X.env).map (·.2) = assign e X.env :: (assignEach es X.env).map (·.2) := by rfl) : EPts X (e :: es) (pt :: pts) :=
  (pgs_cons h1 h2 hs).imp fun vs σ H Q ⟨bs, h, q⟩ => by
    unfold PatVs at h
    obtain ⟨v, r, b1, b2, rfl, rfl, h1, h2⟩ := h
    rw [setAll_app] at q
    exact ⟨v, r, rfl, b1, h1, b2, h2, q⟩
theorem ep_tup {k : Nat} {pts : List Pat} (hc : X.calm = true) (h : EPts X es pts) (hn : (assignEach es X.env).length = pts.length := by rfl) (hst : (assignEach es X.env).findIdx? (·.1) = none := by rfl) : EPt X (.Tuple es k pos) (.tp pts) :=
  (pg_tup hc h hn hst).imp fun v σ H Q ⟨bs, h, q⟩ => by
    unfold PatV at h
    obtain ⟨a, vs, rfl, hq, hp⟩ := h
    exact ⟨a, vs, rfl, hq, hp.length, bs, hp, q⟩
section
variable {K : PySem.W.Frag} {m : Mp} {H : Hp}
def RBs (K : PySem.W.Frag) (G : Gx) (m : Mp) (H : Hp) : List (Nat × U) → List (Nat × V) → Prop
  | [], vs => vs = []
  | (i, u) :: us, vs => ∃ v r, vs = (i, v) :: r ∧ RU K G m H u v ∧ RBs K G m H us r
theorem RBs.append : ∀ {us us' : List (Nat × U)} {vs vs' : List (Nat × V)}, RBs K G m H us vs → RBs K G m H us' vs' → RBs K G m H (us ++ us') (vs ++ vs')
  | [], _, _, _, h, h' => by unfold RBs at h; subst h; exact h'
  | (i, u) :: us, us', vs, vs', h, h' => by
    unfold RBs at h
    obtain ⟨v, r, e, q, t⟩ := h
    subst e
    show RBs K G m H ((i, u) :: (us ++ us')) ((i, v) :: (r ++ vs'))
    unfold RBs
    exact ⟨v, _, rfl, q, RBs.append t h'⟩
mutual
theorem bindP_ok : ∀ (pt : Pat) (u : U) (v : V) (bs : List (Nat × U)), bindP pt u = some bs → RU K G m H u v → ∃ bv, PatV K H pt v bv ∧ RBs K G m H bs bv
  | .nm i, u, v, bs, h, r => by
    simp only [bindP, Option.some.injEq] at h
    subst h
    refine ⟨[(i, v)], by unfold PatV; rfl, ?_⟩
    unfold RBs
    exact ⟨v, [], rfl, r, by unfold RBs; rfl⟩
  | .tp ps, u, v, bs, h, r => by
    cases u with
    | tup us =>
      simp only [bindP] at h
      obtain ⟨a, vs, rfl, hq, rv⟩ := r.tupT
      obtain ⟨bv, h1, h2⟩ := bindPs_ok ps us vs bs h rv
      exact ⟨bv, by unfold PatV; exact ⟨a, vs, rfl, hq, h1⟩, h2⟩
    | _ => simp only [bindP] at h; cases h
theorem bindPs_ok : ∀ (ps : List Pat) (us : List U) (vs : List V) (bs : List (Nat × U)), bindPs ps us = some bs → RUs K G m H us vs → ∃ bv, PatVs K H ps vs bv ∧ RBs K G m H bs bv
  | [], [], vs, bs, h, r => by
    simp only [bindPs, Option.some.injEq] at h
    subst h
    exact ⟨[], by unfold PatVs; exact ⟨r.eqnil, rfl⟩, by unfold RBs; rfl⟩
  | p :: ps, u :: us, vs, bs, h, r => by
    simp only [bindPs] at h
    split at h
    · cases h
    · rename_i a e1
      split at h
      · cases h
      · rename_i b e2
        cases h
        obtain ⟨v, t, rfl, q, tl⟩ := r.uncons
        obtain ⟨b1, h1, h2⟩ := bindP_ok p u v a e1 q
        obtain ⟨b2, h3, h4⟩ := bindPs_ok ps us t b e2 tl
        exact ⟨b1 ++ b2, by unfold PatVs; exact ⟨v, t, b1, b2, rfl, rfl, h1, h3⟩, h2.append h4⟩
  | [], _ :: _, vs, bs, h, r => by simp only [bindPs] at h; cases h
  | _ :: _, [], vs, bs, h, r => by simp only [bindPs] at h; cases h
end
theorem Renv.setAll : ∀ {bs : List (Nat × U)} {bv : List (Nat × V)} {env : Env'} {σ : L2.St}, RBs K G m H bs bv → Renv K G m H env σ → Renv K G m H (OF.setAll env bs) (OF.setAll σ bv)
  | [], bv, env, σ, h, r => by
    unfold RBs at h
    subst h
    exact r
  | (i, u) :: bs, bv, env, σ, h, r => by
    unfold RBs at h
    obtain ⟨v, t, rfl, q, tl⟩ := h
    show Renv K G m H (OF.setAll (env.set i (some u)) bs) (OF.setAll (σ.set i (some v)) t)
    exact Renv.setAll tl (r.set i q)
end
def gmPat (pt : Pat) : Gm := fun u env S => match bindP pt u with
  | some bs => some (setAll env bs, S)
  | none => none
theorem eg_pat {pt : Pat} (h : EPt X e pt) : EG G X e (gmPat pt) := h.imp fun v σ H Q ⟨m, S, env, u, env', S', st, re, r, hc, q⟩ => by
  unfold gmPat at hc
  split at hc
  · rename_i bs e1
    cases hc
    obtain ⟨bv, h1, h2⟩ := bindP_ok _ _ _ _ e1 r
    exact ⟨bv, h1, q m H _ (Ext.refl m H) st (re.setAll h2)⟩
  · cases hc
end OF
namespace OF
open PySem PySem.Spec PyProof.Rows L2
variable {X : Cx} {G : Gx}
variable {e o tg iter : Expr} {es : List Expr} {ca cb : Cm U} {cl ck : Cm (List U)} {pos apos p : Pos}
def ItOk (K : PySem.W.Frag) (G : Gx) (m1 : Mp) (H1 : Hp) (us : List U) (J : It) : Prop := ∃ Gd Y, Walk J us.length Gd Y ∧ (∀ m2 H2, Ext m1 H1 m2 H2 → Gd H2) ∧
  ∀ i m2 S2 H2 x H3, Ext m1 H1 m2 H2 → Rst K G m2 H2 S2 → i < us.length → Y i H2 x H3 → ∃ u, us[i]? = some u ∧ Ext m2 H2 m2 H3 ∧ Rst K G m2 H3 S2 ∧ RU K G m2 H3 u x
def RI (K : PySem.W.Frag) (G : Gx) (it : Cm (List U)) : TI := fun σ H R => ∃ m S env us S', Rst K G m H S ∧ Renv K G m H env σ ∧ it env S = some (us, S') ∧ ∀ m1 H1, Ext m H m1 H1 → Rst K G m1 H1 S' → ∀ J, ItOk K G m1 H1 us J → R J H1
abbrev EI (G : Gx) (X : Cx) (tg iter : Expr) (it : Cm (List U)) : Prop := PI X tg iter (RI X.K G it)
theorem _root_.L2.PI.imp {t t' : TI} (h : PI X tg iter t) (i : ∀ σ H R, t' σ H R → t σ H R) : PI X tg iter t' := ⟨fun pins s σ H R I hw => h.run pins s σ H R I (i σ H R hw)⟩
def loopF (pt : Pat) (b : Sm) : List U → Sm
  | [], env, S => some (.nx, env, S)
  | u :: us, env, S => match bindP pt u with
    | none => none
    | some bs => match b (setAll env bs) S with
      | none => none
      | some (.nx, env2, S2) => loopF pt b us env2 S2
      | some (.ct, env2, S2) => loopF pt b us env2 S2
      | some (.brk, env2, S2) => some (.nx, env2, S2)
      | some (.ret z, env2, S2) => some (.ret z, env2, S2)
def sFor (it : Cm (List U)) (pt : Pat) (b : Sm) : Sm := fun env S => match it env S with
  | none => none
  | some (us, S1) => loopF pt b us env S1
theorem drop_cons {α : Type} {us : List α} {i : Nat} {u : α} (h : us[i]? = some u) : us.drop i = u :: us.drop (i + 1) := by
  obtain ⟨hl, e⟩ := List.getElem?_eq_some_iff.mp h
  rw [List.drop_eq_getElem_cons hl, e]
theorem rs_for {K : PySem.W.Frag} {it : Cm (List U)} {pt : Pat} {b : Sm} {D : Ends} {σ : L2.St} {H : Hp} (h : RS K G (sFor it pt b) D σ H) : tFor (RI K G it) (tPat K pt) (RS K G b) D σ H := by
  obtain ⟨m, S, env, fl, env', S', st, re, hc, q⟩ := h
  unfold sFor at hc
  split at hc
  · cases hc
  · rename_i us S1 e1
    refine ⟨m, S, env, us, S1, st, re, e1, fun m1 H1 x1 st1 J hJ => ?_⟩
    obtain ⟨Gd, Y, w, hG, hY⟩ := hJ
    refine for_it w (fun i σ H => ∃ m S env fl env' S', Ext m1 H1 m H ∧ Rst K G m H S ∧ Renv K G m H env σ ∧ loopF pt b (us.drop i) env S = some (fl, env', S') ∧ AfterS K G m H fl env' S' D)
      ⟨m1, S1, env, fl, env', S', Ext.refl _ _, st1, re.keep x1.keeps, hc, q.mono x1⟩ (fun i σ H _ ⟨m, S, env, fl, env', S', x, _⟩ => hG m H x) (fun i y σ H H' hi ⟨m, S, env, fl, env', S', x, st, re, hl, q⟩ hy => ?_) (fun σ H ⟨m, S, env, fl, env', S', x, st, re, hl, q⟩ => ?_)
    · obtain ⟨u, hu, x2, st2, ru⟩ := hY i m S H y H' x st hi hy
      rw [drop_cons hu] at hl
      unfold loopF at hl
      split at hl
      · cases hl
      · rename_i bs eb
        obtain ⟨bv, h1, h2⟩ := bindP_ok _ _ _ _ eb ru
        refine ⟨bv, h1, ?_⟩
        have re2 := (re.keep x2.keeps).setAll h2
        split at hl
        · cases hl
        · rename_i env2 S2 e2
          exact ⟨m, S, _, _, env2, S2, st2, re2, e2, fun m3 H3 σ3 x3 st3 re3 => ⟨m3, S2, env2, fl, env', S', (x.trans x2).trans x3, st3, re3, hl, (q.mono x2).mono x3⟩⟩
        · rename_i env2 S2 e2
          exact ⟨m, S, _, _, env2, S2, st2, re2, e2, fun m3 H3 σ3 x3 st3 re3 => ⟨m3, S2, env2, fl, env', S', (x.trans x2).trans x3, st3, re3, hl, (q.mono x2).mono x3⟩⟩
        · rename_i env2 S2 e2
          cases hl
          exact ⟨m, S, _, _, _, _, st2, re2, e2, AfterE.mono q x2⟩
        · rename_i z env2 S2 e2
          cases hl
          exact ⟨m, S, _, _, _, _, st2, re2, e2, After.mono q x2⟩
    · rw [List.drop_length] at hl
      unfold loopF at hl
      cases hl
      exact q m H σ (Ext.refl m H) st re
theorem es_for {body : List Stmt} {it : Cm (List U)} {pt : Pat} {b : Sm} (hp : PassesOwn (model X.prog X.w) X.A X.env X.xe) (hc : X.calm = true) (hi : EI G X tg iter it) (hg : EPt X tg pt) (hb : ESs G X body b)
    (hs : ∀ x, foldedSetIterable iter X.env x = pure x := by intro _; rfl) : ES G X (.For tg iter body [] pos) (sFor it pt b) := (ps_for hp hc hi hg hb hs).imp fun _ _ _ => rs_for
def loopW (c : Cm Bool) (b : Sm) : Nat → Sm
  | 0, _, _ => none
  | n + 1, env, S => match c env S with
    | none => none
    | some (false, S1) => some (.nx, env, S1)
    | some (true, S1) => match b env S1 with
      | none => none
      | some (.nx, env2, S2) => loopW c b n env2 S2
      | some (.ct, env2, S2) => loopW c b n env2 S2
      | some (.brk, env2, S2) => some (.nx, env2, S2)
      | some (.ret z, env2, S2) => some (.ret z, env2, S2)
theorem rs_while {K : PySem.W.Frag} {c : Cm Bool} {b : Sm} {n : Nat} {D : Ends} {σ : L2.St} {H : Hp} (h : RS K G (loopW c b n) D σ H) : tWhile (RT K G c) (RS K G b) D σ H := by
  obtain ⟨m0, S0, env0, fl0, env0', S0', st0, re0, hc0, q0⟩ := h
  refine ⟨fun k σ H => ∃ m S env fl env' S', Rst K G m H S ∧ Renv K G m H env σ ∧ loopW c b k env S = some (fl, env', S') ∧ AfterS K G m H fl env' S' D, ⟨n, m0, S0, env0, fl0, env0', S0', st0, re0, hc0, q0⟩, ?_⟩
  rintro k σ H ⟨m, S, env, fl, env', S', st, re, hl, q⟩
  cases k with
  | zero => unfold loopW at hl; cases hl
  | succ k =>
    unfold loopW at hl
    split at hl
    · cases hl
    · rename_i S1 e1
      cases hl
      exact ⟨m, S, _, false, _, st, re, e1, fun m1 H1 x1 st1 => iteF (q m1 H1 σ x1 st1 (re.keep x1.keeps))⟩
    · rename_i S1 e1
      refine ⟨m, S, _, true, _, st, re, e1, fun m1 H1 x1 st1 => iteT ⟨fun σ' H' => ∃ m S env fl env' S', Rst K G m H' S ∧ Renv K G m H' env σ' ∧ loopW c b k env S = some (fl, env', S') ∧ AfterS K G m H' fl env' S' D, fun σ' H' h => ⟨k, Nat.lt_succ_self k, h⟩, ?_⟩⟩
      split at hl
      · cases hl
      · rename_i env2 S2 e2
        exact ⟨m1, S1, _, _, env2, S2, st1, re.keep x1.keeps, e2, fun m3 H3 σ3 x3 st3 re3 => ⟨m3, S2, env2, fl, env', S', st3, re3, hl, (q.mono x1).mono x3⟩⟩
      · rename_i env2 S2 e2
        exact ⟨m1, S1, _, _, env2, S2, st1, re.keep x1.keeps, e2, fun m3 H3 σ3 x3 st3 re3 => ⟨m3, S2, env2, fl, env', S', st3, re3, hl, (q.mono x1).mono x3⟩⟩
      · rename_i env2 S2 e2
        cases hl
        exact ⟨m1, S1, _, _, _, _, st1, re.keep x1.keeps, e2, AfterE.mono q x1⟩
      · rename_i z env2 S2 e2
        cases hl
        exact ⟨m1, S1, _, _, _, _, st1, re.keep x1.keeps, e2, After.mono q x1⟩
theorem es_while {c : Expr} {body : List Stmt} {cc : Cm Bool} {b : Sm} (n : Nat) (hp : PassesOwn (model X.prog X.w) X.A X.env X.xe) (hc : ET G X c cc) (hb : ESs G X body b) : ES G X (.While c body [] pos) (loopW cc b n) := (ps_while hp hc hb).imp fun _ _ _ => rs_while
def wipeE (env : Env') : List Nat → Env'
  | [] => env
  | v :: vs => (wipeE env vs).set v none
def mapC (pt : Pat) (t : Cm Bool) (c : Cm U) (env : Env') : List U → Sto → Option (List U × Sto)
  | [], S => some ([], S)
  | u :: us, S => match bindP pt u with
    | none => none
    | some bs => match t (setAll env bs) S with
      | none => none
      | some (false, S1) => mapC pt t c env us S1
      | some (true, S1) => match c (setAll env bs) S1 with
        | none => none
        | some (y, S2) => match mapC pt t c env us S2 with
          | none => none
          | some (ys, S3) => some (y :: ys, S3)
def cLcL (it : Cm (List U)) (pt : Pat) (t : Cm Bool) (c : Cm U) (vs : List Nat) : Cm (List U) := fun env S => match it env S with
  | none => none
  | some (us, S1) => match mapC pt t c (wipeE env vs) us S1 with
    | none => none
    | some (ys, S2) => if ys.length ≤ sizeLine then some (ys, S2) else none
def cLc (it : Cm (List U)) (pt : Pat) (t : Cm Bool) (c : Cm U) (vs : List Nat) : Cm U := fun env S => match cLcL it pt t c vs env S with
  | none => none
  | some (ys, S2) => some (.lst ys, S2)
def cLcM (it : Cm (List U)) (pt : Pat) (t : Cm Bool) (c : Cm U) (vs : List Nat) : Cm U := fun env S => match cLcL it pt t c vs env S with
  | none => none
  | some (ys, S2) => some (.ref S2.length, S2 ++ [.lst ys])
def cYes : Cm Bool := fun _ S => some (true, S)
abbrev ETs (G : Gx) (X : Cx) (ifs : List Expr) (c : Cm Bool) : Prop := PTs X ifs (RT X.K G c)
theorem _root_.L2.PTs.imp {ifs : List Expr} {t t' : TT} (h : PTs X ifs t) (i : ∀ σ H Q, t' σ H Q → t σ H Q) : PTs X ifs t' := ⟨fun pins s σ H Q I hw => h.run pins s σ H Q I (i σ H Q hw)⟩
theorem ets_nil : ETs G X [] cYes := pts_nil.imp fun σ H Q ⟨m, S, env, k, S', st, re, hc, q⟩ => by
  cases hc
  exact q m H (Ext.refl m H) st
theorem ets_one {c : Expr} {t : Cm Bool} (h : ET G X c t) : ETs G X [c] t := pts_one h
mutual
def Pat.slots : Pat → List Nat
  | .nm i => [i]
  | .tp ps => slotsL ps
def slotsL : List Pat → List Nat
  | [] => []
  | p :: ps => p.slots ++ slotsL ps
end
mutual
theorem PatV.slots {K : PySem.W.Frag} {H : Hp} : ∀ (pt : Pat) (v : V) (bs : List (Nat × V)), PatV K H pt v bs → bs.map (·.1) = pt.slots
  | .nm i, v, bs, h => by unfold PatV at h; subst h; rfl
  | .tp ps, v, bs, h => by
    unfold PatV at h
    obtain ⟨a, vs, _, _, h⟩ := h
    exact PatVs.slots ps vs bs h
theorem PatVs.slots {K : PySem.W.Frag} {H : Hp} : ∀ (pt : List Pat) (v : List V) (bs : List (Nat × V)), PatVs K H pt v bs → bs.map (·.1) = slotsL pt
  | [], v, bs, h => by unfold PatVs at h; rw [h.2]; rfl
  | p :: ps, v, bs, h => by
    unfold PatVs at h
    obtain ⟨v, r, b1, b2, _, rfl, h1, h2⟩ := h
    rw [List.map_append, PatV.slots p v b1 h1, PatVs.slots ps r b2 h2]
    rfl
end
theorem wipe_set {σ : L2.St} {i : Nat} {x : Option V} : ∀ {vs : List Nat}, i ∈ vs → wipe (σ.set i x) vs = wipe σ vs
  | [], h => by cases h
  | v :: vs, h => by
    unfold wipe
    by_cases e : i ∈ vs
    · rw [wipe_set e]
    · have hv : i = v := by
        rcases List.mem_cons.mp h with h | h
        · exact h
        · exact absurd h e
      subst hv
      have : ∀ {ws : List Nat}, i ∉ ws → wipe (σ.set i x) ws = (wipe σ ws).set i x := by
        intro ws
        induction ws with
        | nil => intro _; rfl
        | cons w ws ih =>
          intro hw
          have hw' : i ≠ w ∧ i ∉ ws := by simpa using hw
          unfold wipe
          rw [ih hw'.2, List.set_comm _ _ hw'.1]
      rw [this e, List.set_set]
theorem wipe_setAll {vs : List Nat} : ∀ {bs : List (Nat × V)} {σ : L2.St}, (∀ i ∈ bs.map (·.1), i ∈ vs) → wipe (setAll σ bs) vs = wipe σ vs
  | [], σ, _ => rfl
  | (i, v) :: bs, σ, h => by
    show wipe (setAll (σ.set i (some v)) bs) vs = _
    rw [wipe_setAll fun j hj => h j (by simp at hj ⊢; exact .inr hj)]
    exact wipe_set (h i (by simp))
theorem wipe_wipe {σ : L2.St} : ∀ {vs : List Nat}, wipe (wipe σ vs) vs = wipe σ vs := by
  intro vs
  have h : ∀ (ws : List Nat), (∀ w ∈ ws, w ∈ vs) → wipe (wipe σ ws) vs = wipe σ vs := by
    intro ws
    induction ws with
    | nil => intro _; rfl
    | cons w ws ih =>
      intro hw
      show wipe ((wipe σ ws).set w none) vs = _
      rw [wipe_set (hw w (by simp)), ih fun v hv => hw v (by simp [hv])]
  exact h vs fun _ h => h
theorem wipe_setAll_wipe {vs : List Nat} {bs : List (Nat × V)} {σ : L2.St} (h : ∀ i ∈ bs.map (·.1), i ∈ vs) : wipe (setAll (wipe σ vs) bs) vs = wipe σ vs := by
  rw [wipe_setAll h, wipe_wipe]
theorem Ext.xmem {m m' : Mp} {H H' : Hp} (x : Ext m H m' H') {a : Addr} (h : a ∈ m.x) : a ∈ m'.x := by
  obtain ⟨r, hr, _⟩ := x.x
  rw [hr]
  exact List.mem_append_right _ h
theorem Ext.back {m m' : Mp} {H H' : Hp} (x : Ext m H m' H') {a : Addr} (h : H' a = none) : H a = none := by
  cases q : H a with
  | none => rfl
  | some o =>
    by_cases hz : a ∈ m.c
    · have := x.cells a hz (by rw [q]; rfl)
      rw [h] at this; cases this
    · rw [x.keep a o q hz] at h; cases h
theorem Renv.wipe {K : PySem.W.Frag} {m : Mp} {H : Hp} {env : Env'} {σ : L2.St} (r : Renv K G m H env σ) : ∀ vs : List Nat, Renv K G m H (wipeE env vs) (L2.wipe σ vs)
  | [] => r
  | v :: vs => by
    have ih := Renv.wipe r vs
    unfold wipeE L2.wipe
    refine ⟨by simp [ih.1], fun i u h => ?_⟩
    by_cases e : v = i
    · subst e
      by_cases hl : v < (wipeE env vs).length
      · rw [List.getElem?_set_self hl] at h; cases h
      · rw [List.getElem?_eq_none (by simpa using hl)] at h; cases h
    · rw [List.getElem?_set_ne e] at h ⊢
      exact ih.2 i u h
theorem Ext.res {m : Mp} {H : Hp} {D : Addr} {o : HO} (hD : H D = none) : Ext m H ⟨m.c, D :: m.x⟩ (L2.upd H D o) := by
  have h1 : ∀ a ∈ [D], H a = none := fun a ha => by
    have e : a = D := by simpa using ha
    rw [e]; exact hD
  refine ⟨⟨[], by simp⟩, ⟨[D], rfl, h1⟩, fun a u h _ => by rw [upd_ne (ne_of_none h hD)]; exact h, fun a _ h => ?_, fun a h n => absurd h n, fun a ob u h => by rw [upd_ne (ne_of_none h hD)]; exact h⟩
  by_cases e : a = D
  · subst e; rw [upd_same]; rfl
  · rw [upd_ne e]; exact h
theorem Ext.forget {m m' : Mp} {H H' : Hp} (x : Ext m H m' H') : Ext m H ⟨m'.c, m.x⟩ H' := ⟨x.pre, ⟨[], rfl, fun _ h => nomatch h⟩, x.keep, x.cells, x.new, x.fz⟩
theorem Rst.res {K : PySem.W.Frag} {m : Mp} {H : Hp} {S : Sto} {D : Addr} {o : HO} (st : Rst K G m H S) (hD : H D = none) (nt : ∀ xs, o ≠ .tup xs := by intro _ h; cases h) : Rst K G ⟨m.c, D :: m.x⟩ (upd H D o) S := by
  have k := (Ext.res (m := m) (o := o) hD).keeps
  refine ⟨st.nd, st.len, fun n ob a h1 h2 => ?_, fun a ha => ?_, fun a ha => ?_, fun a ha xs e => by
    by_cases z : a = D
    · subst z; rw [upd_same] at e; exact nt xs (Option.some.inj e)
    · rw [upd_ne z] at e; exact st.tx a ((List.mem_cons.mp ha).resolve_left z) xs e⟩
  · obtain ⟨ho, e, r⟩ := st.ob n ob a h1 h2
    exact ⟨ho, by rw [upd_ne (ne_of_none e hD)]; exact e, RO.keep k _ _ r⟩
  · by_cases e : a = D
    · subst e; rw [upd_same]; rfl
    · rw [upd_ne e]
      rcases List.mem_cons.mp ha with h | h
      · exact absurd h e
      · exact st.xs a h
  · rcases List.mem_cons.mp ha with h | h
    · subst h; exact st.none_c hD
    · exact st.nx a h
theorem keeps_x {m : Mp} {H : Hp} {D : Addr} {o : HO} (hD : D ∈ m.x) : Keeps m H m (upd H D o) := by
  refine ⟨fun a u h n nx => ⟨?_, n, nx⟩, fun _ _ h => h, fun a xs h n nx => by rw [upd_ne (show a ≠ D from fun e => nx (e ▸ hD))]; exact h⟩
  have : a ≠ D := fun e => nx (e ▸ hD)
  rcases h with h | ⟨o, h⟩
  · exact .inl (by rw [upd_ne this]; exact h)
  · exact .inr ⟨o, by rw [upd_ne this]; exact h⟩
theorem Rst.setx {K : PySem.W.Frag} {m : Mp} {H : Hp} {S : Sto} {D : Addr} {o : HO} (st : Rst K G m H S) (hD : D ∈ m.x) (nt : ∀ xs, o ≠ .tup xs := by intro _ h; cases h) : Rst K G m (upd H D o) S := by
  refine ⟨st.nd, st.len, fun n ob a h1 h2 => ?_, fun a ha => ?_, st.nx, fun a ha xs e => by
    by_cases z : a = D
    · subst z; rw [upd_same] at e; exact nt xs (Option.some.inj e)
    · rw [upd_ne z] at e; exact st.tx a ha xs e⟩
  · obtain ⟨ho, e, r⟩ := st.ob n ob a h1 h2
    have ne : a ≠ D := fun e => st.nx D hD (e ▸ List.mem_of_getElem? h2)
    exact ⟨ho, by rw [upd_ne ne]; exact e, RO.keep (keeps_x hD) _ _ r⟩
  · by_cases e : a = D
    · subst e; rw [upd_same]; rfl
    · rw [upd_ne e]; exact st.xs a ha
theorem keeps_forget {c x y : List Addr} {H : Hp} (h : ∀ a ∈ y, a ∈ x) : Keeps ⟨c, x⟩ H ⟨c, y⟩ H := ⟨fun a u r n nx => ⟨r, n, fun z => nx (h a z)⟩, fun _ _ h => h, fun _ _ h _ _ => h⟩
theorem Rst.forget {K : PySem.W.Frag} {c x y : List Addr} {H : Hp} {S : Sto} (st : Rst K G ⟨c, x⟩ H S) (h : ∀ a ∈ y, a ∈ x) : Rst K G ⟨c, y⟩ H S :=
  ⟨st.nd, st.len, fun n ob a h1 h2 => let ⟨ho, e, r⟩ := st.ob n ob a h1 h2; ⟨ho, e, RO.keep (keeps_forget h) _ _ r⟩, fun a ha => st.xs a (h a ha), fun a ha => st.nx a (h a ha), fun a ha => st.tx a (h a ha)⟩
theorem re_lc {K : PySem.W.Frag} {it : Cm (List U)} {pt : Pat} {t : Cm Bool} {c : Cm U} {vs : List Nat} {σ : L2.St} {H : Hp} {Q : VK} (hsl : ∀ i ∈ pt.slots, i ∈ vs)
    {m : Mp} {S : Sto} {env : Env'} {ys : List U} {S' : Sto} (st : Rst K G m H S) (re : Renv K G m H env σ) (hc : cLcL it pt t c vs env S = some (ys, S'))
    (q : ∀ m' H' D zs, Ext m H m' H' → H D = none → D ∉ m'.x → Rst K G ⟨m'.c, D :: m'.x⟩ H' S' → H' D = some (.lst zs) → RUs K G ⟨m'.c, D :: m'.x⟩ H' ys zs → Q (.ref D) H') :
    tLc (RI K G it) (tPat K pt) (RT K G t) (RE K G c) vs σ H Q := by
  unfold cLcL at hc
  split at hc
  · cases hc
  · rename_i us S1 e1
    split at hc
    · cases hc
    · rename_i ys' S2 e2
      split at hc
      · rename_i hsz
        cases hc
        refine ⟨m, S, env, us, S1, st, re, e1, fun m1 H1 x1 st1 J hJ D hD => ?_⟩
        obtain ⟨Gd, Y, w, hG, hY⟩ := hJ
        have reW := (re.keep x1.keeps).wipe vs
        refine lc_it w (fun i H => ∃ m S acc zs rest, Ext m1 H1 m H ∧ D ∈ m.x ∧ Rst K G m H S ∧ H D = some (.lst zs) ∧ RUs K G m H acc zs ∧ mapC pt t c (wipeE env vs) (us.drop i) S = some (rest, S') ∧ ys = acc ++ rest)
          ⟨⟨m1.c, D :: m1.x⟩, S1, [], [], ys, Ext.res hD, by simp, st1.res hD, upd_same, RUs.nil, e2, rfl⟩ (fun i H _ ⟨m, S, acc, zs, rest, x, _⟩ => hG m H x) (fun i y H H' hi ⟨m, S, acc, zs, rest, x, hx, st, hd, ra, hm, ey⟩ hy => ?_) (fun H ⟨m, S, acc, zs, rest, x, hx, st, hd, ra, hm, ey⟩ => ?_)
        · obtain ⟨u, hu, x2, st2, ru⟩ := hY i m S H y H' x st hi hy
          rw [drop_cons hu] at hm
          unfold mapC at hm
          split at hm
          · cases hm
          · rename_i bs eb
            obtain ⟨bv, h1, h2⟩ := bindP_ok _ _ _ _ eb ru
            have re2 := ((reW.keep x.keeps).keep x2.keeps).setAll h2
            have nc : D ∉ m.c := st.nx D hx
            refine ⟨bv, h1, wipe_setAll_wipe (fun i hi => hsl i (by rw [PatV.slots _ _ _ h1] at hi; exact hi)), ?_⟩
            split at hm
            · cases hm
            · rename_i S3 e3
              refine ⟨m, S, _, false, S3, st2, re2, e3, fun m3 H3 x3 st3 => iteF ?_⟩
              exact ⟨m3, S3, acc, zs, rest, (x.trans x2).trans x3, x3.xmem hx, st3, x3.keep D _ (x2.keep D _ hd nc) nc, RUs.keep (x2.trans x3).keeps _ _ ra, hm, ey⟩
            · rename_i S3 e3
              refine ⟨m, S, _, true, S3, st2, re2, e3, fun m3 H3 x3 st3 => iteT ?_⟩
              split at hm
              · cases hm
              · rename_i z S4 e4
                split at hm
                · cases hm
                · rename_i zs' S5 e5
                  cases hm
                  have d3 : H3 D = some (.lst zs) := x3.keep D _ (x2.keep D _ hd nc) nc
                  have nc3 : D ∉ m3.c := st3.nx D (x3.xmem hx)
                  refine ⟨m3, S3, _, z, S4, st3, re2.keep x3.keeps, e4, fun m4 H4 v x4 st4 r4 => ?_⟩
                  have hx4 : D ∈ m4.x := x4.xmem (x3.xmem hx)
                  have d4 : H4 D = some (.lst zs) := x4.keep D _ d3 nc3
                  have k4 : Keeps m4 H4 m4 (L2.upd H4 D (.lst (zs ++ [v]))) := keeps_x hx4
                  have ra4 := RUs.keep ((x2.trans x3).trans x4).keeps _ _ ra
                  have hl : zs.length < sizeLine := by
                    have h1 := ra.length
                    have h2 : ys.length ≤ sizeLine := hsz
                    rw [ey] at h2
                    simp at h2
                    omega
                  refine ⟨zs, d4, hl, m4, S4, acc ++ [z], zs ++ [v], zs', ?_, hx4, st4.setx hx4, upd_same, RUs.keep k4 _ _ (ra4.append (RUs.one r4)), e5, by rw [ey]; simp⟩
                  have x5 := ((x.trans x2).trans x3).trans x4
                  refine ⟨x5.pre, x5.x, fun a o h n => ?_, fun a ha h => ?_, x5.new, fun a ob u h => by rw [upd_ne (ne_of_none h hD)]; exact x5.fz a ob u h⟩
                  · have : a ≠ D := ne_of_none h hD
                    rw [upd_ne this]; exact x5.keep a o h n
                  · by_cases e : a = D
                    · subst e; rw [upd_same]; rfl
                    · rw [upd_ne e]; exact x5.cells a ha h
        · rw [List.drop_length] at hm
          unfold mapC at hm
          cases hm
          rw [List.append_nil] at ey
          subst ey
          have hsub : ∀ a ∈ D :: m1.x, a ∈ m.x := fun a ha => by
            rcases List.mem_cons.mp ha with h | h
            · rw [h]; exact hx
            · exact x.xmem h
          exact q ⟨m.c, m1.x⟩ H D zs (x1.trans x.forget) (x1.back hD) (st1.none_x hD) (Rst.forget (x := m.x) st hsub) hd (RUs.keep (keeps_forget (x := m.x) hsub) _ _ ra)
      · cases hc
theorem ee_lc {elt : Expr} {ifs : List Expr} {scope : Scope} {own : List (Str × Nat)} {it : Cm (List U)} {pt : Pat} {t : Cm Bool} {c : Cm U} (hc : X.calm = true) (hN : X.N.Nodup) (hi : EI G X tg iter it) (ok : BlkOk X.N X.env.scope scope own)
    (hg : ∀ (s : Shared) (H : Hp) (C : Addr) (cl : List (Str × Addr)) (fp : List Addr), EPt (X.blk s H scope (compEnvC scope cl C X.env) fp) tg pt) (ht : ∀ (s : Shared) (H : Hp) (C : Addr) (cl : List (Str × Addr)) (fp : List Addr), ETs G (X.blk s H scope (compEnvC scope cl C X.env) fp) ifs t)
    (he : ∀ (s : Shared) (H : Hp) (C : Addr) (cl : List (Str × Addr)) (fp : List Addr), EE G (X.blk s H scope (compEnvC scope cl C X.env) fp) elt c) (hsl : ∀ i ∈ pt.slots, i ∈ own.map (·.2)) (hs : ∀ x, foldedSetIterable iter X.env x = pure x := by intro _; rfl) :
    EE G X (.ListComp elt [⟨tg, iter, ifs, 0⟩] scope pos) (cLc it pt t c (own.map (·.2))) := (pe_lc hc hN hi ok hg ht he hs).imp fun σ H Q ⟨m, S, env, z, S', st, re, hc, q⟩ => by
  unfold cLc at hc
  split at hc
  · cases hc
  · rename_i ys S2 e1
    cases hc
    refine re_lc hsl st re e1 fun m' H' D zs x hD nx st' hd r => ?_
    have st2 : Rst X.K G m' H' S' := Rst.forget (c := m'.c) (x := D :: m'.x) st' fun a ha => List.mem_cons_of_mem _ ha
    refine q m' H' _ x st2 ?_
    unfold RU
    exact ⟨D, zs, rfl, .inl hd, st'.nx D (by simp), nx, RUs.keep (keeps_forget fun a ha => List.mem_cons_of_mem _ ha) _ _ r⟩
theorem re_lcM {K : PySem.W.Frag} {it : Cm (List U)} {pt : Pat} {t : Cm Bool} {c : Cm U} {vs : List Nat} {σ : L2.St} {H : Hp} {Q : VK} (hsl : ∀ i ∈ pt.slots, i ∈ vs) (h : RE K G (cLcM it pt t c vs) σ H Q) : tLc (RI K G it) (tPat K pt) (RT K G t) (RE K G c) vs σ H Q := by
  obtain ⟨m, S, env, z, S', st, re, hc, q⟩ := h
  unfold cLcM at hc
  split at hc
  · cases hc
  · rename_i ys S2 e1
    cases hc
    refine re_lc hsl st re e1 fun m' H' D zs x hD nx st' hd r => ?_
    have k : Keeps ⟨m'.c, D :: m'.x⟩ H' ⟨m'.c ++ [D], m'.x⟩ H' := ⟨fun a u r n nx => ⟨r, by
      intro h
      rcases List.mem_append.mp h with h | h
      · exact n h
      · exact nx (by simp at h; simp [h]), fun h => nx (List.mem_cons_of_mem _ h)⟩, fun n a h => by
      show (m'.c ++ [D])[n]? = some a
      rw [List.getElem?_append_left (List.getElem?_eq_some_iff.mp h).1]; exact h, fun _ _ h _ _ => h⟩
    have hDc : D ∉ m'.c := st'.nx D (by simp)
    refine q ⟨m'.c ++ [D], m'.x⟩ H' _ ⟨?_, x.x, x.keep, x.cells, fun a ha n => ?_, x.fz⟩ ⟨?_, by simp [st'.len], fun n ob a h1 h2 => ?_, fun a ha => st'.xs a (List.mem_cons_of_mem _ ha), fun a ha h => ?_, fun a ha => st'.tx a (List.mem_cons_of_mem _ ha)⟩ (RU.cell ?_)
    · obtain ⟨r, hr⟩ := x.pre
      exact ⟨r ++ [D], by rw [← List.append_assoc, ← hr]⟩
    · rcases List.mem_append.mp ha with h | h
      · exact x.new a h n
      · have : a = D := by simpa using h
        rw [this]; exact hD
    · refine List.nodup_append.mpr ⟨st'.nd, by simp, fun a ha b hb => ?_⟩
      have : b = D := by simpa using hb
      subst this
      intro e; subst e
      exact hDc ha
    · by_cases hn : n < S2.length
      · rw [List.getElem?_append_left hn] at h1
        have h2' : m'.c[n]? = some a := by
          have h2'' : (m'.c ++ [D])[n]? = some a := h2
          rw [List.getElem?_append_left (by have := st'.len; simp at this; omega)] at h2''
          exact h2''
        obtain ⟨ho, e, r⟩ := st'.ob n ob a h1 h2'
        exact ⟨ho, e, RO.keep k _ _ r⟩
      · rw [List.getElem?_append_right (by omega)] at h1
        have e0 : n - S2.length = 0 := by
          have := (List.getElem?_eq_some_iff.mp h1).1
          simp at this; omega
        rw [e0] at h1
        cases h1
        have hlen : m'.c.length = S2.length := st'.len
        have h2'' : (m'.c ++ [D])[n]? = some a := h2
        rw [List.getElem?_append_right (by omega), hlen, e0] at h2''
        cases h2''
        exact ⟨_, hd, zs, rfl, RUs.keep k _ _ r⟩
    · rcases List.mem_append.mp h with h | h
      · exact st'.nx a (List.mem_cons_of_mem _ ha) h
      · have : a = D := by simpa using h
        subst this
        exact nx ha
    · have hlen : m'.c.length = S2.length := st'.len
      show (m'.c ++ [D])[S2.length]? = some D
      rw [← hlen]; simp
theorem ee_lcM {elt : Expr} {ifs : List Expr} {scope : Scope} {own : List (Str × Nat)} {it : Cm (List U)} {pt : Pat} {t : Cm Bool} {c : Cm U} (hc : X.calm = true) (hN : X.N.Nodup) (hi : EI G X tg iter it) (ok : BlkOk X.N X.env.scope scope own)
    (hg : ∀ (s : Shared) (H : Hp) (C : Addr) (cl : List (Str × Addr)) (fp : List Addr), EPt (X.blk s H scope (compEnvC scope cl C X.env) fp) tg pt) (ht : ∀ (s : Shared) (H : Hp) (C : Addr) (cl : List (Str × Addr)) (fp : List Addr), ETs G (X.blk s H scope (compEnvC scope cl C X.env) fp) ifs t)
    (he : ∀ (s : Shared) (H : Hp) (C : Addr) (cl : List (Str × Addr)) (fp : List Addr), EE G (X.blk s H scope (compEnvC scope cl C X.env) fp) elt c) (hsl : ∀ i ∈ pt.slots, i ∈ own.map (·.2)) (hs : ∀ x, foldedSetIterable iter X.env x = pure x := by intro _; rfl) :
    EE G X (.ListComp elt [⟨tg, iter, ifs, 0⟩] scope pos) (cLcM it pt t c (own.map (·.2))) := (pe_lc hc hN hi ok hg ht he hs).imp fun σ H Q h => re_lcM hsl h
end OF
namespace OF
open PySem PySem.Spec PyProof.Rows L2
inductive Sd where
  | lst (a : Addr)
  | tup (a : Addr)
  | txt (x : Str) (t : Tok)
def Sd.fp (it : Addr) : Sd → List Addr
  | .lst a => [it, a]
  | .tup a => [it, a]
  | .txt _ _ => [it]
def Sd.itr (it : Addr) : Sd → Nat → Heap → Prop
  | .lst a => fun i h => h.IsListIter it a i
  | .tup a => fun i h => h.IsTupleIter it a i
  | .txt x t => fun i h => h.IsStrIter it (strIterType x) x t i
def signs (x : Str) : List V := x.cps.toList.map fun c => V.str ⟨#[c]⟩
def Sd.has (K : PySem.W.Frag) (H : Hp) : Sd → List V → Prop
  | .lst a, xs => SqL K H a xs
  | .tup a, xs => SqT K H a xs
  | .txt x _, xs => xs = signs x
def Sd.obj : Sd → Obj
  | .lst a => { cls := .type "list_iterator", data := .fields #[.ref a, .int 0 0] }
  | .tup a => { cls := .type "tuple_iterator", data := .fields #[.ref a, .int 0 0] }
  | .txt x t => { cls := .type (strIterType x), data := .fields #[.str x t, .int 0 0] }
def Sd.ne (it : Addr) : Sd → Prop
  | .lst a => a ≠ it
  | .tup a => a ≠ it
  | .txt _ _ => True
def Sd.lt (n : Nat) : Sd → Prop
  | .lst a => a < n
  | .tup a => a < n
  | .txt _ _ => True
theorem Sd.itr_obj {sd : Sd} {it : Addr} {i : Nat} {h : Heap} (st : sd.itr it i h) : ∃ o, h.get? it = some o ∧ ∀ v, o.data ≠ .cell v := by
  cases sd <;> obtain ⟨o, e, _, d⟩ := st <;> exact ⟨o, e, fun v z => by rw [d] at z; cases z⟩
theorem Sd.itr_keep {sd : Sd} {it : Addr} {i : Nat} {h h' : Heap} (st : sd.itr it i h) (k : ∀ o, h.get? it = some o → h'.get? it = some o) : sd.itr it i h' := by
  cases sd <;> obtain ⟨o, e, r⟩ := st <;> exact ⟨o, k o e, r⟩
section
variable {X : Cx} {pins : List (Addr × Obj)} {σ : L2.St} {H : Hp} {s : Shared} {it : Addr}
theorem Sd.inj {sd : Sd} {xs ys : List V} (I : Inv X pins σ H s) (h : sd.has X.K H xs) (h' : sd.has X.K H ys) : xs = ys := by
  cases sd with
  | lst a => exact I.list_inj h h'
  | tup a => exact I.tuple_inj h h'
  | txt x t => exact (show xs = signs x from h).trans (show ys = signs x from h').symm
theorem Sd.draw {sd : Sd} {xs : List V} (I : Inv X pins σ H s) (h : sd.has X.K H xs) (hne : sd.ne it) : ∃ (Pd : Nat → Value → Prop) (src : Heap → Prop),
    (∀ A : Around, A.handled = none → Draws X.prog X.w A it (sd.fp it) xs.length Pd (fun i h => sd.itr it i h ∧ src h)) ∧ src s.heap ∧ (∀ i u, Pd i u → ∃ v, xs[i]? = some v ∧ RelV v u) := by
  cases sd with
  | lst a =>
    obtain ⟨its, rv, p, _⟩ := I.list h
    have hl := rv.length
    refine ⟨fun i v => its.toArray[i]? = some v, fun h => h.IsList a its.toArray, fun A hh => ?_, p.isList, fun i u hu => ?_⟩
    · have := Draws.list (prog := X.prog) (w := X.w) hh it a hne its.toArray
      rw [show its.toArray.size = xs.length by simp [hl]] at this
      exact this
    · have hu' : its[i]? = some u := by simpa using hu
      have hi : i < xs.length := by rw [hl]; exact (List.getElem?_eq_some_iff.mp hu').1
      obtain ⟨u', e, r⟩ := rv.get (List.getElem?_eq_getElem hi)
      rw [hu'] at e; cases e
      exact ⟨_, List.getElem?_eq_getElem hi, r⟩
  | tup a =>
    obtain ⟨its, rv, p, _⟩ := I.tuple h
    have hl := rv.length
    refine ⟨fun i v => its.toArray[i]? = some v, fun h => h.IsTuple a its.toArray, fun A hh => ?_, p, fun i u hu => ?_⟩
    · have := Draws.tuple (prog := X.prog) (w := X.w) hh it a hne its.toArray
      rw [show its.toArray.size = xs.length by simp [hl]] at this
      exact this
    · have hu' : its[i]? = some u := by simpa using hu
      have hi : i < xs.length := by rw [hl]; exact (List.getElem?_eq_some_iff.mp hu').1
      obtain ⟨u', e, r⟩ := rv.get (List.getElem?_eq_getElem hi)
      rw [hu'] at e; cases e
      exact ⟨_, List.getElem?_eq_getElem hi, r⟩
  | txt x t =>
    have hx : xs = signs x := h
    refine ⟨fun i v => ∃ c u, x.cps[i]? = some c ∧ v = .str ⟨#[c]⟩ u, fun _ => True, fun A hh => ?_, trivial, fun i u ⟨c, u', e, eu⟩ => ?_⟩
    · have D := Draws.text (prog := X.prog) (w := X.w) hh it x t
      rw [show xs.length = x.cps.size by rw [hx]; simp [signs]]
      exact ⟨fun i h st => D.live i h st.1, fun i h h' st k => ⟨D.frame i h h' st.1 k, trivial⟩, fun i s Q E hi st hQ => D.item i s Q E hi st.1 fun x h' tk p st' sb => hQ x h' tk p ⟨st', trivial⟩ sb, fun s Q E st hE => D.done s Q E st.1 hE⟩
    · refine ⟨.str ⟨#[c]⟩, ?_, ⟨u', eu⟩⟩
      rw [hx]
      unfold signs
      rw [List.getElem?_map, Array.getElem?_toList, e]
      rfl
end
def ItzM (K : PySem.W.Frag) (sa sb : Sd) : It :=
  ⟨fun i H => ∃ (xs ys : List V) (x y : V), sa.has K H xs ∧ sb.has K H ys ∧ xs[i]? = some x ∧ ys[i]? = some y,
    fun i H v H' => ∃ T x y, v = .ref T ∧ H T = none ∧ H' = upd H T (.tup [x, y]) ∧ (∀ xs, sa.has K H xs → xs[i]? = some x) ∧ ∀ ys, sb.has K H ys → ys[i]? = some y,
    fun i H => ∃ xs ys : List V, sa.has K H xs ∧ sb.has K H ys ∧ i = min xs.length ys.length⟩
theorem turn_zipM {P : Program} {w : World} {K : PySem.W.Frag} {elts : List Expr} {kk : Nat} {tpos : Pos} {z TI TO i1 i2 : Addr} {sa sb : Sd} (D : ZipSep2 z TI TO i1 i2 (sa.fp i1) (sb.fp i2)) (n1 : sa.ne i1) (n2 : sb.ne i2) :
    Turn P w K (.Tuple elts kk tpos) (ItzM K sa sb) [z, TI, TO, i1, i2] z (fun i h => IsZip h z TI TO .none ∧ IsTupOf2 h TI (.ref i1) (.ref i2) ∧ (∃ x y, IsTupOf2 h TO x y) ∧ sa.itr i1 i h ∧ sb.itr i2 i h) where
  mem := by simp
  obj := fun i h st c hc => by
    obtain ⟨hz, hTI, ⟨x, y, hTO⟩, h1, h2⟩ := st
    have e' : c = z ∨ c = TI ∨ c = TO ∨ c = i1 ∨ c = i2 := by simpa using hc
    rcases e' with q | q | q | q | q
    · rw [q]; exact ⟨_, hz, fun v q => nomatch q⟩
    · rw [q]; exact ⟨_, hTI, fun v q => nomatch q⟩
    · rw [q]; exact ⟨_, hTO, fun v q => nomatch q⟩
    · rw [q]; exact Sd.itr_obj h1
    · rw [q]; exact Sd.itr_obj h2
  keep := fun i h h' st k => by
    obtain ⟨hz, hTI, ⟨x, y, hTO⟩, h1, h2⟩ := st
    exact ⟨k z (by simp) _ hz, k TI (by simp) _ hTI, ⟨x, y, k TO (by simp) _ hTO⟩, Sd.itr_keep h1 fun o q => k i1 (by simp) o q, Sd.itr_keep h2 fun o q => k i2 (by simp) o q⟩
  item := by
    intro X hP hw hK hc i pins s σ H E I hf st hg
    subst hP hw hK
    obtain ⟨hz, hTI, ⟨x0, y0, hTO⟩, h1, h2⟩ := st
    obtain ⟨xs, ys, x, y, hqx, hqy, hx, hy⟩ := hg
    obtain ⟨P1, src1, D1, s1, r1⟩ := Sd.draw (it := i1) I hqx n1
    obtain ⟨P2, src2, D2, s2, r2⟩ := Sd.draw (it := i2) I hqy n2
    have hh : X.A.handled = none := I.ok.hd hc
    have hzl : z < s.heap.objs.size := Heap.lt_size hz
    refine wpAny_pyNext_zipD2_item D (D1 X.A.in1 hh) (D2 X.A.in1 hh) hz hTI hTO ⟨h1, s1⟩ ⟨h2, s2⟩ (List.getElem?_eq_some_iff.mp hx).1 (List.getElem?_eq_some_iff.mp hy).1 fun u u2 h' tk p1 p2 z' TO' st1' st2' hT hsz hk => ?_
    obtain ⟨vx, ex, rx⟩ := r1 i u p1
    rw [hx] at ex; cases ex
    obtain ⟨vy, ey, ry⟩ := r2 i u2 p2
    rw [hy] at ey; cases ey
    refine ⟨_, rfl, wpAny_letOwnedTupleGo_zip (s := { s with heap := h', toks := tk }) z' fun h'' z'' sb => ?_⟩
    have hT2 : h''.get? s.heap.objs.size = some { cls := .type "tuple", data := .seq #[u, u2] } := (sb.2 _ (Nat.ne_of_gt hzl)).trans hT
    have new : ObjOk X.prog X.w (upd H s.heap.objs.size (.tup [x, y])) h'' s.heap.objs.size (.tup [x, y]) :=
      ⟨by show 2 ≤ sizeLine; decide, [u, u2], .cons rx (.cons ry .nil), ⟨_, hT2, rfl, _, rfl⟩⟩
    have I1 : Inv X pins σ (upd H s.heap.objs.size (.tup [x, y])) { s with heap := h'', toks := tk } :=
      I.turnedNew (t' := tk) (ch := [z, TI, TO, i1, i2]) (fun c o hb q => (sb.2 c (fun q' => hb (by simp [q']))).trans (hk c o (fun q' => hb (by simp [q'])) (fun q' => hb (by simp [q'])) (fun q' => hb (by simp [q'])) (fun q' => hb (by simp [q'])) q)) hf (Nat.le_refl _) new
    refine ⟨.ref s.heap.objs.size, _, I1, rfl, ⟨_, x, y, rfl, I.hok.fresh (Nat.le_refl _), rfl, fun l hl => by rw [Sd.inj I hl hqx]; exact hx, fun l hl => by rw [Sd.inj I hl hqy]; exact hy⟩, ⟨z'', ?_, ⟨u, u2, ?_⟩, ?_, ?_⟩, fun c hcm => ?_⟩
    · exact (sb.2 _ D.TIz).trans (hk _ _ D.TIz D.TITO D.TIi1 D.TIi2 hTI)
    · exact (sb.2 _ D.TOz).trans TO'
    · exact Sd.itr_keep st1'.1 fun o q => (sb.2 _ D.zi1.symm).trans q
    · exact Sd.itr_keep st2'.1 fun o q => (sb.2 _ D.zi2.symm).trans q
    · have hlt : c < s.heap.objs.size := by
        have e' : c = z ∨ c = TI ∨ c = TO ∨ c = i1 ∨ c = i2 := by simpa using hcm
        rcases e' with q | q | q | q | q
        · rw [q]; exact hzl
        · rw [q]; exact Heap.lt_size hTI
        · rw [q]; exact Heap.lt_size hTO
        · rw [q]; obtain ⟨_, e1, _⟩ := Sd.itr_obj h1; exact Heap.lt_size e1
        · rw [q]; obtain ⟨_, e2, _⟩ := Sd.itr_obj h2; exact Heap.lt_size e2
      rw [upd_ne (Nat.ne_of_lt hlt)]
      exact (hf c hcm).1
  done := by
    intro X hP hw hK hc i pins s σ H E I hf st hg
    subst hP hw hK
    obtain ⟨hz, hTI, ⟨x0, y0, hTO⟩, h1, h2⟩ := st
    obtain ⟨xs, ys, hqx, hqy, hend⟩ := hg
    obtain ⟨P1, src1, D1, s1, r1⟩ := Sd.draw (it := i1) I hqx n1
    obtain ⟨P2, src2, D2, s2, r2⟩ := Sd.draw (it := i2) I hqy n2
    have hh : X.A.handled = none := I.ok.hd hc
    exact wpAny_pyNext_zipD2_end D (D1 X.A.in1 hh) (D2 X.A.in1 hh) hz hTI hTO ⟨h1, s1⟩ ⟨h2, s2⟩ (by omega) (by omega) (by omega) fun h' tk hk => ⟨rfl, I.turnedL (t' := tk) (ch := [z, TI, TO, i1, i2]) (fun c o hb q =>
      hk c o (fun q' => hb (by simp [q'])) (fun q' => hb (by simp [q'])) (fun q' => hb (by simp [q'])) (fun q' => hb (by simp [q'])) q) hf⟩
  self := fun A i s Q E st h => wpAny_pyIter_zip st.1 h
theorem addr_ne {a b : Nat} (h : a ≠ b) : @Ne Addr a b := h
theorem sep_fresh (n : Nat) {sa sb : Sd} (la : sa.lt n) (lb : sb.lt n) : ZipSep2 (n + 4) (n + 2) (n + 3) n (n + 1) (sa.fp n) (sb.fp (n + 1)) := by
  have mem : ∀ {sd : Sd} {c i : Nat}, c ≠ i → (∀ a : Nat, a < n → c ≠ a) → sd.lt n → c ∉ sd.fp i := fun {sd c i} h1 h2 h3 hm => by
    cases sd with
    | lst a =>
      have hm' : c = i ∨ c = a := by simpa [Sd.fp] using hm
      rcases hm' with h | h
      · exact h1 h
      · exact h2 a h3 h
    | tup a =>
      have hm' : c = i ∨ c = a := by simpa [Sd.fp] using hm
      rcases hm' with h | h
      · exact h1 h
      · exact h2 a h3 h
    | txt x t =>
      have hm' : c = i := by simpa [Sd.fp] using hm
      exact h1 hm'
  have own : ∀ (sd : Sd) (i : Nat), i ∈ sd.fp i := fun sd i => by cases sd <;> simp [Sd.fp]
  exact ⟨addr_ne (by omega), addr_ne (by omega), addr_ne (by omega), addr_ne (by omega), own sa n, mem (by omega) (by omega) la, mem (by omega) (by omega) la, addr_ne (by omega), own sb (n + 1), mem (by omega) (by omega) lb, mem (by omega) (by omega) lb, mem (by omega) (by omega) lb, mem (by omega) (by omega) la⟩
inductive Kd where
  | l | t | s
def sdOf : Kd → V → Tok → Sd
  | .l, .ref a, _ => .lst a
  | .t, .ref a, _ => .tup a
  | _, .str x, t => .txt x t
  | _, _, t => .txt ⟨#[]⟩ t
def KdV (K : PySem.W.Frag) (H : Hp) : Kd → V → List V → Prop
  | .l, .ref a, xs => SqL K H a xs
  | .t, .ref a, xs => SqT K H a xs
  | .s, .str x, xs => xs = signs x
  | _, _, _ => False
theorem KdV.has {K : PySem.W.Frag} {H : Hp} {k : Kd} {v : V} {xs : List V} (h : KdV K H k v xs) (t : Tok) : (sdOf k v t).has K H xs := by
  cases k <;> cases v <;> first | exact h | exact (show False from h).elim
def iZipM (K : PySem.W.Frag) (ta : TA) : TI := fun σ H R => ta σ H fun vs H1 => ∃ va vb ka kb xs ys, vs = [va, vb] ∧ KdV K H1 ka va xs ∧ KdV K H1 kb vb ys ∧
  ∀ t1 t2 : Tok, R (ItzM K (sdOf ka va t1) (sdOf kb vb t2)) H1
section
variable {X : Cx} {pins : List (Addr × Obj)} {σ : L2.St} {H : Hp} {s : Shared}
theorem KdV.side {k : Kd} {v : V} {xs : List V} {u : Value} (I : Inv X pins σ H s) (h : KdV X.K H k v xs) (r : RelV v u) : ∃ t : Tok, (sdOf k v t).lt s.heap.objs.size ∧ ∃ Hh : Heap → Prop, Begins u (sdOf k v t).obj Hh ∧ Hh s.heap := by
  cases k with
  | l =>
    cases v with
    | ref a =>
      cases r
      obtain ⟨its, rv, p, _⟩ := I.list h
      exact ⟨0, p.lt, _, begins_list a its.toArray, p.isList⟩
    | _ => exact (show False from h).elim
  | t =>
    cases v with
    | ref a =>
      cases r
      obtain ⟨its, rv, p, _⟩ := I.tuple h
      exact ⟨0, p.lt, _, begins_tuple a its.toArray, p⟩
    | _ => exact (show False from h).elim
  | s =>
    cases v with
    | str x =>
      obtain ⟨t, rfl⟩ := r
      exact ⟨t, trivial, _, begins_text x t, trivial⟩
    | _ => exact (show False from h).elim
theorem pi_zipM {e e2 : Expr} {ta : TA} {p pos tpos : Pos} {elts : List Expr} {kk : Nat} (hg : Gl X "zip") (hm : X.mg "zip" = none) (ha : PA X [e, e2] ta)
    (hs : starEach [e, e2] X.env = (false, eval e X.env) :: starEach [e2] X.env := by rfl) (hpl : (backTo pos (starEach [e2] X.env)).any (·.1) = false := by rfl) :
    PI X (.Tuple elts kk tpos) (.Call (.Name "zip" p) [e, e2] [] pos) (iZipM X.K ta) := by
  refine ⟨fun pins s σ H R I h => ?_⟩
  refine Call_ (ld_blt I hg hm PyProof.Rows.boot_zip (PyProof.Rows.callWith_type1 (thn (ha.run pos pins s σ H _ I h) fun us s1 ⟨vs, H1, I1, r1, q1⟩ => ?_) hs hpl))
  obtain ⟨va, vb, ka, kb, xs, ys, ex, ha1, hb1, q1⟩ := q1
  subst ex
  cases r1 with
  | cons r rr =>
    cases rr with
    | cons r' rr =>
      cases rr
      rename_i ua ub
      obtain ⟨ta', la, Ha, Ba, ba⟩ := ha1.side I1 r
      obtain ⟨tb', lb, Hb, Bb, bb⟩ := hb1.side I1 r'
      generalize hsa : sdOf ka va ta' = sa at la Ba
      generalize hsb : sdOf kb vb tb' = sb at lb Bb
      have fresh5 : ∀ c, c ∈ [s1.heap.objs.size + 4, s1.heap.objs.size + 2, s1.heap.objs.size + 3, s1.heap.objs.size, s1.heap.objs.size + 1] → FpOk X pins H1 c := fun c hcm => by
        have e' : c = s1.heap.objs.size + 4 ∨ c = s1.heap.objs.size + 2 ∨ c = s1.heap.objs.size + 3 ∨ c = s1.heap.objs.size ∨ c = s1.heap.objs.size + 1 := by simpa using hcm
        have hle : s1.heap.objs.size ≤ c := by
          rcases e' with z | z | z | z | z
          · rw [z]; exact Nat.le_add_right _ _
          · rw [z]; exact Nat.le_add_right _ _
          · rw [z]; exact Nat.le_add_right _ _
          · rw [z]; exact Nat.le_refl _
          · rw [z]; exact Nat.le_add_right _ _
        exact I1.fpOk hle (I1.hok.fresh hle)
      refine zip_begins2 Ba Bb ba bb fun h' hz hTI hTO h1 h2 hsz hk => wpAny_pyIter_zip hz ?_
      have I2 : Inv X pins σ H1 { s1 with heap := h' } := I1.kept (t' := s1.toks) hk
      have i1 : sa.itr s1.heap.objs.size 0 h' := by cases sa <;> exact ⟨_, h1, rfl, rfl⟩
      have i2 : sb.itr (s1.heap.objs.size + 1) 0 h' := by cases sb <;> exact ⟨_, h2, rfl, rfl⟩
      have na : sa.ne s1.heap.objs.size := by
        cases sa with
        | lst a => exact addr_ne (Nat.ne_of_lt la)
        | tup a => exact addr_ne (Nat.ne_of_lt la)
        | txt x t => trivial
      have nb : sb.ne (s1.heap.objs.size + 1) := by
        cases sb with
        | lst a => exact addr_ne (Nat.ne_of_lt (Nat.lt_of_lt_of_le lb (Nat.le_succ _)))
        | tup a => exact addr_ne (Nat.ne_of_lt (Nat.lt_of_lt_of_le lb (Nat.le_succ _)))
        | txt x t => trivial
      have q2 := q1 ta' tb'
      rw [hsa, hsb] at q2
      exact ⟨s1.heap.objs.size + 4, [s1.heap.objs.size + 4, s1.heap.objs.size + 2, s1.heap.objs.size + 3, s1.heap.objs.size, s1.heap.objs.size + 1], _, _, H1, rfl, I2, turn_zipM (sep_fresh _ la lb) na nb, ⟨hz, hTI, ⟨_, _, hTO⟩, i1, i2⟩, fresh5, q2⟩
end
theorem walk_zipM {K : PySem.W.Frag} {sa sb : Sd} {xs ys : List V} {n : Nat} (hn : n = min xs.length ys.length) : Walk (ItzM K sa sb) n (fun H => sa.has K H xs ∧ sb.has K H ys) (YPair (fun i => xs[i]?) (fun i => ys[i]?)) := by
  subst hn
  refine ⟨fun i H hi h => ⟨xs, ys, xs[i]'(by omega), ys[i]'(by omega), h.1, h.2, by simp, by simp⟩, fun H h => ⟨xs, ys, h.1, h.2, rfl⟩, fun i H x H' hi h ⟨T, x1, y1, e, hT, eH, f1, f2⟩ => ⟨T, x1, y1, e, hT, eH, f1 xs h.1, f2 ys h.2⟩⟩
end OF
namespace OF
open PySem PySem.Spec PyProof.Rows L2
variable {X : Cx} {G : Gx}
variable {e o a b tg iter : Expr} {es : List Expr} {ca cb : Cm U} {cl ck : Cm (List U)} {pos apos p : Pos}
def signsU (x : Str) : List U := x.cps.toList.map fun c => U.str ⟨#[c]⟩
def seqU : U → Option (List U)
  | .tup us => some us
  | .lst us => some us
  | .scr us => some us
  | .str x => some (signsU x)
  | _ => none
def itSeq (c : Cm U) : Cm (List U) := fun env S => match c env S with
  | none => none
  | some (u, S1) => match seqU u with
    | none => none
    | some us => some (us, S1)
theorem itSeq_some {c : Cm U} {env : Env'} {S S' : Sto} {us : List U} (h : itSeq c env S = some (us, S')) : ∃ u, c env S = some (u, S') ∧ seqU u = some us := by
  unfold itSeq at h
  split at h
  · cases h
  · rename_i u S1 e1
    split at h
    · cases h
    · rename_i us' e2
      cases h
      exact ⟨u, e1, e2⟩
section
variable {K : PySem.W.Frag} {m : Mp} {H : Hp} {S : Sto}
theorem RU.tupSt {us : List U} {v : V} (h : RU K G m H (.tup us) v) : ∃ a vs, v = .ref a ∧ RUs K G m H us vs ∧ ∀ m2 H2, Ext m H m2 H2 → SqT K H2 a vs := by
  unfold RU at h
  obtain ⟨a, vs, e, q, r⟩ := h
  refine ⟨a, vs, e, r, fun m2 H2 x => ?_⟩
  rcases q with ⟨q, n, nx⟩ | q
  · exact .inl (.inl (x.keep a _ q n))
  · exact .inr q.2
theorem RU.lstSt {us : List U} {v : V} (h : RU K G m H (.lst us) v) : ∃ a vs, v = .ref a ∧ RUs K G m H us vs ∧ ∀ m2 H2, Ext m H m2 H2 → SqL K H2 a vs := by
  unfold RU at h
  obtain ⟨a, vs, e, q, n, nx, r⟩ := h
  exact ⟨a, vs, e, r, fun m2 H2 x => .inl (x.rd q n).1⟩
theorem RU.scrSt {us : List U} {v : V} (h : RU K G m H (.scr us) v) : ∃ a vs, v = .ref a ∧ RUs K G m H us vs ∧ ∀ m2 H2, Ext m H m2 H2 → SqL K H2 a vs := by
  unfold RU at h
  obtain ⟨a, vs, e, q, r⟩ := h
  refine ⟨a, vs, e, r, fun m2 H2 x => ?_⟩
  rcases q with ⟨q, n, nx⟩ | q
  · exact .inl (x.rd q n).1
  · exact .inr q
theorem RUs.signs (x : Str) : RUs K G m H (signsU x) (OF.signs x) := by
  unfold signsU OF.signs
  induction x.cps.toList with
  | nil => exact RUs.nil
  | cons c r ih => exact RUs.cons rfl ih
theorem itok_at {us : List U} {vs : List V} {J : It} {Gd : Hp → Prop} (r : RUs K G m H us vs) (w : Walk J vs.length Gd (YAt vs)) (hG : ∀ m2 H2, Ext m H m2 H2 → Gd H2) : ItOk K G m H us J := by
  refine ⟨Gd, YAt vs, by rw [← r.length]; exact w, hG, fun i m2 S2 H2 x H3 x2 st2 hi ⟨e, hx⟩ => ?_⟩
  subst e
  obtain ⟨v, e', q⟩ := (RUs.keep x2.keeps _ _ r).get (List.getElem?_eq_getElem hi)
  rw [hx] at e'; cases e'
  exact ⟨_, List.getElem?_eq_getElem hi, Ext.refl _ _, st2, q⟩
theorem walk_strV {z : Str} : Walk (Its z) (OF.signs z).length (fun _ => True) (YAt (OF.signs z)) := by
  have w := walk_str (z := z)
  rw [show (OF.signs z).length = z.cps.size by simp [OF.signs]]
  refine w.mono (fun _ h => h) fun i H x H' hi _ ⟨e, c, hc, ev⟩ => ⟨e, ?_⟩
  subst ev
  unfold OF.signs
  rw [List.getElem?_map, Array.getElem?_toList, hc]
  rfl
end
theorem _root_.L2.PI.or3 {t1 t2 t3 : TI} (h1 : PI X tg iter t1) (h2 : PI X tg iter t2) (h3 : PI X tg iter t3) : PI X tg iter (fun σ H R => t1 σ H R ∨ t2 σ H R ∨ t3 σ H R) := ⟨fun pins s σ H R I hw => by
  rcases hw with hw | hw | hw
  · exact h1.run pins s σ H R I hw
  · exact h2.run pins s σ H R I hw
  · exact h3.run pins s σ H R I hw⟩
theorem ei_seq (he : EE G X e ca) : EI G X tg e (itSeq ca) := (PI.or3 (pi_tup he) (pi_list he) (pi_str he)).imp fun σ H R ⟨m, S, env, us, S', st, re, hc, q⟩ => by
  obtain ⟨u, e1, e2⟩ := itSeq_some hc
  cases u with
  | tup us' =>
    cases e2
    refine .inl ⟨m, S, env, _, S', st, re, e1, fun m1 H1 v x1 st1 r1 => ?_⟩
    obtain ⟨a, vs, ev, rv, hq⟩ := r1.tupSt
    exact ⟨a, ev, ⟨vs, hq m1 H1 (Ext.refl _ _)⟩, q m1 H1 x1 st1 _ (itok_at rv walk_tup hq)⟩
  | lst us' =>
    cases e2
    refine .inr (.inl ⟨m, S, env, _, S', st, re, e1, fun m1 H1 v x1 st1 r1 => ?_⟩)
    obtain ⟨a, vs, ev, rv, hq⟩ := r1.lstSt
    exact ⟨a, ev, ⟨vs, hq m1 H1 (Ext.refl _ _)⟩, q m1 H1 x1 st1 _ (itok_at rv walk_list hq)⟩
  | scr us' =>
    cases e2
    refine .inr (.inl ⟨m, S, env, _, S', st, re, e1, fun m1 H1 v x1 st1 r1 => ?_⟩)
    obtain ⟨a, vs, ev, rv, hq⟩ := r1.scrSt
    exact ⟨a, ev, ⟨vs, hq m1 H1 (Ext.refl _ _)⟩, q m1 H1 x1 st1 _ (itok_at rv walk_list hq)⟩
  | str x =>
    cases e2
    refine .inr (.inr ⟨m, S, env, _, S', st, re, e1, fun m1 H1 v x1 st1 r1 => ?_⟩)
    exact ⟨x, r1, q m1 H1 x1 st1 _ (itok_at (RUs.signs x) walk_strV fun _ _ _ => trivial)⟩
  | _ => cases e2
def rangeU (lo : Int) (n : Nat) : List U := (List.range n).map fun i => U.int (lo + (i : Nat))
def itR1 (c : Cm (List U)) : Cm (List U) := fun env S => match c env S with
  | some ([.int j], S1) => if -(2 ^ 62) ≤ j ∧ j < 2 ^ 62 then some (rangeU 0 j.toNat, S1) else none
  | _ => none
def itR2 (c : Cm (List U)) : Cm (List U) := fun env S => match c env S with
  | some ([.int i, .int j], S1) => if (-(2 ^ 62) ≤ i ∧ i < 2 ^ 62) ∧ -(2 ^ 62) ≤ j ∧ j < 2 ^ 62 then some (rangeU i (j - i).toNat, S1) else none
  | _ => none
theorem itok_range {K : PySem.W.Frag} {m : Mp} {H : Hp} {lo : Int} {n : Nat} : ItOk K G m H (rangeU lo n) (Itr lo n) := by
  have hl : (rangeU lo n).length = n := by simp [rangeU]
  refine ⟨fun _ => True, YFn fun i => .int (lo + i), by rw [hl]; exact walk_range, fun _ _ _ => trivial, fun i m2 S2 H2 x H3 x2 st2 hi ⟨e, hx⟩ => ?_⟩
  subst e
  refine ⟨.int (lo + (i : Nat)), ?_, Ext.refl _ _, st2, hx⟩
  rw [hl] at hi
  unfold rangeU
  rw [List.getElem?_map, List.getElem?_range hi]
  rfl
theorem ei_range1 (hg : Gl X "range") (hm : X.mg "range" = none) (ha : EA G X [a] cl) (hs : starEach [a] X.env = [(false, eval a X.env)] := by rfl) : EI G X tg (.Call (.Name "range" p) [a] [] pos) (itR1 cl) := (pi_range1 hg hm ha hs).imp fun σ H R ⟨m, S, env, us, S', st, re, hc, q⟩ => by
  unfold itR1 at hc
  split at hc
  · rename_i j S1 e1
    split at hc
    · rename_i hj
      cases hc
      refine ⟨m, S, _, _, _, st, re, e1, fun m1 H1 vs x1 st1 r1 => ?_⟩
      obtain ⟨v, r, ev, rv, rr⟩ := r1.uncons
      have := rr.eqnil
      subst this
      cases rv
      exact ⟨j, ev, hj.1, hj.2, q m1 H1 x1 st1 _ itok_range⟩
    · cases hc
  · cases hc
theorem ei_range2 (hg : Gl X "range") (hm : X.mg "range" = none) (ha : EA G X [a, b] cl) (hs : starEach [a, b] X.env = [(false, eval a X.env), (false, eval b X.env)] := by rfl) (hs2 : starEach [b] X.env = [(false, eval b X.env)] := by rfl) : EI G X tg (.Call (.Name "range" p) [a, b] [] pos) (itR2 cl) := (pi_range2 hg hm ha hs hs2).imp fun σ H R ⟨m, S, env, us, S', st, re, hc, q⟩ => by
  unfold itR2 at hc
  split at hc
  · rename_i i j S1 e1
    split at hc
    · rename_i hj
      cases hc
      refine ⟨m, S, _, _, _, st, re, e1, fun m1 H1 vs x1 st1 r1 => ?_⟩
      obtain ⟨v, r, ev, rv, rr⟩ := r1.uncons
      obtain ⟨v2, r2, ev2, rv2, rr2⟩ := rr.uncons
      have := rr2.eqnil
      subst this
      subst ev2
      cases rv
      cases rv2
      exact ⟨i, j, ev, ⟨hj.1.1, hj.1.2, hj.2.1, hj.2.2⟩, q m1 H1 x1 st1 _ itok_range⟩
    · cases hc
  · cases hc
def zipU (us ws : List U) : List U := (us.zip ws).map fun q => U.tup [q.1, q.2]
def itZip (c : Cm (List U)) : Cm (List U) := fun env S => match c env S with
  | some ([u, w], S1) => match seqU u, seqU w with
    | some us, some ws => some (zipU us ws, S1)
    | _, _ => none
  | _ => none
section
variable {K : PySem.W.Frag} {m : Mp} {H : Hp}
theorem seqU_side {u : U} {v : V} {us : List U} (r : RU K G m H u v) (h : seqU u = some us) : ∃ k vs, RUs K G m H us vs ∧ ∀ m2 H2, Ext m H m2 H2 → KdV K H2 k v vs := by
  cases u with
  | tup us' =>
    cases h
    obtain ⟨a, vs, ev, rv, hq⟩ := r.tupSt
    subst ev
    exact ⟨.t, vs, rv, hq⟩
  | lst us' =>
    cases h
    obtain ⟨a, vs, ev, rv, hq⟩ := r.lstSt
    subst ev
    exact ⟨.l, vs, rv, hq⟩
  | scr us' =>
    cases h
    obtain ⟨a, vs, ev, rv, hq⟩ := r.scrSt
    subst ev
    exact ⟨.l, vs, rv, hq⟩
  | str x =>
    cases h
    cases r
    exact ⟨.s, _, RUs.signs x, fun _ _ _ => rfl⟩
  | _ => cases h
theorem itok_pair {us ws : List U} {vs zs : List V} {J : It} {Gd : Hp → Prop} (r : RUs K G m H us vs) (r' : RUs K G m H ws zs) (w : Walk J (min vs.length zs.length) Gd (YPair (fun i => vs[i]?) (fun i => zs[i]?))) (hG : ∀ m2 H2, Ext m H m2 H2 → Gd H2) : ItOk K G m H (zipU us ws) J := by
  have hl : (zipU us ws).length = min vs.length zs.length := by simp [zipU, r.length, r'.length]
  refine ⟨Gd, YPair (fun i => vs[i]?) (fun i => zs[i]?), by rw [hl]; exact w, hG, fun i m2 S2 H2 x H3 x2 st2 hi ⟨T, x1, y1, ev, hT, eH, hx, hy⟩ => ?_⟩
  subst ev eH
  rw [hl, r.length, r'.length] at hi
  have h1 : i < us.length := by omega
  have h2 : i < ws.length := by omega
  obtain ⟨v1, e1, q1⟩ := (RUs.keep x2.keeps _ _ r).get (List.getElem?_eq_getElem h1)
  obtain ⟨v2, e2, q2⟩ := (RUs.keep x2.keeps _ _ r').get (List.getElem?_eq_getElem h2)
  have hx' : vs[i]? = some x1 := hx
  have hy' : zs[i]? = some y1 := hy
  rw [hx'] at e1; cases e1
  rw [hy'] at e2; cases e2
  refine ⟨.tup [us[i], ws[i]], ?_, Ext.upd hT, st2.new hT, RU.newTup st2 hT (RUs.cons q1 (RUs.one q2))⟩
  unfold zipU
  rw [List.getElem?_map, List.getElem?_zip_eq_some (i := i) (z := (us[i], ws[i])) |>.mpr ⟨by simp [h1], by simp [h2]⟩]
  rfl
end
theorem ei_zip {elts : List Expr} {kk : Nat} {tpos : Pos} (hg : Gl X "zip") (hm : X.mg "zip" = none) (ha : EA G X [a, b] cl)
    (hs : starEach [a, b] X.env = (false, eval a X.env) :: starEach [b] X.env := by rfl) (hpl : (backTo pos (starEach [b] X.env)).any (·.1) = false := by rfl) : EI G X (.Tuple elts kk tpos) (.Call (.Name "zip" p) [a, b] [] pos) (itZip cl) := (pi_zipM hg hm ha hs hpl).imp fun σ H R ⟨m, S, env, us, S', st, re, hc, q⟩ => by
  unfold itZip at hc
  split at hc
  · rename_i u w S1 e1
    split at hc
    · rename_i us1 us2 e2 e3
      cases hc
      refine ⟨m, S, _, _, _, st, re, e1, fun m1 H1 vs x1 st1 r1 => ?_⟩
      obtain ⟨v, r, ev, rv, rr⟩ := r1.uncons
      obtain ⟨v2, r2, ev2, rv2, rr2⟩ := rr.uncons
      have := rr2.eqnil
      subst this
      subst ev2
      obtain ⟨ka, xs, ra, ha⟩ := seqU_side rv e2
      obtain ⟨kb, ys, rb, hb⟩ := seqU_side rv2 e3
      refine ⟨v, v2, ka, kb, xs, ys, ev, ha m1 H1 (Ext.refl _ _), hb m1 H1 (Ext.refl _ _), fun t1 t2 => ?_⟩
      exact q m1 H1 x1 st1 _ (itok_pair ra rb (walk_zipM rfl) fun m2 H2 x => ⟨(ha m2 H2 x).has t1, (hb m2 H2 x).has t2⟩)
    · cases hc
  · cases hc
mutual
def toD : U → Option PyData
  | .non => some .none
  | .bl b => some (.bool b)
  | .int i => some (.int i)
  | .str x => some (.str x)
  | .tup us => match toDs us with
    | some ds => some (.tuple ds)
    | none => none
  | .lst us => match toDs us with
    | some ds => some (.list ds)
    | none => none
  | _ => none
def toDs : List U → Option (List PyData)
  | [] => some []
  | u :: us => match toD u with
    | none => none
    | some d => match toDs us with
      | none => none
      | some ds => some (d :: ds)
end
def toDS (S : Sto) : U → Option PyData
  | .ref n => match S[n]? with
    | some (.lst us) => match toDs us with
      | some ds => some (.list ds)
      | none => none
    | _ => none
  | u => toD u
section
variable {K : PySem.W.Frag} {m : Mp} {H : Hp} {S : Sto}
mutual
theorem toD_ok : ∀ (u : U) (v : V) (d : PyData), RU K G m H u v → toD u = some d → Dp K H v d
  | .non, v, d, r, h => by
    simp only [toD, Option.some.injEq] at h
    cases r; subst h; exact .non
  | .bl b, v, d, r, h => by
    simp only [toD, Option.some.injEq] at h
    cases r; subst h; exact .bl b
  | .int i, v, d, r, h => by
    simp only [toD, Option.some.injEq] at h
    cases r; subst h; exact .int i
  | .str x, v, d, r, h => by
    simp only [toD, Option.some.injEq] at h
    cases r; subst h; exact .str x
  | .tup us, v, d, r, h => by
    simp only [toD] at h
    split at h
    · rename_i ds e
      cases h
      obtain ⟨a, vs, rfl, hq, rv⟩ := r.tupT
      exact .tup hq (toDs_ok us vs ds rv e)
    · cases h
  | .lst us, v, d, r, h => by
    simp only [toD] at h
    split at h
    · rename_i ds e
      cases h
      obtain ⟨a, vs, rfl, hq, rv⟩ := r.lstL
      exact .lst hq (toDs_ok us vs ds rv e)
    · cases h
  | .scr us, v, d, r, h => by simp only [toD] at h; cases h
  | .dct us, v, d, r, h => by simp only [toD] at h; cases h
  | .fn x, v, d, r, h => by simp only [toD] at h; cases h
  | .ref x, v, d, r, h => by simp only [toD] at h; cases h
theorem toDs_ok : ∀ (us : List U) (vs : List V) (ds : List PyData), RUs K G m H us vs → toDs us = some ds → DpAll K H vs ds
  | [], vs, ds, r, h => by
    simp only [toDs, Option.some.injEq] at h
    subst h
    rw [r.eqnil]
    exact .nil
  | u :: us, vs, ds, r, h => by
    simp only [toDs] at h
    split at h
    · cases h
    · rename_i d e1
      split at h
      · cases h
      · rename_i ds' e2
        cases h
        obtain ⟨v, t, rfl, q, tl⟩ := r.uncons
        exact .cons (toD_ok u v d q e1) (toDs_ok us t ds' tl e2)
end
theorem toDS_ok (st : Rst K G m H S) {u : U} {v : V} {d : PyData} (r : RU K G m H u v) (h : toDS S u = some d) : Dp K H v d := by
  cases u with
  | ref n =>
    simp only [toDS] at h
    split at h
    · rename_i us e
      split at h
      · rename_i ds e2
        cases h
        obtain ⟨a, ho, ha, hH, vs, rfl, rv⟩ := st.at e
        unfold RU at r
        obtain ⟨a', rfl, ha'⟩ := r
        rw [ha] at ha'; cases ha'
        exact .lst (SqL.of hH) (toDs_ok us vs ds rv e2)
      · cases h
    · cases h
  | _ => exact toD_ok _ _ _ r h
end
def eqDU (neg : Bool) : Op2 := fun a b S => match toDS S a, toDS S b with
  | some d, some e => if SeqAt.shaped d = true ∧ SeqAt.shaped e = true then some (.bl (if neg then !PyData.eqv d e else PyData.eqv d e), S) else none
  | _, _ => none
theorem opU_eqD (hu : X.A.units + 64 < cLine) : OpU G X (compareOp .Eq) (eqDU false) := OpR.imp (op_eqD hu) fun x y H Q ⟨m, S, u1, u2, z, S', st, r1, r2, e, q⟩ => by
  unfold eqDU at e
  split at e
  · rename_i d e' h1 h2
    split at e
    · rename_i hs
      cases e
      exact ⟨d, e', toDS_ok st r1 h1, toDS_ok st r2 h2, hs.1, hs.2, q.here st rfl⟩
    · cases e
  · cases e
theorem opU_neD (hu : X.A.units + 64 < cLine) : OpU G X (compareOp .NotEq) (eqDU true) := OpR.imp (op_neD hu) fun x y H Q ⟨m, S, u1, u2, z, S', st, r1, r2, e, q⟩ => by
  unfold eqDU at e
  split at e
  · rename_i d e' h1 h2
    split at e
    · rename_i hs
      cases e
      exact ⟨d, e', toDS_ok st r1 h1, toDS_ok st r2 h2, hs.1, hs.2, q.here st rfl⟩
    · cases e
  · cases e
end OF
namespace OF
open PySem PySem.Spec PyProof.Rows L2
variable {X : Cx} {G : Gx}
variable {e o a b tg iter : Expr} {es : List Expr} {ca cb : Cm U} {cl ck : Cm (List U)} {pos apos p : Pos}
theorem ou_add : OpU G X (binaryOp .Add) (o2I fun i j => some (.int (i + j))) := opU_I0 (g := fun i j => .int (i + j)) op_add fun _ _ _ _ => rfl
theorem ou_sub : OpU G X (binaryOp .Sub) (o2I fun i j => some (.int (i - j))) := opU_I0 (g := fun i j => .int (i - j)) op_sub fun _ _ _ _ => rfl
def mulI (i j : Int) : Option U := if i.natAbs.log2 + j.natAbs.log2 < 1000000 then some (.int (i * j)) else none
theorem ou_mul : OpU G X (binaryOp .Mult) (o2I mulI) := opU_I (g := fun i j => .int (i * j)) op_mulW fun i j u h => by
  unfold mulI at h
  split at h
  · cases h; exact ⟨by assumption, fun _ _ => rfl⟩
  · cases h
def divI (i j : Int) : Option U := if 0 < j ∧ j.natAbs.log2 < 9000 then some (.int (i / j)) else none
theorem ou_div : OpU G X (binaryOp .FloorDiv) (o2I divI) := opU_I (g := fun i j => .int (i / j)) op_fdivW fun i j u h => by
  unfold divI at h
  split at h
  · cases h; exact ⟨by assumption, fun _ _ => rfl⟩
  · cases h
def modI (i j : Int) : Option U := if 0 < j then some (.int (i % j)) else none
theorem ou_mod : OpU G X (binaryOp .Mod) (o2I modI) := opU_I (g := fun i j => .int (i % j)) op_mod fun i j u h => by
  unfold modI at h
  split at h
  · cases h; exact ⟨by assumption, fun _ _ => rfl⟩
  · cases h
def powI (i j : Int) : Option U := if 0 ≤ j ∧ j ≤ 1000000 ∧ i.natAbs < 2 ^ 64 then some (.int (i ^ j.toNat)) else none
theorem ou_pow : OpU G X (binaryOp .Pow) (o2I powI) := opU_I (g := fun i j => .int (i ^ j.toNat)) op_pow fun i j u h => by
  unfold powI at h
  split at h
  · cases h; exact ⟨by assumption, fun _ _ => rfl⟩
  · cases h
theorem ou_lt : OpU G X (compareOp .Lt) (o2I fun i j => some (.bl (decide (i < j)))) := opU_I0 (g := fun i j => .bl (decide (i < j))) op_lt fun _ _ _ _ => rfl
theorem ou_gt : OpU G X (compareOp .Gt) (o2I fun i j => some (.bl (decide (j < i)))) := opU_I0 (g := fun i j => .bl (decide (j < i))) op_gt fun _ _ _ _ => rfl
theorem ou_ge : OpU G X (compareOp .GtE) (o2I fun i j => some (.bl (decide (j ≤ i)))) := opU_I0 (g := fun i j => .bl (decide (j ≤ i))) op_ge fun _ _ _ _ => rfl
def o1I (f : Int → U) : Op1 := fun u S => match u with
  | .int i => some (f i, S)
  | _ => none
theorem uu_neg : UnU G X (unaryOp .USub) (o1I fun i => .int (-i)) := UnR.imp un_neg fun x H Q ⟨m, S, u, z, S', st, r, e, q⟩ => by
  unfold o1I at e
  split at e
  · rename_i i
    cases e
    exact ⟨i, r, q.here st rfl⟩
  · cases e
def strAdd : Op2 := fun a b S => match a, b with
  | .str x, .str y => if x.length + y.length ≤ sizeLine then some (.str (x ++ y), S) else none
  | _, _ => none
theorem ou_addS : OpU G X (binaryOp .Add) strAdd := OpR.imp op_add_str fun x y H Q ⟨m, S, u1, u2, z, S', st, r1, r2, e, q⟩ => by
  unfold strAdd at e
  split at e
  · split at e
    · cases e
      exact ⟨_, _, r1, r2, by assumption, q.here st rfl⟩
    · cases e
  · cases e
def tupAdd : Op2 := fun a b S => match a, b with
  | .tup us, .tup ws => if us.length + ws.length ≤ sizeLine then some (.tup (us ++ ws), S) else none
  | _, _ => none
theorem ou_addT : OpU G X (binaryOp .Add) tupAdd := OpR.imp op_catA fun x y H Q ⟨m, S, u1, u2, z, S', st, r1, r2, e, q⟩ => by
  unfold tupAdd at e
  split at e
  · split at e
    · rename_i us ws hl
      cases e
      have r1' := r1
      have r2' := r2
      obtain ⟨a, vs, rfl, hq, rv⟩ := r1.tupT
      obtain ⟨b, zs, rfl, hq2, rv2⟩ := r2.tupT
      refine ⟨a, b, vs, zs, rfl, rfl, hq, hq2, by rw [rv.length, rv2.length]; exact hl, fun h => ?_, fun _ h => ?_, fun h1 h2 => q.tup st (rv.append rv2)⟩
      · subst h
        have : us = [] := by
          have := rv.length
          cases us with
          | nil => rfl
          | cons _ _ => simp at this
        subst this
        exact q.here st r2'
      · subst h
        have : ws = [] := by
          have := rv2.length
          cases ws with
          | nil => rfl
          | cons _ _ => simp at this
        subst this
        rw [List.append_nil] at q
        exact q.here st r1'
    · cases e
  · cases e
def lstU (S : Sto) : U → Option (List U)
  | .lst us => some us
  | .ref n => match S[n]? with
    | some (.lst us) => some us
    | _ => none
  | _ => none
theorem lstU_ok {K : PySem.W.Frag} {m : Mp} {H : Hp} {S : Sto} (st : Rst K G m H S) {u : U} {v : V} {us : List U} (r : RU K G m H u v) (h : lstU S u = some us) : ∃ a vs, v = .ref a ∧ Rd H a (.lst vs) ∧ RUs K G m H us vs := by
  cases u with
  | lst us' =>
    cases h
    obtain ⟨a, vs, rfl, hq, _, _, rv⟩ := r.lstR
    exact ⟨a, vs, rfl, hq, rv⟩
  | ref n =>
    simp only [lstU] at h
    split at h
    · rename_i us' e
      cases h
      obtain ⟨a, ho, ha, hH, vs, rfl, rv⟩ := st.at e
      unfold RU at r
      obtain ⟨a', rfl, ha'⟩ := r
      rw [ha] at ha'; cases ha'
      exact ⟨a, vs, rfl, .inl hH, rv⟩
    · cases h
  | _ => cases h
theorem _root_.L2.Inv.lstR {pins : List (Addr × Obj)} {σ : L2.St} {H : Hp} {s : Shared} {p : Addr} {xs : List V} (I : Inv X pins σ H s) (h : Rd H p (.lst xs)) : xs.length ≤ sizeLine ∧ ∃ (its : List Value) (n : Nat), Vals xs its ∧ s.heap.get? p = some { cls := .type "list", data := .seq its.toArray n } := h.ok I.hok
theorem op_catR : OpR X (binaryOp .Add) (fun x y H Q => ∃ l b xs zs, x = .ref l ∧ y = .ref b ∧ Rd H l (.lst xs) ∧ Rd H b (.lst zs) ∧ xs.length + zs.length ≤ sizeLine ∧ ∀ p, H p = none → Q (.ref p) (upd H p (.lst (xs ++ zs)))) := by
  intro pins s σ H x y v u Q I rx ry h
  obtain ⟨l, b, xs, zs, rfl, rfl, hH, hB, hz, q⟩ := h
  cases rx
  cases ry
  obtain ⟨z, its, n, r, e⟩ := I.lstR hH
  obtain ⟨z2, its2, n2, r2, e2⟩ := I.lstR hB
  have hl := r.length
  have hl2 := r2.length
  refine PySem.P.add_list e e2 ?_ (by rw [List.size_toArray, List.size_toArray]; omega)
  have ea : its.toArray ++ its2.toArray = (its ++ its2).toArray := by simp
  rw [ea]
  exact ⟨.ref _, _, I.lnew (t' := s.toks) (r.append r2) (by rw [List.length_append]; omega), rfl, q _ I.fresh⟩
def lstAdd (mu : Bool) : Op2 := fun a b S => match lstU S a, lstU S b with
  | some us, some ws => if us.length + ws.length ≤ sizeLine then (if mu then some (.ref S.length, S ++ [.lst (us ++ ws)]) else some (.lst (us ++ ws), S)) else none
  | _, _ => none
theorem ou_addL (mu : Bool) : OpU G X (binaryOp .Add) (lstAdd mu) := OpR.imp op_catR fun x y H Q ⟨m, S, u1, u2, z, S', st, r1, r2, e, q⟩ => by
  unfold lstAdd at e
  split at e
  · rename_i us ws e1 e2
    split at e
    · rename_i hl
      obtain ⟨a, vs, rfl, hq, rv⟩ := lstU_ok st r1 e1
      obtain ⟨b, zs, rfl, hq2, rv2⟩ := lstU_ok st r2 e2
      refine ⟨a, b, vs, zs, rfl, rfl, hq, hq2, by rw [rv.length, rv2.length]; exact hl, ?_⟩
      cases mu with
      | true => cases e; exact q.cell st ⟨_, rfl, rv.append rv2⟩
      | false => cases e; exact q.lst st (rv.append rv2)
    · cases e
  · cases e
def addU (mu : Bool) : Op2 := orO (o2I fun i j => some (.int (i + j))) (orO strAdd (orO tupAdd (lstAdd mu)))
theorem ou_addA (mu : Bool) : OpU G X (binaryOp .Add) (addU mu) := opU_or ou_add (opU_or ou_addS (opU_or ou_addT (ou_addL mu)))
def isN (neg : Bool) : Op2 := fun a b S => match b with
  | .non => (match a with
    | .non => some (.bl (!neg), S)
    | _ => some (.bl neg, S))
  | _ => none
theorem RU.non_iff {K : PySem.W.Frag} {m : Mp} {H : Hp} {u : U} {v : V} (r : RU K G m H u v) : v = .non ↔ u = .non := by
  cases u with
  | non => cases r; exact ⟨fun _ => rfl, fun _ => rfl⟩
  | bl b => cases r; exact ⟨fun h => (by cases h), fun h => (by cases h)⟩
  | int b => cases r; exact ⟨fun h => (by cases h), fun h => (by cases h)⟩
  | str b => cases r; exact ⟨fun h => (by cases h), fun h => (by cases h)⟩
  | tup us => obtain ⟨a, vs, rfl, _⟩ := r.tupT; exact ⟨fun h => (by cases h), fun h => (by cases h)⟩
  | lst us => obtain ⟨a, vs, rfl, _⟩ := r.lstL; exact ⟨fun h => (by cases h), fun h => (by cases h)⟩
  | scr us => obtain ⟨a, vs, rfl, _⟩ := r.scrL; exact ⟨fun h => (by cases h), fun h => (by cases h)⟩
  | dct us => unfold RU at r; obtain ⟨a, vs, rfl, _⟩ := r; exact ⟨fun h => (by cases h), fun h => (by cases h)⟩
  | fn x => unfold RU at r; obtain ⟨a, rfl, _⟩ := r; exact ⟨fun h => (by cases h), fun h => (by cases h)⟩
  | ref n => unfold RU at r; obtain ⟨a, rfl, _⟩ := r; exact ⟨fun h => (by cases h), fun h => (by cases h)⟩
theorem ou_isN : OpU G X (compareOp .Is) (isN false) := OpR.imp op_isN fun x y H Q ⟨m, S, u1, u2, z, S', st, r1, r2, e, q⟩ => by
  unfold isN at e
  split at e
  · cases r2
    refine ⟨rfl, ?_⟩
    split at e
    · cases e
      rw [decide_eq_true (r1.non_iff.mpr rfl)]
      exact q.here st rfl
    · rename_i hn
      cases e
      rw [decide_eq_false fun h => hn (r1.non_iff.mp h)]
      exact q.here st rfl
  · cases e
theorem ou_notN : OpU G X (compareOp .IsNot) (isN true) := OpR.imp op_notN fun x y H Q ⟨m, S, u1, u2, z, S', st, r1, r2, e, q⟩ => by
  unfold isN at e
  split at e
  · cases r2
    refine ⟨rfl, ?_⟩
    split at e
    · cases e
      rw [decide_eq_true (r1.non_iff.mpr rfl)]
      exact q.here st rfl
    · rename_i hn
      cases e
      rw [decide_eq_false fun h => hn (r1.non_iff.mp h)]
      exact q.here st rfl
  · cases e
def itmU (S : Sto) : U → Option (List U)
  | .tup us => some us
  | .lst us => some us
  | .scr us => some us
  | .ref n => match S[n]? with
    | some (.lst us) => some us
    | _ => none
  | _ => none
def ixU : Op2 := fun a b S => match a, b with
  | .str z, .int i => if z.length ≤ sizeLine then (match atI z.cps.toList i with
    | some c => some (.str ⟨#[c]⟩, S)
    | none => none) else none
  | u, .int i => match itmU S u with
    | some us => match atI us i with
      | some w => some (w, S)
      | none => none
    | none => none
  | _, _ => none
theorem RUs.at' {K : PySem.W.Frag} {m : Mp} {H : Hp} {us : List U} {vs : List V} {i : Int} {u : U} (r : RUs K G m H us vs) (h : atI us i = some u) : ∃ v, atI vs i = some v ∧ RU K G m H u v := by
  unfold atI at h ⊢
  rw [r.length]
  cases q : ixN us.length i with
  | none => rw [q] at h; cases h
  | some j =>
    rw [q] at h
    exact r.get h
theorem re_ix {K : PySem.W.Frag} {x y : V} {H : Hp} {Q : VK} (h : r2U K G ixU x y H Q) : rIx K x y H Q := by
  obtain ⟨m, S, u1, u2, z, S', st, r1, r2, e, q⟩ := h
  unfold ixU at e
  split at e
  · rename_i z0 i
    split at e
    · split at e
      · rename_i c hc
        cases e
        exact .inr (.inr ⟨z0, i, c, r1, r2, by assumption, hc, q.here st rfl⟩)
      · cases e
    · cases e
  · rename_i i hne
    split at e
    · rename_i us e1
      split at e
      · rename_i w e2
        cases e
        cases r2
        cases u1 with
        | tup us' =>
          cases e1
          obtain ⟨a, vs, rfl, hq, rv⟩ := r1.tupT
          obtain ⟨v, ev, rv'⟩ := rv.at' e2
          exact .inr (.inl ⟨a, vs, i, v, rfl, rfl, hq, ev, q.here st rv'⟩)
        | lst us' =>
          cases e1
          obtain ⟨a, vs, rfl, hq, rv⟩ := r1.lstL
          obtain ⟨v, ev, rv'⟩ := rv.at' e2
          exact .inl ⟨a, vs, i, v, rfl, rfl, hq, ev, q.here st rv'⟩
        | scr us' =>
          cases e1
          obtain ⟨a, vs, rfl, hq, rv⟩ := r1.scrL
          obtain ⟨v, ev, rv'⟩ := rv.at' e2
          exact .inl ⟨a, vs, i, v, rfl, rfl, hq, ev, q.here st rv'⟩
        | ref n =>
          simp only [itmU] at e1
          split at e1
          · rename_i us' es
            cases e1
            obtain ⟨a, ho, ha, hH, vs, rfl, rv⟩ := st.at es
            unfold RU at r1
            obtain ⟨a', rfl, ha'⟩ := r1
            rw [ha] at ha'; cases ha'
            obtain ⟨v, ev, rv'⟩ := rv.at' e2
            exact .inl ⟨a, vs, i, v, rfl, rfl, SqL.of hH, ev, q.here st rv'⟩
          · cases e1
        | _ => cases e1
      · cases e
    · cases e
  · cases e
theorem ee_ix (ha : EE G X a ca) (hb : EE G X b cb) (hs : PlainIx b := by intro _ _; rfl) : EE G X (.Subscript a b pos) (cBin ixU ca cb) := (pe_ix ix_seq ha hb hs).imp fun σ H Q h => by
  obtain ⟨m, S, env, u, S1, st, re, e1, q⟩ := re_op h
  refine ⟨m, S, env, u, S1, st, re, e1, fun m1 H1 x x1 st1 r1 => ?_⟩
  obtain ⟨m2, S2, env2, u2, S3, st2, re2, e2, q2⟩ := q m1 H1 x x1 st1 r1
  exact ⟨m2, S2, env2, u2, S3, st2, re2, e2, fun m3 H3 y x3 st3 r3 => re_ix (q2 m3 H3 y x3 st3 r3)⟩
abbrev CmO := Env' → Sto → Option (Option Int × Sto)
def RO' (K : PySem.W.Frag) (G : Gx) (c : CmO) : TO := fun σ H Q => ∃ m S env o S', Rst K G m H S ∧ Renv K G m H env σ ∧ c env S = some (o, S') ∧ ∀ m' H', Ext m H m' H' → Rst K G m' H' S' → Q o H'
abbrev EO (G : Gx) (X : Cx) (e : Option Expr) (c : CmO) : Prop := PO X e (RO' X.K G c)
def cNoPart : CmO := fun _ S => some (none, S)
def cPart (c : Cm U) : CmO := fun env S => match c env S with
  | some (.int i, S1) => some (some i, S1)
  | _ => none
theorem eo_none : EO G X none cNoPart := ⟨fun pins s σ H Q I ⟨m, S, env, o, S', st, re, hc, q⟩ => by
  cases hc
  exact po_none.run pins s σ H Q I (q m H (Ext.refl _ _) st)⟩
theorem eo_some (h : EE G X e ca) : EO G X (some e) (cPart ca) := ⟨fun pins s σ H Q I ⟨m, S, env, o, S', st, re, hc, q⟩ => by
  unfold cPart at hc
  split at hc
  · rename_i i S1 e1
    cases hc
    exact (po_some h).run pins s σ H Q I ⟨m, S, _, _, _, st, re, e1, fun m1 H1 v x1 st1 r1 => ⟨i, r1, q m1 H1 x1 st1⟩⟩
  · cases hc⟩
def cutU (us : List U) (lo hi : Option Int) : List U := (us.drop (HT.sIx us.length 0 lo)).take (HT.sIx us.length us.length hi - HT.sIx us.length 0 lo)
def slU (mu : Bool) (u : U) (lo hi : Option Int) : Sto → Option (U × Sto) := fun S => match u with
  | .tup us => some (.tup (cutU us lo hi), S)
  | .str z => if z.length ≤ sizeLine then some (.str (cutS z lo hi), S) else none
  | u => match lstU S u with
    | some us => if mu then some (.ref S.length, S ++ [.lst (cutU us lo hi)]) else some (.lst (cutU us lo hi), S)
    | none => none
def cSl (mu : Bool) (c : Cm U) (l h : CmO) : Cm U := fun env S => match c env S with
  | none => none
  | some (u, S1) => match l env S1 with
    | none => none
    | some (lo, S2) => match h env S2 with
      | none => none
      | some (hi, S3) => slU mu u lo hi S3
theorem RUs.cut {K : PySem.W.Frag} {m : Mp} {H : Hp} {us : List U} {vs : List V} (r : RUs K G m H us vs) (lo hi : Option Int) : RUs K G m H (cutU us lo hi) (cutV vs lo hi) := by
  unfold cutU cutV
  rw [r.length]
  exact (r.drop _).take _
theorem cut_whole {us : List U} {lo hi : Option Int} (h : HT.sIx us.length 0 lo = 0 ∧ HT.sIx us.length us.length hi = us.length) : cutU us lo hi = us := by
  unfold cutU
  rw [h.1, h.2]
  simp
theorem ee_slice {lo hi : Option Expr} {l h : CmO} {p2 : Pos} (mu : Bool) (he : EE G X e ca) (hl : EO G X lo l) (hh : EO G X hi h) : EE G X (.Subscript e (.Slice lo hi none p2) pos) (cSl mu ca l h) :=
  (pe_slice (sl_tupA.or (sl_list.or sl_str)) he hl hh).imp fun σ H Q ⟨m, S, env, z, S', st, re, hc, q⟩ => by
    unfold cSl at hc
    split at hc
    · cases hc
    · rename_i u S1 e1
      split at hc
      · cases hc
      · rename_i lo' S2 e2
        split at hc
        · cases hc
        · rename_i hi' S3 e3
          refine ⟨m, S, env, u, S1, st, re, e1, fun m1 H1 x x1 st1 r1 => ⟨m1, S1, env, lo', S2, st1, re.keep x1.keeps, e2, fun m2 H2 x2 st2 => ⟨m2, S2, env, hi', S3, st2, (re.keep x1.keeps).keep x2.keeps, e3, fun m3 H3 x3 st3 => ?_⟩⟩⟩
          have r3 := RU.keep (x2.trans x3).keeps _ _ r1
          have q3 := ((q.mono x1).mono x2).mono x3
          unfold slU at hc
          split at hc
          · rename_i us
            cases hc
            have r3' := r3
            obtain ⟨a, vs, rfl, hq, rv⟩ := r3.tupT
            refine .inl ⟨a, vs, rfl, hq, fun hw => ?_, fun _ => q3.tup st3 (rv.cut lo' hi')⟩
            rw [rv.length] at hw
            rw [cut_whole hw] at q3
            exact q3.here st3 r3'
          · split at hc
            · cases hc
              exact .inr (.inr ⟨_, r3, by assumption, q3.here st3 rfl⟩)
            · cases hc
          · split at hc
            · rename_i us e4
              obtain ⟨a, vs, rfl, hq, rv⟩ := lstU_ok st3 r3 e4
              refine .inr (.inl ⟨a, vs, rfl, .inl hq, ?_⟩)
              cases mu with
              | true => cases hc; exact q3.cell st3 ⟨_, rfl, rv.cut lo' hi'⟩
              | false => cases hc; exact q3.lst st3 (rv.cut lo' hi')
            · cases hc
end OF
namespace OF
open PySem PySem.Spec PyProof.Rows L2
section
variable {prog : Program} {w : World} {A : Around} {E : Value → Shared → Prop} {I : Addr} {fp wr : List Addr} {n : Nat} {P : Nat → Value → Prop} {St : Nat → Heap → Prop}
theorem draw_walks (W : Walks prog w A I fp wr n P St) : ∀ (k i : Nat) (s : Shared) (Q : List Value → Shared → Prop), i + k ≤ n → St i s.heap →
    (∀ (vs : List Value) h' tk, vs.length = k → (∀ (j : Nat) v, vs[j]? = some v → P (i + j) v) → St (i + k) h' → (∀ b o, b ∉ wr → s.heap.get? b = some o → h'.get? b = some o) → Q vs { s with heap := h', toks := tk }) → wpAny (model prog w) A (draw (.ref I) k) Q E s
  | 0, i, s, Q, _, st, hQ => by
    show wpAny _ _ (pure []) Q E s
    exact wpAny_pure (hQ [] s.heap s.toks rfl (fun j v h => by simp at h) st fun _ _ _ e => e)
  | k + 1, i, s, Q, hle, st, hQ => by
    show wpAny _ _ (pyNext (.ref I) >>= _) Q E s
    refine wpAny_bind (W.item i s _ _ (by omega) st fun v h1 t1 pv st1 k1 => ?_)
    refine wpAny_bind (wpAny_holding (draw_walks W k (i + 1) _ _ (by omega) st1 fun vs h2 t2 hl hp st2 k2 => wpAny_pure ?_))
    refine hQ (v :: vs) h2 t2 (by simp [hl]) (fun j u hj => ?_) (by rw [show i + (k + 1) = i + 1 + k by omega]; exact st2) fun b o hb e => k2 b o hb (k1 b o hb e)
    cases j with
    | zero => simp at hj; subst hj; exact pv
    | succ j =>
      simp at hj
      have := hp j u hj
      rw [show i + (j + 1) = i + 1 + j by omega]
      exact this
theorem Walks.shift (W : Walks prog w A I fp wr n P St) (k : Nat) (hk : k ≤ n) : Walks prog w A I fp wr (n - k) (fun j => P (k + j)) (fun j => St (k + j)) where
  sub := W.sub
  frame := fun i h h' st hb => W.frame _ h h' st hb
  item := fun i s Q E hi st hQ => W.item (k + i) s Q E (by omega) st hQ
  done := fun s Q E st hQ => W.done s Q E (by have : k + (n - k) = n := by omega
                                              rw [this] at st; exact st) hQ
  self := fun i s Q E st hQ => W.self _ s Q E st hQ
theorem items_eq {its : List Value} {acc : Array Value} {k m : Nat} (h : ItemsOf (fun j v => its.toArray[k + j]? = some v) acc m) (hm : m = its.length - k) : acc.toList = its.drop k := by
  apply List.ext_getElem?
  intro j
  rw [List.getElem?_drop]
  by_cases hj : j < acc.size
  · have := h.2 j acc[j] (by simp [hj])
    have h2 : its[k + j]? = some acc[j] := by simpa using this
    rw [h2]
    simp [hj]
  · have h1 : acc.toList[j]? = none := by simp; omega
    have h2 : its[k + j]? = none := by
      have := h.1
      simp
      omega
    rw [h1, h2]
theorem draws_eq {its vs : List Value} {k : Nat} (hl : vs.length = k) (hk : k ≤ its.length) (h : ∀ (j : Nat) v, vs[j]? = some v → its.toArray[0 + j]? = some v) : vs = its.take k := by
  apply List.ext_getElem?
  intro j
  by_cases hj : j < k
  · have h1 := h j (vs[j]'(by omega)) (by simp)
    have h2 : its[j]? = some (vs[j]'(by omega)) := by simpa using h1
    rw [List.getElem?_take_of_lt hj, h2]
    simp
  · rw [List.getElem?_eq_none (by omega), List.getElem?_eq_none (by simp; omega)]
theorem unpack_star {s : Shared} {v : Value} {T : String} {o : Obj} {its : List Value} {i n : Nat} {Q : List Value → Shared → Prop} (hT : T = "list_iterator" ∨ T = "tuple_iterator") (ho : o.cls = .type T) (hf : o.isFreed = false)
    (hni : ∀ (Q : Bool → Shared → Prop), Q false s → wpAny (model prog w) A (notIterableAtAll v) Q E s)
    (hit : ∀ (Q : Value → Shared → Prop), Q (.ref s.heap.objs.size) { s with heap := s.heap.push o } → wpAny (model prog w) A (pyIter v) Q E s)
    {l : Addr} (hl : l ≠ s.heap.objs.size) (hlt : l < s.heap.objs.size) (W : ∀ A' : Around, A'.handled = none → Walks prog w A' s.heap.objs.size [s.heap.objs.size, l] [s.heap.objs.size] its.toArray.size (fun i v => its.toArray[i]? = some v) St) (hh : A.handled = none) (st0 : St 0 (s.heap.push o))
    (hcls : ∀ j h, St j h → ∃ o, h.get? s.heap.objs.size = some o ∧ o.cls = .type T) (hsz : its.length ≤ sizeLine) (hin : i < n) (hlen : n - 1 ≤ its.length)
    (hQ : ∀ (h' : Heap) (tk : Nat), (∀ b o, s.heap.get? b = some o → h'.get? b = some o) → Q (its.take i ++ [.ref h'.objs.size] ++ its.drop (its.length - (n - 1 - i))) { s with heap := h'.push { cls := .type "list", data := .seq ((its.drop i).take (its.length - (n - 1))).toArray }, toks := tk }) :
    wpAny (model prog w) A (unpackItems v n (some i)) Q E s := by
  unfold unpackItems
  refine wpAny_bind (hni _ ?_)
  simp only [Bool.false_eq_true, if_false]
  refine wpAny_bind (wpAny_holding (hit _ ?_))
  refine wpAny_bind (wpAny_holding (draw_walks (W A hh) i 0 _ _ (by simp; omega) st0 fun vs h1 t1 hvl hvp st1 k1 => ?_))
  have hvs : vs = its.take i := draws_eq hvl (by omega) hvp
  rw [if_neg (by omega)]
  have W1 := (Walks.shift (W A.in1 hh) i (by simp; omega)).toS
  have hs1 : s.heap.objs.size < h1.objs.size := by
    obtain ⟨o1, e1, _⟩ := hcls _ _ st1
    exact Heap.lt_size e1
  have k0 : ∀ b o', s.heap.get? b = some o' → h1.get? b = some o' := fun b o' e => k1 b o' (by
    have hb := Nat.ne_of_lt (Heap.lt_size e)
    intro z
    have z' : b = s.heap.objs.size := by simpa using z
    exact hb z') (Heap.get?_push_of_some _ e)
  refine wpAny_bind (wpAny_holding (wpAny_collect_iter (s := { s with heap := h1, toks := t1 }) (T := T) (by rcases hT with h | h; exact .inr (.inr (.inl h)); exact .inr (.inr (.inr h))) W1 (fun j s' st => ?_) ?_ ?_ (by simp) (fun s' acc mv hit' => ?_) ?_))
  · obtain ⟨o1, e1, c1⟩ := hcls _ _ st
    exact ⟨o1, e1, c1⟩
  · show St (i + 0) h1
    simpa using st1
  · intro b hb
    have hb' : b = s.heap.objs.size ∨ b = l := by simpa using hb
    rcases hb' with h | h
    · rw [h]; exact hs1
    · rw [h]; exact Nat.lt_trans hlt hs1
  · have hacc : acc.toList = its.drop i := items_eq hit' (by simp)
    rw [hacc]
    have hrl : (its.drop i).length = its.length - i := by simp
    rw [if_neg (by rw [hrl]; omega)]
    refine wpAny_bind (wpAny_newList ?_ (by simp; omega))
    refine wpAny_pure ?_
    obtain ⟨hh', g', d', tk', os'⟩ := s'
    have e1 : g' = s.gens := mv.gens
    have e2 : d' = s.drawn := mv.drawn
    have e3 : os' = s.os := mv.os
    subst e1 e2 e3
    have hfin := hQ hh' tk' fun b o' e => mv.heap b o' (by
      have hb := Nat.ne_of_lt (Heap.lt_size e)
      intro z
      have z' : b = s.heap.objs.size := by simpa using z
      exact hb z') (k0 b o' e)
    rw [hrl, hvs]
    rw [show its.length - i - (n - 1 - i) = its.length - (n - 1) by omega]
    rw [List.drop_drop, show i + (its.length - (n - 1)) = its.length - (n - 1 - i) by omega]
    exact hfin
  · simp; omega
end
def gStar (K : PySem.W.Frag) (i n : Nat) (t : TGs) : TG := fun v σ H Q => ∃ a xs, v = .ref a ∧ (SqT K H a xs ∨ SqL K H a xs) ∧ n - 1 ≤ xs.length ∧
  ∀ p, H p = none → t (xs.take i ++ [.ref p] ++ xs.drop (xs.length - (n - 1 - i))) σ (upd H p (.lst ((xs.drop i).take (xs.length - (n - 1))))) Q
section
variable {X : Cx} {G : Gx} {es : List Expr} {e : Expr} {pos : Pos}
theorem pgs_star {p : Pos} {t : TG} {u : TGs} (h1 : PG X e t) (h2 : PGs X es u)
    (hs : (assignEach (.Starred e p :: es) X.env).map (·.2) = assign e X.env :: (assignEach es X.env).map (·.2) := by rfl) : PGs X (.Starred e p :: es) (gCons t u) := by
  refine ⟨fun pins s σ H vs us Q I r h => ?_⟩
  obtain ⟨v, vr, e1, h⟩ := h
  subst e1
  cases r with
  | cons r rr =>
    rw [hs]
    refine assignInOrder_cons (thn (h1.run pins s σ H _ _ _ I r h) fun _ s1 ⟨σ1, H1, I1, q1⟩ => ?_)
    exact h2.run pins s1 σ1 H1 _ _ Q I1 rr q1
theorem pg_star {k i n : Nat} {t : TGs} (hc : X.calm = true) (h : PGs X es t) (hin : i < n) (hn : (assignEach es X.env).length = n := by rfl) (hst : (assignEach es X.env).findIdx? (·.1) = some i := by rfl) : PG X (.Tuple es k pos) (gStar X.K i n t) := by
  refine ⟨fun pins s σ H v u Q I r hw => ?_⟩
  obtain ⟨a, xs, rfl, hq, hl, hw⟩ := hw
  cases r
  rw [assign_Tuple]
  refine wpAny_bind (wpAny_standAt ?_)
  unfold unpack
  rw [hn, hst]
  refine wpAny_bind (wpAny_holding ?_)
  have fin : ∀ (its : List Value) (hz : xs.length ≤ sizeLine) (rv : Vals xs its) (h' : Heap) (tk : Nat), (∀ b o, s.heap.get? b = some o → h'.get? b = some o) →
      wpAny (model X.prog X.w) X.A (assignInOrder ((assignEach es X.env).map (·.2)) (its.take i ++ [.ref h'.objs.size] ++ its.drop (its.length - (n - 1 - i)))) (fun _ s' => ∃ σ' H', Inv X pins σ' H' s' ∧ Q σ' H') X.xe { s with heap := h'.push { cls := .type "list", data := .seq ((its.drop i).take (its.length - (n - 1))).toArray }, toks := tk } := by
    intro its hz rv h' tk hk
    have I1 : Inv X pins σ H { s with heap := h', toks := tk } := I.kept hk
    have hlen := rv.length
    have I2 := I1.lnew (its := (its.drop i).take (its.length - (n - 1))) (t' := tk) (ys := (xs.drop i).take (xs.length - (n - 1))) (by rw [← hlen]; exact (rv.drop i).take _) (by simp; omega)
    have hw' := hw h'.objs.size I1.fresh
    refine h.run pins _ σ _ _ _ Q I2 ?_ hw'
    have e1 : xs.length - (n - 1 - i) = its.length - (n - 1 - i) := by rw [hlen]
    rw [e1]
    have r0 : Vals [V.ref h'.objs.size] [Value.ref h'.objs.size] := .cons rfl .nil
    exact ((rv.take i).append r0).append (rv.drop _)
  rcases hq with hq | hq
  · obtain ⟨its, rv, p, hz⟩ := I.tuple hq
    have hlen := rv.length
    have hne : a ≠ s.heap.objs.size := Nat.ne_of_lt p.lt
    refine unpack_star (T := "tuple_iterator") (o := { cls := .type "tuple_iterator", data := .fields #[.ref a, .int 0 0] }) (.inr rfl) rfl rfl (fun Q hQ => ?_) (fun Q hQ => iter_tuple p hQ) hne p.lt (fun A' hA => Walks.tuple hA _ a hne its.toArray) (I.ok.hd hc)
      ⟨⟨_, Heap.get?_push_size _ rfl, rfl, rfl⟩, Heap.IsTuple.push (show s.heap.IsTuple a its.toArray from p) _⟩ (fun j h st => ?_) (by omega) hin (by omega) fun h' tk hk => fin its hz rv h' tk hk
    · unfold notIterableAtAll
      refine wpAny_bind (wpAny_specialOf p.typeIs slot_tuple_iter.lookup ?_)
      exact wpAny_pure hQ
    · obtain ⟨o, e, c, _⟩ := st.1
      exact ⟨o, e, c⟩
  · obtain ⟨its, rv, p, hz⟩ := I.list hq
    have hlen := rv.length
    have hne : a ≠ s.heap.objs.size := Nat.ne_of_lt p.lt
    refine unpack_star (T := "list_iterator") (o := { cls := .type "list_iterator", data := .fields #[.ref a, .int 0 0] }) (.inl rfl) rfl rfl (fun Q hQ => ?_) (fun Q hQ => wpAny_pyIter_list p.isList hQ) hne p.lt (fun A' hA => Walks.list hA _ a hne its.toArray) (I.ok.hd hc)
      ⟨⟨_, Heap.get?_push_size _ rfl, rfl, rfl⟩, p.isList.at fun o e => Heap.get?_push_of_some _ e⟩ (fun j h st => ?_) (by omega) hin (by omega) fun h' tk hk => fin its hz rv h' tk hk
    · unfold notIterableAtAll
      refine wpAny_bind (wpAny_specialOf p.isList.typeIs slot_list_iter.lookup ?_)
      exact wpAny_pure hQ
    · obtain ⟨o, e, c, _⟩ := st.1
      exact ⟨o, e, c⟩
def gmStar (mu : Bool) (i n : Nat) (pts : List Pat) : Gm := fun u env S => match itmU S u with
  | some us => if n - 1 ≤ us.length then (
      let mid := (us.drop i).take (us.length - (n - 1))
      let star : U := if mu then .ref S.length else .lst mid
      match bindPs pts (us.take i ++ [star] ++ us.drop (us.length - (n - 1 - i))) with
      | some bs => some (setAll env bs, if mu then S ++ [.lst mid] else S)
      | none => none) else none
  | none => none
theorem itmU_ok {K : PySem.W.Frag} {m : Mp} {H : Hp} {S : Sto} (st : Rst K G m H S) {u : U} {v : V} {us : List U} (r : RU K G m H u v) (h : itmU S u = some us) : ∃ a vs, v = .ref a ∧ (SqT K H a vs ∨ SqL K H a vs) ∧ RUs K G m H us vs := by
  cases u with
  | tup us' =>
    cases h
    obtain ⟨a, vs, rfl, hq, rv⟩ := r.tupT
    exact ⟨a, vs, rfl, .inl hq, rv⟩
  | lst us' =>
    cases h
    obtain ⟨a, vs, rfl, hq, rv⟩ := r.lstL
    exact ⟨a, vs, rfl, .inr hq, rv⟩
  | scr us' =>
    cases h
    obtain ⟨a, vs, rfl, hq, rv⟩ := r.scrL
    exact ⟨a, vs, rfl, .inr hq, rv⟩
  | ref n =>
    simp only [itmU] at h
    split at h
    · rename_i us' e
      cases h
      obtain ⟨a, ho, ha, hH, vs, rfl, rv⟩ := st.at e
      unfold RU at r
      obtain ⟨a', rfl, ha'⟩ := r
      rw [ha] at ha'; cases ha'
      exact ⟨a, vs, rfl, .inr (SqL.of hH), rv⟩
    · cases h
  | _ => cases h
theorem eps_star {p : Pos} {pt : Pat} {pts : List Pat} (h1 : EPt X e pt) (h2 : EPts X es pts) (hs : (assignEach (.Starred e p :: es) X.env).map (·.2) = assign e X.env :: (assignEach es X.env).map (·.2) := by rfl) : EPts X (.Starred e p :: es) (pt :: pts) :=
  (pgs_star h1 h2 hs).imp fun vs σ H Q ⟨bs, h, q⟩ => by
    unfold PatVs at h
    obtain ⟨v, r, b1, b2, rfl, rfl, h1, h2⟩ := h
    rw [setAll_app] at q
    exact ⟨v, r, rfl, b1, h1, b2, h2, q⟩
theorem eg_star {k i n : Nat} {pts : List Pat} (mu : Bool) (hc : X.calm = true) (h : EPts X es pts) (hin : i < n) (hn : (assignEach es X.env).length = n := by rfl) (hst : (assignEach es X.env).findIdx? (·.1) = some i := by rfl) : EG G X (.Tuple es k pos) (gmStar mu i n pts) :=
  (pg_star hc h hin hn hst).imp fun v σ H Q ⟨m, S, env, u, env', S', st, re, r, hc, q⟩ => by
    unfold gmStar at hc
    split at hc
    · rename_i us e1
      split at hc
      · rename_i hl
        obtain ⟨a, vs, rfl, hq, rv⟩ := itmU_ok st r e1
        have hlen := rv.length
        refine ⟨a, vs, rfl, hq, by omega, fun p hp => ?_⟩
        cases mu with
        | false =>
          simp only [Bool.false_eq_true, if_false] at hc
          split at hc
          · rename_i bs eb
            cases hc
            have x1 : Ext m H m (upd H p (.lst ((vs.drop i).take (vs.length - (n - 1))))) := Ext.upd hp
            have rm : RUs X.K G m H ((us.drop i).take (us.length - (n - 1))) ((vs.drop i).take (vs.length - (n - 1))) := by rw [hlen]; exact (rv.drop i).take _
            have rs := RU.newLst st hp rm
            have rv1 := RUs.keep x1.keeps _ _ rv
            have rall : RUs X.K G m (upd H p (.lst ((vs.drop i).take (vs.length - (n - 1))))) (us.take i ++ [.lst ((us.drop i).take (us.length - (n - 1)))] ++ us.drop (us.length - (n - 1 - i))) (vs.take i ++ [.ref p] ++ vs.drop (vs.length - (n - 1 - i))) := by
              have e2 : vs.length - (n - 1 - i) = us.length - (n - 1 - i) := by rw [hlen]
              rw [e2]
              exact ((rv1.take i).append (RUs.one rs)).append (rv1.drop _)
            obtain ⟨bv, h1, h2⟩ := bindPs_ok _ _ _ _ eb rall
            exact ⟨bv, h1, q m _ _ x1 (st.new hp) ((re.keep x1.keeps).setAll h2)⟩
          · cases hc
        | true =>
          simp only [if_true] at hc
          split at hc
          · rename_i bs eb
            cases hc
            have x1 : Ext m H ⟨m.c ++ [p], m.x⟩ (upd H p (.lst ((vs.drop i).take (vs.length - (n - 1))))) := Ext.cell hp
            have rm : RUs X.K G m H ((us.drop i).take (us.length - (n - 1))) ((vs.drop i).take (vs.length - (n - 1))) := by rw [hlen]; exact (rv.drop i).take _
            have rv1 := RUs.keep x1.keeps _ _ rv
            have at' : (m.c ++ [p])[S.length]? = some p := by rw [← st.len]; simp
            have rs : RU X.K G ⟨m.c ++ [p], m.x⟩ (upd H p (.lst ((vs.drop i).take (vs.length - (n - 1))))) (.ref S.length) (.ref p) := RU.cell at'
            have rall : RUs X.K G ⟨m.c ++ [p], m.x⟩ (upd H p (.lst ((vs.drop i).take (vs.length - (n - 1))))) (us.take i ++ [.ref S.length] ++ us.drop (us.length - (n - 1 - i))) (vs.take i ++ [.ref p] ++ vs.drop (vs.length - (n - 1 - i))) := by
              have e2 : vs.length - (n - 1 - i) = us.length - (n - 1 - i) := by rw [hlen]
              rw [e2]
              exact ((rv1.take i).append (RUs.one rs)).append (rv1.drop _)
            obtain ⟨bv, h1, h2⟩ := bindPs_ok _ _ _ _ eb rall
            exact ⟨bv, h1, q _ _ _ x1 (st.push hp ⟨_, rfl, RUs.keep x1.keeps _ _ rm⟩) ((re.keep x1.keeps).setAll h2)⟩
          · cases hc
      · cases hc
    · cases hc
end
end OF
namespace OF
open PySem PySem.Spec PyProof.Rows L2
variable {X : Cx} {G : Gx}
variable {e o a b c tg iter : Expr} {es : List Expr} {ca cb cc : Cm U} {cl ck : Cm (List U)} {pos apos cpos p : Pos} {x : Str}
theorem re_cb {K : PySem.W.Frag} {f : OpN} {σ : L2.St} {H : Hp} {Q : VK} (h : RE K G (cArg f cl) σ H Q) : tCB (rNU K G f) (RA K G cl) σ H Q := re_arg h
theorem ee_callB {id : String} {f : OpN} (hc : CallU G X (.builtin id) f) (hg : Gl X x) (hm : X.mg x = none) (hv : bootBuiltins x = some (.builtin id)) (ha : EA G X (e :: es) cl) (hn : x ≠ "__name__" := by decide) (hdb : (x == ("__debug__" : Str)) = false := by decide)
    (he : starEach (e :: es) X.env = (false, eval e X.env) :: starEach es X.env := by rfl) (hpl : (backTo pos (starEach es X.env)).any (·.1) = false := by rfl) : EE G X (.Call (.Name x p) (e :: es) [] pos) (cArg f cl) := (pe_callB hc hg hm hv ha hn hdb he hpl).imp fun _ _ _ => re_cb
theorem ee_callTy {T : String} {f : OpN} (hc : CallU G X (.type T) f) (hg : Gl X x) (hm : X.mg x = none) (hv : bootBuiltins x = some (.type T)) (ha : EA G X (e :: es) cl) (hn : x ≠ "__name__" := by decide) (hdb : (x == ("__debug__" : Str)) = false := by decide)
    (he : starEach (e :: es) X.env = (false, eval e X.env) :: starEach es X.env := by rfl) (hpl : (backTo pos (starEach es X.env)).any (·.1) = false := by rfl) : EE G X (.Call (.Name x p) (e :: es) [] pos) (cArg f cl) := (pe_callTy hc hg hm hv ha hn hdb he hpl).imp fun _ _ _ => re_cb
def on1 (f : Op1) : OpN := fun us S => match us with
  | [u] => f u S
  | _ => none
def on2 (f : Op2) : OpN := fun us S => match us with
  | [u, w] => f u w S
  | _ => none
theorem on1_some {f : Op1} {us : List U} {S : Sto} {r : U × Sto} (h : on1 f us S = some r) : ∃ u, us = [u] ∧ f u S = some r := by
  unfold on1 at h
  split at h
  · exact ⟨_, rfl, h⟩
  · cases h
theorem on2_some {f : Op2} {us : List U} {S : Sto} {r : U × Sto} (h : on2 f us S = some r) : ∃ u w, us = [u, w] ∧ f u w S = some r := by
  unfold on2 at h
  split at h
  · exact ⟨_, _, rfl, h⟩
  · cases h
section
variable {K : PySem.W.Frag} {m : Mp} {H : Hp} {S : Sto}
theorem RUs.one1 {u : U} {vs : List V} (r : RUs K G m H [u] vs) : ∃ v, vs = [v] ∧ RU K G m H u v := by
  obtain ⟨v, t, e, q, tl⟩ := r.uncons
  rw [tl.eqnil] at e
  exact ⟨v, e, q⟩
theorem RUs.two {u w : U} {vs : List V} (r : RUs K G m H [u, w] vs) : ∃ v z, vs = [v, z] ∧ RU K G m H u v ∧ RU K G m H w z := by
  obtain ⟨v, t, e, q, tl⟩ := r.uncons
  obtain ⟨z, e2, q2⟩ := tl.one1
  rw [e2] at e
  exact ⟨v, z, e, q, q2⟩
end
def lenU : Op1 := fun u S => match u with
  | .str y => if y.length ≤ sizeLine then some (.int y.length, S) else none
  | u => match itmU S u with
    | some us => some (.int us.length, S)
    | none => none
theorem cu_len : CallU G X (.builtin "len") (on1 lenU) := CallR.imp call_len fun xs H Q ⟨m, S, us, z, S', st, r0, e0, q⟩ => by
  obtain ⟨u, rfl, e⟩ := on1_some e0
  obtain ⟨v, rfl, r⟩ := r0.one1
  unfold lenU at e
  split at e
  · split at e
    · cases e
      cases r
      exact ⟨_, _, rfl, ⟨by assumption, rfl⟩, q.here st rfl⟩
    · cases e
  · split at e
    · rename_i us e1
      cases e
      obtain ⟨a, vs, rfl, hq, rv⟩ := itmU_ok st r e1
      refine ⟨_, vs.length, rfl, ?_, q.here st (by rw [rv.length]; rfl)⟩
      rcases hq with hq | hq
      · exact .inr ⟨vs, hq, rfl⟩
      · exact .inl ⟨vs, hq, rfl⟩
    · cases e
def absU : Op1 := o1I fun i => .int (if i < 0 then -i else i)
theorem o1I_some {f : Int → U} {u : U} {S : Sto} {r : U × Sto} (h : o1I f u S = some r) : ∃ i, u = .int i ∧ r = (f i, S) := by
  unfold o1I at h
  split at h
  · cases h; exact ⟨_, rfl, rfl⟩
  · cases h
theorem cu_abs : CallU G X (.builtin "abs") (on1 absU) := CallR.imp call_abs fun xs H Q ⟨m, S, us, z, S', st, r0, e0, q⟩ => by
  obtain ⟨u, rfl, e⟩ := on1_some e0
  obtain ⟨v, rfl, r⟩ := r0.one1
  obtain ⟨i, rfl, er⟩ := o1I_some e
  cases er
  cases r
  exact ⟨i, rfl, q.here st rfl⟩
def maxU : Op2 := o2I fun i j => some (.int (if j > i then j else i))
def minU : Op2 := o2I fun i j => some (.int (if j < i then j else i))
theorem cu_max (hc : X.calm = true) : CallU G X (.builtin "max") (on2 maxU) := CallR.imp (call_max2 hc) fun xs H Q ⟨m, S, us, z, S', st, r0, e0, q⟩ => by
  obtain ⟨u, w, rfl, e⟩ := on2_some e0
  obtain ⟨v, v2, rfl, r, r2⟩ := r0.two
  obtain ⟨i, j, y, rfl, rfl, e1, er⟩ := o2I_some e
  cases e1; cases er; cases r; cases r2
  exact ⟨i, j, rfl, q.here st rfl⟩
theorem cu_min (hc : X.calm = true) : CallU G X (.builtin "min") (on2 minU) := CallR.imp (call_min2 hc) fun xs H Q ⟨m, S, us, z, S', st, r0, e0, q⟩ => by
  obtain ⟨u, w, rfl, e⟩ := on2_some e0
  obtain ⟨v, v2, rfl, r, r2⟩ := r0.two
  obtain ⟨i, j, y, rfl, rfl, e1, er⟩ := o2I_some e
  cases e1; cases er; cases r; cases r2
  exact ⟨i, j, rfl, q.here st rfl⟩
def intU : Op1 := fun u S => match u with
  | .int i => some (.int i, S)
  | .bl k => some (.int (if k then 1 else 0), S)
  | _ => none
theorem cu_int : CallU G X (.type "int") (on1 intU) := CallR.imp call_int1 fun xs H Q ⟨m, S, us, z, S', st, r0, e0, q⟩ => by
  obtain ⟨u, rfl, e⟩ := on1_some e0
  obtain ⟨v, rfl, r⟩ := r0.one1
  unfold intU at e
  split at e
  · cases e; cases r
    exact .inl ⟨_, rfl, q.here st rfl⟩
  · cases e; cases r
    exact .inr ⟨_, rfl, q.here st rfl⟩
  · cases e
def tupleU : Op1 := fun u S => match itmU S u with
  | some us => some (.tup us, S)
  | none => none
theorem cu_tuple : CallU G X (.type "tuple") (on1 tupleU) := CallR.imp call_tuple_of fun xs H Q ⟨m, S, us, z, S', st, r0, e0, q⟩ => by
  obtain ⟨u, rfl, e⟩ := on1_some e0
  obtain ⟨v, rfl, r⟩ := r0.one1
  unfold tupleU at e
  split at e
  · rename_i us e1
    cases e
    cases u with
    | tup us' =>
      cases e1
      have r' := r
      obtain ⟨a, vs, rfl, hq, rv⟩ := r.tupT
      exact ⟨a, vs, rfl, .inr ⟨hq, q.here st r'⟩⟩
    | lst us' =>
      cases e1
      obtain ⟨a, vs, rfl, hq, rv⟩ := r.lstL
      exact ⟨a, vs, rfl, .inl ⟨hq, q.tup st rv⟩⟩
    | scr us' =>
      cases e1
      obtain ⟨a, vs, rfl, hq, rv⟩ := r.scrL
      exact ⟨a, vs, rfl, .inl ⟨hq, q.tup st rv⟩⟩
    | ref n =>
      simp only [itmU] at e1
      split at e1
      · rename_i us' es
        cases e1
        obtain ⟨a, ho, ha, hH, vs, rfl, rv⟩ := st.at es
        unfold RU at r
        obtain ⟨a', rfl, ha'⟩ := r
        rw [ha] at ha'; cases ha'
        exact ⟨a, vs, rfl, .inl ⟨SqL.of hH, q.tup st rv⟩⟩
      · cases e1
    | _ => cases e1
  · cases e
def tyU (S : Sto) : U → Option String
  | .non => some "NoneType"
  | .bl _ => some "bool"
  | .int _ => some "int"
  | .str _ => some "str"
  | .tup _ => some "tuple"
  | .lst _ => some "list"
  | .dct _ => some "dict"
  | .ref n => match S[n]? with
    | some (.lst _) => some "list"
    | some (.dct _) => some "dict"
    | some (.dtt _) => some "dict"
    | _ => none
  | _ => none
theorem tyU_ok {K : PySem.W.Frag} {m : Mp} {H : Hp} {S : Sto} (st : Rst K G m H S) {u : U} {v : V} {T : String} (r : RU K G m H u v) (h : tyU S u = some T) : TyX K H v (.type T) := by
  cases u with
  | non => cases r; cases h; exact .base .non
  | bl b => cases r; cases h; exact .base (.bl b)
  | int i => cases r; cases h; exact .base (.int i)
  | str x => cases r; cases h; exact .base (.str x)
  | tup us =>
    cases h
    unfold RU at r
    obtain ⟨a, vs, rfl, hq, rv⟩ := r
    rcases hq with ⟨hq, _⟩ | ⟨_, o, _, _, hk, hc, _⟩
    · exact .base (.tup hq)
    · exact .kTuple hk hc
  | lst us =>
    cases h
    obtain ⟨a, vs, rfl, hq, _⟩ := r.lstR
    rcases hq with hq | ⟨o, hq⟩
    · exact .base (.lst hq)
    · exact .base (.frz hq)
  | dct us =>
    cases h
    unfold RU at r
    obtain ⟨a, vs, rfl, hq, _⟩ := r
    rcases hq with hq | ⟨o, hq⟩
    · exact .base (.dK hq)
    · exact .fDict hq
  | ref n =>
    unfold RU at r
    obtain ⟨a', rfl, ha'⟩ := r
    simp only [tyU] at h
    split at h
    · rename_i us e
      cases h
      obtain ⟨a, ho, ha, hH, vs, rfl, rv⟩ := st.at e
      rw [ha] at ha'; cases ha'
      exact .base (.lst hH)
    · rename_i us e
      cases h
      obtain ⟨a, ho, ha, hH, vs, rfl, rv⟩ := st.at e
      rw [ha] at ha'; cases ha'
      exact .base (.dK hH)
    · rename_i us e
      cases h
      obtain ⟨a, ho, ha, hH, vs, rfl, rv⟩ := st.at e
      rw [ha] at ha'; cases ha'
      exact .base (.dT hH)
    · cases h
  | _ => cases h
def cIsi (T : String) (c : Cm U) : Cm U := fun env S => match c env S with
  | none => none
  | some (u, S1) => match tyU S1 u with
    | none => none
    | some t => match kitB t T with
      | some r => some (.bl r, S1)
      | none => none
theorem ee_isi {T : String} {xT : Str} {pT : Pos} (hg : Gl X "isinstance") (hm : X.mg "isinstance" = none) (hgT : Gl X xT) (hmT : X.mg xT = none) (hvT : bootBuiltins xT = some (.type T)) (ha : EE G X a ca) (hnT : xT ≠ "__name__" := by decide) (hdT : (xT == ("__debug__" : Str)) = false := by decide)
    (he : starEach [a, .Name xT pT] X.env = (false, eval a X.env) :: starEach [.Name xT pT] X.env := by rfl) (he2 : starEach [.Name xT pT] X.env = (false, eval (.Name xT pT) X.env) :: starEach [] X.env := by rfl) (hpl : (backTo pos (starEach [.Name xT pT] X.env)).any (·.1) = false := by rfl) :
    EE G X (.Call (.Name "isinstance" p) [a, .Name xT pT] [] pos) (cIsi T ca) :=
  (pe_callB call_isi hg hm (by decide +kernel) (pa_cons ha (pa_cons (pe_bltn (v := .ty T) hgT hmT hvT rfl hnT hdT) pa_nil he2) he) (he := he) (hpl := hpl)).imp fun σ H Q ⟨m, S, env, z, S', st, re, hc, q⟩ => by
    unfold cIsi at hc
    split at hc
    · cases hc
    · rename_i u S1 e1
      split at hc
      · cases hc
      · rename_i t e2
        split at hc
        · rename_i r e3
          cases hc
          refine ⟨m, S, _, u, _, st, re, e1, fun m1 H1 v x1 st1 r1 => ?_⟩
          exact ⟨v, .ty T, .type t, .type T, r, rfl, .ty T, tyU_ok st1 r1 e2, kit_ty e3, q m1 H1 _ x1 st1 rfl⟩
        · cases hc
theorem ee_glob {u : U} {v : V} {w : Value} (hg : Gl X x) (hm : X.mg x = some w) (r : RelV v w) (hr : ∀ m H, RU X.K G m H u v) (hd : (x == ("__debug__" : Str)) = false := by decide) : EE G X (.Name x pos) (cCst u) := ee_cst u (pe_glob hg hm r hd) hr
def KTab (K : PySem.W.Frag) (w : World) (G : Gx) (d : Addr) (tbl : List (Str × U)) : Prop := ∀ z u, tbl.lookup z = some u → ∃ v, KDct K w d z v ∧ ∀ m H, RU K G m H u v
def cTab (tbl : List (Str × U)) (c : Cm U) : Cm U := fun env S => match c env S with
  | some (.str z, S1) => match tbl.lookup z with
    | some u => some (u, S1)
    | none => none
  | _ => none
theorem ee_tab {d : Addr} {tbl : List (Str × U)} {xpos : Pos} (hg : Gl X x) (hm : X.mg x = some (.ref d)) (hT : KTab X.K X.w G d tbl) (hb : EE G X b cb) (hs : PlainIx b := by intro _ _; rfl) (hd : (x == ("__debug__" : Str)) = false := by decide) : EE G X (.Subscript (.Name x xpos) b pos) (cTab tbl cb) :=
  (pe_ix ix_kdict (pe_glob (v := .ref d) hg hm rfl hd) hb hs).imp fun σ H Q ⟨m, S, env, z, S', st, re, hc, q⟩ => by
    unfold cTab at hc
    split at hc
    · rename_i k S1 e1
      split at hc
      · rename_i u e2
        cases hc
        obtain ⟨v, hk, hr⟩ := hT _ _ e2
        exact ⟨m, S, _, .str k, _, st, re, e1, fun m1 H1 y x1 st1 r1 => ⟨d, k, v, rfl, r1, hk, q m1 H1 v x1 st1 (hr m1 H1)⟩⟩
      · cases hc
    · cases hc
def cTabCall (F : Str → Option OpN) (c : Cm U) (r : Cm (List U)) : Cm U := fun env S => match c env S with
  | some (.fn n, S1) => match r env S1 with
    | some (us, S2) => match F n with
      | some f => f us S2
      | none => none
    | none => none
  | _ => none
theorem ee_callE {f0 : Expr} {F : Str → Option OpN} {k : Nat} (hf : EE G X f0 ca) (hF : ∀ n f, F n = some f → ∀ A, G.fns n = some A → ∃ fd ps, FnOk X.prog X.w X.K X.mg X.base CX0 k A fd ps (spU X.K G f) ∧ PySem.W.keepIn X.K (.ref A) = true ∧ Binds X.K fd ps []) (hr : Room k X.A) (ha : EA G X (e :: es) cl)
    (hev : eval (.Call f0 (e :: es) [] pos) X.env = (do callWith pos (← eval f0 X.env) [] (backTo pos (starEach (e :: es) X.env)) (backToKw pos (keywordEach [] X.env))) := by rfl)
    (he : starEach (e :: es) X.env = (false, eval e X.env) :: starEach es X.env := by rfl) (hpl : (backTo pos (starEach es X.env)).any (·.1) = false := by rfl) : EE G X (.Call f0 (e :: es) [] pos) (cTabCall F ca cl) := by
  refine ⟨fun pins s σ H Q I ⟨m, S, env, z, S', st, re, hc, q⟩ => ?_⟩
  unfold cTabCall at hc
  split at hc
  · rename_i n S1 e1
    split at hc
    · rename_i us S2 e2
      split at hc
      · rename_i f e3
        refine Call_ (thn (hf.run pins s σ H (fun v H1 => ∃ m1, Ext m H m1 H1 ∧ Rst X.K G m1 H1 S1 ∧ RU X.K G m1 H1 (.fn n) v) I ⟨m, S, env, _, S1, st, re, e1, fun m1 H1 v x1 st1 r1 => ⟨m1, x1, st1, r1⟩⟩) fun u s1 ⟨v, H1, I1, rv, m1, x1, st1, r1⟩ => ?_) hev
        unfold RU at r1
        obtain ⟨A, rfl, hA⟩ := r1
        cases rv
        obtain ⟨fd, ps, hok, hk, hb⟩ := hF n f e3 A hA
        refine PySem.W.callWith_K (h₀ := X.base) I.ok.mod.kin hk (thn (ha.run pos pins s1 σ H1 (fun vs H2 => spU X.K G f vs H2 Q E0) I1 ⟨m1, S1, env, us, S2, st1, re.keep x1.keeps, e2, fun m2 H2 vs x2 st2 r2 => ⟨m2, S2, us, z, S', st2, r2, hc, (q.mono x1).mono x2⟩⟩) fun us' s2 ⟨vs, H2, I2, r, q2⟩ => ⟨I2.kIn, ?_⟩) he hpl
        exact run_fn (dvs := []) hok hr hb .nil pass0 I2 r (by rw [List.append_nil]; exact q2)
      · cases hc
    · cases hc
  · cases hc
def cMth (f : U → OpN) (a : Cm U) (r : Cm (List U)) : Cm U := fun env S => match a env S with
  | none => none
  | some (u, S1) => match r env S1 with
    | none => none
    | some (us, S2) => f u us S2
def tyOkU (T : String) (S : Sto) : U → Bool
  | .str _ => T == "str"
  | .lst _ => T == "list"
  | .ref n => match S[n]? with
    | some (.lst _) => T == "list"
    | some (.dct _) => T == "dict"
    | some (.dtt _) => T == "dict"
    | _ => false
  | _ => false
theorem tyOkU_ok {K : PySem.W.Frag} {m : Mp} {H : Hp} {S : Sto} {T : String} (st : Rst K G m H S) {u : U} {v : V} (r : RU K G m H u v) (h : tyOkU T S u = true) : tyV K T v H := by
  cases u with
  | str x => cases r; exact eq_of_beq h
  | lst us =>
    obtain ⟨a, vs, rfl, hq, rv⟩ := r.lstL
    exact .inl ⟨eq_of_beq h, vs, hq⟩
  | ref n =>
    unfold RU at r
    obtain ⟨a', rfl, ha'⟩ := r
    simp only [tyOkU] at h
    split at h
    · rename_i us e
      obtain ⟨a, ho, ha, hH, vs, rfl, rv⟩ := st.at e
      rw [ha] at ha'; cases ha'
      exact .inl ⟨eq_of_beq h, vs, SqL.of hH⟩
    · rename_i us e
      obtain ⟨a, ho, ha, hH, vs, rfl, rv⟩ := st.at e
      rw [ha] at ha'; cases ha'
      exact .inr (.inr (.inl ⟨eq_of_beq h, .inl ⟨vs, hH⟩⟩))
    · rename_i us e
      obtain ⟨a, ho, ha, hH, vs, rfl, rv⟩ := st.at e
      rw [ha] at ha'; cases ha'
      exact .inr (.inr (.inl ⟨eq_of_beq h, .inr ⟨vs, hH⟩⟩))
    · cases h
  | _ => cases h
def cMt (T : String) (f : U → OpN) (a : Cm U) (r : Cm (List U)) : Cm U := fun env S => match a env S with
  | none => none
  | some (u, S1) => if tyOkU T S1 u = true then (match r env S1 with
    | none => none
    | some (us, S2) => f u us S2) else none
abbrev MtU (G : Gx) (X : Cx) (id : String) (f : U → OpN) : Prop := MtR X id (rMU X.K G f)
theorem MtR.imp {id : String} {r r' : V → List V → Hp → VK → Prop} (h : MtR X id r) (i : ∀ x xs H Q, r' x xs H Q → r x xs H Q) : MtR X id r' := fun pins s σ H x xs v us Q I rx rv q => h pins s σ H x xs v us Q I rx rv (i x xs H Q q)
variable {name : Str} {T id : String} {f : U → OpN}
theorem re_mt {K : PySem.W.Frag} {σ : L2.St} {H : Hp} {Q : VK} (h : RE K G (cMt T f ca cl) σ H Q) : tBM K T (rMU K G f) (RE K G ca) (RA K G cl) σ H Q := by
  obtain ⟨m, S, env, z, S', st, re, hc, q⟩ := h
  unfold cMt at hc
  split at hc
  · cases hc
  · rename_i u S1 e1
    split at hc
    · rename_i ht
      split at hc
      · cases hc
      · rename_i us S2 e2
        refine ⟨m, S, env, u, S1, st, re, e1, fun m1 H1 v x1 st1 r1 => ⟨tyOkU_ok st1 r1 ht, m1, S1, env, us, S2, st1, re.keep x1.keeps, e2, fun m2 H2 xs x2 st2 r2 => ?_⟩⟩
        exact ⟨m2, S2, u, us, z, S', st2, RU.keep x2.keeps _ _ r1, r2, hc, (q.mono x1).mono x2⟩
    · cases hc
theorem ee_mt (pa : PlainAttrs T) (slot : Slot T name id) (hty : typeOf (.builtin id) = pure (.type "method_descriptor")) (hm : MtU G X id f) (ho : EE G X o ca) (ha : EA G X (e :: es) cl)
    (hbase : attributeBase o name X.env (eval o X.env) = eval o X.env := by rfl)
    (hfew : ((backTo cpos (starEach (e :: es) X.env)).all (fun x => !x.1) && (backToKw cpos (keywordEach [] X.env)).all (fun x => x.1.isSome)
      && decide ((e :: es).length + ([] : List Keyword).length + (if ([] : List Keyword).isEmpty then 0 else 1) < 30)) = true := by rfl)
    (hline : (apos.endLine == cpos.line) = true := by rfl) (hs : starEach (e :: es) X.env = (false, eval e X.env) :: starEach es X.env := by rfl) (hplain : (backTo cpos (starEach es X.env)).any (·.1) = false := by rfl) :
    EE G X (.Call (.Attribute o name apos) (e :: es) [] cpos) (cMt T f ca cl) := (pe_bm pa slot hty hm ho ha hbase hfew hline hs hplain).imp fun _ _ _ => re_mt
def cellL (S : Sto) (u : U) (k : Nat → List U → Option (U × Sto)) : Option (U × Sto) := match u with
  | .ref n => match S[n]? with
    | some (.lst us) => k n us
    | _ => none
  | _ => none
theorem cellL_some {S : Sto} {u : U} {k : Nat → List U → Option (U × Sto)} {r : U × Sto} (h : cellL S u k = some r) : ∃ n us, u = .ref n ∧ S[n]? = some (.lst us) ∧ k n us = some r := by
  unfold cellL at h
  split at h
  · rename_i n
    split at h
    · rename_i us e
      exact ⟨n, us, rfl, e, h⟩
    · cases h
  · cases h
theorem RU.cellAt {K : PySem.W.Frag} {m : Mp} {H : Hp} {n : Nat} {v : V} (h : RU K G m H (.ref n) v) : ∃ a, v = .ref a ∧ m.c[n]? = some a := by
  unfold RU at h
  exact h
theorem After.setc {K : PySem.W.Frag} {m : Mp} {H : Hp} {S : Sto} {n : Nat} {a : Addr} {u : U} {v : V} {o : O} {ho : HO} {Q : VK} (q : After K G m H u (S.set n o) Q) (st : Rst K G m H S) (ha : m.c[n]? = some a) (ro : RO K G m H o ho) (ru : RU K G m H u v) {hz : HO} (hH : H a = some hz) (hf : ∀ ob u, hz ≠ .frz ob u := by intro _ _ e; cases e) : Q v (upd H a ho) := by
  have hm : a ∈ m.c := List.mem_of_getElem? ha
  exact q m _ v (Ext.set hm (fun ob u e => by rw [hH] at e; cases e; exact hf ob u rfl)) (st.set ha (RO.keep (keeps_set hm) _ _ ro)) (RU.keep (keeps_set hm) _ _ ru)
def appU : U → OpN := fun u us S => match us with
  | [y] => cellL S u fun n xs => if xs.length < sizeLine then some (.non, S.set n (.lst (xs ++ [y]))) else none
  | _ => none
theorem mu_append : MtU G X "list.append" appU := MtR.imp mt_append fun x xs H Q ⟨m, S, u, us, z, S', st, r, rs, e, q⟩ => by
  unfold appU at e
  split at e
  · rename_i y
    obtain ⟨n, ws, rfl, es, e1⟩ := cellL_some e
    replace e := e1
    split at e
    · rename_i hl
      cases e
      obtain ⟨a, rfl, ha⟩ := r.cellAt
      obtain ⟨a', ho, ha', hH, vs, rfl, rv⟩ := st.at es
      rw [ha] at ha'; cases ha'
      obtain ⟨v, rfl, ry⟩ := rs.one1
      exact ⟨a, vs, v, rfl, rfl, hH, by rw [rv.length]; exact hl, q.setc st ha ⟨_, rfl, rv.append (RUs.one ry)⟩ rfl hH⟩
    · cases e
  · cases e
def popAtU : U → OpN := fun u us S => match us with
  | [.int i] => cellL S u fun n xs => if -(2 ^ 63) ≤ i ∧ i < 2 ^ 63 then (match seqIndex? i xs.length with
    | some k => match xs[k]? with
      | some y => some (y, S.set n (.lst (xs.eraseIdx k)))
      | none => none
    | none => none) else none
  | _ => none
theorem RUs.eraseIdx {K : PySem.W.Frag} {m : Mp} {H : Hp} {us : List U} {vs : List V} (r : RUs K G m H us vs) (k : Nat) : RUs K G m H (us.eraseIdx k) (vs.eraseIdx k) := by
  rw [List.eraseIdx_eq_take_drop_succ, List.eraseIdx_eq_take_drop_succ]
  exact (r.take k).append (r.drop (k + 1))
theorem mu_popAt : MtU G X "list.pop" popAtU := MtR.imp mt_popAt fun x xs H Q ⟨m, S, u, us, z, S', st, r, rs, e, q⟩ => by
  unfold popAtU at e
  split at e
  · rename_i i
    obtain ⟨n, ws, rfl, es, e1⟩ := cellL_some e
    replace e := e1
    split at e
    · rename_i hi
      split at e
      · rename_i k hk
        split at e
        · rename_i y hy
          cases e
          obtain ⟨a, rfl, ha⟩ := r.cellAt
          obtain ⟨a', ho, ha', hH, vs, rfl, rv⟩ := st.at es
          rw [ha] at ha'; cases ha'
          obtain ⟨w, rfl, rw'⟩ := rs.one1
          cases rw'
          obtain ⟨v, ev, ry⟩ := rv.get hy
          exact ⟨a, vs, i, k, v, rfl, rfl, hH, hi.1, hi.2, by rw [rv.length]; exact hk, ev, q.setc st ha ⟨_, rfl, rv.eraseIdx k⟩ ry hH⟩
        · cases e
      · cases e
    · cases e
  · cases e
def insU : U → OpN := fun u us S => match us with
  | [.int i, y] => cellL S u fun n xs => if xs.length < sizeLine ∧ 0 ≤ i ∧ i < 2 ^ 63 then some (.non, S.set n (.lst (xs.take i.toNat ++ [y] ++ xs.drop i.toNat))) else none
  | _ => none
theorem mu_insert : MtU G X "list.insert" insU := MtR.imp mt_insert fun x xs H Q ⟨m, S, u, us, z, S', st, r, rs, e, q⟩ => by
  unfold insU at e
  split at e
  · rename_i i y
    obtain ⟨n, ws, rfl, es, e1⟩ := cellL_some e
    replace e := e1
    split at e
    · rename_i hi
      cases e
      obtain ⟨a, rfl, ha⟩ := r.cellAt
      obtain ⟨a', ho, ha', hH, vs, rfl, rv⟩ := st.at es
      rw [ha] at ha'; cases ha'
      obtain ⟨w, v, rfl, rw', ry⟩ := rs.two
      cases rw'
      exact ⟨a, vs, i, v, rfl, rfl, hH, by rw [rv.length]; exact hi.1, hi.2.1, hi.2.2, q.setc st ha ⟨_, rfl, ((rv.take _).append (RUs.one ry)).append (rv.drop _)⟩ rfl hH⟩
    · cases e
  · cases e
def startU : U → OpN := fun u us S => match u, us with
  | .str a, [.str b] => some (.bl (Txt.startswith a b), S)
  | _, _ => none
theorem mu_startswith : MtU G X "str.startswith" startU := MtR.imp mt_startswith fun x xs H Q ⟨m, S, u, us, z, S', st, r, rs, e, q⟩ => by
  unfold startU at e
  split at e
  · cases e
    obtain ⟨v, rfl, rv⟩ := rs.one1
    cases rv
    cases r
    exact ⟨_, _, rfl, rfl, q.here st rfl⟩
  · cases e
def sSetI (f : U → U → U → Sto → Option Sto) (o i v : Cm U) : Sm := fun env S => match v env S with
  | none => none
  | some (w, S1) => match o env S1 with
    | none => none
    | some (u, S2) => match i env S2 with
      | none => none
      | some (j, S3) => match f u j w S3 with
        | some S4 => some (.nx, env, S4)
        | none => none
def setL : U → U → U → Sto → Option Sto := fun u j w S => match u, j with
  | .ref n, .int k => match S[n]? with
    | some (.lst us) => match ixN us.length k with
      | some i => some (S.set n (.lst (us.set i w)))
      | none => none
    | _ => none
  | _, _ => none
theorem es_setL {i : Expr} {ci cv : Cm U} {pos' : Pos} (ho : EE G X o ca) (hi : EE G X i ci) (hv : EE G X e cv) (hs : swapsWithSole [.Subscript o i pos'] e pos.line X.env = pure false := by rfl) (hw : swappedStores [.Subscript o i pos'] e X.env = pure none := by rfl)
    (h1 : (assignEach [.Subscript o i pos'] X.env).map (·.2) = [assign (.Subscript o i pos') X.env] := by rfl) (ha : ∀ v, assign (.Subscript o i pos') X.env v = (do
      let ov ← holding [v] (eval o X.env)
      let iv ← holding [v, ov] (eval i X.env)
      standAt pos'
      holding [v, ov, iv] (setItem ov iv v)
      release [v, ov, iv] []) := by intro _; rfl) : ES G X (.Assign [.Subscript o i pos'] e pos) (sSetI setL ca ci cv) :=
  (ps_asg hv (pg_sub ho hi set_list ha) hs hw h1).imp fun D σ H ⟨m, S, env, fl, env', S', st, re, hc, q⟩ => by
    unfold sSetI at hc
    split at hc
    · cases hc
    · rename_i w S1 e1
      split at hc
      · cases hc
      · rename_i u S2 e2
        split at hc
        · cases hc
        · rename_i j S3 e3
          split at hc
          · rename_i S4 e4
            cases hc
            refine ⟨m, S, _, w, S1, st, re, e1, fun m1 H1 v x1 st1 r1 => ⟨m1, S1, _, u, S2, st1, re.keep x1.keeps, e2, fun m2 H2 y x2 st2 r2 => ⟨m2, S2, _, j, S3, st2, (re.keep x1.keeps).keep x2.keeps, e3, fun m3 H3 z x3 st3 r3 => ?_⟩⟩⟩
            unfold setL at e4
            split at e4
            · rename_i n k
              split at e4
              · rename_i us es
                split at e4
                · rename_i i' hi'
                  cases e4
                  obtain ⟨a, rfl, ha⟩ := r2.cellAt
                  have ha3 := x3.at ha
                  obtain ⟨a', ho, ha', hH, vs, rfl, rv⟩ := st3.at es
                  rw [ha3] at ha'; cases ha'
                  cases r3
                  have hm3 : a ∈ m3.c := List.mem_of_getElem? ha3
                  have rw3 := RU.keep (x2.trans x3).keeps _ _ r1
                  have x4 : Ext m3 H3 m3 (upd H3 a (.lst (vs.set i' v))) := Ext.set hm3 (fun ob u e => by rw [hH] at e; cases e)
                  refine ⟨a, vs, k, i', rfl, rfl, hH, by rw [rv.length]; exact hi', ?_⟩
                  exact q m3 _ σ (((x1.trans x2).trans x3).trans x4) (st3.set ha3 ⟨_, rfl, RUs.keep (keeps_set hm3) _ _ (rv.set i' rw3)⟩) ((((re.keep x1.keeps).keep x2.keeps).keep x3.keeps).keep x4.keeps)
                · cases e4
              · cases e4
            · cases e4
          · cases hc
end OF
namespace OF
open PySem PySem.Spec PyProof.Rows L2
variable {X : Cx} {G : Gx}
variable {e f o a b c i tg iter : Expr} {es : List Expr} {ca cb cc ci cv : Cm U} {cl ck : Cm (List U)} {pos apos cpos p : Pos} {x : Str}
def keyU : U → Option Key
  | .int i => some (.inl i)
  | .str x => some (.inr x)
  | _ => none
theorem keyU_ok {K : PySem.W.Frag} {m : Mp} {H : Hp} {u : U} {v : V} {k : Key} (r : RU K G m H u v) (h : keyU u = some k) : v = kV k := by
  cases u with
  | int i => cases r; cases h; rfl
  | str i => cases r; cases h; rfl
  | _ => cases h
def getK {α : Type} (kvs : List (Key × α)) (k : Key) : Option α := (kvs.find? fun kv => decide (kv.1 = k)).map (·.2)
def putKU {α : Type} (kvs : List (Key × α)) (k : Key) (v : α) : List (Key × α) :=
  if (kvs.any fun kv => decide (kv.1 = k)) = true then kvs.map (fun kv => if kv.1 = k then (kv.1, v) else kv) else kvs ++ [(k, v)]
section
variable {K : PySem.W.Frag} {m : Mp} {H : Hp} {S : Sto}
theorem RKs.uncons {k : Key} {u : U} {us : List (Key × U)} {vs : List (Key × V)} (r : RKs K G m H ((k, u) :: us) vs) : ∃ v t, vs = (k, v) :: t ∧ RU K G m H u v ∧ RKs K G m H us t := by
  unfold RKs at r
  exact r
theorem RKs.cons {k : Key} {u : U} {v : V} {us : List (Key × U)} {vs : List (Key × V)} (r : RU K G m H u v) (t : RKs K G m H us vs) : RKs K G m H ((k, u) :: us) ((k, v) :: vs) := by
  unfold RKs
  exact ⟨v, vs, rfl, r, t⟩
theorem RKs.nil : RKs K G m H [] [] := by unfold RKs; rfl
theorem RKs.eqnil {vs : List (Key × V)} (r : RKs K G m H [] vs) : vs = [] := by unfold RKs at r; exact r
theorem RKs.get {k : Key} : ∀ {us : List (Key × U)} {vs : List (Key × V)}, RKs K G m H us vs → (getK us k = none → valV vs k = none) ∧ ∀ u, getK us k = some u → ∃ v, valV vs k = some v ∧ RU K G m H u v
  | [], vs, r => by
    rw [r.eqnil]
    exact ⟨fun _ => rfl, fun u h => (by cases h)⟩
  | (k', u) :: us, vs, r => by
    obtain ⟨v, t, rfl, q, tl⟩ := r.uncons
    have ih := RKs.get (k := k) tl
    by_cases hk : k' = k
    · subst hk
      refine ⟨fun h => ?_, fun w h => ?_⟩
      · simp [getK] at h
      · simp [getK] at h
        subst h
        exact ⟨v, by simp [valV], q⟩
    · have e1 : getK ((k', u) :: us) k = getK us k := by simp [getK, hk]
      have e2 : valV ((k', v) :: t) k = valV t k := by simp [valV, hk]
      rw [e1, e2]
      exact ih
theorem RKs.any {k : Key} : ∀ {us : List (Key × U)} {vs : List (Key × V)}, RKs K G m H us vs → (us.any fun kv => decide (kv.1 = k)) = (vs.any fun kv => decide (kv.1 = k))
  | [], vs, r => by rw [r.eqnil]; rfl
  | (k', u) :: us, vs, r => by
    obtain ⟨v, t, rfl, q, tl⟩ := r.uncons
    simp only [List.any_cons]
    rw [RKs.any tl]
theorem RKs.append : ∀ {us us' : List (Key × U)} {vs vs' : List (Key × V)}, RKs K G m H us vs → RKs K G m H us' vs' → RKs K G m H (us ++ us') (vs ++ vs')
  | [], _, _, _, h, h' => by rw [h.eqnil]; exact h'
  | (k, u) :: us, us', vs, vs', h, h' => by
    obtain ⟨v, t, rfl, q, tl⟩ := h.uncons
    exact RKs.cons q (RKs.append tl h')
theorem RKs.mapPut {k : Key} {w : U} {z : V} (r : RU K G m H w z) : ∀ {us : List (Key × U)} {vs : List (Key × V)}, RKs K G m H us vs → RKs K G m H (us.map fun kv => if kv.1 = k then (kv.1, w) else kv) (vs.map fun kv => if kv.1 = k then (kv.1, z) else kv)
  | [], vs, h => by rw [h.eqnil]; exact RKs.nil
  | (k', u) :: us, vs, h => by
    obtain ⟨v, t, rfl, q, tl⟩ := h.uncons
    simp only [List.map_cons]
    by_cases hk : k' = k
    · rw [if_pos hk, if_pos hk]
      exact RKs.cons r (RKs.mapPut r tl)
    · rw [if_neg hk, if_neg hk]
      exact RKs.cons q (RKs.mapPut r tl)
theorem RKs.put {k : Key} {w : U} {z : V} {us : List (Key × U)} {vs : List (Key × V)} (r : RU K G m H w z) (h : RKs K G m H us vs) : RKs K G m H (putKU us k w) (putK vs k z) := by
  unfold putKU putK
  rw [h.any (k := k)]
  split
  · exact RKs.mapPut r h
  · exact h.append (RKs.cons r RKs.nil)
end
def dctU (S : Sto) : U → Option (List (Key × U))
  | .dct kvs => some kvs
  | .ref n => match S[n]? with
    | some (.dct kvs) => some kvs
    | some (.frd kvs) => some kvs
    | _ => none
  | _ => none
theorem dctU_ok {K : PySem.W.Frag} {m : Mp} {H : Hp} {S : Sto} (st : Rst K G m H S) {u : U} {v : V} {us : List (Key × U)} (r : RU K G m H u v) (h : dctU S u = some us) : ∃ a vs, v = .ref a ∧ Rd H a (.dK vs) ∧ RKs K G m H us vs := by
  cases u with
  | dct us' =>
    cases h
    unfold RU at r
    obtain ⟨a, vs, rfl, hq, _, _, rv⟩ := r
    exact ⟨a, vs, rfl, hq, rv⟩
  | ref n =>
    simp only [dctU] at h
    split at h
    · rename_i us' e
      cases h
      obtain ⟨a, ho, ha, hH, vs, rfl, rv⟩ := st.at e
      obtain ⟨a', rfl, ha'⟩ := r.cellAt
      rw [ha] at ha'; cases ha'
      exact ⟨a, vs, rfl, .inl hH, rv⟩
    · rename_i us' e
      cases h
      obtain ⟨a, ho, ha, hH, ob, vs, rfl, rv⟩ := st.at e
      obtain ⟨a', rfl, ha'⟩ := r.cellAt
      rw [ha] at ha'; cases ha'
      exact ⟨a, vs, rfl, .inr ⟨ob, hH⟩, rv⟩
    · cases h
  | _ => cases h
theorem dctU_keep {K : PySem.W.Frag} {m m2 : Mp} {H H2 : Hp} {S S2 : Sto} (st : Rst K G m H S) {u : U} {v : V} {us : List (Key × U)} (r : RU K G m H u v) (h : dctU S u = some us) : ∃ a, v = .ref a ∧ IsD H a := by
  obtain ⟨a, vs, e, hr, _⟩ := dctU_ok st r h
  exact ⟨a, e, .inl ⟨vs, hr⟩⟩
def cDNew : Cm U := fun _ S => some (.ref S.length, S ++ [.dct []])
theorem ee_dnew : EE G X (.Dict [] [] pos) cDNew := pe_dnewK.imp fun σ H Q ⟨m, S, env, z, S', st, re, hc, q⟩ => by
  cases hc
  exact q.cell st ⟨[], rfl, RKs.nil⟩
def dixU : Op2 := fun a b S => match dctU S a, keyU b with
  | some kvs, some k => match getK kvs k with
    | some u => some (u, S)
    | none => none
  | _, _ => none
theorem ee_dix (hu : X.A.units + 1 < cLine) (ho : EE G X a ca) (hi : EE G X b cb) (hs : NoSl b := by intro _ _; rfl) : EE G X (.Subscript a b pos) (cBin dixU ca cb) := (pe_dget hu ho hi hs).imp fun σ H Q h => by
  obtain ⟨m, S, env, u, S1, st, re, e1, q⟩ := re_op h
  refine ⟨m, S, env, u, S1, st, re, e1, fun m1 H1 x x1 st1 r1 => ?_⟩
  obtain ⟨m2, S2, env2, u2, S3, st2, re2, e2, q2⟩ := q m1 H1 x x1 st1 r1
  refine ⟨m2, S2, env2, u2, S3, st2, re2, e2, fun m3 H3 y x3 st3 r3 => ?_⟩
  obtain ⟨m4, S4, u4, u5, z, S5, st4, r4, r5, e4, q4⟩ := q2 m3 H3 y x3 st3 r3
  unfold dixU at e4
  split at e4
  · rename_i kvs k h1 h2
    split at e4
    · rename_i w hw
      cases e4
      obtain ⟨a, vs, rfl, hr, rk⟩ := dctU_ok st4 r4 h1
      obtain ⟨v, ev, rv⟩ := (rk.get).2 _ hw
      exact ⟨a, v, rfl, .inl ⟨vs, k, hr, keyU_ok r5 h2, ev.symm⟩, q4.here st4 rv⟩
    · cases e4
  · cases e4
def cDGet (d k : Cm U) (x : Cm U) : Cm U := fun env S => match d env S with
  | none => none
  | some (u, S1) => match dctU S1 u with
    | none => none
    | some _ => match k env S1 with
      | none => none
      | some (kk, S2) => match x env S2 with
        | none => none
        | some (z, S3) => match dctU S3 u, keyU kk with
          | some kvs, some k => some ((getK kvs k).getD z, S3)
          | _, _ => none
theorem ee_dget1 (hu : X.A.units + 1 < cLine) (ho : EE G X o ca) (he : EE G X e cb) (mm : M1 X o "get" apos e cpos := by exact ⟨rfl, rfl, rfl, rfl⟩) : EE G X (.Call (.Attribute o "get" apos) [e] [] cpos) (cDGet ca cb (cCst .non)) := (pe_dget1 hu ho he mm).imp fun σ H Q ⟨m, S, env, z, S', st, re, hc, q⟩ => by
  unfold cDGet at hc
  split at hc
  · cases hc
  · rename_i u S1 e1
    split at hc
    · cases hc
    · rename_i kv0 d0
      split at hc
      · cases hc
      · rename_i kk S2 e2
        simp only [cCst] at hc
        split at hc
        · rename_i kvs k h1 h2
          cases hc
          refine ⟨m, S, _, u, S1, st, re, e1, fun m1 H1 v x1 st1 r1 => ?_⟩
          obtain ⟨a, ev, hd⟩ := dctU_keep (m2 := m1) (H2 := H1) (S2 := S1) st1 r1 d0
          refine ⟨a, ev, hd, m1, S1, _, kk, _, st1, re.keep x1.keeps, e2, fun m2 H2 y x2 st2 r2 => ?_⟩
          have r1' := RU.keep x2.keeps _ _ r1
          obtain ⟨a', vs, ev', hr, rk⟩ := dctU_ok st2 r1' h1
          have : a' = a := by rw [ev] at ev'; cases ev'; rfl
          subst this
          refine ⟨valV vs k, .inl ⟨vs, k, hr, keyU_ok r2 h2, rfl⟩, ?_⟩
          have g := rk.get (k := k)
          cases hg : getK kvs k with
          | none =>
            rw [g.1 hg]
            rw [hg] at q
            exact q m2 H2 _ (x1.trans x2) st2 rfl
          | some w =>
            obtain ⟨v', ev', rv'⟩ := g.2 w hg
            rw [ev']
            rw [hg] at q
            exact q m2 H2 _ (x1.trans x2) st2 rv'
        · cases hc
def setD : U → U → U → Sto → Option Sto := fun u j w S => match u, keyU j with
  | .ref n, some k => match S[n]? with
    | some (.dct kvs) => if kvs.length < sizeLine then some (S.set n (.dct (putKU kvs k w))) else none
    | _ => none
  | _, _ => none
theorem es_setD {pos' : Pos} (hu : X.A.units + 1 < cLine) (ho : EE G X o ca) (hi : EE G X i ci) (hv : EE G X e cv) (hs : swapsWith e (some (.Subscript o i pos')) pos.line X.env = pure false := by rfl) : ES G X (.Assign [.Subscript o i pos'] e pos) (sSetI setD ca ci cv) :=
  (ps_dput hu ho hi hv hs).imp fun D σ H ⟨m, S, env, fl, env', S', st, re, hc, q⟩ => by
    unfold sSetI at hc
    split at hc
    · cases hc
    · rename_i w S1 e1
      split at hc
      · cases hc
      · rename_i u S2 e2
        split at hc
        · cases hc
        · rename_i j S3 e3
          split at hc
          · rename_i S4 e4
            cases hc
            refine ⟨m, S, _, w, S1, st, re, e1, fun m1 H1 v x1 st1 r1 => ⟨m1, S1, _, u, S2, st1, re.keep x1.keeps, e2, fun m2 H2 y x2 st2 r2 => ⟨m2, S2, _, j, S3, st2, (re.keep x1.keeps).keep x2.keeps, e3, fun m3 H3 z x3 st3 r3 => ?_⟩⟩⟩
            unfold setD at e4
            split at e4
            · rename_i n k hk
              split at e4
              · rename_i kvs es
                split at e4
                · rename_i hl
                  cases e4
                  obtain ⟨a, rfl, ha⟩ := r2.cellAt
                  have ha3 := x3.at ha
                  obtain ⟨a', ho, ha', hH, vs, rfl, rv⟩ := st3.at es
                  rw [ha3] at ha'; cases ha'
                  have hm3 : a ∈ m3.c := List.mem_of_getElem? ha3
                  have rw3 := RU.keep (x2.trans x3).keeps _ _ r1
                  have x4 : Ext m3 H3 m3 (upd H3 a (.dK (putK vs k v))) := Ext.set hm3 (fun ob u e => by rw [hH] at e; cases e)
                  refine ⟨a, _, rfl, .inl ⟨vs, k, hH, keyU_ok r3 hk, by rw [rv.length]; exact hl, rfl⟩, ?_⟩
                  exact q m3 _ σ (((x1.trans x2).trans x3).trans x4) (st3.set ha3 ⟨_, rfl, RKs.keep (keeps_set hm3) _ _ (rv.put rw3)⟩) ((((re.keep x1.keeps).keep x2.keeps).keep x3.keeps).keep x4.keeps)
                · cases e4
              · cases e4
            · cases e4
          · cases hc
end OF
namespace OF
open PySem PySem.Spec PyProof.Rows L2
variable {X : Cx} {G : Gx}
variable {e f o a b c i tg iter : Expr} {es : List Expr} {ca cb cc ci cv : Cm U} {cl ck : Cm (List U)} {pos apos cpos p : Pos} {x y z : Str}
abbrev oSub : Op2 := o2I fun i j => some (.int (i - j))
abbrev oLt : Op2 := o2I fun i j => some (.bl (decide (i < j)))
abbrev oGt : Op2 := o2I fun i j => some (.bl (decide (j < i)))
abbrev oGe : Op2 := o2I fun i j => some (.bl (decide (j ≤ i)))
abbrev oNeg : Op1 := o1I fun i => .int (-i)
def sPar2 (i j : Nat) (a : Cm (List U)) : Sm := fun env S => match a env S with
  | some ([u, w], S1) => some (.nx, (env.set i (some u)).set j (some w), S1)
  | _ => none
def sPar3 (i j l : Nat) (a : Cm (List U)) : Sm := fun env S => match a env S with
  | some ([u, v, w], S1) => some (.nx, ((env.set i (some u)).set j (some v)).set l (some w), S1)
  | _ => none
theorem es_par2 {i j : Nat} {px py pt : Pos} {kt k2 pt2} (hc : X.calm = true) (hN : X.N.Nodup) (hi : X.N[i]? = some x) (hj : X.N[j]? = some y) (hij : i ≠ j)
    (hx : X.env.scope.names.lookup x = some .local) (hy : X.env.scope.names.lookup y = some .local) (ha : EA G X [a, b] cl)
    (hw : swappedStores [.Tuple [.Name x px, .Name y py] kt pt] (.Tuple [a, b] k2 pt2) X.env = pure (some [x, y]))
    (hs : swapsWithSole [.Tuple [.Name x px, .Name y py] kt pt] (.Tuple [a, b] k2 pt2) pos.line X.env = pure false := by rfl) :
    ES G X (.Assign [.Tuple [.Name x px, .Name y py] kt pt] (.Tuple [a, b] k2 pt2) pos) (sPar2 i j cl) := (ps_par hc hN hi hj hij hx hy ha hw hs).imp fun D σ H ⟨m, S, env, fl, env', S', st, re, hc, q⟩ => by
  unfold sPar2 at hc
  split at hc
  · rename_i u w S1 e1
    cases hc
    refine ⟨m, S, _, _, _, st, re, e1, fun m1 H1 vs x1 st1 r1 => ?_⟩
    obtain ⟨v, v2, rfl, r, r2⟩ := r1.two
    exact ⟨v, v2, rfl, q m1 H1 _ x1 st1 (((re.keep x1.keeps).set i r).set j r2)⟩
  · cases hc
theorem es_par3 {i j l : Nat} {px py pz pt : Pos} {kt k2 pt2} (hc : X.calm = true) (hN : X.N.Nodup) (hi : X.N[i]? = some x) (hj : X.N[j]? = some y) (hl : X.N[l]? = some z) (hij : i ≠ j) (hil : i ≠ l) (hjl : j ≠ l)
    (hx : X.env.scope.names.lookup x = some .local) (hy : X.env.scope.names.lookup y = some .local) (hz : X.env.scope.names.lookup z = some .local) (ha : EA G X [a, b, c] cl)
    (hw : swappedStores [.Tuple [.Name x px, .Name y py, .Name z pz] kt pt] (.Tuple [a, b, c] k2 pt2) X.env = pure (some [x, y, z]))
    (hs : swapsWithSole [.Tuple [.Name x px, .Name y py, .Name z pz] kt pt] (.Tuple [a, b, c] k2 pt2) pos.line X.env = pure false := by rfl) :
    ES G X (.Assign [.Tuple [.Name x px, .Name y py, .Name z pz] kt pt] (.Tuple [a, b, c] k2 pt2) pos) (sPar3 i j l cl) := (ps_par3 hc hN hi hj hl hij hil hjl hx hy hz ha hw hs).imp fun D σ H ⟨m, S, env, fl, env', S', st, re, hc, q⟩ => by
  unfold sPar3 at hc
  split at hc
  · rename_i u v w S1 e1
    cases hc
    refine ⟨m, S, _, _, _, st, re, e1, fun m1 H1 vs x1 st1 r1 => ?_⟩
    obtain ⟨v1, t, rfl, r, tl⟩ := r1.uncons
    obtain ⟨v2, v3, rfl, r2, r3⟩ := tl.two
    exact ⟨v1, v2, v3, rfl, q m1 H1 _ x1 st1 ((((re.keep x1.keeps).set i r).set j r2).set l r3)⟩
  · cases hc
theorem es_setLc {i : Nat} {py : Pos} {elt : Expr} {ifs : List Expr} {scope : Scope} {own : List (Str × Nat)} {spos : Pos} {it : Cm (List U)} {pt : Pat} {t : Cm Bool} {c : Cm U} (hc : X.calm = true) (hN : X.N.Nodup) (hy : X.N[i]? = some y) (hyl : X.env.scope.names.lookup y = some .local)
    (hsw : swapsWith (.ListComp elt [⟨tg, iter, ifs, 0⟩] scope pos) (some (.Name y py)) spos.line X.env = pure true) (hi : EI G X tg iter it) (ok : BlkOk X.N X.env.scope scope own)
    (hg : ∀ (s : Shared) (H : Hp) (C : Addr) (cl : List (Str × Addr)) (fp : List Addr), EPt (X.blk s H scope (compEnvC scope cl C X.env) fp) tg pt) (ht : ∀ (s : Shared) (H : Hp) (C : Addr) (cl : List (Str × Addr)) (fp : List Addr), ETs G (X.blk s H scope (compEnvC scope cl C X.env) fp) ifs t)
    (he : ∀ (s : Shared) (H : Hp) (C : Addr) (cl : List (Str × Addr)) (fp : List Addr), EE G (X.blk s H scope (compEnvC scope cl C X.env) fp) elt c) (hsl : ∀ i ∈ pt.slots, i ∈ own.map (·.2)) (hs : ∀ x, foldedSetIterable iter X.env x = pure x := by intro _; rfl) :
    ES G X (.Assign [.Name y py] (.ListComp elt [⟨tg, iter, ifs, 0⟩] scope pos) spos) (sAsg (cLc it pt t c (own.map (·.2))) (gmName i)) := (ps_setLc hc hN hy hyl hsw hi ok hg ht he hs).imp fun D σ H h => by
  obtain ⟨m, S, env, fl, env', S', st, re, hc, q⟩ := h
  unfold sAsg at hc
  split at hc
  · cases hc
  · rename_i u S1 e1
    cases hc
    unfold cLc at e1
    split at e1
    · cases e1
    · rename_i ys S2 e2
      cases e1
      refine re_lc hsl st re e2 fun m' H' D zs x hD nx st' hd r => ?_
      have st2 : Rst X.K G m' H' S' := Rst.forget (c := m'.c) (x := D :: m'.x) st' fun a ha => List.mem_cons_of_mem _ ha
      refine q m' H' _ x st2 ((re.keep x.keeps).set i ?_)
      unfold RU
      exact ⟨D, zs, rfl, .inl hd, st'.nx D (by simp), nx, RUs.keep (keeps_forget fun a ha => List.mem_cons_of_mem _ ha) _ _ r⟩
theorem fn_okD {P : Program} {w : World} {K : PySem.W.Frag} {mg : Str → Option Value} {base : Heap} {x qual : Str} {params : Arguments} {body : List Stmt} {scope : Scope} {dvs : List V} {kws : List (Str × V)} {f : Addr} {fd : FuncData} {N ps : List Str} {k np n : Nat} {s : Sm} (hnp : ps.length = np) (hn : N.length = n) (F : FunD K x qual params body scope dvs kws f fd) (S : FnScope N ps scope)
    (h : ∀ (cdv : Value) (A : Around) (outer : List Env) (s0 : Shared) (H : Hp) (E : XK), Room k (A.deeper (envOfC qual scope s0.heap.objs.size f cdv)) →
      ESs G (cxOf CX0 P w K mg base N qual scope f cdv A outer s0 H E).nox body s) :
    FnOk P w K mg base CX0 (k + 1) f fd ps (spU K G (runF s np n)) := by
  subst hnp hn
  refine F.ok S (fun vs H Q E h => spU_len runF_len h) fun cdv A outer s0 H vs Q E hr hsp => ?_
  obtain ⟨m, S0, us, z, S', st, r, e, q⟩ := hsp
  refine ⟨_, (h cdv A outer s0 H E hr).nox, ?_⟩
  unfold runF at e
  split at e
  · split at e
    · rename_i u env' S1 e1
      cases e
      exact ⟨m, S0, _, _, _, _, st, r.begin_, e1, q⟩
    · rename_i env' S1 e1
      cases e
      exact ⟨m, S0, _, _, _, _, st, r.begin_, e1, fun m1 H1 σ1 x1 st1 re1 => q m1 H1 .non x1 st1 rfl⟩
    · cases e
  · cases e
end OF
namespace OF
open PySem PySem.Spec PyProof.Rows L2
def spLaw (K : PySem.W.Frag) : Sp := fun vs H Q _ => ∃ (a : Addr) (ns : List Int), vs = [.ref a] ∧ SqL K H a (ns.map V.int) ∧ ns.length ≤ 63 ∧ ∀ H', Q (.bl true) H'
theorem RUs.ints {K : PySem.W.Frag} {G : Gx} {m : Mp} {H : Hp} : ∀ ns : List Int, RUs K G m H (ns.map U.int) (ns.map V.int)
  | [] => RUs.nil
  | _ :: r => RUs.cons rfl (RUs.ints r)
theorem norefs_ints : ∀ ns : List Int, norefs (ns.map U.int) = true
  | [] => rfl
  | _ :: r => by
    show (true && norefs (r.map U.int)) = true
    rw [norefs_ints r]; rfl
theorem sp_law {K : PySem.W.Frag} {G : Gx} {P : Pf} (h : ∀ ns : List Int, ns.length ≤ 63 → P [.scr (ns.map .int)] = some (.bl true)) : ∀ vs H Q E, spLaw K vs H Q E → spU K G (liftP P) vs H Q E := by
  intro vs H Q E ⟨a, ns, ev, hS, hl, q⟩
  subst ev
  have hno : norefs [U.scr (ns.map .int)] = true := by
    show (norefs (ns.map U.int) && true) = true
    rw [norefs_ints]; rfl
  refine ⟨⟨[], []⟩, [], [.scr (ns.map .int)], .bl true, [], ⟨by simp, rfl, fun n o a h => by simp at h, fun a h => by simp at h, fun a h => by simp at h, fun a h => (by cases h)⟩, RUs.one ?_, ?_, fun m' H' v x st r => ?_⟩
  · unfold RU
    refine ⟨a, ns.map V.int, rfl, ?_, RUs.ints ns⟩
    rcases hS with hS | hS
    · exact .inl ⟨hS, by simp, by simp⟩
    · exact .inr hS
  · unfold liftP
    rw [if_pos hno, h ns hl]
  · cases r
    exact q H'
theorem ok_end {P : Program} {w : World} {K : PySem.W.Frag} {mg : Str → Option Value} {base : Heap} {G : Gx} {k : Nat} {f : Addr} {fd : FuncData} {ps : List Str} {F : Pf} (h : FnOk P w K mg base CX0 k f fd ps (spU K G (liftP F))) (ht : ∀ ns : List Int, ns.length ≤ 63 → F [.scr (ns.map .int)] = some (.bl true)) :
    FnOk P w K mg base CX0 k f fd ps (spLaw K) := h.imp (sp_law ht)
theorem ktab_nil {K : PySem.W.Frag} {w : World} {G : Gx} {d : Addr} : KTab K w G d [] := fun z u h => by cases h
theorem ktab_cons {K : PySem.W.Frag} {w : World} {G : Gx} {d : Addr} {z : Str} {u : U} {v : V} {uv : Value} {r : List (Str × U)} {es : Array DictEntry} {n : Nat} (hl : K.lookup d = some ⟨.type "dict", none, .dict es n, #[]⟩) (hk : PySem.W.KeysLit w.params es.toList) (hn : PySem.W.nsIn K d z = some (some uv)) (hv : RelV v uv) (hu : ∀ m H, RU K G m H u v) (t : KTab K w G d r) : KTab K w G d ((z, u) :: r) := fun y w' h => by
  simp only [List.lookup_cons] at h
  split at h
  · rename_i e
    cases h
    have : y = z := eq_of_beq e
    subst this
    exact ⟨v, ⟨es, n, uv, hl, hk, hn, hv⟩, hu⟩
  · exact t y w' h
end OF
namespace OF
open PySem PySem.Spec PyProof.Rows L2
variable {X : Cx} {G : Gx}
def eqB : U → U → Option Bool
  | .non, .non => some true
  | .non, .int _ => some false
  | .int _, .non => some false
  | .non, .bl _ => some false
  | .bl _, .non => some false
  | .non, .str _ => some false
  | .str _, .non => some false
  | .int i, .int j => some (decide (i = j))
  | .bl i, .bl j => some (decide (i = j))
  | .str i, .str j => some (decide (i = j))
  | .int _, .str _ => some false
  | .str _, .int _ => some false
  | .bl _, .str _ => some false
  | .str _, .bl _ => some false
  | _, _ => none
def eqS (neg : Bool) : Op2 := fun a b S => match eqB a b with
  | some k => some (.bl (if neg then !k else k), S)
  | none => none
theorem eqB_ok {K : PySem.W.Frag} {m : Mp} {H : Hp} {u1 u2 : U} {x y : V} {k : Bool} (r1 : RU K G m H u1 x) (r2 : RU K G m H u2 y) (h : eqB u1 u2 = some k) : scal x y = true ∧ decide (x = y) = k := by
  cases u1 with
  | non =>
    cases r1
    cases u2 with
    | non => cases r2; cases h; exact ⟨rfl, by simp⟩
    | int j => cases r2; cases h; exact ⟨rfl, by simp⟩
    | bl j => cases r2; cases h; exact ⟨rfl, by simp⟩
    | str j => cases r2; cases h; exact ⟨rfl, by simp⟩
    | _ => cases h
  | bl i =>
    cases r1
    cases u2 with
    | non => cases r2; cases h; exact ⟨rfl, by simp⟩
    | bl j => cases r2; cases h; exact ⟨rfl, by rw [Bool.eq_iff_iff]; simp⟩
    | str j => cases r2; cases h; exact ⟨rfl, by simp⟩
    | _ => cases h
  | int i =>
    cases r1
    cases u2 with
    | non => cases r2; cases h; exact ⟨rfl, by simp⟩
    | int j => cases r2; cases h; exact ⟨rfl, by rw [Bool.eq_iff_iff]; simp⟩
    | str j => cases r2; cases h; exact ⟨rfl, by simp⟩
    | _ => cases h
  | str i =>
    cases r1
    cases u2 with
    | non => cases r2; cases h; exact ⟨rfl, by simp⟩
    | bl j => cases r2; cases h; exact ⟨rfl, by simp⟩
    | int j => cases r2; cases h; exact ⟨rfl, by simp⟩
    | str j => cases r2; cases h; exact ⟨rfl, by rw [Bool.eq_iff_iff]; simp⟩
    | _ => cases h
  | _ => cases h
theorem ou_eqS : OpU G X (compareOp .Eq) (eqS false) := OpR.imp op_eq fun x y H Q ⟨m, S, u1, u2, z, S', st, r1, r2, e, q⟩ => by
  unfold eqS at e
  split at e
  · rename_i k h
    cases e
    have := eqB_ok r1 r2 h
    refine ⟨this.1, ?_⟩
    rw [this.2]
    exact q.here st rfl
  · cases e
theorem ou_neS : OpU G X (compareOp .NotEq) (eqS true) := OpR.imp op_ne fun x y H Q ⟨m, S, u1, u2, z, S', st, r1, r2, e, q⟩ => by
  unfold eqS at e
  split at e
  · rename_i k h
    cases e
    have := eqB_ok r1 r2 h
    refine ⟨this.1, ?_⟩
    rw [this.2]
    exact q.here st rfl
  · cases e
def eqU (neg : Bool) : Op2 := orO (eqS neg) (eqDU neg)
theorem ou_eq (hu : X.A.units + 64 < cLine) : OpU G X (compareOp .Eq) (eqU false) := opU_or ou_eqS (opU_eqD hu)
theorem ou_ne (hu : X.A.units + 64 < cLine) : OpU G X (compareOp .NotEq) (eqU true) := opU_or ou_neS (opU_neD hu)
mutual
def okU : Nat → U → Bool
  | _, .non => true
  | _, .bl _ => true
  | _, .int _ => true
  | _, .str x => PySem.PyData.strOk x
  | n + 1, .tup us => okUs n us
  | n + 1, .lst us => okUs n us
  | _, _ => false
def okUs : Nat → List U → Bool
  | _, [] => true
  | n, u :: us => okU n u && okUs n us
end
mutual
theorem okU_toD : ∀ (n : Nat) (u : U), okU n u = true → ∃ d, toD u = some d ∧ d.canLay0 = true ∧ d.depth ≤ n + 1
  | n, .non, _ => ⟨.none, rfl, rfl, by simp [PyData.depth]⟩
  | n, .bl b, _ => ⟨.bool b, rfl, rfl, by simp [PyData.depth]⟩
  | n, .int b, _ => ⟨.int b, rfl, rfl, by simp [PyData.depth]⟩
  | n, .str b, h => ⟨.str b, rfl, (by simpa [okU] using h : PySem.PyData.strOk b = true), by simp [PyData.depth]⟩
  | 0, .tup us, h => by simp [okU] at h
  | 0, .lst us, h => by simp [okU] at h
  | n + 1, .tup us, h => by
    obtain ⟨ds, e, h1, h2⟩ := okUs_toDs n us (by simpa [okU] using h)
    refine ⟨.tuple ds, by simp only [toD, e], by simpa [PyData.canLay0] using h1, by simp only [PyData.depth]; omega⟩
  | n + 1, .lst us, h => by
    obtain ⟨ds, e, h1, h2⟩ := okUs_toDs n us (by simpa [okU] using h)
    refine ⟨.list ds, by simp only [toD, e], by simpa [PyData.canLay0] using h1, by simp only [PyData.depth]; omega⟩
  | n, .scr us, h => by simp [okU] at h
  | n, .dct us, h => by simp [okU] at h
  | n, .fn us, h => by simp [okU] at h
  | n, .ref us, h => by simp [okU] at h
theorem okUs_toDs : ∀ (n : Nat) (us : List U), okUs n us = true → ∃ ds, toDs us = some ds ∧ PyData.canLayAll0 ds = true ∧ PyData.depthAll ds ≤ n + 1
  | n, [], _ => ⟨[], rfl, rfl, by simp [PyData.depthAll]⟩
  | n, u :: us, h => by
    have h' : okU n u = true ∧ okUs n us = true := by simpa [okUs] using h
    obtain ⟨d, e, h1, h2⟩ := okU_toD n u h'.1
    obtain ⟨ds, es, h3, h4⟩ := okUs_toDs n us h'.2
    refine ⟨d :: ds, by simp only [toDs, e, es], by simp [PyData.canLayAll0, h1, h3], by simp only [PyData.depthAll]; omega⟩
end
theorem toDS_noref {S : Sto} {u : U} {n : Nat} (h : okU n u = true) : toDS S u = toD u := by
  cases u with
  | ref x => simp [okU] at h
  | _ => rfl
theorem eqB_same : ∀ (u : U) (k : Bool), eqB u u = some k → k = true := by
  intro u k h
  cases u <;> simp [eqB] at h <;> simp_all
theorem eqU_same {neg : Bool} {u : U} {S : Sto} (h : okU 60 u = true) : eqU neg u u S = some (.bl (!neg), S) := by
  unfold eqU orO eqS
  cases e : eqB u u with
  | some k =>
    have := eqB_same u k e
    subst this
    cases neg <;> rfl
  | none =>
    show eqDU neg u u S = _
    unfold eqDU
    obtain ⟨d, e1, h1, h2⟩ := okU_toD 60 u h
    rw [toDS_noref h, e1]
    have hs : SeqAt.shaped d = true := by unfold SeqAt.shaped; simp [h1]; omega
    simp only [hs, and_self, if_true, PySem.SeqAt.eqv_refl d h1]
    cases neg <;> rfl
@[simp] theorem eqU_int {neg : Bool} {i j : Int} {S : Sto} : eqU neg (.int i) (.int j) S = some (.bl (if neg then !decide (i = j) else decide (i = j)), S) := rfl
@[simp] theorem eqU_str {neg : Bool} {i j : Str} {S : Sto} : eqU neg (.str i) (.str j) S = some (.bl (if neg then !decide (i = j) else decide (i = j)), S) := rfl
end OF
namespace OF
open PySem PySem.Spec PyProof.Rows L2
@[simp] theorem cVar_ap (i : Nat) (env : Env') (S : Sto) : cVar i env S = (match env[i]? with
  | some (some u) => some (u, S)
  | _ => none) := rfl
@[simp] theorem cCst_ap (u : U) (x0_ : Env') (S : Sto) : cCst u x0_ S = (some (u, S)) := rfl
@[simp] theorem cBin_ap (f : Op2) (a b : Cm U) (env : Env') (S : Sto) : cBin f a b env S = (match a env S with
  | none => none
  | some (u, S1) => match b env S1 with
    | none => none
    | some (v, S2) => f u v S2) := rfl
@[simp] theorem cUn_ap (f : Op1) (a : Cm U) (env : Env') (S : Sto) : cUn f a env S = (match a env S with
  | none => none
  | some (u, S1) => f u S1) := rfl
@[simp] theorem orO_ap (f g : Op2) (a : U) (b : U) (S : Sto) : orO f g a b S = (match f a b S with
  | some r => some r
  | none => g a b S) := rfl
@[simp] theorem o2I_ap (f : Int → Int → Option U) (a : U) (b : U) (S : Sto) : o2I f a b S = (match a, b with
  | .int i, .int j => (f i j).map (·, S)
  | _, _ => none) := rfl
@[simp] theorem cNil_ap (x0_ : Env') (S : Sto) : cNil  x0_ S = (some ([], S)) := rfl
@[simp] theorem cCons_ap (a : Cm U) (r : Cm (List U)) (env : Env') (S : Sto) : cCons a r env S = (match a env S with
  | none => none
  | some (u, S1) => match r env S1 with
    | none => none
    | some (us, S2) => some (u :: us, S2)) := rfl
@[simp] theorem cArg_ap (f : OpN) (a : Cm (List U)) (env : Env') (S : Sto) : cArg f a env S = (match a env S with
  | none => none
  | some (us, S1) => f us S1) := rfl
@[simp] theorem oTup_ap (us : List U) (S : Sto) : oTup  us S = (if us.length ≤ sizeLine then some (.tup us, S) else none) := rfl
@[simp] theorem oLst_ap (us : List U) (S : Sto) : oLst  us S = (if us.length ≤ sizeLine then some (.lst us, S) else none) := rfl
@[simp] theorem oLstM_ap (us : List U) (S : Sto) : oLstM  us S = (if us.length ≤ sizeLine then some (.ref S.length, S ++ [.lst us]) else none) := rfl
@[simp] theorem sNil_ap (env : Env') (S : Sto) : sNil  env S = (some (.nx, env, S)) := rfl
@[simp] theorem sSeq_ap (a b : Sm) (env : Env') (S : Sto) : sSeq a b env S = (match a env S with
  | none => none
  | some (.nx, env1, S1) => b env1 S1
  | some r => some r) := rfl
@[simp] theorem sExpr_ap (a : Cm U) (env : Env') (S : Sto) : sExpr a env S = (match a env S with
  | none => none
  | some (_, S1) => some (.nx, env, S1)) := rfl
@[simp] theorem sRet_ap (a : Cm U) (env : Env') (S : Sto) : sRet a env S = (match a env S with
  | none => none
  | some (u, S1) => some (.ret u, env, S1)) := rfl
@[simp] theorem sIf_ap (c : Cm Bool) (a b : Sm) (env : Env') (S : Sto) : sIf c a b env S = (match c env S with
  | none => none
  | some (true, S1) => a env S1
  | some (false, S1) => b env S1) := rfl
@[simp] theorem gmName_ap (i : Nat) (u : U) (env : Env') (S : Sto) : gmName i u env S = (some (env.set i (some u), S)) := rfl
@[simp] theorem gmsNil_ap (us : List U) (env : Env') (S : Sto) : gmsNil  us env S = (match us with
  | [] => some (env, S)
  | _ => none) := rfl
@[simp] theorem gmsCons_ap (g : Gm) (r : Gms) (us : List U) (env : Env') (S : Sto) : gmsCons g r us env S = (match us with
  | [] => none
  | u :: t => match g u env S with
    | none => none
    | some (env1, S1) => r t env1 S1) := rfl
@[simp] theorem gmTup_ap (n : Nat) (g : Gms) (u : U) (env : Env') (S : Sto) : gmTup n g u env S = (match u with
  | .tup us => if us.length = n then g us env S else none
  | _ => none) := rfl
@[simp] theorem sAsg_ap (a : Cm U) (g : Gm) (env : Env') (S : Sto) : sAsg a g env S = (match a env S with
  | none => none
  | some (u, S1) => match g u env S1 with
    | none => none
    | some (env2, S2) => some (.nx, env2, S2)) := rfl
@[simp] theorem cTru_ap (a : Cm U) (env : Env') (S : Sto) : cTru a env S = (match a env S with
  | none => none
  | some (u, S1) => match truU S1 u with
    | none => none
    | some b => some (b, S1)) := rfl
@[simp] theorem cAndT_ap (a b : Cm Bool) (env : Env') (S : Sto) : cAndT a b env S = (match a env S with
  | none => none
  | some (true, S1) => b env S1
  | some (false, S1) => some (false, S1)) := rfl
@[simp] theorem cOrT_ap (a b : Cm Bool) (env : Env') (S : Sto) : cOrT a b env S = (match a env S with
  | none => none
  | some (true, S1) => some (true, S1)
  | some (false, S1) => b env S1) := rfl
@[simp] theorem cNotT_ap (a : Cm Bool) (env : Env') (S : Sto) : cNotT a env S = (match a env S with
  | none => none
  | some (k, S1) => some (!k, S1)) := rfl
@[simp] theorem cIf_ap (t : Cm Bool) (a b : Cm U) (env : Env') (S : Sto) : cIf t a b env S = (match t env S with
  | none => none
  | some (true, S1) => a env S1
  | some (false, S1) => b env S1) := rfl
@[simp] theorem runF_ap (s : Sm) (np n : Nat) (us : List U) (S : Sto) : runF s np n us S = (if us.length = np then (match s (startE n us) S with
  | some (.ret u, _, S') => some (u, S')
  | some (.nx, _, S') => some (.non, S')
  | _ => none) else none) := rfl
@[simp] theorem pureF_ap (f : OpN) (us : List U) : pureF f us = (match f us [] with
  | some (u, _) => if noref u = true then some u else none
  | none => none) := rfl
@[simp] theorem liftP_ap (p : Pf) (us : List U) (S : Sto) : liftP p us S = (if norefs us = true then (match p us with
  | some u => some (u, S)
  | none => none) else none) := rfl
@[simp] theorem cArg2_ap (f : List U → OpN) (a b : Cm (List U)) (env : Env') (S : Sto) : cArg2 f a b env S = (match a env S with
  | none => none
  | some (us, S1) => match b env S1 with
    | none => none
    | some (ws, S2) => f us ws S2) := rfl
@[simp] theorem cMeth_ap (c : Str) (mm : Str) (F : OpN) (a : Cm U) (r : Cm (List U)) (env : Env') (S : Sto) : cMeth c mm F a r env S = (match a env S with
  | some (.ref n, S1) => match S1[n]? with
    | some (.ins c' fs) => if c' = c ∧ fs.lookup mm = none then (match r env S1 with
      | some (us, S2) => F (.ref n :: us) S2
      | none => none) else none
    | _ => none
  | _ => none) := rfl
@[simp] theorem oMake_ap (c : Str) (F : OpN) (us : List U) (S : Sto) : oMake c F us S = (match F (.ref S.length :: us) (S ++ [.ins c []]) with
  | some (.non, S') => some (.ref S.length, S')
  | _ => none) := rfl
@[simp] theorem cFld_ap (cs : List Str) (fn : Str) (a : Cm U) (env : Env') (S : Sto) : cFld cs fn a env S = (match a env S with
  | some (.ref n, S1) => match S1[n]? with
    | some (.ins c fs) => if cs.contains c = true then (match fs.lookup fn with
      | some u => some (u, S1)
      | none => none) else none
    | _ => none
  | _ => none) := rfl
@[simp] theorem sFldS_ap (cs : List Str) (fn : Str) (a v : Cm U) (env : Env') (S : Sto) : sFldS cs fn a v env S = (match v env S with
  | some (u, S1) => match a env S1 with
    | some (.ref n, S2) => match S2[n]? with
      | some (.ins c fs) => if cs.contains c = true ∧ fs.length < 1000 then some (.nx, env, S2.set n (.ins c (putU fn u fs))) else none
      | _ => none
    | _ => none
  | _ => none) := rfl
@[simp] theorem gmPat_ap (pt : Pat) (u : U) (env : Env') (S : Sto) : gmPat pt u env S = (match bindP pt u with
  | some bs => some (setAll env bs, S)
  | none => none) := rfl
@[simp] theorem sFor_ap (it : Cm (List U)) (pt : Pat) (b : Sm) (env : Env') (S : Sto) : sFor it pt b env S = (match it env S with
  | none => none
  | some (us, S1) => loopF pt b us env S1) := rfl
@[simp] theorem cLcL_ap (it : Cm (List U)) (pt : Pat) (t : Cm Bool) (c : Cm U) (vs : List Nat) (env : Env') (S : Sto) : cLcL it pt t c vs env S = (match it env S with
  | none => none
  | some (us, S1) => match mapC pt t c (wipeE env vs) us S1 with
    | none => none
    | some (ys, S2) => if ys.length ≤ sizeLine then some (ys, S2) else none) := rfl
@[simp] theorem cLc_ap (it : Cm (List U)) (pt : Pat) (t : Cm Bool) (c : Cm U) (vs : List Nat) (env : Env') (S : Sto) : cLc it pt t c vs env S = (match cLcL it pt t c vs env S with
  | none => none
  | some (ys, S2) => some (.lst ys, S2)) := rfl
@[simp] theorem cLcM_ap (it : Cm (List U)) (pt : Pat) (t : Cm Bool) (c : Cm U) (vs : List Nat) (env : Env') (S : Sto) : cLcM it pt t c vs env S = (match cLcL it pt t c vs env S with
  | none => none
  | some (ys, S2) => some (.ref S2.length, S2 ++ [.lst ys])) := rfl
@[simp] theorem cYes_ap (x0_ : Env') (S : Sto) : cYes  x0_ S = (some (true, S)) := rfl
@[simp] theorem itSeq_ap (c : Cm U) (env : Env') (S : Sto) : itSeq c env S = (match c env S with
  | none => none
  | some (u, S1) => match seqU u with
    | none => none
    | some us => some (us, S1)) := rfl
@[simp] theorem itR1_ap (c : Cm (List U)) (env : Env') (S : Sto) : itR1 c env S = (match c env S with
  | some ([.int j], S1) => if -(2 ^ 62) ≤ j ∧ j < 2 ^ 62 then some (rangeU 0 j.toNat, S1) else none
  | _ => none) := rfl
@[simp] theorem itR2_ap (c : Cm (List U)) (env : Env') (S : Sto) : itR2 c env S = (match c env S with
  | some ([.int i, .int j], S1) => if (-(2 ^ 62) ≤ i ∧ i < 2 ^ 62) ∧ -(2 ^ 62) ≤ j ∧ j < 2 ^ 62 then some (rangeU i (j - i).toNat, S1) else none
  | _ => none) := rfl
@[simp] theorem itZip_ap (c : Cm (List U)) (env : Env') (S : Sto) : itZip c env S = (match c env S with
  | some ([u, w], S1) => match seqU u, seqU w with
    | some us, some ws => some (zipU us ws, S1)
    | _, _ => none
  | _ => none) := rfl
@[simp] theorem o1I_ap (f : Int → U) (u : U) (S : Sto) : o1I f u S = (match u with
  | .int i => some (f i, S)
  | _ => none) := rfl
@[simp] theorem strAdd_ap (a : U) (b : U) (S : Sto) : strAdd  a b S = (match a, b with
  | .str x, .str y => if x.length + y.length ≤ sizeLine then some (.str (x ++ y), S) else none
  | _, _ => none) := rfl
@[simp] theorem tupAdd_ap (a : U) (b : U) (S : Sto) : tupAdd  a b S = (match a, b with
  | .tup us, .tup ws => if us.length + ws.length ≤ sizeLine then some (.tup (us ++ ws), S) else none
  | _, _ => none) := rfl
@[simp] theorem lstAdd_ap (mu : Bool) (a : U) (b : U) (S : Sto) : lstAdd mu a b S = (match lstU S a, lstU S b with
  | some us, some ws => if us.length + ws.length ≤ sizeLine then (if mu then some (.ref S.length, S ++ [.lst (us ++ ws)]) else some (.lst (us ++ ws), S)) else none
  | _, _ => none) := rfl
@[simp] theorem isN_ap (neg : Bool) (a : U) (b : U) (S : Sto) : isN neg a b S = (match b with
  | .non => (match a with
    | .non => some (.bl (!neg), S)
    | _ => some (.bl neg, S))
  | _ => none) := rfl
@[simp] theorem ixU_ap (a : U) (b : U) (S : Sto) : ixU  a b S = (match a, b with
  | .str z, .int i => if z.length ≤ sizeLine then (match atI z.cps.toList i with
    | some c => some (.str ⟨#[c]⟩, S)
    | none => none) else none
  | u, .int i => match itmU S u with
    | some us => match atI us i with
      | some w => some (w, S)
      | none => none
    | none => none
  | _, _ => none) := rfl
@[simp] theorem cNoPart_ap (x0_ : Env') (S : Sto) : cNoPart  x0_ S = (some (none, S)) := rfl
@[simp] theorem cPart_ap (c : Cm U) (env : Env') (S : Sto) : cPart c env S = (match c env S with
  | some (.int i, S1) => some (some i, S1)
  | _ => none) := rfl
@[simp] theorem slU_ap (mu : Bool) (u : U) (lo hi : Option Int) (S : Sto) : slU mu u lo hi S = (match u with
  | .tup us => some (.tup (cutU us lo hi), S)
  | .str z => if z.length ≤ sizeLine then some (.str (cutS z lo hi), S) else none
  | u => match lstU S u with
    | some us => if mu then some (.ref S.length, S ++ [.lst (cutU us lo hi)]) else some (.lst (cutU us lo hi), S)
    | none => none) := rfl
@[simp] theorem cSl_ap (mu : Bool) (c : Cm U) (l h : CmO) (env : Env') (S : Sto) : cSl mu c l h env S = (match c env S with
  | none => none
  | some (u, S1) => match l env S1 with
    | none => none
    | some (lo, S2) => match h env S2 with
      | none => none
      | some (hi, S3) => slU mu u lo hi S3) := rfl
@[simp] theorem gmStar_ap (mu : Bool) (i n : Nat) (pts : List Pat) (u : U) (env : Env') (S : Sto) : gmStar mu i n pts u env S = (match itmU S u with
  | some us => if n - 1 ≤ us.length then (
      let mid := (us.drop i).take (us.length - (n - 1))
      let star : U := if mu then .ref S.length else .lst mid
      match bindPs pts (us.take i ++ [star] ++ us.drop (us.length - (n - 1 - i))) with
      | some bs => some (setAll env bs, if mu then S ++ [.lst mid] else S)
      | none => none) else none
  | none => none) := rfl
@[simp] theorem on1_ap (f : Op1) (us : List U) (S : Sto) : on1 f us S = (match us with
  | [u] => f u S
  | _ => none) := rfl
@[simp] theorem on2_ap (f : Op2) (us : List U) (S : Sto) : on2 f us S = (match us with
  | [u, w] => f u w S
  | _ => none) := rfl
@[simp] theorem lenU_ap (u : U) (S : Sto) : lenU  u S = (match u with
  | .str y => if y.length ≤ sizeLine then some (.int y.length, S) else none
  | u => match itmU S u with
    | some us => some (.int us.length, S)
    | none => none) := rfl
@[simp] theorem intU_ap (u : U) (S : Sto) : intU  u S = (match u with
  | .int i => some (.int i, S)
  | .bl k => some (.int (if k then 1 else 0), S)
  | _ => none) := rfl
@[simp] theorem tupleU_ap (u : U) (S : Sto) : tupleU  u S = (match itmU S u with
  | some us => some (.tup us, S)
  | none => none) := rfl
@[simp] theorem cIsi_ap (T : String) (c : Cm U) (env : Env') (S : Sto) : cIsi T c env S = (match c env S with
  | none => none
  | some (u, S1) => match tyU S1 u with
    | none => none
    | some t => match kitB t T with
      | some r => some (.bl r, S1)
      | none => none) := rfl
@[simp] theorem cTab_ap (tbl : List (Str × U)) (c : Cm U) (env : Env') (S : Sto) : cTab tbl c env S = (match c env S with
  | some (.str z, S1) => match tbl.lookup z with
    | some u => some (u, S1)
    | none => none
  | _ => none) := rfl
@[simp] theorem cTabCall_ap (F : Str → Option OpN) (c : Cm U) (r : Cm (List U)) (env : Env') (S : Sto) : cTabCall F c r env S = (match c env S with
  | some (.fn n, S1) => match r env S1 with
    | some (us, S2) => match F n with
      | some f => f us S2
      | none => none
    | none => none
  | _ => none) := rfl
@[simp] theorem cMth_ap (f : U → OpN) (a : Cm U) (r : Cm (List U)) (env : Env') (S : Sto) : cMth f a r env S = (match a env S with
  | none => none
  | some (u, S1) => match r env S1 with
    | none => none
    | some (us, S2) => f u us S2) := rfl
@[simp] theorem cMt_ap (T : String) (f : U → OpN) (a : Cm U) (r : Cm (List U)) (env : Env') (S : Sto) : cMt T f a r env S = (match a env S with
  | none => none
  | some (u, S1) => if tyOkU T S1 u = true then (match r env S1 with
    | none => none
    | some (us, S2) => f u us S2) else none) := rfl
@[simp] theorem appU_ap (u : U) (us : List U) (S : Sto) : appU  u us S = (match us with
  | [y] => cellL S u fun n xs => if xs.length < sizeLine then some (.non, S.set n (.lst (xs ++ [y]))) else none
  | _ => none) := rfl
@[simp] theorem popAtU_ap (u : U) (us : List U) (S : Sto) : popAtU  u us S = (match us with
  | [.int i] => cellL S u fun n xs => if -(2 ^ 63) ≤ i ∧ i < 2 ^ 63 then (match seqIndex? i xs.length with
    | some k => match xs[k]? with
      | some y => some (y, S.set n (.lst (xs.eraseIdx k)))
      | none => none
    | none => none) else none
  | _ => none) := rfl
@[simp] theorem insU_ap (u : U) (us : List U) (S : Sto) : insU  u us S = (match us with
  | [.int i, y] => cellL S u fun n xs => if xs.length < sizeLine ∧ 0 ≤ i ∧ i < 2 ^ 63 then some (.non, S.set n (.lst (xs.take i.toNat ++ [y] ++ xs.drop i.toNat))) else none
  | _ => none) := rfl
@[simp] theorem startU_ap (u : U) (us : List U) (S : Sto) : startU  u us S = (match u, us with
  | .str a, [.str b] => some (.bl (Txt.startswith a b), S)
  | _, _ => none) := rfl
@[simp] theorem sSetI_ap (f : U → U → U → Sto → Option Sto) (o i v : Cm U) (env : Env') (S : Sto) : sSetI f o i v env S = (match v env S with
  | none => none
  | some (w, S1) => match o env S1 with
    | none => none
    | some (u, S2) => match i env S2 with
      | none => none
      | some (j, S3) => match f u j w S3 with
        | some S4 => some (.nx, env, S4)
        | none => none) := rfl
@[simp] theorem setL_ap (u : U) (j : U) (w : U) (S : Sto) : setL  u j w S = (match u, j with
  | .ref n, .int k => match S[n]? with
    | some (.lst us) => match ixN us.length k with
      | some i => some (S.set n (.lst (us.set i w)))
      | none => none
    | _ => none
  | _, _ => none) := rfl
@[simp] theorem cDNew_ap (x0_ : Env') (S : Sto) : cDNew  x0_ S = (some (.ref S.length, S ++ [.dct []])) := rfl
@[simp] theorem dixU_ap (a : U) (b : U) (S : Sto) : dixU  a b S = (match dctU S a, keyU b with
  | some kvs, some k => match getK kvs k with
    | some u => some (u, S)
    | none => none
  | _, _ => none) := rfl
@[simp] theorem cDGet_ap (d k : Cm U) (x : Cm U) (env : Env') (S : Sto) : cDGet d k x env S = (match d env S with
  | none => none
  | some (u, S1) => match dctU S1 u with
    | none => none
    | some _ => match k env S1 with
      | none => none
      | some (kk, S2) => match x env S2 with
        | none => none
        | some (z, S3) => match dctU S3 u, keyU kk with
          | some kvs, some k => some ((getK kvs k).getD z, S3)
          | _, _ => none) := rfl
@[simp] theorem setD_ap (u : U) (j : U) (w : U) (S : Sto) : setD  u j w S = (match u, keyU j with
  | .ref n, some k => match S[n]? with
    | some (.dct kvs) => if kvs.length < sizeLine then some (S.set n (.dct (putKU kvs k w))) else none
    | _ => none
  | _, _ => none) := rfl
@[simp] theorem sPar2_ap (i j : Nat) (a : Cm (List U)) (env : Env') (S : Sto) : sPar2 i j a env S = (match a env S with
  | some ([u, w], S1) => some (.nx, (env.set i (some u)).set j (some w), S1)
  | _ => none) := rfl
@[simp] theorem sPar3_ap (i j l : Nat) (a : Cm (List U)) (env : Env') (S : Sto) : sPar3 i j l a env S = (match a env S with
  | some ([u, v, w], S1) => some (.nx, ((env.set i (some u)).set j (some v)).set l (some w), S1)
  | _ => none) := rfl
@[simp] theorem loopF_nil (pt : Pat) (b : Sm) (env : Env') (S : Sto) : loopF pt b [] env S = some (.nx, env, S) := rfl
@[simp] theorem loopF_cons (pt : Pat) (b : Sm) (u : U) (us : List U) (env : Env') (S : Sto) : loopF pt b (u :: us) env S = (match bindP pt u with
    | none => none
    | some bs => match b (setAll env bs) S with
      | none => none
      | some (.nx, env2, S2) => loopF pt b us env2 S2
      | some (.ct, env2, S2) => loopF pt b us env2 S2
      | some (.brk, env2, S2) => some (.nx, env2, S2)
      | some (.ret z, env2, S2) => some (.ret z, env2, S2)) := rfl
theorem loopW_succ (c : Cm Bool) (b : Sm) (n : Nat) (env : Env') (S : Sto) : loopW c b (n + 1) env S = (match c env S with
    | none => none
    | some (false, S1) => some (.nx, env, S1)
    | some (true, S1) => match b env S1 with
      | none => none
      | some (.nx, env2, S2) => loopW c b n env2 S2
      | some (.ct, env2, S2) => loopW c b n env2 S2
      | some (.brk, env2, S2) => some (.nx, env2, S2)
      | some (.ret z, env2, S2) => some (.ret z, env2, S2)) := rfl
end OF
namespace OF
open PySem
theorem map_toNat_inj : ∀ (a b : List Char), a.map Char.toNat = b.map Char.toNat → a = b
  | [], [], _ => rfl
  | [], _ :: _, h => by simp at h
  | _ :: _, [], h => by simp at h
  | x :: a, y :: b, h => by
    simp only [List.map_cons, List.cons.injEq] at h
    rw [map_toNat_inj a b h.2]
    have : x = y := by
      apply Char.ext
      apply UInt32.toNat_inj.mp
      exact h.1
    rw [this]
@[simp] theorem ofStr_inj (a b : String) : (Str.ofString a = Str.ofString b) ↔ a = b := by
  constructor
  · intro h
    rw [Str.ofString_eq_toList, Str.ofString_eq_toList] at h
    have h2 : (a.toList.map Char.toNat) = (b.toList.map Char.toNat) := by simpa using h
    have h3 := map_toNat_inj _ _ h2
    exact String.toList_inj.mp h3
  · intro h; rw [h]
@[simp] theorem startE_c (n : Nat) (us : List U) : startE n us = us.map some ++ List.replicate (n - us.length) none := rfl
end OF
namespace OF
open PySem PySem.Spec PyProof.Rows L2
@[simp] theorem mapC_nil (pt : Pat) (t : Cm Bool) (c : Cm U) (env : Env') (S : Sto) : mapC pt t c env [] S = some ([], S) := rfl
@[simp] theorem mapC_cons (pt : Pat) (t : Cm Bool) (c : Cm U) (env : Env') (u : U) (us : List U) (S : Sto) : mapC pt t c env (u :: us) S = (match bindP pt u with
    | none => none
    | some bs => match t (setAll env bs) S with
      | none => none
      | some (false, S1) => mapC pt t c env us S1
      | some (true, S1) => match c (setAll env bs) S1 with
        | none => none
        | some (y, S2) => match mapC pt t c env us S2 with
          | none => none
          | some (ys, S3) => some (y :: ys, S3)) := rfl
@[simp] theorem wipeE_nil (env : Env') : wipeE env [] = env := rfl
@[simp] theorem wipeE_cons (env : Env') (v : Nat) (vs : List Nat) : wipeE env (v :: vs) = (wipeE env vs).set v none := rfl
@[simp] theorem bindP_nm (i : Nat) (u : U) : bindP (.nm i) u = some [(i, u)] := by simp [bindP]
@[simp] theorem bindP_tp (ps : List Pat) (us : List U) : bindP (.tp ps) (.tup us) = bindPs ps us := by simp [bindP]
@[simp] theorem bindPs_nil : bindPs [] [] = some [] := by simp [bindPs]
@[simp] theorem bindPs_cons (p : Pat) (ps : List Pat) (u : U) (us : List U) : bindPs (p :: ps) (u :: us) = (match bindP p u with
    | none => none
    | some a => match bindPs ps us with
      | none => none
      | some b => some (a ++ b)) := by rw [bindPs] <;> rfl
@[simp] theorem setAll_nil {α : Type} (σ : List (Option α)) : setAll σ [] = σ := rfl
@[simp] theorem setAll_cons {α : Type} (σ : List (Option α)) (i : Nat) (v : α) (r : List (Nat × α)) : setAll σ ((i, v) :: r) = setAll (σ.set i (some v)) r := rfl
@[simp] theorem truU_non (S : Sto) : truU S .non = some false := rfl
@[simp] theorem truU_bl (S : Sto) (b : Bool) : truU S (.bl b) = some b := rfl
@[simp] theorem truU_int (S : Sto) (b : Int) : truU S (.int b) = some (b != 0) := rfl
@[simp] theorem truU_tup (S : Sto) (b : List U) : truU S (.tup b) = some (!b.isEmpty) := rfl
@[simp] theorem truU_lst (S : Sto) (b : List U) : truU S (.lst b) = some (!b.isEmpty) := rfl
@[simp] theorem truU_scr (S : Sto) (b : List U) : truU S (.scr b) = some (!b.isEmpty) := rfl
@[simp] theorem truU_ref (S : Sto) (n : Nat) : truU S (.ref n) = (match S[n]? with
    | some (.lst us) => some (!us.isEmpty)
    | some (.dct us) => some (!us.isEmpty)
    | _ => none) := rfl
@[simp] theorem seqU_tup (us : List U) : seqU (.tup us) = some us := rfl
@[simp] theorem seqU_lst (us : List U) : seqU (.lst us) = some us := rfl
@[simp] theorem seqU_scr (us : List U) : seqU (.scr us) = some us := rfl
@[simp] theorem itmU_tup (S : Sto) (us : List U) : itmU S (.tup us) = some us := rfl
@[simp] theorem itmU_lst (S : Sto) (us : List U) : itmU S (.lst us) = some us := rfl
@[simp] theorem itmU_scr (S : Sto) (us : List U) : itmU S (.scr us) = some us := rfl
@[simp] theorem itmU_ref (S : Sto) (n : Nat) : itmU S (.ref n) = (match S[n]? with
    | some (.lst us) => some us
    | _ => none) := rfl
@[simp] theorem lstU_lst (S : Sto) (us : List U) : lstU S (.lst us) = some us := rfl
@[simp] theorem lstU_ref (S : Sto) (n : Nat) : lstU S (.ref n) = (match S[n]? with
    | some (.lst us) => some us
    | _ => none) := rfl
@[simp] theorem dctU_ref (S : Sto) (n : Nat) : dctU S (.ref n) = (match S[n]? with
    | some (.dct us) => some us
    | some (.frd us) => some us
    | _ => none) := rfl
@[simp] theorem tyOkU_str (S : Sto) (T : String) (x : Str) : tyOkU T S (.str x) = (T == "str") := rfl
@[simp] theorem tyOkU_lst (S : Sto) (T : String) (x : List U) : tyOkU T S (.lst x) = (T == "list") := rfl
@[simp] theorem tyOkU_ref (S : Sto) (T : String) (n : Nat) : tyOkU T S (.ref n) = (match S[n]? with
    | some (.lst _) => T == "list"
    | some (.dct _) => T == "dict"
    | some (.dtt _) => T == "dict"
    | _ => false) := rfl
@[simp] theorem cellL_ref (S : Sto) (n : Nat) (k : Nat → List U → Option (U × Sto)) : cellL S (.ref n) k = (match S[n]? with
    | some (.lst us) => k n us
    | _ => none) := rfl
@[simp] theorem keyU_str (x : Str) : keyU (.str x) = some (.inr x) := rfl
@[simp] theorem keyU_int (x : Int) : keyU (.int x) = some (.inl x) := rfl
@[simp] theorem noref_non : noref .non = true := by simp [noref]
@[simp] theorem noref_bl (b : Bool) : noref (.bl b) = true := by simp [noref]
@[simp] theorem noref_int (b : Int) : noref (.int b) = true := by simp [noref]
@[simp] theorem noref_str (b : Str) : noref (.str b) = true := by simp [noref]
@[simp] theorem noref_tup (b : List U) : noref (.tup b) = norefs b := by simp [noref]
@[simp] theorem noref_lst (b : List U) : noref (.lst b) = norefs b := by simp [noref]
@[simp] theorem norefs_nil : norefs [] = true := by simp [norefs]
@[simp] theorem norefs_cons (u : U) (us : List U) : norefs (u :: us) = (noref u && norefs us) := by simp [norefs]
theorem norefs_all (us : List U) (h : ∀ u ∈ us, noref u = true) : norefs us = true := by
  induction us with
  | nil => simp
  | cons u us ih => simp [h u (by simp), ih fun w hw => h w (by simp [hw])]
theorem atI_nat (α : Type) (us : List α) (n : Nat) : atI us (n : Int) = us[n]? := by
  unfold atI ixN
  by_cases h : n < us.length
  · simp [h]
  · simp [h]
@[simp] theorem atI_zero {α : Type} (us : List α) : atI us 0 = us[0]? := atI_nat α us 0
@[simp] theorem atI_one {α : Type} (us : List α) : atI us 1 = us[1]? := atI_nat α us 1
@[simp] theorem atI_two {α : Type} (us : List α) : atI us 2 = us[2]? := atI_nat α us 2
@[simp] theorem atI_three {α : Type} (us : List α) : atI us 3 = us[3]? := atI_nat α us 3
@[simp] theorem beqStr (a b : String) : (Str.ofString a == Str.ofString b) = decide (a = b) := by
  rw [Bool.eq_iff_iff]
  simp
@[simp] theorem putU_nil (f : Str) (v : U) : putU f v [] = [(f, v)] := rfl
@[simp] theorem putU_cons (f : Str) (v : U) (k : Str) (w : U) (r : List (Str × U)) : putU f v ((k, w) :: r) = if k = f then (k, v) :: r else (k, w) :: putU f v r := rfl
@[simp] theorem le_size (n : Nat) (h : n < 16777217) : n ≤ sizeLine := by unfold sizeLine; omega
@[simp] theorem lt_size (n : Nat) (h : n < 16777216) : n < sizeLine := by unfold sizeLine; omega
@[simp] theorem lookupS {α : Type} (a b : String) (v : α) (t : List (Str × α)) : List.lookup (Str.ofString a) ((Str.ofString b, v) :: t) = if a = b then some v else List.lookup (Str.ofString a) t := by
  rw [List.lookup_cons, beqStr]
  by_cases h : a = b <;> simp [h]
@[simp] theorem zipU_nil2 (ws : List U) : zipU ws [] = [] := by simp [zipU]
@[simp] theorem zipU_cons (u w : U) (us ws : List U) : zipU (u :: us) (w :: ws) = .tup [u, w] :: zipU us ws := by simp [zipU]
end OF
namespace OF
open PySem PySem.Spec PyProof.Rows L2
variable {X : Cx} {G : Gx}
@[simp] def flatU : U → Bool
  | .non => true
  | .bl _ => true
  | .int _ => true
  | .str _ => true
  | _ => false
@[simp] def eqF : U → U → Bool
  | .non, .non => true
  | .bl a, .bl b => a == b
  | .bl a, .int b => (if a then 1 else 0) == b
  | .int a, .bl b => a == (if b then 1 else 0)
  | .int a, .int b => a == b
  | .str a, .str b => a == b
  | _, _ => false
def inB (S : Sto) (a b : U) : Option Bool := match b with
  | .str z => (match a with
    | .str x => (match x.cps.toList with
      | [c] => some (decide (c ∈ z.cps.toList))
      | _ => none)
    | _ => none)
  | b => match itmU S b with
    | some us => if flatU a = true ∧ us.all flatU = true then some (us.any fun y => eqF y a) else none
    | none => match dctU S b, keyU a with
      | some kvs, some k => some (getK kvs k).isSome
      | _, _ => none
def inU (neg : Bool) : Op2 := fun a b S => match inB S a b with
  | some k => some (.bl (if neg then !k else k), S)
  | none => none
theorem flatU_ok {K : PySem.W.Frag} {m : Mp} {H : Hp} {u : U} {v : V} (r : RU K G m H u v) (h : flatU u = true) : flatV v = true := by
  cases u <;> simp [flatU] at h <;> (unfold RU at r; subst r; rfl)
theorem eqF_ok {K : PySem.W.Frag} {m : Mp} {H : Hp} {u w : U} {v z : V} (r : RU K G m H u v) (r2 : RU K G m H w z) (h : flatU u = true) (h2 : flatU w = true) : eqV v z = eqF u w := by
  cases u <;> simp [flatU] at h <;> cases w <;> simp [flatU] at h2 <;> (unfold RU at r r2; subst r; subst r2; rfl)
theorem anyF_ok {K : PySem.W.Frag} {m : Mp} {H : Hp} {w : U} {z : V} (r2 : RU K G m H w z) (h2 : flatU w = true) : ∀ {us : List U} {vs : List V}, RUs K G m H us vs → us.all flatU = true → vs.all flatV = true ∧ inV z vs = us.any fun y => eqF y w
  | [], vs, r, _ => by have := r.eqnil; subst this; exact ⟨rfl, rfl⟩
  | u :: us, vs, r, h => by
    obtain ⟨v, t, rfl, ru, rt⟩ := r.uncons
    simp only [List.all_cons, Bool.and_eq_true] at h
    obtain ⟨a, b⟩ := anyF_ok r2 h2 rt h.2
    refine ⟨by simp [a, flatU_ok ru h.1], ?_⟩
    unfold inV at b ⊢
    simp only [List.any_cons, b, eqF_ok ru r2 h.1 h2]
theorem or_din (hu : X.A.units + 1 < cLine) : OpR X (compareOp .In) (fun y x H Q => ∃ a o, x = .ref a ∧ DGet H a y o ∧ Q (.bl o.isSome) H) := by
  intro pins s σ H x y v u Q I rx ry h
  obtain ⟨a, o, rfl, g, q⟩ := h
  obtain rfl : u = Value.ref a := ry
  exact d_in hu I g rx fun s3 I3 => ⟨.bl o.isSome, H, I3, rfl, q⟩
theorem or_dnotin (hu : X.A.units + 1 < cLine) : OpR X (compareOp .NotIn) (fun y x H Q => ∃ a o, x = .ref a ∧ DGet H a y o ∧ Q (.bl (!o.isSome)) H) := by
  intro pins s σ H x y v u Q I rx ry h
  obtain ⟨a, o, rfl, g, q⟩ := h
  obtain rfl : u = Value.ref a := ry
  exact d_notIn hu I g rx fun s3 I3 => ⟨.bl (!o.isSome), H, I3, rfl, q⟩
theorem OpR.or {f : Value → Value → Sem Value} {r r' : R2} (h : OpR X f r) (h' : OpR X f r') : OpR X f (fun x y H Q => r x y H Q ∨ r' x y H Q) := by
  intro pins s σ H x y v u Q I rx ry q
  rcases q with q | q
  · exact h pins s σ H x y v u Q I rx ry q
  · exact h' pins s σ H x y v u Q I rx ry q
theorem str_of_one {x : Str} {c : Nat} (h : x.cps.toList = [c]) : x = ⟨#[c]⟩ := by
  cases x with
  | mk a =>
    have h2 : a.toList = [c] := h
    congr 1
    have := congrArg List.toArray h2
    simpa using this
theorem in_ok {neg : Bool} {x y : V} {H : Hp} {Q : VK} (h : r2U X.K G (inU neg) x y H Q) :
    (rIn X.K neg x y H Q) ∨ (∃ (c : Nat) (z : Str), x = .str ⟨#[c]⟩ ∧ y = .str z ∧ Q (.bl (if neg then !decide (c ∈ z.cps.toList) else decide (c ∈ z.cps.toList))) H) ∨ ∃ a o, y = .ref a ∧ DGet H a x o ∧ Q (.bl (if neg then !o.isSome else o.isSome)) H := by
  obtain ⟨m, S, u1, u2, z, S', st, r1, r2, e, q⟩ := h
  unfold inU at e
  split at e
  · rename_i k hk
    cases e
    unfold inB at hk
    split at hk
    · rename_i z
      split at hk
      · rename_i x'
        split at hk
        · rename_i c hc
          cases hk
          have := str_of_one hc
          subst this
          unfold RU at r1 r2
          subst r1; subst r2
          exact .inr (.inl ⟨c, z, rfl, rfl, q.here st rfl⟩)
        · cases hk
      · cases hk
    · split at hk
      · rename_i us hus
        split at hk
        · rename_i hf
          cases hk
          obtain ⟨a, vs, rfl, hs, rs⟩ := itmU_ok st r2 hus
          obtain ⟨f1, f2⟩ := anyF_ok r1 hf.1 rs hf.2
          exact .inl ⟨a, vs, rfl, hs.symm, flatU_ok r1 hf.1, f1, by rw [f2]; exact q.here st rfl⟩
        · cases hk
      · split at hk
        · rename_i kvs k' h1 h2
          cases hk
          obtain ⟨a, vs, rfl, hr, rk⟩ := dctU_ok st r2 h1
          have g := rk.get (k := k')
          refine .inr (.inr ⟨a, valV vs k', rfl, .inl ⟨vs, k', hr, keyU_ok r1 h2, rfl⟩, ?_⟩)
          have hi : (valV vs k').isSome = (getK kvs k').isSome := by
            cases hg : getK kvs k' with
            | none => rw [g.1 hg]; rfl
            | some w => obtain ⟨v', ev', _⟩ := g.2 w hg; rw [ev']; rfl
          rw [hi]
          exact q.here st rfl
        · cases hk
  · cases e
theorem ou_in (hu : X.A.units + 1 < cLine) : OpU G X (compareOp .In) (inU false) := OpR.imp (OpR.or op_in_seq (OpR.or op_in_sign (or_din hu))) fun x y H Q h => by
  simpa using in_ok h
theorem ou_notin (hu : X.A.units + 1 < cLine) : OpU G X (compareOp .NotIn) (inU true) := OpR.imp (OpR.or op_notIn_seq (OpR.or op_notIn_sign (or_dnotin hu))) fun x y H Q h => by
  simpa using in_ok h
def mergeU (kvs more : List (Key × U)) : List (Key × U) := more.foldl (fun acc kv => putKU acc kv.1 kv.2) kvs
section
variable {K : PySem.W.Frag} {m m' : Mp} {H H' : Hp} {S S' : Sto}
theorem res_cell {D : Addr} {o : O} {ho : HO} (x : Ext m H m' H') (hD : H D = none) (nx : D ∉ m'.x) (st' : Rst K G ⟨m'.c, D :: m'.x⟩ H' S') (hd : H' D = some ho) (r : RO K G ⟨m'.c, D :: m'.x⟩ H' o ho) :
    Ext m H ⟨m'.c ++ [D], m'.x⟩ H' ∧ Rst K G ⟨m'.c ++ [D], m'.x⟩ H' (S' ++ [o]) ∧ RU K G ⟨m'.c ++ [D], m'.x⟩ H' (.ref S'.length) (.ref D) := by
  have k : Keeps ⟨m'.c, D :: m'.x⟩ H' ⟨m'.c ++ [D], m'.x⟩ H' := ⟨fun a u r n nx => ⟨r, by
    intro h
    rcases List.mem_append.mp h with h | h
    · exact n h
    · exact nx (by simp at h; simp [h]), fun h => nx (List.mem_cons_of_mem _ h)⟩, fun n a h => by
    show (m'.c ++ [D])[n]? = some a
    rw [List.getElem?_append_left (List.getElem?_eq_some_iff.mp h).1]; exact h, fun _ _ h _ _ => h⟩
  have hDc : D ∉ m'.c := st'.nx D (by simp)
  refine ⟨⟨?_, x.x, x.keep, x.cells, fun a ha n => ?_, x.fz⟩, ⟨?_, by simp [st'.len], fun n ob a h1 h2 => ?_, fun a ha => st'.xs a (List.mem_cons_of_mem _ ha), fun a ha h => ?_, fun a ha => st'.tx a (List.mem_cons_of_mem _ ha)⟩, RU.cell ?_⟩
  · obtain ⟨r, hr⟩ := x.pre
    exact ⟨r ++ [D], by rw [← List.append_assoc, ← hr]⟩
  · rcases List.mem_append.mp ha with h | h
    · exact x.new a h n
    · have : a = D := by simpa using h
      rw [this]; exact hD
  · refine List.nodup_append.mpr ⟨st'.nd, by simp, fun a ha b hb => ?_⟩
    have : b = D := by simpa using hb
    subst this
    intro e; subst e
    exact hDc ha
  · by_cases hn : n < S'.length
    · rw [List.getElem?_append_left hn] at h1
      have h2' : m'.c[n]? = some a := by
        have h2'' : (m'.c ++ [D])[n]? = some a := h2
        rw [List.getElem?_append_left (by have := st'.len; simp at this; omega)] at h2''
        exact h2''
      obtain ⟨ho, e, r⟩ := st'.ob n ob a h1 h2'
      exact ⟨ho, e, RO.keep k _ _ r⟩
    · rw [List.getElem?_append_right (by omega)] at h1
      have e0 : n - S'.length = 0 := by
        have := (List.getElem?_eq_some_iff.mp h1).1
        simp at this; omega
      rw [e0] at h1
      cases h1
      have hlen : m'.c.length = S'.length := st'.len
      have h2'' : (m'.c ++ [D])[n]? = some a := h2
      rw [List.getElem?_append_right (by omega), hlen, e0] at h2''
      cases h2''
      exact ⟨_, hd, RO.keep k _ _ r⟩
  · rcases List.mem_append.mp h with h | h
    · exact st'.nx a (List.mem_cons_of_mem _ ha) h
    · have : a = D := by simpa using h
      subst this
      exact nx ha
  · have hlen : m'.c.length = S'.length := st'.len
    show (m'.c ++ [D])[S'.length]? = some D
    rw [← hlen]; simp
theorem mergeU_ok : ∀ {more : List (Key × U)} {ws : List (Key × V)} {kvs : List (Key × U)} {vs : List (Key × V)}, RKs K G m H more ws → RKs K G m H kvs vs → RKs K G m H (mergeU kvs more) (mergeK vs ws)
  | [], ws, kvs, vs, r, r0 => by have := r.eqnil; subst this; exact r0
  | (k, u) :: more, ws, kvs, vs, r, r0 => by
    obtain ⟨v, t, rfl, q, tl⟩ := r.uncons
    exact mergeU_ok (more := more) (kvs := putKU kvs k u) (vs := putK vs k v) tl (r0.put q)
end
@[simp] theorem inU_ap (neg : Bool) (a b : U) (S : Sto) : inU neg a b S = match inB S a b with
  | some k => some (.bl (if neg then !k else k), S)
  | none => none := rfl
@[simp] theorem inB_tup (S : Sto) (a : U) (us : List U) : inB S a (.tup us) = if flatU a = true ∧ us.all flatU = true then some (us.any fun y => eqF y a) else none := rfl
@[simp] theorem inB_lst (S : Sto) (a : U) (us : List U) : inB S a (.lst us) = if flatU a = true ∧ us.all flatU = true then some (us.any fun y => eqF y a) else none := rfl
@[simp] theorem inB_dct (S : Sto) (a : U) (kvs : List (Key × U)) : inB S a (.dct kvs) = match keyU a with
  | some k => some (getK kvs k).isSome
  | none => none := by
  show (match dctU S (.dct kvs), keyU a with | some kvs, some k => some (getK kvs k).isSome | _, _ => none) = _
  simp only [dctU]
  cases keyU a <;> rfl
theorem inB_refL (S : Sto) (a : U) (n : Nat) (us : List U) (h : S[n]? = some (.lst us)) : inB S a (.ref n) = if flatU a = true ∧ us.all flatU = true then some (us.any fun y => eqF y a) else none := by
  simp [inB, itmU, h]
@[simp] theorem mergeU_nil (kvs : List (Key × U)) : mergeU kvs [] = kvs := rfl
@[simp] theorem mergeU_cons (kvs : List (Key × U)) (k : Key) (v : U) (r : List (Key × U)) : mergeU kvs ((k, v) :: r) = mergeU (putKU kvs k v) r := rfl
end OF
namespace OF
open PySem PySem.Spec PyProof.Rows L2
mutual
def bkU : U → Nat
  | .str x => x.cps.size
  | .tup us => bkUs us
  | .lst us => bkUs us
  | _ => 0
def bkUs : List U → Nat
  | [] => 0
  | u :: us => bkU u + 1 + bkUs us
end
mutual
def shU : U → Bool
  | .int i => decide (i.natAbs.log2 < 400)
  | .tup us => shUs us
  | .lst us => shUs us
  | _ => true
def shUs : List U → Bool
  | [] => true
  | u :: us => shU u && shUs us
end
end OF
namespace OF
open PySem PySem.Spec PyProof.Rows L2
variable {X : Cx} {G : Gx}
variable {e o tg iter : Expr} {es : List Expr} {ca cb : Cm U} {cl ck : Cm (List U)} {pos apos p : Pos}
abbrev CmG := Env' → Sto → Option ((List U × Option Nat) × Sto)
def gok (g : Option Nat) (us : List U) (S : Sto) : Prop := match g with
  | none => True
  | some n => S[n]? = some (.lst us)
@[simp] theorem gok_none (us : List U) (S : Sto) : gok none us S = True := rfl
@[simp] theorem gok_some (n : Nat) (us : List U) (S : Sto) : gok (some n) us S = (S[n]? = some (.lst us)) := rfl
def ItOkG (K : PySem.W.Frag) (G : Gx) (m1 : Mp) (H1 : Hp) (us : List U) (g : Option Nat) (J : It) : Prop := ∃ Gd Y, Walk J us.length Gd Y ∧ (∀ m2 H2 S2, Ext m1 H1 m2 H2 → Rst K G m2 H2 S2 → gok g us S2 → Gd H2) ∧
  ∀ i m2 S2 H2 x H3, Ext m1 H1 m2 H2 → Rst K G m2 H2 S2 → gok g us S2 → i < us.length → Y i H2 x H3 → ∃ u, us[i]? = some u ∧ Ext m2 H2 m2 H3 ∧ Rst K G m2 H3 S2 ∧ RU K G m2 H3 u x
def RIG (K : PySem.W.Frag) (G : Gx) (it : CmG) : TI := fun σ H R => ∃ m S env us g S', Rst K G m H S ∧ Renv K G m H env σ ∧ it env S = some ((us, g), S') ∧ ∀ m1 H1, Ext m H m1 H1 → Rst K G m1 H1 S' → ∀ J, ItOkG K G m1 H1 us g J → R J H1
abbrev EIG (G : Gx) (X : Cx) (tg iter : Expr) (it : CmG) : Prop := PI X tg iter (RIG X.K G it)
open Classical in
noncomputable def loopG (pt : Pat) (b : Sm) (g : Option Nat) (us0 : List U) : List U → Sm
  | [], env, S => if gok g us0 S then some (.nx, env, S) else none
  | u :: us, env, S => if gok g us0 S then (match bindP pt u with
    | none => none
    | some bs => match b (setAll env bs) S with
      | none => none
      | some (.nx, env2, S2) => loopG pt b g us0 us env2 S2
      | some (.ct, env2, S2) => loopG pt b g us0 us env2 S2
      | some (.brk, env2, S2) => some (.nx, env2, S2)
      | some (.ret z, env2, S2) => some (.ret z, env2, S2)) else none
noncomputable def sForG (it : CmG) (pt : Pat) (b : Sm) : Sm := fun env S => match it env S with
  | none => none
  | some ((us, g), S1) => loopG pt b g us us env S1
open Classical in
noncomputable def mapG (pt : Pat) (t : Cm Bool) (c : Cm U) (env : Env') (g : Option Nat) (us0 : List U) : List U → Sto → Option (List U × Sto)
  | [], S => if gok g us0 S then some ([], S) else none
  | u :: us, S => if gok g us0 S then (match bindP pt u with
    | none => none
    | some bs => match t (setAll env bs) S with
      | none => none
      | some (false, S1) => mapG pt t c env g us0 us S1
      | some (true, S1) => match c (setAll env bs) S1 with
        | none => none
        | some (y, S2) => match mapG pt t c env g us0 us S2 with
          | none => none
          | some (ys, S3) => some (y :: ys, S3)) else none
theorem mapG_gok {pt : Pat} {t : Cm Bool} {c : Cm U} {env : Env'} {g : Option Nat} {us0 us : List U} {S : Sto} {r : List U × Sto} (h : mapG pt t c env g us0 us S = some r) : gok g us0 S := by
  cases us <;> (unfold mapG at h; split at h; assumption; cases h)
noncomputable def cLcGL (it : CmG) (pt : Pat) (t : Cm Bool) (c : Cm U) (vs : List Nat) : Cm (List U) := fun env S => match it env S with
  | none => none
  | some ((us, g), S1) => match mapG pt t c (wipeE env vs) g us us S1 with
    | none => none
    | some (ys, S2) => if ys.length ≤ sizeLine then some (ys, S2) else none
noncomputable def cLcG (it : CmG) (pt : Pat) (t : Cm Bool) (c : Cm U) (vs : List Nat) : Cm U := fun env S => match cLcGL it pt t c vs env S with
  | none => none
  | some (ys, S2) => some (.lst ys, S2)
theorem re_lcG {K : PySem.W.Frag} {it : CmG} {pt : Pat} {t : Cm Bool} {c : Cm U} {vs : List Nat} {σ : L2.St} {H : Hp} {Q : VK} (hsl : ∀ i ∈ pt.slots, i ∈ vs)
    {m : Mp} {S : Sto} {env : Env'} {ys : List U} {S' : Sto} (st : Rst K G m H S) (re : Renv K G m H env σ) (hc : cLcGL it pt t c vs env S = some (ys, S'))
    (q : ∀ m' H' D zs, Ext m H m' H' → H D = none → D ∉ m'.x → Rst K G ⟨m'.c, D :: m'.x⟩ H' S' → H' D = some (.lst zs) → RUs K G ⟨m'.c, D :: m'.x⟩ H' ys zs → Q (.ref D) H') :
    tLc (RIG K G it) (tPat K pt) (RT K G t) (RE K G c) vs σ H Q := by
  unfold cLcGL at hc
  split at hc
  · cases hc
  · rename_i us g S1 e1
    split at hc
    · cases hc
    · rename_i ys' S2 e2
      split at hc
      · rename_i hsz
        cases hc
        refine ⟨m, S, env, us, g, S1, st, re, e1, fun m1 H1 x1 st1 J hJ D hD => ?_⟩
        obtain ⟨Gd, Y, w, hG, hY⟩ := hJ
        have reW := (re.keep x1.keeps).wipe vs
        refine lc_it w (fun i H => ∃ m S acc zs rest, Ext m1 H1 m H ∧ D ∈ m.x ∧ Rst K G m H S ∧ H D = some (.lst zs) ∧ RUs K G m H acc zs ∧ mapG pt t c (wipeE env vs) g us (us.drop i) S = some (rest, S') ∧ ys = acc ++ rest)
          ⟨⟨m1.c, D :: m1.x⟩, S1, [], [], ys, Ext.res hD, by simp, st1.res hD, upd_same, RUs.nil, e2, rfl⟩ (fun i H _ ⟨m, S, acc, zs, rest, x, _, st, _, _, hm, _⟩ => hG m H S x st (mapG_gok hm)) (fun i y H H' hi ⟨m, S, acc, zs, rest, x, hx, st, hd, ra, hm, ey⟩ hy => ?_) (fun H ⟨m, S, acc, zs, rest, x, hx, st, hd, ra, hm, ey⟩ => ?_)
        · obtain ⟨u, hu, x2, st2, ru⟩ := hY i m S H y H' x st (mapG_gok hm) hi hy
          rw [drop_cons hu] at hm
          have hk := mapG_gok hm
          unfold mapG at hm
          rw [if_pos hk] at hm
          split at hm
          · cases hm
          · rename_i bs eb
            obtain ⟨bv, h1, h2⟩ := bindP_ok _ _ _ _ eb ru
            have re2 := ((reW.keep x.keeps).keep x2.keeps).setAll h2
            have nc : D ∉ m.c := st.nx D hx
            refine ⟨bv, h1, wipe_setAll_wipe (fun i hi => hsl i (by rw [PatV.slots _ _ _ h1] at hi; exact hi)), ?_⟩
            split at hm
            · cases hm
            · rename_i S3 e3
              refine ⟨m, S, _, false, S3, st2, re2, e3, fun m3 H3 x3 st3 => iteF ?_⟩
              exact ⟨m3, S3, acc, zs, rest, (x.trans x2).trans x3, x3.xmem hx, st3, x3.keep D _ (x2.keep D _ hd nc) nc, RUs.keep (x2.trans x3).keeps _ _ ra, hm, ey⟩
            · rename_i S3 e3
              refine ⟨m, S, _, true, S3, st2, re2, e3, fun m3 H3 x3 st3 => iteT ?_⟩
              split at hm
              · cases hm
              · rename_i z S4 e4
                split at hm
                · cases hm
                · rename_i zs' S5 e5
                  cases hm
                  have d3 : H3 D = some (.lst zs) := x3.keep D _ (x2.keep D _ hd nc) nc
                  have nc3 : D ∉ m3.c := st3.nx D (x3.xmem hx)
                  refine ⟨m3, S3, _, z, S4, st3, re2.keep x3.keeps, e4, fun m4 H4 v x4 st4 r4 => ?_⟩
                  have hx4 : D ∈ m4.x := x4.xmem (x3.xmem hx)
                  have d4 : H4 D = some (.lst zs) := x4.keep D _ d3 nc3
                  have k4 : Keeps m4 H4 m4 (L2.upd H4 D (.lst (zs ++ [v]))) := keeps_x hx4
                  have ra4 := RUs.keep ((x2.trans x3).trans x4).keeps _ _ ra
                  have hl : zs.length < sizeLine := by
                    have h1 := ra.length
                    have h2 : ys.length ≤ sizeLine := hsz
                    rw [ey] at h2
                    simp at h2
                    omega
                  refine ⟨zs, d4, hl, m4, S4, acc ++ [z], zs ++ [v], zs', ?_, hx4, st4.setx hx4, upd_same, RUs.keep k4 _ _ (ra4.append (RUs.one r4)), e5, by rw [ey]; simp⟩
                  have x5 := ((x.trans x2).trans x3).trans x4
                  refine ⟨x5.pre, x5.x, fun a o h n => ?_, fun a ha h => ?_, x5.new, fun a ob u h => by rw [upd_ne (ne_of_none h hD)]; exact x5.fz a ob u h⟩
                  · have : a ≠ D := ne_of_none h hD
                    rw [upd_ne this]; exact x5.keep a o h n
                  · by_cases e : a = D
                    · subst e; rw [upd_same]; rfl
                    · rw [upd_ne e]; exact x5.cells a ha h
        · rw [List.drop_length] at hm
          have hk := mapG_gok hm
          unfold mapG at hm
          rw [if_pos hk] at hm
          cases hm
          rw [List.append_nil] at ey
          subst ey
          have hsub : ∀ a ∈ D :: m1.x, a ∈ m.x := fun a ha => by
            rcases List.mem_cons.mp ha with h | h
            · rw [h]; exact hx
            · exact x.xmem h
          exact q ⟨m.c, m1.x⟩ H D zs (x1.trans x.forget) (x1.back hD) (st1.none_x hD) (Rst.forget (x := m.x) st hsub) hd (RUs.keep (keeps_forget (x := m.x) hsub) _ _ ra)
      · cases hc
theorem ee_lcG {elt : Expr} {ifs : List Expr} {scope : Scope} {own : List (Str × Nat)} {it : CmG} {pt : Pat} {t : Cm Bool} {c : Cm U} (hc : X.calm = true) (hN : X.N.Nodup) (hi : EIG G X tg iter it) (ok : BlkOk X.N X.env.scope scope own)
    (hg : ∀ (s : Shared) (H : Hp) (C : Addr) (cl : List (Str × Addr)) (fp : List Addr), EPt (X.blk s H scope (compEnvC scope cl C X.env) fp) tg pt) (ht : ∀ (s : Shared) (H : Hp) (C : Addr) (cl : List (Str × Addr)) (fp : List Addr), ETs G (X.blk s H scope (compEnvC scope cl C X.env) fp) ifs t)
    (he : ∀ (s : Shared) (H : Hp) (C : Addr) (cl : List (Str × Addr)) (fp : List Addr), EE G (X.blk s H scope (compEnvC scope cl C X.env) fp) elt c) (hsl : ∀ i ∈ pt.slots, i ∈ own.map (·.2)) (hs : ∀ x, foldedSetIterable iter X.env x = pure x := by intro _; rfl) :
    EE G X (.ListComp elt [⟨tg, iter, ifs, 0⟩] scope pos) (cLcG it pt t c (own.map (·.2))) := (pe_lc hc hN hi ok hg ht he hs).imp fun σ H Q ⟨m, S, env, z, S', st, re, hc, q⟩ => by
  unfold cLcG at hc
  split at hc
  · cases hc
  · rename_i ys S2 e1
    cases hc
    refine re_lcG hsl st re e1 fun m' H' D zs x hD nx st' hd r => ?_
    have st2 : Rst X.K G m' H' S' := Rst.forget (c := m'.c) (x := D :: m'.x) st' fun a ha => List.mem_cons_of_mem _ ha
    refine q m' H' _ x st2 ?_
    unfold RU
    exact ⟨D, zs, rfl, .inl hd, st'.nx D (by simp), nx, RUs.keep (keeps_forget fun a ha => List.mem_cons_of_mem _ ha) _ _ r⟩
def itAny (c : Cm U) : CmG := fun env S => match c env S with
  | none => none
  | some (u, S1) => match u with
    | .ref n => match S1[n]? with
      | some (.lst us) => some ((us, some n), S1)
      | _ => none
    | u => match seqU u with
      | none => none
      | some us => some ((us, none), S1)
theorem itok_g {K : PySem.W.Frag} {m : Mp} {H : Hp} {us : List U} {J : It} (h : ItOk K G m H us J) : ItOkG K G m H us none J := by
  obtain ⟨Gd, Y, w, hG, hY⟩ := h
  exact ⟨Gd, Y, w, fun m2 H2 S2 x _ _ => hG m2 H2 x, fun i m2 S2 H2 y H3 x st _ hi hy => hY i m2 S2 H2 y H3 x st hi hy⟩
theorem walk_cell {K : PySem.W.Frag} {a : Addr} {n : Nat} : Walk (Itl K a) n (fun H => ∃ vs, H a = some (.lst vs) ∧ vs.length = n) (fun i H x H' => H' = H ∧ ∀ vs, H a = some (.lst vs) → vs[i]? = some x) :=
  ⟨fun i H hi ⟨vs, h, hl⟩ => ⟨vs, vs[i]'(by omega), .inl (.inl h), by simp [hl, hi]⟩, fun H ⟨vs, h, hl⟩ => ⟨vs, .inl (.inl h), by omega⟩, fun i H x H' hi ⟨vs, h, hl⟩ y => ⟨y.1, fun ws hw => y.2 ws (.inl (.inl hw))⟩⟩
theorem itok_cell {K : PySem.W.Frag} {m : Mp} {H : Hp} {n : Nat} {us : List U} {a : Addr} (hm : m.c[n]? = some a) : ItOkG K G m H us (some n) (Itl K a) := by
  have look : ∀ m2 H2 S2, Ext m H m2 H2 → Rst K G m2 H2 S2 → gok (some n) us S2 → ∃ vs, H2 a = some (.lst vs) ∧ RUs K G m2 H2 us vs := by
    intro m2 H2 S2 x st g
    obtain ⟨ho, e, vs, rfl, r⟩ := st.ob n _ a g (x.at hm)
    exact ⟨vs, e, r⟩
  refine ⟨_, _, walk_cell, fun m2 H2 S2 x st g => ?_, fun i m2 S2 H2 y H3 x st g hi ⟨e, hy⟩ => ?_⟩
  · obtain ⟨vs, h, r⟩ := look m2 H2 S2 x st g
    exact ⟨vs, h, r.length⟩
  · subst e
    obtain ⟨vs, h, r⟩ := look m2 H3 S2 x st g
    obtain ⟨v, e', q⟩ := r.get (List.getElem?_eq_getElem hi)
    rw [hy vs h] at e'
    cases e'
    exact ⟨_, List.getElem?_eq_getElem hi, Ext.refl _ _, st, q⟩
theorem ei_any (he : EE G X e ca) : EIG G X tg e (itAny ca) := (PI.or3 (pi_tup he) (pi_list he) (pi_str he)).imp fun σ H R ⟨m, S, env, us, g, S', st, re, hc, q⟩ => by
  unfold itAny at hc
  split at hc
  · cases hc
  · rename_i u S1 e1
    split at hc
    · rename_i n
      split at hc
      · rename_i us' hn
        cases hc
        refine .inr (.inl ⟨m, S, env, _, S', st, re, e1, fun m1 H1 v x1 st1 r1 => ?_⟩)
        unfold RU at r1
        obtain ⟨a, ev, ha⟩ := r1
        obtain ⟨ho, e, vs, rfl, r⟩ := st1.ob n _ a hn ha
        exact ⟨a, ev, ⟨vs, .inl (.inl e)⟩, q m1 H1 x1 st1 _ (itok_cell ha)⟩
      · cases hc
    · split at hc
      · cases hc
      · rename_i us' e2
        cases hc
        cases u with
        | tup us' =>
          cases e2
          refine .inl ⟨m, S, env, _, S', st, re, e1, fun m1 H1 v x1 st1 r1 => ?_⟩
          obtain ⟨a, vs, ev, rv, hq⟩ := r1.tupSt
          exact ⟨a, ev, ⟨vs, hq m1 H1 (Ext.refl _ _)⟩, q m1 H1 x1 st1 _ (itok_g (itok_at rv walk_tup hq))⟩
        | lst us' =>
          cases e2
          refine .inr (.inl ⟨m, S, env, _, S', st, re, e1, fun m1 H1 v x1 st1 r1 => ?_⟩)
          obtain ⟨a, vs, ev, rv, hq⟩ := r1.lstSt
          exact ⟨a, ev, ⟨vs, hq m1 H1 (Ext.refl _ _)⟩, q m1 H1 x1 st1 _ (itok_g (itok_at rv walk_list hq))⟩
        | scr us' =>
          cases e2
          refine .inr (.inl ⟨m, S, env, _, S', st, re, e1, fun m1 H1 v x1 st1 r1 => ?_⟩)
          obtain ⟨a, vs, ev, rv, hq⟩ := r1.scrSt
          exact ⟨a, ev, ⟨vs, hq m1 H1 (Ext.refl _ _)⟩, q m1 H1 x1 st1 _ (itok_g (itok_at rv walk_list hq))⟩
        | str x =>
          cases e2
          refine .inr (.inr ⟨m, S, env, _, S', st, re, e1, fun m1 H1 v x1 st1 r1 => ?_⟩)
          exact ⟨x, r1, q m1 H1 x1 st1 _ (itok_g (itok_at (RUs.signs x) walk_strV fun _ _ _ => trivial))⟩
        | _ => cases e2
end OF
namespace OF
open PySem PySem.Spec PyProof.Rows L2
variable {X : Cx} {G : Gx}
variable {e o tg iter : Expr} {es : List Expr} {ca cb : Cm U} {cl ck : Cm (List U)} {pos apos p : Pos}
def strsU : List U → Option (List Str)
  | [] => some []
  | .str x :: us => match strsU us with
    | some xs => some (x :: xs)
    | none => none
  | _ => none
theorem strsU_ok {K : PySem.W.Frag} {m : Mp} {H : Hp} : ∀ {us : List U} {vs : List V} {ys : List Str}, RUs K G m H us vs → strsU us = some ys → vs = ys.map V.str
  | [], vs, ys, r, h => by cases h; exact r.eqnil
  | .str x :: us, vs, ys, r, h => by
    obtain ⟨v, t, rfl, rv, rt⟩ := r.uncons
    unfold strsU at h
    split at h
    · rename_i xs hx
      cases h
      cases rv
      rw [strsU_ok rt hx]; rfl
    · cases h
  | .non :: us, vs, ys, r, h => by cases h
  | .bl _ :: us, vs, ys, r, h => by cases h
  | .int _ :: us, vs, ys, r, h => by cases h
  | .tup _ :: us, vs, ys, r, h => by cases h
  | .lst _ :: us, vs, ys, r, h => by cases h
  | .scr _ :: us, vs, ys, r, h => by cases h
  | .dct _ :: us, vs, ys, r, h => by cases h
  | .fn _ :: us, vs, ys, r, h => by cases h
  | .ref _ :: us, vs, ys, r, h => by cases h
def joinU : U → OpN := fun u us S => match u, us with
  | .str a, [w] => match itmU S w with
    | some xs => match strsU xs with
      | some ys => if (ys.map (·.length)).sum + ys.length * a.length ≤ 16777216 then some (.str (Txt.join a ys), S) else none
      | none => none
    | none => none
  | _, _ => none
theorem mu_join : MtU G X "str.join" joinU := MtR.imp mt_join fun x xs H Q ⟨m, S, u, us, z, S', st, r, rs, e, q⟩ => by
  unfold joinU at e
  split at e
  · rename_i a w
    split at e
    · rename_i ws hw
      split at e
      · rename_i ys hy
        split at e
        · rename_i hz
          cases e
          obtain ⟨v, rfl, rv⟩ := rs.one1
          cases r
          obtain ⟨b, vs, rfl, hq, rr⟩ := itmU_ok st rv hw
          have := strsU_ok rr hy
          subst this
          exact ⟨_, b, ys, rfl, rfl, hq.symm, hz, q.here st rfl⟩
        · cases e
      · cases e
    · cases e
  · cases e
theorem RUs.reverse {K : PySem.W.Frag} {m : Mp} {H : Hp} : ∀ {us : List U} {vs : List V}, RUs K G m H us vs → RUs K G m H us.reverse vs.reverse
  | [], vs, r => by have := r.eqnil; subst this; exact RUs.nil
  | u :: us, vs, r => by
    obtain ⟨v, t, rfl, rv, rt⟩ := r.uncons
    rw [List.reverse_cons, List.reverse_cons]
    exact (RUs.reverse rt).append (RUs.one rv)
def revU (mu : Bool) : Op1 := fun u S => match lstU S u with
  | some us => if mu then some (.ref S.length, S ++ [.lst us.reverse]) else some (.lst us.reverse, S)
  | none => none
theorem ee_rev {k : Nat} {p1 p2 p3 : Pos} (mu : Bool) (he : EE G X e ca) : EE G X (.Subscript e (.Slice none none (some (.UnaryOp .USub (.Constant (.int 1) k p1) p2)) p3) pos) (cUn (revU mu) ca) := (pe_revL he).imp fun σ H Q ⟨m, S, env, z, S', st, re, hc, q⟩ => by
  obtain ⟨u, S1, e1, e2⟩ := cUn_some hc
  refine ⟨m, S, env, u, S1, st, re, e1, fun m1 H1 v x1 st1 r1 => ?_⟩
  unfold revU at e2
  split at e2
  · rename_i us hl
    obtain ⟨a, vs, rfl, hr, rv⟩ := lstU_ok st1 r1 hl
    refine ⟨a, vs, rfl, .inl hr, ?_⟩
    split at e2
    · cases e2
      exact After.cell (o := .lst us.reverse) (q.mono x1) st1 ⟨_, rfl, rv.reverse⟩
    · cases e2
      exact (q.mono x1).lst st1 rv.reverse
  · cases e2
def lrgK (mu : Bool) (S : Sto) (u : U) : Option (U × Sto) := match u with
  | .int n => if 0 ≤ n ∧ n ≤ 16777216 then (if mu then some (.ref S.length, S ++ [.lst (rangeU 0 n.toNat)]) else some (.lst (rangeU 0 n.toNat), S)) else none
  | _ => none
def cLrg (mu : Bool) (c : Cm U) : Cm U := cUn (fun u S => lrgK mu S u) c
theorem RUs.rg {K : PySem.W.Frag} {m : Mp} {H : Hp} (n : Int) : RUs K G m H (rangeU 0 n.toNat) (rgV 0 n) := by
  unfold rangeU rgV
  rw [show (n - 0).toNat = n.toNat by simp]
  induction List.range n.toNat with
  | nil => exact RUs.nil
  | cons i t ih => exact RUs.cons rfl ih
theorem ee_lrg {p1 p2 pos2 : Pos} (mu : Bool) (hc0 : X.calm = true) (hg : Gl X "list") (hm : X.mg "list" = none) (hg2 : Gl X "range") (hm2 : X.mg "range" = none) (he : EE G X e ca) (na : starEach [e] X.env = (false, eval e X.env) :: starEach [] X.env := by rfl)
    (nb : starEach [Expr.Call (.Name "range" p2) [e] [] pos2] X.env = (false, eval (.Call (.Name "range" p2) [e] [] pos2) X.env) :: starEach [] X.env := by rfl) :
    EE G X (.Call (.Name "list" p1) [.Call (.Name "range" p2) [e] [] pos2] [] pos) (cLrg mu ca) := (pe_listRg hc0 hg hm (prg_1 hg2 hm2 he na) nb).imp fun σ H Q ⟨m, S, env, z, S', st, re, hc, q⟩ => by
  obtain ⟨u, S1, e1, e2⟩ := cUn_some hc
  refine ⟨m, S, env, u, S1, st, re, e1, fun m1 H1 v x1 st1 r1 => ?_⟩
  unfold lrgK at e2
  split at e2
  · rename_i n
    split at e2
    · rename_i hn
      cases r1
      refine ⟨n, rfl, RgOk.of_le (by omega) (by omega) (by omega) (by omega), ?_⟩
      split at e2
      · cases e2
        exact After.cell (o := .lst (rangeU 0 n.toNat)) (q.mono x1) st1 ⟨_, rfl, RUs.rg n⟩
      · cases e2
        exact (q.mono x1).lst st1 (RUs.rg n)
    · cases e2
  · cases e2
def repU (mu : Bool) : Op2 := fun a b S => match a, b with
  | .ref n, .int k => match S[n]? with
    | some (.lst us) => if (-(2 ^ 63) ≤ k ∧ k < 2 ^ 63) ∧ us.length * k.toNat ≤ sizeLine then (if mu then some (.ref S.length, S ++ [.lst (List.replicate k.toNat us).flatten]) else some (.lst (List.replicate k.toNat us).flatten, S)) else none
    | _ => none
  | _, _ => none
theorem RUs.rep {K : PySem.W.Frag} {m : Mp} {H : Hp} {us : List U} {vs : List V} (r : RUs K G m H us vs) : ∀ n : Nat, RUs K G m H (List.replicate n us).flatten (List.replicate n vs).flatten
  | 0 => RUs.nil
  | n + 1 => by
    rw [List.replicate_succ, List.replicate_succ, List.flatten_cons, List.flatten_cons]
    exact r.append (RUs.rep r n)
theorem ou_rep (mu : Bool) : OpU G X (binaryOp .Mult) (repU mu) := OpR.imp op_rep fun x y H Q ⟨m, S, u1, u2, z, S', st, r1, r2, e, q⟩ => by
  unfold repU at e
  split at e
  · rename_i n k
    split at e
    · rename_i us hn
      split at e
      · rename_i hk
        unfold RU at r1
        obtain ⟨a, rfl, ha⟩ := r1
        obtain ⟨ho, hH, vs, rfl, rv⟩ := st.ob n _ a hn ha
        cases r2
        refine ⟨a, k, vs, rfl, rfl, hH, hk.1.1, hk.1.2, by rw [rv.length]; exact hk.2, ?_⟩
        split at e
        · cases e
          exact After.cell (o := .lst (List.replicate k.toNat us).flatten) q st ⟨_, rfl, rv.rep _⟩
        · cases e
          exact q.lst st (rv.rep _)
      · cases e
    · cases e
  · cases e
end OF
namespace OF
open PySem PySem.Spec PyProof.Rows L2
variable {X : Cx} {G : Gx}
variable {e o tg iter : Expr} {es : List Expr} {ca cb : Cm U} {cl ck : Cm (List U)} {pos apos p : Pos}
theorem RKs.len {K : PySem.W.Frag} {m : Mp} {H : Hp} {us : List (Key × U)} {vs : List (Key × V)} (r : RKs K G m H us vs) : vs.length = us.length := RKs.length r
end OF
namespace OF
open PySem PySem.Spec PyProof.Rows L2
def testsOf (ifs : List Expr) (env : Env) : Sem Bool := forIn ifs true fun c r => if r = true then (do let ok ← isTrue c env (eval c env); pure (ForInStep.yield ok)) else pure (ForInStep.yield r)
def turnG (C : Expr) (t i : Expr) (ifs : List Expr) (k : Nat) (it acc : Value) (env : Env) (yes : Sem Fin) : Sem Fin :=
  standAt i.pos >>= fun _ => pyNext it >>= fun r => match r with
    | none => pure (.done .next)
    | some v => letOwnedTupleGo t it v >>= fun _ => assign t env v >>= fun _ => testsOf ifs env >>= fun ok => if ok = true then yes else again (.compLoop C k it acc env)
def deeper (C : Expr) (i1 : Expr) (k : Nat) (it acc : Value) (env : Env) : Sem Fin :=
  eval i1 env >>= fun x => standAt i1.pos >>= fun _ => foldedSetIterable i1 env x >>= fun y => holding [y] (pyIter y) >>= fun it1 => runOwn (.compStart C (k + 1) it1 acc env) env >>= fun _ => again (.compLoop C k it acc env)
def putOut (kx vx : Expr) (C : Expr) (k : Nat) (it : Value) (D : Addr) (env : Env) : Sem Fin :=
  (eval kx env >>= fun kv => holding [kv] (eval vx env) >>= fun vv => standAt { kx.pos with endLine := vx.pos.endLine, endCol := vx.pos.endCol } >>= fun _ => holding [kv, vv] (dictSet D kv vv)) >>= fun _ => again (.compLoop C k it (.ref D) env)
theorem turn_dm {kx vx t i t1 i1 : Expr} {ifs ifs1 : List Expr} {gs : List Comprehension} {scope : Scope} {pos : Pos} {k : Nat} {it acc : Value} {env : Env} (h : gs[k]? = some ⟨t, i, ifs, 0⟩) (h1 : gs[k + 1]? = some ⟨t1, i1, ifs1, 0⟩) :
    compTurn (.DictComp kx vx gs scope pos) k it acc env = turnG (.DictComp kx vx gs scope pos) t i ifs k it acc env (deeper (.DictComp kx vx gs scope pos) i1 k it acc env) := by
  unfold compTurn
  simp only [h, h1]
  rfl
theorem turn_dl {kx vx t i : Expr} {ifs : List Expr} {gs : List Comprehension} {scope : Scope} {pos : Pos} {k : Nat} {it : Value} {D : Addr} {env : Env} (h : gs[k]? = some ⟨t, i, ifs, 0⟩) (h1 : gs[k + 1]? = none) :
    compTurn (.DictComp kx vx gs scope pos) k it (.ref D) env = turnG (.DictComp kx vx gs scope pos) t i ifs k it (.ref D) env (putOut kx vx (.DictComp kx vx gs scope pos) k it D env) := by
  unfold compTurn
  simp only [h, h1]
  rfl
section
variable {prog : Program} {w : World} {A : Around} {R : Result → Shared → Prop} {s : Shared} {C t i : Expr} {ifs : List Expr} {k : Nat} {it acc : Value} {env : Env} {yes : Sem Fin}
abbrev NoX : Value → Shared → Prop := fun _ _ => False
theorem loopN (hU : ∀ it : Value, A.under (.compLoop C k it acc env) = A) (hD : ∀ it : Value, (model prog w).den (.compLoop C k it acc env) = Sem.onRaise (compTurn C k it acc env) (fun x => do noteFrame x env; theTreesLotGoes x)) (hT : compTurn C k it acc env = turnG C t i ifs k it acc env yes) (I : Nat → Shared → Prop)
    (turn : ∀ n s, I n s → wpAny (model prog w) A (pyNext it) (fun r s1 => match r with
      | none => R (.ok .next) s1
      | some v => wpAny (model prog w) A (letOwnedTupleGo t it v) (fun _ s2 => wpAny (model prog w) A (assign t env v) (fun _ s3 => wpAny (model prog w) A (testsOf ifs env) (fun ok s4 =>
          if ok = true then wpAny (model prog w) A yes (fun fin s' => fin = .again (.compLoop C k it acc env) ∧ ∃ m, m < n ∧ I m s') NoX s4 else ∃ m, m < n ∧ I m s4) NoX s3) NoX s2) NoX s1) NoX s)
    (n : Nat) (h : I n s) : codeAny (model prog w) A (.compLoop C k it acc env) R s := by
  refine codeAny_loop rfl I (fun n s hI => ?_) n h
  rw [hU it, hD it]
  refine wpAny_noted ?_
  rw [hT]
  unfold turnG
  refine wpAny_bind (wpAny_standAt (wpAny_bind (thnF (turn n s hI) fun r s1 h1 => ?_)))
  cases r with
  | none => exact wpAny_pure h1
  | some v =>
    refine wpAny_bind (thnF h1 fun _ s2 h2 => wpAny_bind (thnF h2 fun _ s3 h3 => wpAny_bind (thnF h3 fun ok s4 h4 => ?_)))
    cases ok with
    | false => exact wpAny_pure ⟨rfl, h4⟩
    | true =>
      refine thnF (show wpAny (model prog w) A yes _ NoX s4 from h4) fun fin s' hf => ?_
      obtain ⟨rfl, hm⟩ := hf
      exact ⟨rfl, hm⟩
end
section
variable {Y : Cx} {C : Expr} {acc : Value} {ow : List Nat}
structure Cl where
  wi : TI
  g : TG
  tt : TT
  vs : List Nat
abbrev Em := L2.St → Hp → (Hp → Prop) → Prop
def tCl (J : It) (c : Cl) (σ : L2.St) (H1 : Hp) (Nx : Hp → Prop) (body : Em) : Prop := ∃ W : Nat → Nat → Hp → Prop, (∃ m, W 0 m H1) ∧ ∀ j m H, W j m H →
  (J.stop j H ∧ Nx H) ∨ (J.go j H ∧ ∃ N : Hp → Prop, (∀ H', N H' → ∃ m', m' < m ∧ W (j + 1) m' H') ∧ ∀ x H', J.yld j H x H' → c.g x (wipe σ c.vs) H' fun σ2 H2 => wipe σ2 c.vs = wipe σ c.vs ∧ c.tt σ2 H2 fun b H3 => if b = true then body σ2 H3 N else N H3)
def Aft (Y : Cx) (ow : List Nat) (pins : List (Addr × Obj)) (σ : L2.St) (Nx : Hp → Prop) (s' : Shared) : Prop := ∃ σ9 H', Inv Y pins σ9 H' s' ∧ σ.length = σ9.length ∧ (∀ (j : Nat) v, (wipe σ ow)[j]? = some (some v) → σ9[j]? = some (some v)) ∧ Nx H'
def YesOk (Y : Cx) (C : Expr) (acc : Value) (ow : List Nat) (k : Nat) (yes : Value → Sem Fin) (em : Em) : Prop := ∀ (pins : List (Addr × Obj)) (s : Shared) (σ : L2.St) (H : Hp) (Nx : Hp → Prop) (it : Value), Inv Y pins σ H s → em σ H Nx →
  wpAny (model Y.prog Y.w) Y.A (yes it) (fun fin s' => fin = .again (.compLoop C k it acc Y.env) ∧ Aft Y ow pins σ Nx s') NoX s
theorem clause_loop {t i : Expr} {ifs : List Expr} {k : Nat} {c : Cl} {yes : Value → Sem Fin} {body : Em} {pins : List (Addr × Obj)} {s : Shared} {σ : L2.St} {H1 : Hp} {Nx : Hp → Prop} {it : Addr} {fp : List Addr} {tn : Nat → Heap → Prop} {J : It}
    (hx : Y.xe = NoX) (hc : Y.calm = true) (hU : ∀ (k : Nat) (it : Value), Y.A.under (.compLoop C k it acc Y.env) = Y.A) (hD : ∀ (k : Nat) (it : Value), (model Y.prog Y.w).den (.compLoop C k it acc Y.env) = Sem.onRaise (compTurn C k it acc Y.env) (fun x => do noteFrame x Y.env; theTreesLotGoes x))
    (hT : compTurn C k (.ref it) acc Y.env = turnG C t i ifs k (.ref it) acc Y.env (yes (.ref it))) (hg : PG Y t c.g) (ht : PTs Y ifs c.tt) (hy : YesOk Y C acc ow k yes body) (hv : ∀ i ∈ ow, i ∈ c.vs)
    (I0 : Inv Y pins σ H1 s) (T : Turn Y.prog Y.w Y.K t J fp it tn) (st0 : tn 0 s.heap) (f0 : ∀ b ∈ fp, FpOk Y pins H1 b) (q : tCl J c σ H1 Nx body) :
    codeAny (model Y.prog Y.w) Y.A (.compLoop C k (.ref it) acc Y.env) (fun r s' => match r with
      | .ok _ => Aft Y c.vs pins σ Nx s'
      | .error _ => False) s := by
  obtain ⟨W, ⟨m0, w0⟩, turn⟩ := q
  have wl : (wipe σ c.vs).length = σ.length := wipe_length _ _
  have stat : ∀ {H' : Hp}, (∀ b ∈ fp, H' b = none) → ∀ b ∈ fp, FpOk Y pins H' b := fun hn b hb => ⟨hn b hb, (f0 b hb).2⟩
  refine loopN (yes := yes (.ref it)) (hU k) (hD k) hT (fun n s' => ∃ j H', Inv Y pins (wipe σ c.vs) H' s' ∧ tn j s'.heap ∧ (∀ b ∈ fp, H' b = none) ∧ W j n H') ?_ m0 ⟨0, H1, I0.weak wl (fun j v e => (wipe_some e).1), st0, fun b hb => (f0 b hb).1, w0⟩
  rintro n s1 ⟨j, Ha, Ia, sta, na, wa⟩
  rcases turn j n Ha wa with ⟨stop, nx⟩ | ⟨go, N, hN, step⟩
  · refine thnF (T.done Y rfl rfl rfl hc j _ s1 (wipe σ c.vs) Ha NoX Ia (stat na) sta stop) fun r s2 ⟨hr, Ib⟩ => ?_
    subst hr
    exact ⟨wipe σ c.vs, Ha, Ib, wl.symm, fun j v e => e, nx⟩
  · refine thnF (T.item Y rfl rfl rfl hc j _ s1 (wipe σ c.vs) Ha NoX Ia (stat na) sta go) fun r s2 ⟨u, hr, hb⟩ => ?_
    subst hr
    refine thnF hb fun _ s3 ⟨x, Hc, Ic, rc, yc, stc, nc⟩ => ?_
    have Ip := Ic.pinned (stat nc) (T.obj _ _ stc)
    have g1 := hg.run _ s3 (wipe σ c.vs) Hc x u _ Ip rc (step x Hc yc)
    rw [hx] at g1
    refine thnF g1 fun _ s4 ⟨σd, Hd, Id, hw, qd⟩ => ?_
    have g2 := ht.run _ s4 σd Hd _ Id qd
    rw [hx] at g2
    refine thnF g2 fun b s5 ⟨He, Ie, qe⟩ => ?_
    have back : ∀ {σ9 : L2.St} {s' : Shared} {H' : Hp}, Inv Y (pins ++ pinsAt fp s3.heap) σ9 H' s' → σd.length = σ9.length → (∀ (j : Nat) v, (wipe σ c.vs)[j]? = some (some v) → σ9[j]? = some (some v)) → N H' →
        ∃ m, m < n ∧ ∃ j H', Inv Y pins (wipe σ c.vs) H' s' ∧ tn j s'.heap ∧ (∀ b ∈ fp, H' b = none) ∧ W j m H' := fun {σ9 s' H'} I9 hl hk nn => by
      obtain ⟨m', hm, w'⟩ := hN H' nn
      have pin : ∀ b ∈ fp, ∀ o, s3.heap.get? b = some o → s'.heap.get? b = some o ∧ H' b = none := fun b hb o eo =>
        let zz := I9.pin (b, o) (List.mem_append_right _ (List.mem_append_right _ (mem_pinsAt hb eo)))
        ⟨zz.1, zz.2.1⟩
      refine ⟨m', hm, j + 1, H', I9.unpinned.weak ?_ hk, T.keep _ _ _ stc fun b hb o eo => (pin b hb o eo).1, fun b hb => ?_, w'⟩
      · rw [← hl, ← hw, wipe_length]
      · obtain ⟨oo, eo, _⟩ := T.obj _ _ stc b hb
        exact (pin b hb oo eo).2
    have kd : ∀ (j : Nat) v, (wipe σ c.vs)[j]? = some (some v) → σd[j]? = some (some v) := fun j v e => by
      rw [← hw] at e
      exact (wipe_some e).1
    cases b with
    | false =>
      simp only [Bool.false_eq_true, if_false] at qe ⊢
      exact back Ie rfl kd qe
    | true =>
      simp only [if_true] at qe ⊢
      refine thnF (hy _ s5 σd He N (.ref it) Ie qe) fun fin s6 ⟨ef, σ9, H9, I9, hl9, hk9, n9⟩ => ?_
      refine ⟨ef, back I9 hl9 (fun j v e => hk9 j v ?_) n9⟩
      have nin : j ∉ c.vs := (wipe_some e).2
      rw [wipe_out fun z => nin (hv j z)]
      exact kd j v e
theorem deeper_ok {t1 i1 : Expr} {ifs1 : List Expr} {k : Nat} {c : Cl} {yes : Value → Sem Fin} {body : Em}
    (hx : Y.xe = NoX) (hc : Y.calm = true) (hU : ∀ (k : Nat) (it : Value), Y.A.under (.compLoop C k it acc Y.env) = Y.A) (hD : ∀ (k : Nat) (it : Value), (model Y.prog Y.w).den (.compLoop C k it acc Y.env) = Sem.onRaise (compTurn C k it acc Y.env) (fun x => do noteFrame x Y.env; theTreesLotGoes x))
    (hS : ∀ (it : Value) (R : Result → Shared → Prop) (s : Shared), codeAny (model Y.prog Y.w) Y.A (.compLoop C (k + 1) it acc Y.env) R s → wpAny (model Y.prog Y.w) Y.A (pyIter it) (fun it' s' => codeAny (model Y.prog Y.w) Y.A (.compLoop C (k + 1) it' acc Y.env) R s') (notedBy (model Y.prog Y.w) Y.A Y.env fun x s' => R (.error x) s') s → codeAny (model Y.prog Y.w) Y.A (.compStart C (k + 1) it acc Y.env) R s)
    (hT : ∀ it, compTurn C (k + 1) it acc Y.env = turnG C t1 i1 ifs1 (k + 1) it acc Y.env (yes it)) (hi : PI Y t1 i1 c.wi) (hg : PG Y t1 c.g) (ht : PTs Y ifs1 c.tt) (hs : ∀ x, foldedSetIterable i1 Y.env x = pure x)
    (hy : YesOk Y C acc ow (k + 1) yes body) (hv : ∀ i ∈ ow, i ∈ c.vs) : YesOk Y C acc c.vs k (fun it => deeper C i1 k it acc Y.env) (fun σ H Nx => c.wi σ H fun J H1 => tCl J c σ H1 Nx body) := by
  intro pins s σ H Nx it I q
  unfold deeper
  have g1 := hi.run pins s σ H _ I q
  rw [hx] at g1
  refine wpAny_bind (thnF g1 fun x s1 h1 => wpAny_bind (wpAny_standAt (wpAny_bind (wpAny_of_eq (hs x) (wpAny_bind (wpAny_holding (thnF h1 fun itv s2 h2 => ?_)))))))
  obtain ⟨ia, fp, tn, J, H2, ei, I2, T, st2, f2, q2⟩ := h2
  subst ei
  have lp := clause_loop hx hc hU hD (hT (.ref ia)) hg ht hy hv I2 T st2 f2 q2
  refine wpAny_bind (wpAny_runOwn ?_)
  rw [Around.mark_none]
  refine codeAny_mono (hS (.ref ia) _ s2 lp (T.self Y.A 0 _ _ _ st2 lp)) fun r s3 hr => ?_
  cases r with
  | ok f => exact wpAny_pure ⟨rfl, hr⟩
  | error e => exact hr.elim
end
section
variable {prog : Program} {w : World} {A : Around} {R : Result → Shared → Prop} {s : Shared} {k : Nat} {it acc : Value} {env : Env} {scope : Scope} {pos : Pos} {gs : List Comprehension} {t i : Expr} {ifs : List Expr}
theorem start_d {kx vx : Expr} (hg : gs[k]? = some ⟨t, i, ifs, 0⟩) (h0 : codeAny (model prog w) A (.compLoop (.DictComp kx vx gs scope pos) k it acc env) R s)
    (h : wpAny (model prog w) A (pyIter it) (fun it' s' => codeAny (model prog w) A (.compLoop (.DictComp kx vx gs scope pos) k it' acc env) R s') (notedBy (model prog w) A env fun x s' => R (.error x) s') s) :
    codeAny (model prog w) A (.compStart (.DictComp kx vx gs scope pos) k it acc env) R s := by
  refine codeAny_of_tree ?_
  show wpAny _ _ (Sem.onRaise (compStart (.DictComp kx vx gs scope pos) k it acc env) (fun x => do noteFrame x env; standAt theWindowsPlace)) _ _ s
  refine wpAny_notedAt ?_
  unfold compStart
  have e : (clausesOf (.DictComp kx vx gs scope pos))[k]? = some ⟨t, i, ifs, 0⟩ := hg
  simp only [e]
  show wpAny _ _ (ask >>= _) _ _ s
  refine wpAny_bind (wpAny_askSetting (wpAny_ite ?_))
  split
  · first
    | exact wpAny_pure (And.intro rfl h0)
    | exact wpAny_bind (wpAny_pure (wpAny_pure (And.intro rfl h0)))
  · refine wpAny_bind (wpAny_rule ?_)
    refine wpAny_bind (wpAny_standAt (wpAny_bind (wpAny_mono h (fun it' s' h' => wpAny_pure (And.intro rfl h')) fun _ _ x => x)))
end
section
variable {Y : Cx}
def emD (D : Addr) (tk tv : TE) : Em := fun σ H Nx => tk σ H fun y H4 => tv σ H4 fun z H5 => ∃ kvs kk, y = kV kk ∧ H5 D = some (.dK kvs) ∧ kvs.length < sizeLine ∧ Nx (upd H5 D (.dK (putK kvs kk z)))
theorem yes_d {C kx vx : Expr} {k : Nat} {D : Addr} {tk tv : TE} (hx : Y.xe = NoX) (pk : PE Y kx tk) (pv : PE Y vx tv) : YesOk Y C (.ref D) [] k (fun it => putOut kx vx C k it D Y.env) (emD D tk tv) := by
  intro pins s σ H Nx it I q
  unfold putOut
  have g1 := pk.run pins s σ H _ I q
  rw [hx] at g1
  refine wpAny_bind (wpAny_bind (thnF g1 fun a s1 ⟨y, H1, I1, r1, q1⟩ => ?_))
  have g2 := pv.run pins s1 σ H1 _ I1 q1
  rw [hx] at g2
  refine wpAny_bind (wpAny_holding (thnF g2 fun b s2 ⟨z, H2, I2, r2, kvs, kk, ek, hd, hz, nx⟩ => ?_))
  subst ek
  refine wpAny_bind (wpAny_standAt (wpAny_holding (d_dictSet I2 hd hz r1 r2 fun s3 I3 => ?_)))
  exact wpAny_pure ⟨rfl, σ, _, I3, rfl, fun j v e => e, nx⟩
end
end OF
namespace OF
open PySem PySem.Spec PyProof.Rows L2
section
variable {X : Cx}
def tDcN (c : Cl) (em : Addr → Em) : TE := fun σ H Q => c.wi σ H fun J H1 => ∀ D, H1 D = none → tCl J c σ (upd H1 D (.dK [])) (fun H9 => Q (.ref D) H9) (em D)
theorem pe_dcN {kx vx tg iter : Expr} {ifs : List Expr} {rest : List Comprehension} {scope : Scope} {own : List (Str × Nat)} {pos : Pos} {c : Cl} {em : Addr → Em} {yes : Addr → Env → Value → Sem Fin} {ow : List Nat} (hc : X.calm = true) (hN : X.N.Nodup) (hi : PI X tg iter c.wi) (ok : BlkOk X.N X.env.scope scope own) (hvs : c.vs = own.map (·.2))
    (hT : ∀ (D : Addr) (it : Value) (env : Env), compTurn (.DictComp kx vx (⟨tg, iter, ifs, 0⟩ :: rest) scope pos) 0 it (.ref D) env = turnG (.DictComp kx vx (⟨tg, iter, ifs, 0⟩ :: rest) scope pos) tg iter ifs 0 it (.ref D) env (yes D env it))
    (hg : ∀ (s : Shared) (H : Hp) (C : Addr) (cl : List (Str × Addr)) (fp : List Addr), PG (X.blk s H scope (compEnvC scope cl C X.env) fp) tg c.g) (ht : ∀ (s : Shared) (H : Hp) (C : Addr) (cl : List (Str × Addr)) (fp : List Addr), PTs (X.blk s H scope (compEnvC scope cl C X.env) fp) ifs c.tt)
    (hy : ∀ (s : Shared) (H : Hp) (C : Addr) (cl : List (Str × Addr)) (fp : List Addr) (D : Addr), YesOk (X.blk s H scope (compEnvC scope cl C X.env) fp) (.DictComp kx vx (⟨tg, iter, ifs, 0⟩ :: rest) scope pos) (.ref D) ow 0 (yes D (compEnvC scope cl C X.env)) (em D)) (hv : ∀ i ∈ ow, i ∈ c.vs)
    (hs : ∀ x, foldedSetIterable iter X.env x = pure x := by intro _; rfl) : PE X (.DictComp kx vx (⟨tg, iter, ifs, 0⟩ :: rest) scope pos) (tDcN c em) := by
  refine ⟨fun pins s σ H Q I h => ?_⟩
  rw [arm_eval_DictComp]
  have free : ∀ y ∈ scope.names, y.2 = .free → ∃ z, X.env.cells.lookup y.1 = some z := fun y hm hf => by
    rcases ok.free y hm hf with z | z
    · exact I.ok.has _ (.inl z)
    · exact I.ok.has _ (.inr z)
  refine wpAny_comprehension_free rfl hs (closure_ok free) ok.kind (fun y hm hf => by rw [ok.uniq y hm, hf]) (thn (hi.run pins s σ H _ I h) fun xv sa ha => thn ha fun iv sb hb => ?_)
  obtain ⟨ia, fp, tn, J, Hb, ei, Ib, T, stb, fb, q⟩ := hb
  subst ei
  refine wpAny_newObj_type (newEnv_comp ?_)
  generalize eD : sb.heap.objs.size = D
  have nD : Hb D = none := Ib.hok.fresh (Nat.le_of_eq eD)
  have tq := q D nD
  generalize esc : ({ sb with heap := sb.heap.push { cls := .type "dict", data := .dict #[] } } : Shared) = sc
  have hp : sc.heap = sb.heap.push { cls := .type "dict", data := .dict #[] } := by rw [← esc]
  have Ic : Inv X pins σ (upd Hb D (.dK [])) sc := by
    rw [← esc]
    refine Ib.laid (t' := sb.toks) (fun b o eo => Heap.get?_push_of_some _ eo) (Nat.le_of_eq eD) ?_
    rw [← eD]
    exact dk_empty sb.heap Ib.big
  have small : ∀ b ∈ fp, b < sb.heap.objs.size := fun b hm => by
    obtain ⟨oo, eo, _⟩ := T.obj _ _ stb b hm
    exact Heap.lt_size eo
  have fc : ∀ b ∈ fp, FpOk X pins (upd Hb D (.dK [])) b ∧ b < sc.heap.objs.size := fun b hm => by
    have lt := small b hm
    refine ⟨⟨?_, (fb b hm).2⟩, by rw [hp, Heap.size_push]; exact Nat.lt_succ_of_lt lt⟩
    rw [upd_ne (by rw [← eD]; exact Nat.ne_of_lt lt)]
    exact (fb b hm).1
  have stc : tn 0 sc.heap := T.keep _ _ _ stb fun b _ o eo => by rw [hp]; exact Heap.get?_push_of_some _ eo
  have Id := block_start Ic ok hN fc
  generalize eH : upd Hb D (.dK []) = Hc at Ic Id fc tq
  have pg := hg sc Hc sc.heap.objs.size (cellsFrom (sc.heap.objs.size + 1) scope.names (cloFrom X.env.cells scope.names [])) fp
  have pt := ht sc Hc sc.heap.objs.size (cellsFrom (sc.heap.objs.size + 1) scope.names (cloFrom X.env.cells scope.names [])) fp
  have py := hy sc Hc sc.heap.objs.size (cellsFrom (sc.heap.objs.size + 1) scope.names (cloFrom X.env.cells scope.names [])) fp D
  generalize ece : compEnvC scope (cellsFrom (sc.heap.objs.size + 1) scope.names (cloFrom X.env.cells scope.names [])) sc.heap.objs.size X.env = ce at Id pg pt py
  have cl : ce.locals = sc.heap.objs.size := by subst ece; rfl
  generalize esd : ({ sc with heap := pushCells (sc.heap.push { cls := .type "dict", data := .dict #[] }) scope.names } : Shared) = sd at Id
  have std : tn 0 sd.heap := T.keep _ _ _ stc fun b _ o eo => by rw [← esd]; exact pushCells_keeps _ _ _ _ (Heap.get?_push_of_some _ eo)
  have nfp : ∀ b ∈ fp, Hc b = none := fun b hm => (fc b hm).1.1
  have fd : ∀ b ∈ fp, FpOk (X.blk sc Hc scope ce fp) [] Hc b := fun b hm => ⟨nfp b hm, (Id.ok.exf b hm).1, Id.ok.exfs b hm, .inl hm, fun x z e => (Id.ok.exf b hm).2 x z e, fun p hq => absurd (show p ∈ ([] : List (Addr × Obj)) ++ [] from hq) (by simp)⟩
  have Id' : Inv (X.blk sc Hc scope ce fp) [] (wipe σ c.vs) Hc sd := by rw [hvs]; exact Id
  have tq' : tCl J c (wipe σ c.vs) Hc (fun H9 => Q (.ref D) H9) (em D) := by
    have ww : wipe (wipe σ c.vs) c.vs = wipe σ c.vs := wipe_wipe
    unfold tCl at tq ⊢
    rw [ww]
    exact tq
  have lp := clause_loop (Y := X.blk sc Hc scope ce fp) (C := .DictComp kx vx (⟨tg, iter, ifs, 0⟩ :: rest) scope pos) (acc := .ref D) (ow := ow) (k := 0) (c := c) (yes := yes D ce) (Nx := fun H9 => Q (.ref D) H9) rfl hc (fun _ _ => rfl) (fun _ _ => rfl) (hT D (.ref ia) ce) pg pt py hv Id' T std fd tq'
  have fin : ∀ r s', (match r with
      | .ok _ => Aft (X.blk sc Hc scope ce fp) c.vs [] (wipe σ c.vs) (fun H9 => Q (.ref D) H9) s'
      | .error _ => False : Prop) → compPost (model X.prog X.w) X.A X.xe none (EP X pins σ Q) (.ref D) sc.heap.objs.size r s' := by
    intro r s' hr
    cases r with
    | error x => exact hr.elim
    | ok f =>
      obtain ⟨σ9, H9, I9, hl, hk, q9⟩ := hr
      have Ie : Inv X pins σ H9 s' := Ic.call' (ch := fp) I9.os I9.base I9.hok I9.bare fun b hm => ⟨(fc b hm).1.2.2.2.1, (fc b hm).1.2.1, (fc b hm).1.2.2.2.2.1, (fc b hm).1.2.2.2.2.2⟩
      have nC : H9 sc.heap.objs.size = none := by
        have zz : H9 ce.locals = none := I9.free
        rw [cl] at zz
        exact zz
      obtain ⟨mm, hn, _⟩ := I9.loc
      have hn' : s'.heap.Ns ce.locals mm := hn
      rw [cl] at hn'
      obtain ⟨f0, f1, f2, f3, f4, f5⟩ := Ic.fpOk (b := sc.heap.objs.size) (Nat.le_refl _) nC
      exact ⟨mm, hn', fun h9 sm => ⟨.ref D, H9, Ie.turned (t' := s'.toks) (fun b o hb eo => (sm.2 b hb).trans eo) f0 f1 f3 f4 f5, rfl, q9⟩⟩
  have all := codeAny_mono lp fin
  have done := start_d (k := 0) (t := tg) (i := iter) (ifs := ifs) rfl all (T.self X.A 0 _ _ _ std all)
  subst ece
  subst esd
  subst eH
  subst esc
  subst eD
  exact done
end
end OF
namespace OF
open PySem PySem.Spec PyProof.Rows L2
variable {X : Cx} {G : Gx}
variable {e o tg iter : Expr} {es : List Expr} {ca cb : Cm U} {cl ck : Cm (List U)} {pos apos p : Pos}
theorem Keeps.trans {m m1 m2 : Mp} {H H1 H2 : Hp} (a : Keeps m H m1 H1) (b : Keeps m1 H1 m2 H2) : Keeps m H m2 H2 :=
  ⟨fun z u h n nx => let ⟨q, n', nx'⟩ := a.rd z u h n nx; b.rd z u q n' nx', fun n z h => b.at' n z (a.at' n z h), fun z xs h n nx => b.tp z xs (a.tp z xs h n nx) (a.rd z _ (.inl h) n nx).2.1 (a.rd z _ (.inl h) n nx).2.2⟩
theorem Keeps.refl (m : Mp) (H : Hp) : Keeps m H m H := ⟨fun _ _ h n nx => ⟨h, n, nx⟩, fun _ _ h => h, fun _ _ h _ _ => h⟩
def ItOkK (K : PySem.W.Frag) (G : Gx) (m1 : Mp) (H1 : Hp) (us : List U) (g : Option Nat) (J : It) : Prop := ∃ Gd Y, Walk J us.length Gd Y ∧ (∀ m2 H2 S2, Keeps m1 H1 m2 H2 → Rst K G m2 H2 S2 → gok g us S2 → Gd H2) ∧
  ∀ i m2 S2 H2 x H3, Keeps m1 H1 m2 H2 → Rst K G m2 H2 S2 → gok g us S2 → i < us.length → Y i H2 x H3 → ∃ u, us[i]? = some u ∧ Ext m2 H2 m2 H3 ∧ Rst K G m2 H3 S2 ∧ RU K G m2 H3 u x
def RIK (K : PySem.W.Frag) (G : Gx) (it : CmG) : TI := fun σ H R => ∃ m S env us g S', Rst K G m H S ∧ Renv K G m H env σ ∧ it env S = some ((us, g), S') ∧ ∀ m1 H1, Ext m H m1 H1 → Rst K G m1 H1 S' → ∀ J, ItOkK K G m1 H1 us g J → R J H1
abbrev EIK (G : Gx) (X : Cx) (tg iter : Expr) (it : CmG) : Prop := PI X tg iter (RIK X.K G it)
theorem itok_atK {K : PySem.W.Frag} {m : Mp} {H : Hp} {us : List U} {vs : List V} {J : It} {Gd : Hp → Prop} (r : RUs K G m H us vs) (w : Walk J vs.length Gd (YAt vs)) (hG : ∀ m2 H2, Keeps m H m2 H2 → Gd H2) : ItOkK K G m H us none J := by
  refine ⟨Gd, YAt vs, by rw [← r.length]; exact w, fun m2 H2 _ k _ _ => hG m2 H2 k, fun i m2 S2 H2 x H3 k2 st2 _ hi ⟨e, hx⟩ => ?_⟩
  subst e
  obtain ⟨v, e', q⟩ := (RUs.keep k2 _ _ r).get (List.getElem?_eq_getElem hi)
  rw [hx] at e'; cases e'
  exact ⟨_, List.getElem?_eq_getElem hi, Ext.refl _ _, st2, q⟩
theorem itok_cellK {K : PySem.W.Frag} {m : Mp} {H : Hp} {n : Nat} {us : List U} {a : Addr} (hm : m.c[n]? = some a) : ItOkK K G m H us (some n) (Itl K a) := by
  have look : ∀ m2 H2 S2, Keeps m H m2 H2 → Rst K G m2 H2 S2 → gok (some n) us S2 → ∃ vs, H2 a = some (.lst vs) ∧ RUs K G m2 H2 us vs := by
    intro m2 H2 S2 k st g
    obtain ⟨ho, e, vs, rfl, r⟩ := st.ob n _ a g (k.at' n a hm)
    exact ⟨vs, e, r⟩
  refine ⟨_, _, walk_cell, fun m2 H2 S2 k st g => ?_, fun i m2 S2 H2 y H3 k st g hi ⟨e, hy⟩ => ?_⟩
  · obtain ⟨vs, h, r⟩ := look m2 H2 S2 k st g
    exact ⟨vs, h, r.length⟩
  · subst e
    obtain ⟨vs, h, r⟩ := look m2 H3 S2 k st g
    obtain ⟨v, e', q⟩ := r.get (List.getElem?_eq_getElem hi)
    rw [hy vs h] at e'
    cases e'
    exact ⟨_, List.getElem?_eq_getElem hi, Ext.refl _ _, st, q⟩
theorem RU.tupK {K : PySem.W.Frag} {m : Mp} {H : Hp} {us : List U} {v : V} (h : RU K G m H (.tup us) v) : ∃ a vs, v = .ref a ∧ RUs K G m H us vs ∧ ∀ m2 H2, Keeps m H m2 H2 → SqT K H2 a vs := by
  unfold RU at h
  obtain ⟨a, vs, rfl, q, r⟩ := h
  refine ⟨a, vs, rfl, r, fun m2 H2 k => ?_⟩
  rcases q with ⟨q, n, nx⟩ | q
  · exact .inl (.inl (k.tp a _ q n nx))
  · exact .inr q.2
theorem RU.lstK {K : PySem.W.Frag} {m : Mp} {H : Hp} {us : List U} {v : V} (h : RU K G m H (.lst us) v) : ∃ a vs, v = .ref a ∧ RUs K G m H us vs ∧ ∀ m2 H2, Keeps m H m2 H2 → SqL K H2 a vs := by
  unfold RU at h
  obtain ⟨a, vs, rfl, q, n, nx, r⟩ := h
  exact ⟨a, vs, rfl, r, fun m2 H2 k => .inl (k.rd a _ q n nx).1⟩
theorem RU.scrK {K : PySem.W.Frag} {m : Mp} {H : Hp} {us : List U} {v : V} (h : RU K G m H (.scr us) v) : ∃ a vs, v = .ref a ∧ RUs K G m H us vs ∧ ∀ m2 H2, Keeps m H m2 H2 → SqL K H2 a vs := by
  unfold RU at h
  obtain ⟨a, vs, rfl, q, r⟩ := h
  refine ⟨a, vs, rfl, r, fun m2 H2 k => ?_⟩
  rcases q with ⟨q, n, nx⟩ | q
  · exact .inl (k.rd a _ q n nx).1
  · exact .inr q
theorem ei_anyK (he : EE G X e ca) : EIK G X tg e (itAny ca) := (PI.or3 (pi_tup he) (pi_list he) (pi_str he)).imp fun σ H R ⟨m, S, env, us, g, S', st, re, hc, q⟩ => by
  unfold itAny at hc
  split at hc
  · cases hc
  · rename_i u S1 e1
    split at hc
    · rename_i n
      split at hc
      · rename_i us' hn
        cases hc
        refine .inr (.inl ⟨m, S, env, _, S', st, re, e1, fun m1 H1 v x1 st1 r1 => ?_⟩)
        unfold RU at r1
        obtain ⟨a, ev, ha⟩ := r1
        obtain ⟨ho, e, vs, rfl, r⟩ := st1.ob n _ a hn ha
        exact ⟨a, ev, ⟨vs, .inl (.inl e)⟩, q m1 H1 x1 st1 _ (itok_cellK ha)⟩
      · cases hc
    · split at hc
      · cases hc
      · rename_i us' e2
        cases hc
        cases u with
        | tup us' =>
          cases e2
          refine .inl ⟨m, S, env, _, S', st, re, e1, fun m1 H1 v x1 st1 r1 => ?_⟩
          obtain ⟨a, vs, ev, rv, hq⟩ := r1.tupK
          exact ⟨a, ev, ⟨vs, hq m1 H1 (Keeps.refl _ _)⟩, q m1 H1 x1 st1 _ (itok_atK rv walk_tup hq)⟩
        | lst us' =>
          cases e2
          refine .inr (.inl ⟨m, S, env, _, S', st, re, e1, fun m1 H1 v x1 st1 r1 => ?_⟩)
          obtain ⟨a, vs, ev, rv, hq⟩ := r1.lstK
          exact ⟨a, ev, ⟨vs, hq m1 H1 (Keeps.refl _ _)⟩, q m1 H1 x1 st1 _ (itok_atK rv walk_list hq)⟩
        | scr us' =>
          cases e2
          refine .inr (.inl ⟨m, S, env, _, S', st, re, e1, fun m1 H1 v x1 st1 r1 => ?_⟩)
          obtain ⟨a, vs, ev, rv, hq⟩ := r1.scrK
          exact ⟨a, ev, ⟨vs, hq m1 H1 (Keeps.refl _ _)⟩, q m1 H1 x1 st1 _ (itok_atK rv walk_list hq)⟩
        | str x =>
          cases e2
          refine .inr (.inr ⟨m, S, env, _, S', st, re, e1, fun m1 H1 v x1 st1 r1 => ?_⟩)
          exact ⟨x, r1, q m1 H1 x1 st1 _ (itok_atK (RUs.signs x) walk_strV fun _ _ _ => trivial)⟩
        | _ => cases e2
structure ClU where
  it : CmG
  pt : Pat
  t : Cm Bool
  vs : List Nat
abbrev Bd (α : Type) := Env' → α → Sto → Option (α × Sto)
open Classical in
noncomputable def loopA {α : Type} (pt : Pat) (t : Cm Bool) (env : Env') (g : Option Nat) (us0 : List U) (body : Bd α) : List U → α → Sto → Option (α × Sto)
  | [], acc, S => if gok g us0 S then some (acc, S) else none
  | u :: us, acc, S => if gok g us0 S then (match bindP pt u with
    | none => none
    | some bs => match t (setAll env bs) S with
      | none => none
      | some (false, S1) => loopA pt t env g us0 body us acc S1
      | some (true, S1) => match body (setAll env bs) acc S1 with
        | none => none
        | some (acc2, S2) => loopA pt t env g us0 body us acc2 S2) else none
theorem loopA_gok {α : Type} {pt : Pat} {t : Cm Bool} {env : Env'} {g : Option Nat} {us0 us : List U} {body : Bd α} {acc : α} {S : Sto} {r : α × Sto} (h : loopA pt t env g us0 body us acc S = some r) : gok g us0 S := by
  cases us <;> (unfold loopA at h; split at h; assumption; cases h)
noncomputable def clauseA {α : Type} (c : ClU) (body : Bd α) : Bd α := fun env acc S => match c.it env S with
  | none => none
  | some ((us, g), S1) => loopA c.pt c.t (wipeE env c.vs) g us body us acc S1
def outD (ck cv : Cm U) : Bd (List (Key × U)) := fun env acc S => match ck env S with
  | none => none
  | some (y, S1) => match cv env S1 with
    | none => none
    | some (z, S2) => match keyU y with
      | none => none
      | some k => if acc.length < sizeLine then some (putKU acc k z, S2) else none
def Hold (K : PySem.W.Frag) (G : Gx) (m : Mp) (H : Hp) (D : Addr) (o : O) : Prop := ∃ ho, H D = some ho ∧ RO K G m H o ho
def BOk (K : PySem.W.Frag) (G : Gx) (m1 : Mp) (H1 : Hp) (D : Addr) {α : Type} (wrap : α → O) (body : Bd α) (em : Em) : Prop := ∀ m S H env σ acc acc' S' Nx, Ext m1 H1 m H → D ∈ m.x → Rst K G m H S → Renv K G m H env σ → Hold K G m H D (wrap acc) → body env acc S = some (acc', S') →
  (∀ m' H', Ext m1 H1 m' H' → Keeps m H m' H' → D ∈ m'.x → Rst K G m' H' S' → Hold K G m' H' D (wrap acc') → Nx H') → em σ H Nx
theorem ext_upd {m1 m : Mp} {H1 H : Hp} {D : Addr} {ho : HO} (x : Ext m1 H1 m H) (hD : H1 D = none) : Ext m1 H1 m (L2.upd H D ho) := by
  refine ⟨x.pre, x.x, fun a o h n => ?_, fun a ha h => ?_, x.new, fun a ob u h => by rw [upd_ne (ne_of_none h hD)]; exact x.fz a ob u h⟩
  · have : a ≠ D := ne_of_none h hD
    rw [upd_ne this]; exact x.keep a o h n
  · by_cases e : a = D
    · subst e; rw [upd_same]; rfl
    · rw [upd_ne e]; exact x.cells a ha h
theorem Hold.ext {K : PySem.W.Frag} {m m' : Mp} {H H' : Hp} {D : Addr} {o : O} (h : Hold K G m H D o) (x : Ext m H m' H') (nc : D ∉ m.c) : Hold K G m' H' D o :=
  let ⟨ho, e, r⟩ := h; ⟨ho, x.keep D _ e nc, RO.keep x.keeps _ _ r⟩
theorem bok_d {K : PySem.W.Frag} {m1 : Mp} {H1 : Hp} {D : Addr} {ck cv : Cm U} (hD : H1 D = none) : BOk K G m1 H1 D O.dct (outD ck cv) (emD D (RE K G ck) (RE K G cv)) := by
  intro m S H env σ acc acc' S' Nx x hx st re hh hb q
  unfold outD at hb
  split at hb
  · cases hb
  · rename_i y S2 e1
    split at hb
    · cases hb
    · rename_i z S3 e2
      split at hb
      · cases hb
      · rename_i k hk
        split at hb
        · rename_i hl
          cases hb
          have nc : D ∉ m.c := st.nx D hx
          refine ⟨m, S, env, y, S2, st, re, e1, fun m2 H2 v2 x2 st2 r2 => ?_⟩
          have nc2 : D ∉ m2.c := st2.nx D (x2.xmem hx)
          refine ⟨m2, S2, env, z, S', st2, re.keep x2.keeps, e2, fun m3 H3 v3 x3 st3 r3 => ?_⟩
          obtain ⟨ho, eh, zs, rfl, rk⟩ := (hh.ext x2 nc).ext x3 nc2
          have hx3 : D ∈ m3.x := x3.xmem (x2.xmem hx)
          have k3 : Keeps m3 H3 m3 (L2.upd H3 D (.dK (putK zs k v3))) := keeps_x hx3
          refine ⟨zs, k, keyU_ok r2 hk, eh, by rw [rk.len]; exact hl, ?_⟩
          exact q m3 _ (ext_upd ((x.trans x2).trans x3) hD) ((x2.trans x3).keeps.trans k3) hx3 (st3.setx hx3) ⟨_, upd_same, _, rfl, RKs.keep k3 _ _ (rk.put r3)⟩
        · cases hb
def clOf (K : PySem.W.Frag) (G : Gx) (c : ClU) : Cl := ⟨RIK K G c.it, tPat K c.pt, RT K G c.t, c.vs⟩
theorem walk_ok {K : PySem.W.Frag} {m1 : Mp} {H1 : Hp} {D : Addr} {α : Type} {wrap : α → O} {body : Bd α} {em : Em} {c : ClU} (hb : BOk K G m1 H1 D wrap body em) (hsl : ∀ i ∈ c.pt.slots, i ∈ c.vs)
    {m0 : Mp} {H0 : Hp} {S0 : Sto} {env : Env'} {σ : L2.St} {us : List U} {g : Option Nat} {J : It} {acc acc' : α} {S' : Sto} {Nx : Hp → Prop} (x0 : Ext m1 H1 m0 H0) (hx0 : D ∈ m0.x) (st0 : Rst K G m0 H0 S0) (re : Renv K G m0 H0 env σ) (hh : Hold K G m0 H0 D (wrap acc)) (hJ : ItOkK K G m0 H0 us g J)
    (hl : loopA c.pt c.t (wipeE env c.vs) g us body us acc S0 = some (acc', S')) (q : ∀ m' H', Ext m1 H1 m' H' → Keeps m0 H0 m' H' → D ∈ m'.x → Rst K G m' H' S' → Hold K G m' H' D (wrap acc') → Nx H') : tCl J (clOf K G c) σ H0 Nx em := by
  obtain ⟨Gd, Y, w, hG, hY⟩ := hJ
  have reW := re.wipe c.vs
  refine ⟨fun j n H => (j ≤ us.length ∧ ∃ m S acc, Ext m1 H1 m H ∧ Keeps m0 H0 m H ∧ D ∈ m.x ∧ Rst K G m H S ∧ Hold K G m H D (wrap acc) ∧ loopA c.pt c.t (wipeE env c.vs) g us body (us.drop j) acc S = some (acc', S')) ∧ us.length - j = n, ⟨us.length, ⟨Nat.zero_le _, m0, S0, acc, x0, Keeps.refl _ _, hx0, st0, hh, hl⟩, rfl⟩, ?_⟩
  rintro j n H ⟨⟨hj, m, S, acc, x, k, hx, st, hh, hl⟩, rfl⟩
  have hg := hG m H S k st (loopA_gok hl)
  rcases Nat.lt_or_eq_of_le hj with hlt | rfl
  · refine .inr ⟨w.goes j H hlt hg, fun H' => ∃ m S acc, Ext m1 H1 m H' ∧ Keeps m0 H0 m H' ∧ D ∈ m.x ∧ Rst K G m H' S ∧ Hold K G m H' D (wrap acc) ∧ loopA c.pt c.t (wipeE env c.vs) g us body (us.drop (j + 1)) acc S = some (acc', S'), fun H' h' => ⟨us.length - (j + 1), by omega, ⟨hlt, h'⟩, rfl⟩, fun y H' hy => ?_⟩
    obtain ⟨u, hu, x2, st2, ru⟩ := hY j m S H y H' k st (loopA_gok hl) hlt (w.yields j H y H' hlt hg hy)
    rw [drop_cons hu] at hl
    have hk := loopA_gok hl
    unfold loopA at hl
    rw [if_pos hk] at hl
    split at hl
    · cases hl
    · rename_i bs eb
      obtain ⟨bv, h1, h2⟩ := bindP_ok _ _ _ _ eb ru
      have re2 := (reW.keep (k.trans x2.keeps)).setAll h2
      have nc : D ∉ m.c := st.nx D hx
      refine ⟨bv, h1, wipe_setAll_wipe (fun i hi => hsl i (by rw [PatV.slots _ _ _ h1] at hi; exact hi)), ?_⟩
      split at hl
      · cases hl
      · rename_i S3 e3
        refine ⟨m, S, _, false, S3, st2, re2, e3, fun m3 H3 x3 st3 => iteF ?_⟩
        exact ⟨m3, S3, acc, (x.trans x2).trans x3, k.trans (x2.trans x3).keeps, x3.xmem hx, st3, (hh.ext x2 nc).ext x3 nc, hl⟩
      · rename_i S3 e3
        split at hl
        · cases hl
        · rename_i acc2 S4 e4
          refine ⟨m, S, _, true, S3, st2, re2, e3, fun m3 H3 x3 st3 => iteT ?_⟩
          refine hb m3 S3 H3 _ _ acc acc2 S4 _ ((x.trans x2).trans x3) (x3.xmem hx) st3 (re2.keep x3.keeps) ((hh.ext x2 nc).ext x3 nc) e4 fun m4 H4 x4 k4 hx4 st4 hh4 => ?_
          exact ⟨m4, S4, acc2, x4, (k.trans (x2.trans x3).keeps).trans k4, hx4, st4, hh4, hl⟩
  · rw [List.drop_length] at hl
    have hk := loopA_gok hl
    unfold loopA at hl
    rw [if_pos hk] at hl
    cases hl
    exact .inl ⟨w.stops H hg, q m H x k hx st hh⟩
theorem bok_c {K : PySem.W.Frag} {m1 : Mp} {H1 : Hp} {D : Addr} {α : Type} {wrap : α → O} {body : Bd α} {em : Em} {c : ClU} (hD : H1 D = none) (hb : BOk K G m1 H1 D wrap body em) (hsl : ∀ i ∈ c.pt.slots, i ∈ c.vs) :
    BOk K G m1 H1 D wrap (clauseA c body) (fun σ H Nx => (clOf K G c).wi σ H fun J H9 => tCl J (clOf K G c) σ H9 Nx em) := by
  intro m S H env σ acc acc' S' Nx x hx st re hh hc q
  unfold clauseA at hc
  split at hc
  · cases hc
  · rename_i us g S1 e1
    have nc : D ∉ m.c := st.nx D hx
    refine ⟨m, S, env, us, g, S1, st, re, e1, fun m2 H2 x2 st2 J hJ => ?_⟩
    exact walk_ok hb hsl (x.trans x2) (x2.xmem hx) st2 (re.keep x2.keeps) (hh.ext x2 nc) hJ hc fun m' H' x' k' hx' st' hh' => q m' H' x' (x2.keeps.trans k') hx' st' hh'
end OF
namespace OF
open PySem PySem.Spec PyProof.Rows L2
variable {X : Cx} {G : Gx}
variable {e o tg iter : Expr} {es : List Expr} {ca cb : Cm U} {cl ck : Cm (List U)} {pos apos p : Pos}
theorem ItOkK.mono {K : PySem.W.Frag} {m1 m2 : Mp} {H1 H2 : Hp} {us : List U} {g : Option Nat} {J : It} (h : ItOkK K G m1 H1 us g J) (k : Keeps m1 H1 m2 H2) : ItOkK K G m2 H2 us g J := by
  obtain ⟨Gd, Y, w, hG, hY⟩ := h
  exact ⟨Gd, Y, w, fun m3 H3 S3 k3 => hG m3 H3 S3 (k.trans k3), fun i m3 S3 H3 x H4 k3 => hY i m3 S3 H3 x H4 (k.trans k3)⟩
noncomputable def cDcN (mu : Bool) (c : ClU) (body : Bd (List (Key × U))) : Cm U := fun env S => match clauseA c body env [] S with
  | none => none
  | some (kvs, S2) => if mu then some (.ref S2.length, S2 ++ [.dct kvs]) else some (.dct kvs, S2)
theorem re_dcN {K : PySem.W.Frag} {mu : Bool} {c : ClU} {body : Bd (List (Key × U))} {em : Addr → Em} {σ : L2.St} {H : Hp} {Q : VK} (hB : ∀ m1 H1 D, H1 D = none → BOk K G m1 H1 D O.dct body (em D)) (hsl : ∀ i ∈ c.pt.slots, i ∈ c.vs) (h : RE K G (cDcN mu c body) σ H Q) : tDcN (clOf K G c) em σ H Q := by
  obtain ⟨m, S, env, z, S', st, re, hc, q⟩ := h
  unfold cDcN at hc
  split at hc
  · cases hc
  · rename_i kvs S2 e0
    unfold clauseA at e0
    split at e0
    · cases e0
    · rename_i us g S1 e1
      refine ⟨m, S, env, us, g, S1, st, re, e1, fun m1 H1 x1 st1 J hJ D hD => ?_⟩
      have xr : Ext m1 H1 ⟨m1.c, D :: m1.x⟩ (L2.upd H1 D (.dK [])) := Ext.res hD
      refine walk_ok (hB m1 H1 D hD) hsl xr (by simp) (st1.res hD) ((re.keep x1.keeps).keep xr.keeps) ⟨_, upd_same, _, rfl, RKs.nil⟩ (hJ.mono xr.keeps) e0 fun m' H' x' k' hx' st' hh' => ?_
      obtain ⟨ho, hd, zs, rfl, rk⟩ := hh'
      have hsub : ∀ a ∈ D :: m1.x, a ∈ m'.x := fun a ha => by
        rcases List.mem_cons.mp ha with h | h
        · rw [h]; exact hx'
        · exact x'.xmem h
      have st3 : Rst K G ⟨m'.c, D :: m1.x⟩ H' S2 := Rst.forget (x := m'.x) st' hsub
      have rm3 := RKs.keep (keeps_forget (c := m'.c) (x := m'.x) (H := H') hsub) _ _ rk
      have x3 := x1.trans x'.forget
      have nx := st1.none_x hD
      split at hc
      · cases hc
        obtain ⟨y1, y2, y3⟩ := res_cell (o := .dct kvs) x3 (x1.back hD) nx st3 hd ⟨_, rfl, rm3⟩
        exact q _ _ _ y1 y2 y3
      · cases hc
        have hs2 : ∀ a ∈ m1.x, a ∈ D :: m1.x := fun a ha => List.mem_cons_of_mem _ ha
        refine q ⟨m'.c, m1.x⟩ _ (.ref D) x3 (Rst.forget (x := D :: m1.x) st3 hs2) ?_
        unfold RU
        exact ⟨D, _, rfl, .inl hd, st3.nx D (by simp), nx, RKs.keep (keeps_forget (x := D :: m1.x) hs2) _ _ rm3⟩
section
variable {kx vx elt t1 i1 t2 i2 : Expr} {ifs ifs1 ifs2 : List Expr} {scope : Scope} {own : List (Str × Nat)} {c c1 c2 : ClU} {dk dv : Cm U}
theorem ee_dc2 (mu : Bool) (hc : X.calm = true) (hN : X.N.Nodup) (hi : EIK G X tg iter c.it) (ok : BlkOk X.N X.env.scope scope own) (hvs : c.vs = own.map (·.2))
    (hg : ∀ (s : Shared) (H : Hp) (C : Addr) (cl : List (Str × Addr)) (fp : List Addr), EPt (X.blk s H scope (compEnvC scope cl C X.env) fp) tg c.pt) (ht : ∀ (s : Shared) (H : Hp) (C : Addr) (cl : List (Str × Addr)) (fp : List Addr), ETs G (X.blk s H scope (compEnvC scope cl C X.env) fp) ifs c.t)
    (hi1 : ∀ (s : Shared) (H : Hp) (C : Addr) (cl : List (Str × Addr)) (fp : List Addr), EIK G (X.blk s H scope (compEnvC scope cl C X.env) fp) t1 i1 c1.it)
    (hg1 : ∀ (s : Shared) (H : Hp) (C : Addr) (cl : List (Str × Addr)) (fp : List Addr), EPt (X.blk s H scope (compEnvC scope cl C X.env) fp) t1 c1.pt) (ht1 : ∀ (s : Shared) (H : Hp) (C : Addr) (cl : List (Str × Addr)) (fp : List Addr), ETs G (X.blk s H scope (compEnvC scope cl C X.env) fp) ifs1 c1.t)
    (hk : ∀ (s : Shared) (H : Hp) (C : Addr) (cl : List (Str × Addr)) (fp : List Addr), EE G (X.blk s H scope (compEnvC scope cl C X.env) fp) kx dk) (hv : ∀ (s : Shared) (H : Hp) (C : Addr) (cl : List (Str × Addr)) (fp : List Addr), EE G (X.blk s H scope (compEnvC scope cl C X.env) fp) vx dv)
    (hsl : ∀ i ∈ c.pt.slots, i ∈ c.vs) (hsl1 : ∀ i ∈ c1.pt.slots, i ∈ c1.vs) (hvs1 : ∀ i ∈ c1.vs, i ∈ c.vs) (hs : ∀ x, foldedSetIterable iter X.env x = pure x := by intro _; rfl) (hs1 : ∀ env x, foldedSetIterable i1 env x = pure x := by intro _ _; rfl) :
    EE G X (.DictComp kx vx [⟨tg, iter, ifs, 0⟩, ⟨t1, i1, ifs1, 0⟩] scope pos) (cDcN mu c (clauseA c1 (outD dk dv))) :=
  (pe_dcN (c := clOf X.K G c) (ow := c1.vs) (em := fun D σ H Nx => (clOf X.K G c1).wi σ H fun J H9 => tCl J (clOf X.K G c1) σ H9 Nx (emD D (RE X.K G dk) (RE X.K G dv))) (yes := fun D env it => deeper (.DictComp kx vx [⟨tg, iter, ifs, 0⟩, ⟨t1, i1, ifs1, 0⟩] scope pos) i1 0 it (.ref D) env) hc hN hi ok hvs (fun D it env => turn_dm rfl rfl) hg ht
    (fun s H C cl fp D => deeper_ok (Y := X.blk s H scope (compEnvC scope cl C X.env) fp) (c := clOf X.K G c1) (ow := []) (yes := fun it => putOut kx vx (.DictComp kx vx [⟨tg, iter, ifs, 0⟩, ⟨t1, i1, ifs1, 0⟩] scope pos) 1 it D _) rfl hc (fun _ _ => rfl) (fun _ _ => rfl) (fun it R s h0 h => start_d rfl h0 h) (fun it => turn_dl rfl rfl) (hi1 s H C cl fp) (hg1 s H C cl fp) (ht1 s H C cl fp) (hs1 _) (yes_d rfl (hk s H C cl fp) (hv s H C cl fp)) (fun i h => nomatch h)) hvs1 hs).imp
    fun σ H Q h => re_dcN (fun m1 H1 D hD => bok_c hD (bok_d hD) hsl1) hsl h
end
end OF
namespace OF
open PySem PySem.Spec PyProof.Rows L2
variable {X : Cx} {G : Gx}
variable {e o tg iter : Expr} {es : List Expr} {ca cb : Cm U} {cl ck : Cm (List U)} {pos apos p : Pos}
theorem mt_updateK : MtR X "dict.update" (fun x xs H Q => ∃ d b kvs more, x = .ref d ∧ xs = [.ref b] ∧ d ≠ b ∧ H d = some (.dK kvs) ∧ Rd H b (.dK more) ∧ kvs.length + more.length ≤ sizeLine ∧ Q .non (upd H d (.dK (mergeK kvs more)))) := by
  intro pins s σ H x xs v us Q I rx rs h
  obtain ⟨d, b, kvs, more, rfl, rfl, hne, hd, hb, hz, q⟩ := h
  cases rx
  obtain ⟨u, rfl, ru⟩ := rs.one
  cases ru
  obtain ⟨z1, hm1, vs, rel, dd⟩ := dk_of I.hok hd
  obtain ⟨z2, hm2, ws, rel2, dd2⟩ := hb.ok I.hok
  refine call_meetsIn F.slot_dict_update dd.typeIs F.entry_dict_update (F.args_dict_update_2 _ _) (meets_dict_update _ d b hne hm2) ⟨vs, ws, dd, dd2, by rw [← rel.length, ← rel2.length]; exact hz, fun h' dd' _ hs => ?_⟩
  have he : ∃ q, h'.get? d = some q := let ⟨q, _, _, hq, _⟩ := dd'; ⟨q, hq⟩
  have hl : (mergeK kvs more).length ≤ sizeLine := Nat.le_trans (length_mergeK more kvs) hz
  exact ⟨.non, _, d_write I (by rw [hd]; exact True.intro) hs he (dk_new hl hm1 (KV.merge rel2 rel) dd'), rfl, q⟩
def updU : U → OpN := fun u us S => match u, us with
  | .ref n, [w] => match S[n]? with
    | some (.dct kvs) => match dctU S w with
      | some more => match w with
        | .dct _ => if kvs.length + more.length ≤ sizeLine then some (.non, S.set n (.dct (mergeU kvs more))) else none
        | .ref k => if k ≠ n ∧ kvs.length + more.length ≤ sizeLine then some (.non, S.set n (.dct (mergeU kvs more))) else none
        | _ => none
      | none => none
    | _ => none
  | _, _ => none
theorem mu_update : MtU G X "dict.update" updU := MtR.imp mt_updateK fun x xs H Q ⟨m, S, u, us, z, S', st, r, rs, e, q⟩ => by
  unfold updU at e
  split at e
  · rename_i n w
    split at e
    · rename_i kvs hn
      split at e
      · rename_i more hw
        obtain ⟨a, rfl, ha⟩ := r.cellAt
        obtain ⟨a', ho, ha', hH, vs, rfl, rv⟩ := st.at hn
        rw [ha] at ha'; cases ha'
        obtain ⟨y, rfl, ry⟩ := rs.one1
        split at e
        · rename_i kk
          split at e
          · rename_i hz
            cases e
            cases hw
            have ry' := ry
            unfold RU at ry'
            obtain ⟨b, ws, rfl, hb, nb, nx, rw'⟩ := ry'
            refine ⟨a, b, vs, ws, rfl, rfl, ?_, hH, hb, by rw [rv.len, rw'.len]; exact hz, q.setc st ha ⟨_, rfl, mergeU_ok rw' rv⟩ rfl hH⟩
            intro z
            subst z
            exact nb (List.mem_of_getElem? ha)
          · cases e
        · rename_i k
          split at e
          · rename_i hz
            cases e
            obtain ⟨b, ws, ev, hb, rw'⟩ := dctU_ok st ry hw
            subst ev
            have ry' := ry
            unfold RU at ry'
            obtain ⟨b', eb, hb'⟩ := ry'
            cases eb
            refine ⟨a, b, vs, ws, rfl, rfl, ?_, hH, hb, by rw [rv.len, rw'.len]; exact hz.2, q.setc st ha ⟨_, rfl, mergeU_ok rw' rv⟩ rfl hH⟩
            intro z
            subst z
            have hnd := List.pairwise_iff_getElem.mp st.nd
            obtain ⟨h1, e1⟩ := List.getElem?_eq_some_iff.mp ha
            obtain ⟨h2, e2⟩ := List.getElem?_eq_some_iff.mp hb'
            rcases Nat.lt_trichotomy k n with hlt | heq | hlt
            · exact hnd k n h2 h1 hlt (e2.trans e1.symm)
            · exact hz.1 heq
            · exact hnd n k h1 h2 hlt (e1.trans e2.symm)
          · cases e
        · cases e
      · cases e
    · cases e
  · cases e
def pairsU : List U → Option (List (Key × U))
  | [] => some []
  | .tup [k, v] :: r => match keyU k, pairsU r with
    | some k, some t => some ((k, v) :: t)
    | _, _ => none
  | _ => none
theorem pairsU_ok {m : Mp} {H : Hp} : ∀ {us : List U} {vs : List V} {kvs : List (Key × U)}, RUs X.K G m H us vs → pairsU us = some kvs → ∃ (ps : List Addr) (ws : List (Key × V)), vs = ps.map V.ref ∧ Paired (fun p kv => SqT X.K H p [kV kv.1, kv.2]) ps ws ∧ RKs X.K G m H kvs ws
  | [], vs, kvs, r, h => by
    cases h
    have := r.eqnil
    subst this
    exact ⟨[], [], rfl, .nil, RKs.nil⟩
  | u :: us, vs, kvs, r, h => by
    obtain ⟨v, t, rfl, rv, rt⟩ := r.uncons
    unfold pairsU at h
    split at h
    · rename_i h0
      cases h0
    · rename_i k0 v0 r0 e0
      cases e0
      split at h
      · rename_i k t' hk ht
        cases h
        obtain ⟨ps, ws, rfl, pp, rk⟩ := pairsU_ok rt ht
        obtain ⟨a, xs, rfl, hq, rx⟩ := rv.tupT
        obtain ⟨y1, y2, rfl, q1, q2⟩ := rx.two
        have := keyU_ok q1 hk
        subst this
        exact ⟨a :: ps, (k, y2) :: ws, rfl, .cons hq pp, RKs.cons q2 rk⟩
      · cases h
    · cases h
def dictU (mu : Bool) : Op1 := fun u S => match itmU S u with
  | some us => match pairsU us, u with
    | some kvs, .lst _ => if mu then some (.ref S.length, S ++ [.dct (mergeU [] kvs)]) else some (.dct (mergeU [] kvs), S)
    | some kvs, .ref _ => if mu then some (.ref S.length, S ++ [.dct (mergeU [] kvs)]) else some (.dct (mergeU [] kvs), S)
    | _, _ => none
  | none => none
theorem After.dct {K : PySem.W.Frag} {m : Mp} {H : Hp} {S : Sto} {us : List (Key × U)} {vs : List (Key × V)} {Q : VK} (q : After K G m H (.dct us) S Q) (st : Rst K G m H S) (r : RKs K G m H us vs) : ∀ p, H p = none → Q (.ref p) (L2.upd H p (.dK vs)) := fun p hp =>
  q m _ _ (Ext.upd hp) (st.new hp) (by unfold RU; exact ⟨p, vs, rfl, .inl upd_same, st.none_c hp, st.none_x hp, RKs.keep (keeps_upd hp) _ _ r⟩)
theorem cu_dict (mu : Bool) (hc : X.calm = true) : CallU G X (.type "dict") (on1 (dictU mu)) := CallR.imp (call_dictP hc) fun xs H Q ⟨m, S, us, z, S', st, r0, e0, q⟩ => by
  obtain ⟨u, rfl, e⟩ := on1_some e0
  obtain ⟨v, rfl, r⟩ := r0.one1
  unfold dictU at e
  split at e
  · rename_i ws hw
    have key : ∀ kvs, pairsU ws = some kvs → (∃ l, u = .lst l) ∨ (∃ n, u = .ref n) → (if mu then some (.ref S.length, S ++ [.dct (mergeU [] kvs)]) else some (.dct (mergeU [] kvs), S)) = some (z, S') → ∃ (a : Addr) (ps : List Addr) (kvs : List (Key × V)), [v] = [.ref a] ∧ SqL X.K H a (ps.map V.ref) ∧ Paired (fun p kv => SqT X.K H p [kV kv.1, kv.2]) ps kvs ∧ ∀ p, H p = none → Q (.ref p) (upd H p (.dK (mergeK [] kvs))) := by
      intro kvs hp hu e
      have hq : ∃ a vs, v = .ref a ∧ SqL X.K H a vs ∧ RUs X.K G m H ws vs := by
        rcases hu with ⟨l, rfl⟩ | ⟨n, rfl⟩
        · cases hw
          exact r.lstL
        · obtain ⟨a, vs, rfl, hq, rv⟩ := lstU_ok st (us := ws) r (by
            unfold itmU at hw
            unfold lstU
            exact hw)
          exact ⟨a, vs, rfl, .inl hq, rv⟩
      obtain ⟨a, vs, rfl, hq, rv⟩ := hq
      obtain ⟨ps, kw, rfl, pp, rk⟩ := pairsU_ok rv hp
      refine ⟨a, ps, kw, rfl, hq, pp, ?_⟩
      have rm := mergeU_ok rk (RKs.nil (K := X.K) (G := G) (m := m) (H := H))
      split at e
      · cases e
        exact After.cell (o := .dct (mergeU [] kvs)) q st ⟨_, rfl, rm⟩
      · cases e
        exact q.dct st rm
    split at e
    · rename_i kvs l hp
      exact key kvs hp (.inl ⟨_, rfl⟩) e
    · rename_i kvs l hp
      exact key kvs hp (.inr ⟨_, rfl⟩) e
    · cases e
  · cases e
end OF
namespace OF
open PySem PySem.Spec PyProof.Rows L2
variable {X : Cx} {G : Gx}
def powJ (i j : Int) : Option U := if 0 ≤ j ∧ (Builtin.Int.intBits i : Int) * j ≤ 2 ^ 27 then some (.int (i ^ j.toNat)) else none
theorem ou_powJ : OpU G X (binaryOp .Pow) (o2I powJ) := by
  intro pins s σ H x y v u Q I rx ry ⟨m, S, u1, u2, z, S', st, r1, r2, e, q⟩
  obtain ⟨i, j, w, rfl, rfl, e', er⟩ := o2I_some e
  cases er
  unfold powJ at e'
  split at e'
  · rename_i h
    cases e'
    cases r1
    cases r2
    obtain ⟨t1, rfl⟩ := rx
    obtain ⟨t2, rfl⟩ := ry
    exact PyProof.Rows.pow_int h.1 h.2 ⟨.int _, H, I.tok _, ⟨_, rfl⟩, q.here st rfl⟩
  · cases e'
end OF
namespace OF
open PySem PySem.Spec PyProof.Rows L2
variable {G : Gx} {X : Cx}
def outU (mu : Bool) (us : List U) (S : Sto) : Option (U × Sto) := if mu then some (.ref S.length, S ++ [.lst us]) else some (.lst us, S)
theorem outU_ok {mu : Bool} {K : PySem.W.Frag} {m : Mp} {H : Hp} {S S' : Sto} {us : List U} {vs : List V} {z : U} {Q : VK} (e : outU mu us S = some (z, S')) (st : Rst K G m H S) (r : RUs K G m H us vs) (q : After K G m H z S' Q) : ∀ p, H p = none → Q (.ref p) (L2.upd H p (.lst vs)) := by
  unfold outU at e
  split at e
  · cases e
    exact After.cell (o := .lst us) q st ⟨_, rfl, r⟩
  · cases e
    exact q.lst st r
end OF
namespace OF
open PySem PySem.Spec PyProof.Rows L2
section
variable {X : Cx}
theorem dcN_core {kx vx tg iter : Expr} {ifs : List Expr} {rest : List Comprehension} {scope : Scope} {own : List (Str × Nat)} {pos : Pos} {c : Cl} {em : Addr → Em} {yes : Addr → Env → Value → Sem Fin} {ow : List Nat} (hc : X.calm = true) (hN : X.N.Nodup) (hi : PI X tg iter c.wi) (ok : BlkOk X.N X.env.scope scope own) (hvs : c.vs = own.map (·.2))
    (hT : ∀ (D : Addr) (it : Value) (env : Env), compTurn (.DictComp kx vx (⟨tg, iter, ifs, 0⟩ :: rest) scope pos) 0 it (.ref D) env = turnG (.DictComp kx vx (⟨tg, iter, ifs, 0⟩ :: rest) scope pos) tg iter ifs 0 it (.ref D) env (yes D env it))
    (hg : ∀ (s : Shared) (H : Hp) (C : Addr) (cl : List (Str × Addr)) (fp : List Addr), PG (X.blk s H scope (compEnvC scope cl C X.env) fp) tg c.g) (ht : ∀ (s : Shared) (H : Hp) (C : Addr) (cl : List (Str × Addr)) (fp : List Addr), PTs (X.blk s H scope (compEnvC scope cl C X.env) fp) ifs c.tt)
    (hy : ∀ (s : Shared) (H : Hp) (C : Addr) (cl : List (Str × Addr)) (fp : List Addr) (D : Addr), YesOk (X.blk s H scope (compEnvC scope cl C X.env) fp) (.DictComp kx vx (⟨tg, iter, ifs, 0⟩ :: rest) scope pos) (.ref D) ow 0 (yes D (compEnvC scope cl C X.env)) (em D)) (hv : ∀ i ∈ ow, i ∈ c.vs)
    (hs : ∀ x, foldedSetIterable iter X.env x = pure x) {use : Option (Value → Sem Unit)} {Qf : Value → Shared → Prop} {pins : List (Addr × Obj)} {s : Shared} {σ : L2.St} {H : Hp} {Q : VK} (I : Inv X pins σ H s) (h : tDcN c em σ H Q)
    (hRR : ∀ D C s' m H' f, Inv X pins σ H' s' → Q (.ref D) H' → s'.heap.Ns C m → FpOk X pins H' C → compPost (model X.prog X.w) X.A X.xe use Qf (.ref D) C (.ok f) s') :
    wpAny (model X.prog X.w) X.A (comprehension (.DictComp kx vx (⟨tg, iter, ifs, 0⟩ :: rest) scope pos) scope X.env (firstIterPos (⟨tg, iter, ifs, 0⟩ :: rest) pos) newDict false (eval iter X.env) use) Qf X.xe s := by
  have free : ∀ y ∈ scope.names, y.2 = .free → ∃ z, X.env.cells.lookup y.1 = some z := fun y hm hf => by
    rcases ok.free y hm hf with z | z
    · exact I.ok.has _ (.inl z)
    · exact I.ok.has _ (.inr z)
  refine wpAny_comprehension_free rfl hs (closure_ok free) ok.kind (fun y hm hf => by rw [ok.uniq y hm, hf]) (thn (hi.run pins s σ H _ I h) fun xv sa ha => thn ha fun iv sb hb => ?_)
  obtain ⟨ia, fp, tn, J, Hb, ei, Ib, T, stb, fb, q⟩ := hb
  subst ei
  refine wpAny_newObj_type (newEnv_comp ?_)
  generalize eD : sb.heap.objs.size = D
  have nD : Hb D = none := Ib.hok.fresh (Nat.le_of_eq eD)
  have tq := q D nD
  generalize esc : ({ sb with heap := sb.heap.push { cls := .type "dict", data := .dict #[] } } : Shared) = sc
  have hp : sc.heap = sb.heap.push { cls := .type "dict", data := .dict #[] } := by rw [← esc]
  have Ic : Inv X pins σ (upd Hb D (.dK [])) sc := by
    rw [← esc]
    refine Ib.laid (t' := sb.toks) (fun b o eo => Heap.get?_push_of_some _ eo) (Nat.le_of_eq eD) ?_
    rw [← eD]
    exact dk_empty sb.heap Ib.big
  have small : ∀ b ∈ fp, b < sb.heap.objs.size := fun b hm => by
    obtain ⟨oo, eo, _⟩ := T.obj _ _ stb b hm
    exact Heap.lt_size eo
  have fc : ∀ b ∈ fp, FpOk X pins (upd Hb D (.dK [])) b ∧ b < sc.heap.objs.size := fun b hm => by
    have lt := small b hm
    refine ⟨⟨?_, (fb b hm).2⟩, by rw [hp, Heap.size_push]; exact Nat.lt_succ_of_lt lt⟩
    rw [upd_ne (by rw [← eD]; exact Nat.ne_of_lt lt)]
    exact (fb b hm).1
  have stc : tn 0 sc.heap := T.keep _ _ _ stb fun b _ o eo => by rw [hp]; exact Heap.get?_push_of_some _ eo
  have Id := block_start Ic ok hN fc
  generalize eH : upd Hb D (.dK []) = Hc at Ic Id fc tq
  have pg := hg sc Hc sc.heap.objs.size (cellsFrom (sc.heap.objs.size + 1) scope.names (cloFrom X.env.cells scope.names [])) fp
  have pt := ht sc Hc sc.heap.objs.size (cellsFrom (sc.heap.objs.size + 1) scope.names (cloFrom X.env.cells scope.names [])) fp
  have py := hy sc Hc sc.heap.objs.size (cellsFrom (sc.heap.objs.size + 1) scope.names (cloFrom X.env.cells scope.names [])) fp D
  generalize ece : compEnvC scope (cellsFrom (sc.heap.objs.size + 1) scope.names (cloFrom X.env.cells scope.names [])) sc.heap.objs.size X.env = ce at Id pg pt py
  have cl : ce.locals = sc.heap.objs.size := by subst ece; rfl
  generalize esd : ({ sc with heap := pushCells (sc.heap.push { cls := .type "dict", data := .dict #[] }) scope.names } : Shared) = sd at Id
  have std : tn 0 sd.heap := T.keep _ _ _ stc fun b _ o eo => by rw [← esd]; exact pushCells_keeps _ _ _ _ (Heap.get?_push_of_some _ eo)
  have nfp : ∀ b ∈ fp, Hc b = none := fun b hm => (fc b hm).1.1
  have fd : ∀ b ∈ fp, FpOk (X.blk sc Hc scope ce fp) [] Hc b := fun b hm => ⟨nfp b hm, (Id.ok.exf b hm).1, Id.ok.exfs b hm, .inl hm, fun x z e => (Id.ok.exf b hm).2 x z e, fun p hq => absurd (show p ∈ ([] : List (Addr × Obj)) ++ [] from hq) (by simp)⟩
  have Id' : Inv (X.blk sc Hc scope ce fp) [] (wipe σ c.vs) Hc sd := by rw [hvs]; exact Id
  have tq' : tCl J c (wipe σ c.vs) Hc (fun H9 => Q (.ref D) H9) (em D) := by
    have ww : wipe (wipe σ c.vs) c.vs = wipe σ c.vs := wipe_wipe
    unfold tCl at tq ⊢
    rw [ww]
    exact tq
  have lp := clause_loop (Y := X.blk sc Hc scope ce fp) (C := .DictComp kx vx (⟨tg, iter, ifs, 0⟩ :: rest) scope pos) (acc := .ref D) (ow := ow) (k := 0) (c := c) (yes := yes D ce) (Nx := fun H9 => Q (.ref D) H9) rfl hc (fun _ _ => rfl) (fun _ _ => rfl) (hT D (.ref ia) ce) pg pt py hv Id' T std fd tq'
  have fin : ∀ r s', (match r with
      | .ok _ => Aft (X.blk sc Hc scope ce fp) c.vs [] (wipe σ c.vs) (fun H9 => Q (.ref D) H9) s'
      | .error _ => False : Prop) → compPost (model X.prog X.w) X.A X.xe use Qf (.ref D) sc.heap.objs.size r s' := by
    intro r s' hr
    cases r with
    | error x => exact hr.elim
    | ok f =>
      obtain ⟨σ9, H9, I9, hl, hk, q9⟩ := hr
      have Ie : Inv X pins σ H9 s' := Ic.call' (ch := fp) I9.os I9.base I9.hok I9.bare fun b hm => ⟨(fc b hm).1.2.2.2.1, (fc b hm).1.2.1, (fc b hm).1.2.2.2.2.1, (fc b hm).1.2.2.2.2.2⟩
      have nC : H9 sc.heap.objs.size = none := by
        have zz : H9 ce.locals = none := I9.free
        rw [cl] at zz
        exact zz
      obtain ⟨mm, hn, _⟩ := I9.loc
      have hn' : s'.heap.Ns ce.locals mm := hn
      rw [cl] at hn'
      exact hRR D _ s' mm H9 f Ie q9 hn' (Ic.fpOk (b := sc.heap.objs.size) (Nat.le_refl _) nC)
  have all := codeAny_mono lp fin
  have done := start_d (k := 0) (t := tg) (i := iter) (ifs := ifs) rfl all (T.self X.A 0 _ _ _ std all)
  subst ece
  subst esd
  subst eH
  subst esc
  subst eD
  exact done
theorem used_core {i : Nat} {y : Str} {py spos : Pos} {e : Expr} {te : TE} {cm : Option (Value → Sem Unit) → Sem Value} (hN : X.N.Nodup) (hy : X.N[i]? = some y) (hyl : X.env.scope.names.lookup y = some .local)
    (hsw : swapsWith e (some (.Name y py)) spos.line X.env = pure true) (hu : ∀ u, evalThenUse e X.env u = (do let _ ← cm (some u)))
    (core : ∀ {use : Option (Value → Sem Unit)} {Qf : Value → Shared → Prop} {pins : List (Addr × Obj)} {s : Shared} {σ : L2.St} {H : Hp} {Q : VK}, Inv X pins σ H s → te σ H Q →
      (∀ D C s' m H' f, Inv X pins σ H' s' → Q (.ref D) H' → s'.heap.Ns C m → FpOk X pins H' C → compPost (model X.prog X.w) X.A X.xe use Qf (.ref D) C (.ok f) s') → wpAny (model X.prog X.w) X.A (cm use) Qf X.xe s) :
    PS X (.Assign [.Name y py] e spos) (tAsg te (gName i)) := by
  refine ⟨fun pins s σ H D I h => ?_⟩
  rw [exec_Assign_Name_used _ _ _ _ hsw]
  refine wpAny_bind (wpAny_standAt (wpAny_bind ?_))
  rw [hu]
  have h : te σ H (fun x H1 => gName i x σ H1 D.nx) := h
  refine wpAny_bind (thn (core (Qf := fun _ s' => SP X pins D .next s') I h fun L C s' m H' fx I' q hn f => ?_) fun _ s' hq => wpAny_pure (wpAny_pure hq))
  show wpAny _ _ (assign (.Name y py) X.env (.ref L)) _ _ _
  refine wpAny_assign_Name (store_ok2 (v := V.ref L) I' hN hy (.inl hyl) rfl (fun s2 I2 ⟨a, sb, ha⟩ => ?_) (.inr hyl))
  obtain ⟨f0, f1, f2, f3, f4, f5⟩ := f
  have haC : C ≠ a := by
    rcases ha with z | z
    · rw [z]; exact f1
    · exact fun e => f4 y a z e.symm
  refine ⟨m, hn.sameBut sb haC, fun h3 sb3 => ?_⟩
  exact ⟨_, H', I2.turned (t' := s2.toks) (fun b o hb e => (sb3.2 b hb).trans e) f0 f1 f3 f4 f5, q⟩
theorem ps_setDcN {i : Nat} {y : Str} {py spos : Pos} {kx vx tg iter : Expr} {ifs : List Expr} {rest : List Comprehension} {scope : Scope} {own : List (Str × Nat)} {pos : Pos} {c : Cl} {em : Addr → Em} {yes : Addr → Env → Value → Sem Fin} {ow : List Nat} (hc : X.calm = true) (hN : X.N.Nodup) (hy' : X.N[i]? = some y) (hyl : X.env.scope.names.lookup y = some .local) (hsw : swapsWith (.DictComp kx vx (⟨tg, iter, ifs, 0⟩ :: rest) scope pos) (some (.Name y py)) spos.line X.env = pure true) (hi : PI X tg iter c.wi) (ok : BlkOk X.N X.env.scope scope own) (hvs : c.vs = own.map (·.2))
    (hT : ∀ (D : Addr) (it : Value) (env : Env), compTurn (.DictComp kx vx (⟨tg, iter, ifs, 0⟩ :: rest) scope pos) 0 it (.ref D) env = turnG (.DictComp kx vx (⟨tg, iter, ifs, 0⟩ :: rest) scope pos) tg iter ifs 0 it (.ref D) env (yes D env it))
    (hg : ∀ (s : Shared) (H : Hp) (C : Addr) (cl : List (Str × Addr)) (fp : List Addr), PG (X.blk s H scope (compEnvC scope cl C X.env) fp) tg c.g) (ht : ∀ (s : Shared) (H : Hp) (C : Addr) (cl : List (Str × Addr)) (fp : List Addr), PTs (X.blk s H scope (compEnvC scope cl C X.env) fp) ifs c.tt)
    (hy : ∀ (s : Shared) (H : Hp) (C : Addr) (cl : List (Str × Addr)) (fp : List Addr) (D : Addr), YesOk (X.blk s H scope (compEnvC scope cl C X.env) fp) (.DictComp kx vx (⟨tg, iter, ifs, 0⟩ :: rest) scope pos) (.ref D) ow 0 (yes D (compEnvC scope cl C X.env)) (em D)) (hv : ∀ i ∈ ow, i ∈ c.vs)
    (hs : ∀ x, foldedSetIterable iter X.env x = pure x := by intro _; rfl) : PS X (.Assign [.Name y py] (.DictComp kx vx (⟨tg, iter, ifs, 0⟩ :: rest) scope pos) spos) (tAsg (tDcN c em) (gName i)) :=
  used_core (cm := fun use => comprehension (.DictComp kx vx (⟨tg, iter, ifs, 0⟩ :: rest) scope pos) scope X.env (firstIterPos (⟨tg, iter, ifs, 0⟩ :: rest) pos) newDict false (eval iter X.env) use) hN hy' hyl hsw (fun u => rfl) fun I h hRR => dcN_core hc hN hi ok hvs hT hg ht hy hv hs I h hRR
theorem sw_trueD {kx vx : Expr} {gs : List Comprehension} {scope : Scope} {pos py : Pos} {y : Str} {l : Nat} {env : Env} (hk : env.scope.kind = .function) (hy : env.scope.names.lookup y = some .local) (hl : (py.line == pos.line) = true)
    (ha : (scope.names.any fun (n, k) => n == y && (k == .local || k == .cell)) = false) : swapsWith (.DictComp kx vx gs scope pos) (some (.Name y py)) l env = pure true := by
  have ky : env.kindOf y = some .local := hy
  have hb : env.blockKind = .function := by unfold Env.blockKind; rw [hk]; rfl
  unfold swapsWith
  simp only [hb, ky, ha, Expr.pos, hl]
  rfl
end
variable {X : Cx} {G : Gx}
variable {tg iter : Expr} {pos : Pos}
section
variable {kx vx elt t1 i1 t2 i2 : Expr} {ifs ifs1 ifs2 : List Expr} {scope : Scope} {own : List (Str × Nat)} {c c1 c2 : ClU} {dk dv : Cm U}
theorem es_setD2 {i : Nat} {y : Str} {py spos : Pos} (mu : Bool) (hc : X.calm = true) (hN : X.N.Nodup) (hy' : X.N[i]? = some y) (hyl : X.env.scope.names.lookup y = some .local) (hsw : swapsWith (.DictComp kx vx [⟨tg, iter, ifs, 0⟩, ⟨t1, i1, ifs1, 0⟩] scope pos) (some (.Name y py)) spos.line X.env = pure true) (hi : EIK G X tg iter c.it) (ok : BlkOk X.N X.env.scope scope own) (hvs : c.vs = own.map (·.2))
    (hg : ∀ (s : Shared) (H : Hp) (C : Addr) (cl : List (Str × Addr)) (fp : List Addr), EPt (X.blk s H scope (compEnvC scope cl C X.env) fp) tg c.pt) (ht : ∀ (s : Shared) (H : Hp) (C : Addr) (cl : List (Str × Addr)) (fp : List Addr), ETs G (X.blk s H scope (compEnvC scope cl C X.env) fp) ifs c.t)
    (hi1 : ∀ (s : Shared) (H : Hp) (C : Addr) (cl : List (Str × Addr)) (fp : List Addr), EIK G (X.blk s H scope (compEnvC scope cl C X.env) fp) t1 i1 c1.it)
    (hg1 : ∀ (s : Shared) (H : Hp) (C : Addr) (cl : List (Str × Addr)) (fp : List Addr), EPt (X.blk s H scope (compEnvC scope cl C X.env) fp) t1 c1.pt) (ht1 : ∀ (s : Shared) (H : Hp) (C : Addr) (cl : List (Str × Addr)) (fp : List Addr), ETs G (X.blk s H scope (compEnvC scope cl C X.env) fp) ifs1 c1.t)
    (hk : ∀ (s : Shared) (H : Hp) (C : Addr) (cl : List (Str × Addr)) (fp : List Addr), EE G (X.blk s H scope (compEnvC scope cl C X.env) fp) kx dk) (hv : ∀ (s : Shared) (H : Hp) (C : Addr) (cl : List (Str × Addr)) (fp : List Addr), EE G (X.blk s H scope (compEnvC scope cl C X.env) fp) vx dv)
    (hsl : ∀ i ∈ c.pt.slots, i ∈ c.vs) (hsl1 : ∀ i ∈ c1.pt.slots, i ∈ c1.vs) (hvs1 : ∀ i ∈ c1.vs, i ∈ c.vs) (hs : ∀ x, foldedSetIterable iter X.env x = pure x := by intro _; rfl) (hs1 : ∀ env x, foldedSetIterable i1 env x = pure x := by intro _ _; rfl) :
    ES G X (.Assign [.Name y py] (.DictComp kx vx [⟨tg, iter, ifs, 0⟩, ⟨t1, i1, ifs1, 0⟩] scope pos) spos) (sAsg (cDcN mu c (clauseA c1 (outD dk dv))) (gmName i)) :=
  (ps_setDcN (c := clOf X.K G c) (ow := c1.vs) (em := fun D σ H Nx => (clOf X.K G c1).wi σ H fun J H9 => tCl J (clOf X.K G c1) σ H9 Nx (emD D (RE X.K G dk) (RE X.K G dv))) (yes := fun D env it => deeper (.DictComp kx vx [⟨tg, iter, ifs, 0⟩, ⟨t1, i1, ifs1, 0⟩] scope pos) i1 0 it (.ref D) env) hc hN hy' hyl hsw hi ok hvs (fun D it env => turn_dm rfl rfl) hg ht
    (fun s H C cl fp D => deeper_ok (Y := X.blk s H scope (compEnvC scope cl C X.env) fp) (c := clOf X.K G c1) (ow := []) (yes := fun it => putOut kx vx (.DictComp kx vx [⟨tg, iter, ifs, 0⟩, ⟨t1, i1, ifs1, 0⟩] scope pos) 1 it D _) rfl hc (fun _ _ => rfl) (fun _ _ => rfl) (fun it R s h0 h => start_d rfl h0 h) (fun it => turn_dl rfl rfl) (hi1 s H C cl fp) (hg1 s H C cl fp) (ht1 s H C cl fp) (hs1 _) (yes_d rfl (hk s H C cl fp) (hv s H C cl fp)) (fun i h => nomatch h)) hvs1 hs).imp
    fun D σ H h => by
      obtain ⟨m, S, env, fl, env', S', st, re, hc, q⟩ := h
      unfold sAsg at hc
      split at hc
      · cases hc
      · rename_i u S1 e1
        cases hc
        exact re_dcN (fun m1 H1 D hD => bok_c hD (bok_d hD) hsl1) hsl ⟨m, S, _, u, _, st, re, e1, fun m1 H1 v x1 st1 r1 => q m1 H1 _ x1 st1 ((re.keep x1.keeps).set i r1)⟩
end
end OF
namespace OF
open PySem PySem.Spec PyProof.Rows L2
def keyD : Key → PyData
  | .inl i => .int i
  | .inr x => .str x
mutual
def toX : U → Option PyData
  | .non => some .none
  | .bl b => some (.bool b)
  | .int i => some (.int i)
  | .str x => some (.str x)
  | .tup us => (toXs us).map .tuple
  | .lst us => (toXs us).map .list
  | .dct kvs => (toXk kvs).map .dict
  | _ => none
def toXs : List U → Option (List PyData)
  | [] => some []
  | u :: us => match toX u, toXs us with
    | some d, some ds => some (d :: ds)
    | _, _ => none
def toXk : List (Key × U) → Option (List (PyData × PyData))
  | [] => some []
  | (k, u) :: us => match toX u, toXk us with
    | some d, some ds => some ((keyD k, d) :: ds)
    | _, _ => none
end
def showX (d : PyData) : Bool := d.showable && (decide (d.depth ≤ 60) && decide (d.shown.length ≤ sizeLine))
def reprX : Op1 := fun u S => match toX u with
  | some d => if showX d = true then some (.str d.shown, S) else none
  | none => none
end OF
namespace OF
open PySem PySem.Spec PyProof.Rows L2
variable {X : Cx} {G : Gx}
variable {e a b st : Expr} {ca cs : Cm U} {cl : Cm (List U)} {pos p p2 p3 : Pos}
def enumU (us : List U) : List U := zipU (rangeU 0 us.length) us
@[simp] theorem outU_f (us : List U) (S : Sto) : outU false us S = some (.lst us, S) := rfl
@[simp] theorem outU_t (us : List U) (S : Sto) : outU true us S = some (.ref S.length, S ++ [.lst us]) := rfl
end OF
namespace OF
open PySem PySem.Spec PyProof.Rows L2
variable {X : Cx} {G : Gx}
def kU : Key → U
  | .inl i => .int i
  | .inr x => .str x
def fKey : Key × U → U := fun kv => kU kv.1
section
variable {K : PySem.W.Frag} {m m2 : Mp} {H H2 : Hp} {S : Sto} {a : Addr} {n : Nat} {od : Obj} {vs : List (Key × V)} {kvs : List (Key × U)}
theorem RUk (k : Key) : RU K G m H (kU k) (kV k) := by cases k <;> rfl
end
end OF
namespace OF
open PySem PySem.Spec PyProof.Rows L2
section
variable {X : Cx} {G : Gx} {es : List Expr} {e : Expr} {pos : Pos}
theorem RKs.keyUs {K : PySem.W.Frag} {m : Mp} {H : Hp} : ∀ {us : List (Key × U)} {vs : List (Key × V)}, RKs K G m H us vs → RUs K G m H (us.map fKey) (vs.map fun kv => kV kv.1)
  | [], vs, r => by rw [r.eqnil]; exact RUs.nil
  | (k, u) :: us, vs, r => by
    obtain ⟨v, t, rfl, q, tl⟩ := r.uncons
    exact RUs.cons (RUk k) (RKs.keyUs tl)
end
end OF
namespace OF
open PySem PySem.Spec PyProof.Rows L2
variable {X : Cx} {G : Gx}
variable {e : Expr} {ca : Cm U} {pos : Pos}
def listDU (mu : Bool) : Op1 := fun u S => match dctU S u with
  | some kvs => outU mu (kvs.map fKey) S
  | none => none
theorem cu_listD (mu : Bool) (hc : X.calm = true) : CallU G X (.type "list") (on1 (listDU mu)) := CallR.imp (call_listD hc) fun xs H Q ⟨m, S, us, z, S', st, r0, e0, q⟩ => by
  obtain ⟨u, rfl, e⟩ := on1_some e0
  obtain ⟨v, rfl, r⟩ := r0.one1
  unfold listDU at e
  split at e
  · rename_i kvs hd
    obtain ⟨a, vs, rfl, hr, rk⟩ := dctU_ok st r hd
    exact ⟨a, vs, rfl, hr, fun p hp => outU_ok e st rk.keyUs q p hp⟩
  · cases e
end OF
namespace OF
open PySem PySem.Spec PyProof.Rows L2
variable {X : Cx} {G : Gx} {e o tg iter : Expr} {cl : Cm (List U)} {pos apos p : Pos}
def ItOkE (K : PySem.W.Frag) (G : Gx) (m1 : Mp) (H1 : Hp) (us0 us : List U) (n : Nat) (J : It) : Prop := ∃ Gd Y, Walk J us.length Gd Y ∧ (∀ m2 H2 S2, Ext m1 H1 m2 H2 → Rst K G m2 H2 S2 → gok (some n) us0 S2 → Gd H2) ∧
  ∀ i m2 S2 H2 x H3, Ext m1 H1 m2 H2 → Rst K G m2 H2 S2 → gok (some n) us0 S2 → i < us.length → Y i H2 x H3 → ∃ u, us[i]? = some u ∧ Ext m2 H2 m2 H3 ∧ Rst K G m2 H3 S2 ∧ RU K G m2 H3 u x
def RIE (K : PySem.W.Frag) (G : Gx) (c : Cm (List U)) : TI := fun σ H R => ∃ m S env n us S', Rst K G m H S ∧ Renv K G m H env σ ∧ c env S = some ([.ref n], S') ∧ S'[n]? = some (.lst us) ∧ ∀ m1 H1, Ext m H m1 H1 → Rst K G m1 H1 S' → ∀ J, ItOkE K G m1 H1 us (enumU us) n J → R J H1
abbrev EIE (G : Gx) (X : Cx) (tg iter : Expr) (c : Cm (List U)) : Prop := PI X tg iter (RIE X.K G c)
theorem walk_enumC {K : PySem.W.Frag} {a : Addr} {n : Nat} : Walk (Ite K a) n (fun H => ∃ vs, H a = some (.lst vs) ∧ vs.length = n) (fun i H v H' => ∃ T x, v = .ref T ∧ H T = none ∧ H' = upd H T (.tup [.int (i : Nat), x]) ∧ ∀ vs, H a = some (.lst vs) → vs[i]? = some x) :=
  ⟨fun i H hi ⟨vs, h, hl⟩ => ⟨vs, vs[i]'(by omega), .inl (.inl h), by simp [hl, hi]⟩, fun H ⟨vs, h, hl⟩ => ⟨vs, .inl (.inl h), by omega⟩, fun i H x H' hi ⟨vs, h, hl⟩ ⟨T, y, h1, h2, h3, h4⟩ => ⟨T, y, h1, h2, h3, fun ws hw => h4 ws (.inl (.inl hw))⟩⟩
theorem itok_enumC {K : PySem.W.Frag} {m : Mp} {H : Hp} {n : Nat} {us : List U} {a : Addr} (hm : m.c[n]? = some a) : ItOkE K G m H us (enumU us) n (Ite K a) := by
  have look : ∀ m2 H2 S2, Ext m H m2 H2 → Rst K G m2 H2 S2 → gok (some n) us S2 → ∃ vs, H2 a = some (.lst vs) ∧ RUs K G m2 H2 us vs := by
    intro m2 H2 S2 x st g
    obtain ⟨ho, e, vs, rfl, r⟩ := st.ob n _ a g (x.at hm)
    exact ⟨vs, e, r⟩
  have el : (enumU us).length = us.length := by
    unfold enumU zipU rangeU
    simp
  unfold ItOkE
  rw [el]
  refine ⟨_, _, walk_enumC, fun m2 H2 S2 x st g => ?_, fun i m2 S2 H2 y H3 x st g hi ⟨T, z, h1, h2, h3, hy⟩ => ?_⟩
  · obtain ⟨vs, h, r⟩ := look m2 H2 S2 x st g
    exact ⟨vs, h, r.length⟩
  · subst h1 h3
    obtain ⟨vs, h, r⟩ := look m2 H2 S2 x st g
    obtain ⟨v, e', q⟩ := r.get (List.getElem?_eq_getElem hi)
    rw [hy vs h] at e'
    cases e'
    refine ⟨.tup [.int (i : Nat), us[i]], ?_, Ext.upd h2, st.new h2, RU.newTup st h2 (RUs.cons rfl (RUs.one q))⟩
    unfold enumU zipU rangeU
    rw [List.getElem?_map, List.getElem?_zip_eq_some (i := i) (z := (.int (i : Nat), us[i])) |>.mpr ⟨by simp [hi], by simp [hi]⟩]
    rfl
theorem ei_enumC {elts : List Expr} {kk : Nat} {tpos : Pos} (hg : Gl X "enumerate") (hm : X.mg "enumerate" = none) (ha : EA G X [e] cl) (hs : starEach [e] X.env = [(false, eval e X.env)] := by rfl) : EIE G X (.Tuple elts kk tpos) (.Call (.Name "enumerate" p) [e] [] pos) cl := (pi_enum hg hm ha hs).imp fun σ H R ⟨m, S, env, n, us, S', st, re, e1, hn, q⟩ => by
  refine ⟨m, S, _, _, _, st, re, e1, fun m1 H1 vs x1 st1 r1 => ?_⟩
  obtain ⟨v, r, ev, rv, rr⟩ := r1.uncons
  have := rr.eqnil
  subst this
  unfold RU at rv
  obtain ⟨a, ev', ha'⟩ := rv
  obtain ⟨ho, e2, vs', rfl, r'⟩ := st1.ob n _ a hn ha'
  exact ⟨a, vs', by rw [ev, ev'], .inl (.inl e2), q m1 H1 x1 st1 _ (itok_enumC ha')⟩
end OF
namespace OF
open PySem PySem.Spec PyProof.Rows L2
theorem nodup_inj {α β : Type} {f : α → β} : ∀ {l : List α}, (l.map f).Nodup → ∀ x ∈ l, ∀ y ∈ l, f x = f y → x = y
  | [], _, x, hx, _, _, _ => by cases hx
  | a :: l, h, x, hx, y, hy, e => by
    rw [List.map_cons, List.nodup_cons] at h
    rcases List.mem_cons.mp hx with rfl | hx'
    · rcases List.mem_cons.mp hy with rfl | hy'
      · rfl
      · exact absurd (e ▸ List.mem_map_of_mem hy') h.1
    · rcases List.mem_cons.mp hy with rfl | hy'
      · exact absurd (e ▸ List.mem_map_of_mem hx') h.1
      · exact nodup_inj h.2 x hx' y hy' e
variable {X : Cx} {G : Gx}
end OF
namespace OF
open PySem PySem.Spec PyProof.Rows L2
variable {X : Cx} {G : Gx} {tg iter : Expr} {pos : Pos}
noncomputable def cLcEL (it : Cm (List U)) (pt : Pat) (t : Cm Bool) (c : Cm U) (vs : List Nat) : Cm (List U) := fun env S => match it env S with
  | some ([.ref n], S1) => match S1[n]? with
    | some (.lst us) => match mapG pt t c (wipeE env vs) (some n) us (enumU us) S1 with
      | none => none
      | some (ys, S2) => if ys.length ≤ sizeLine then some (ys, S2) else none
    | _ => none
  | _ => none
noncomputable def cLcE (it : Cm (List U)) (pt : Pat) (t : Cm Bool) (c : Cm U) (vs : List Nat) : Cm U := fun env S => match cLcEL it pt t c vs env S with
  | none => none
  | some (ys, S2) => some (.lst ys, S2)
theorem re_lcE {K : PySem.W.Frag} {it : Cm (List U)} {pt : Pat} {t : Cm Bool} {c : Cm U} {vs : List Nat} {σ : L2.St} {H : Hp} {Q : VK} (hsl : ∀ i ∈ pt.slots, i ∈ vs)
    {m : Mp} {S : Sto} {env : Env'} {ys : List U} {S' : Sto} (st : Rst K G m H S) (re : Renv K G m H env σ) (hc : cLcEL it pt t c vs env S = some (ys, S'))
    (q : ∀ m' H' D zs, Ext m H m' H' → H D = none → D ∉ m'.x → Rst K G ⟨m'.c, D :: m'.x⟩ H' S' → H' D = some (.lst zs) → RUs K G ⟨m'.c, D :: m'.x⟩ H' ys zs → Q (.ref D) H') :
    tLc (RIE K G it) (tPat K pt) (RT K G t) (RE K G c) vs σ H Q := by
  unfold cLcEL at hc
  split at hc
  · rename_i n S1 e1
    split at hc
    · rename_i us hn
      split at hc
      · cases hc
      · rename_i ys' S2 e2
        split at hc
        · rename_i hsz
          cases hc
          refine ⟨m, S, env, n, us, S1, st, re, e1, hn, fun m1 H1 x1 st1 J hJ D hD => ?_⟩
          obtain ⟨Gd, Y, w, hG, hY⟩ := hJ
          generalize hg : some n = g at *
          generalize enumU us = ws at *
          have reW := (re.keep x1.keeps).wipe vs
          refine lc_it w (fun i H => ∃ m S acc zs rest, Ext m1 H1 m H ∧ D ∈ m.x ∧ Rst K G m H S ∧ H D = some (.lst zs) ∧ RUs K G m H acc zs ∧ mapG pt t c (wipeE env vs) g us (ws.drop i) S = some (rest, S') ∧ ys = acc ++ rest)
            ⟨⟨m1.c, D :: m1.x⟩, S1, [], [], ys, Ext.res hD, by simp, st1.res hD, upd_same, RUs.nil, e2, rfl⟩ (fun i H _ ⟨m, S, acc, zs, rest, x, _, st, _, _, hm, _⟩ => hG m H S x st (mapG_gok hm)) (fun i y H H' hi ⟨m, S, acc, zs, rest, x, hx, st, hd, ra, hm, ey⟩ hy => ?_) (fun H ⟨m, S, acc, zs, rest, x, hx, st, hd, ra, hm, ey⟩ => ?_)
          · obtain ⟨u, hu, x2, st2, ru⟩ := hY i m S H y H' x st (mapG_gok hm) hi hy
            rw [drop_cons hu] at hm
            have hk := mapG_gok hm
            unfold mapG at hm
            rw [if_pos hk] at hm
            split at hm
            · cases hm
            · rename_i bs eb
              obtain ⟨bv, h1, h2⟩ := bindP_ok _ _ _ _ eb ru
              have re2 := ((reW.keep x.keeps).keep x2.keeps).setAll h2
              have nc : D ∉ m.c := st.nx D hx
              refine ⟨bv, h1, wipe_setAll_wipe (fun i hi => hsl i (by rw [PatV.slots _ _ _ h1] at hi; exact hi)), ?_⟩
              split at hm
              · cases hm
              · rename_i S3 e3
                refine ⟨m, S, _, false, S3, st2, re2, e3, fun m3 H3 x3 st3 => iteF ?_⟩
                exact ⟨m3, S3, acc, zs, rest, (x.trans x2).trans x3, x3.xmem hx, st3, x3.keep D _ (x2.keep D _ hd nc) nc, RUs.keep (x2.trans x3).keeps _ _ ra, hm, ey⟩
              · rename_i S3 e3
                refine ⟨m, S, _, true, S3, st2, re2, e3, fun m3 H3 x3 st3 => iteT ?_⟩
                split at hm
                · cases hm
                · rename_i z S4 e4
                  split at hm
                  · cases hm
                  · rename_i zs' S5 e5
                    cases hm
                    have d3 : H3 D = some (.lst zs) := x3.keep D _ (x2.keep D _ hd nc) nc
                    have nc3 : D ∉ m3.c := st3.nx D (x3.xmem hx)
                    refine ⟨m3, S3, _, z, S4, st3, re2.keep x3.keeps, e4, fun m4 H4 v x4 st4 r4 => ?_⟩
                    have hx4 : D ∈ m4.x := x4.xmem (x3.xmem hx)
                    have d4 : H4 D = some (.lst zs) := x4.keep D _ d3 nc3
                    have k4 : Keeps m4 H4 m4 (L2.upd H4 D (.lst (zs ++ [v]))) := keeps_x hx4
                    have ra4 := RUs.keep ((x2.trans x3).trans x4).keeps _ _ ra
                    have hl : zs.length < sizeLine := by
                      have h1 := ra.length
                      have h2 : ys.length ≤ sizeLine := hsz
                      rw [ey] at h2
                      simp at h2
                      omega
                    refine ⟨zs, d4, hl, m4, S4, acc ++ [z], zs ++ [v], zs', ?_, hx4, st4.setx hx4, upd_same, RUs.keep k4 _ _ (ra4.append (RUs.one r4)), e5, by rw [ey]; simp⟩
                    have x5 := ((x.trans x2).trans x3).trans x4
                    refine ⟨x5.pre, x5.x, fun a o h n => ?_, fun a ha h => ?_, x5.new, fun a ob u h => by rw [upd_ne (ne_of_none h hD)]; exact x5.fz a ob u h⟩
                    · have : a ≠ D := ne_of_none h hD
                      rw [upd_ne this]; exact x5.keep a o h n
                    · by_cases e : a = D
                      · subst e; rw [upd_same]; rfl
                      · rw [upd_ne e]; exact x5.cells a ha h
          · rw [List.drop_length] at hm
            have hk := mapG_gok hm
            unfold mapG at hm
            rw [if_pos hk] at hm
            cases hm
            rw [List.append_nil] at ey
            subst ey
            have hsub : ∀ a ∈ D :: m1.x, a ∈ m.x := fun a ha => by
              rcases List.mem_cons.mp ha with h | h
              · rw [h]; exact hx
              · exact x.xmem h
            exact q ⟨m.c, m1.x⟩ H D zs (x1.trans x.forget) (x1.back hD) (st1.none_x hD) (Rst.forget (x := m.x) st hsub) hd (RUs.keep (keeps_forget (x := m.x) hsub) _ _ ra)
        · cases hc
    · cases hc
  · cases hc
theorem ee_lcE {elt : Expr} {ifs : List Expr} {scope : Scope} {own : List (Str × Nat)} {it : Cm (List U)} {pt : Pat} {t : Cm Bool} {c : Cm U} (hc : X.calm = true) (hN : X.N.Nodup) (hi : EIE G X tg iter it) (ok : BlkOk X.N X.env.scope scope own)
    (hg : ∀ (s : Shared) (H : Hp) (C : Addr) (cl : List (Str × Addr)) (fp : List Addr), EPt (X.blk s H scope (compEnvC scope cl C X.env) fp) tg pt) (ht : ∀ (s : Shared) (H : Hp) (C : Addr) (cl : List (Str × Addr)) (fp : List Addr), ETs G (X.blk s H scope (compEnvC scope cl C X.env) fp) ifs t)
    (he : ∀ (s : Shared) (H : Hp) (C : Addr) (cl : List (Str × Addr)) (fp : List Addr), EE G (X.blk s H scope (compEnvC scope cl C X.env) fp) elt c) (hsl : ∀ i ∈ pt.slots, i ∈ own.map (·.2)) (hs : ∀ x, foldedSetIterable iter X.env x = pure x := by intro _; rfl) :
    EE G X (.ListComp elt [⟨tg, iter, ifs, 0⟩] scope pos) (cLcE it pt t c (own.map (·.2))) := (pe_lc hc hN hi ok hg ht he hs).imp fun σ H Q ⟨m, S, env, z, S', st, re, hc, q⟩ => by
  unfold cLcE at hc
  split at hc
  · cases hc
  · rename_i ys S2 e1
    cases hc
    refine re_lcE hsl st re e1 fun m' H' D zs x hD nx st' hd r => ?_
    have st2 : Rst X.K G m' H' S' := Rst.forget (c := m'.c) (x := D :: m'.x) st' fun a ha => List.mem_cons_of_mem _ ha
    refine q m' H' _ x st2 ?_
    unfold RU
    exact ⟨D, zs, rfl, .inl hd, st'.nx D (by simp), nx, RUs.keep (keeps_forget fun a ha => List.mem_cons_of_mem _ ha) _ _ r⟩
end OF
namespace OF
open PySem PySem.Spec PyProof.Rows L2
variable {X : Cx} {G : Gx} {e e2 : Expr} {cl : Cm (List U)} {pos pos2 p p2 : Pos}
theorem valsZ_at {α : Type} {f : α → V} : ∀ (ks : List α) (its : List Value) (i : Nat) {u : Value}, Vals (ks.map f) its → its[i]? = some u → ∃ k, ks[i]? = some k ∧ RelV (f k) u
  | [], its, i, u, r, h => by cases r; simp at h
  | k :: ks, its, i, u, r, h => by
    rw [List.map_cons] at r
    cases r with
    | cons r0 rt =>
      cases i with
      | zero => cases h; exact ⟨k, rfl, r0⟩
      | succ i => exact valsZ_at ks _ i rt h
theorem kv_zip : ∀ {ks : List Key} {ys : List V} {us : List Value}, Vals ys us → KV (ks.zip ys) (ks.zip us)
  | [], ys, us, r => .nil
  | k :: ks, [], us, r => by cases r; exact .nil
  | k :: ks, y :: ys, us, r => by
    cases r with
    | cons r0 rt => exact .cons ⟨rfl, r0⟩ (kv_zip rt)
def tDZ (K : PySem.W.Frag) (ta : TA) : TE := fun σ H Q => ta σ H fun vs H1 => ∃ (a b : Addr) (ks : List Key) (ys : List V), vs = [.ref a, .ref b] ∧ SqL K H1 a (ks.map kV) ∧ SqL K H1 b ys ∧ ∀ q, H1 q = none → Q (.ref q) (L2.upd H1 q (.dK (mergeK [] (ks.zip ys))))
theorem pe_dictzip {ta : TA} (hcalm : X.calm = true) (hg : Gl X "dict") (hm : X.mg "dict" = none) (gz : Gl X "zip") (mz : X.mg "zip" = none) (ha : PA X [e, e2] ta)
    (s1 : starEach [.Call (.Name "zip" p2) [e, e2] [] pos2] X.env = [(false, eval (.Call (.Name "zip" p2) [e, e2] [] pos2) X.env)] := by rfl)
    (hs : starEach [e, e2] X.env = (false, eval e X.env) :: starEach [e2] X.env := by rfl) (hpl : (backTo pos2 (starEach [e2] X.env)).any (·.1) = false := by rfl) :
    PE X (.Call (.Name "dict" p) [.Call (.Name "zip" p2) [e, e2] [] pos2] [] pos) (tDZ X.K ta) where
  run pins s σ H Q I h := by
    refine Call_ (ld_blt I hg hm PyProof.Rows.boot_dict (PyProof.Rows.callWith_type1 ?_ s1 rfl))
    refine PyProof.Rows.spliced_more ?_ s1
    refine Call_ (ld_blt I gz mz PyProof.Rows.boot_zip (PyProof.Rows.callWith_type1 (thn (ha.run pos2 pins s σ H _ I h) fun us s2 ⟨vs, H1, I1, r1, q1⟩ => ?_) hs hpl))
    obtain ⟨a, b, ks, ys, rfl, ha1, hb1, q⟩ := q1
    obtain ⟨u, w, rfl, ra, rb⟩ : ∃ u w, us = [u, w] ∧ RelV (.ref a) u ∧ RelV (.ref b) w := by
      cases r1 with
      | cons r0 rt => cases rt with
        | cons r1 rt => cases rt; exact ⟨_, _, rfl, r0, r1⟩
    cases ra
    cases rb
    obtain ⟨ia, va, pa, za⟩ := I1.list ha1
    obtain ⟨ib, vb, pb, zb⟩ := I1.list hb1
    have la := pa.lt
    have lb := pb.lt
    refine call_zip_2 pa.isList pb.isList fun h' hz hTI hTO h1 h2 sz hk => ?_
    refine PyProof.Rows.spliced_none ?_
    have lz : (ks.zip ib).length = min ia.toArray.size ib.toArray.size := by
      have := va.length
      rw [List.length_map] at this
      rw [List.length_zip, this]
      rfl
    have kzb : KV (ks.zip ys) (ks.zip ib) := kv_zip vb
    have I2 : Inv X pins σ H1 { s2 with heap := h' } := I1.kept (t' := s2.toks) hk
    refine PySem.call_dict_pairs (knd := mixKind X.prog X.w) (kvs := ks.zip ib) (s := { s2 with heap := h' }) (PairArg.zip (s2.heap.objs.size + 4) (s2.heap.objs.size + 2) (s2.heap.objs.size + 3) s2.heap.objs.size (s2.heap.objs.size + 1) a b (PySem.W.ktu_apart s2.heap.objs.size a b la lb) ia.toArray ib.toArray) (I.ok.hd hcalm) ⟨hz, hTI, ⟨_, _, hTO⟩, h1, h2, pa.isList.at fun o e => hk _ o e, pb.isList.at fun o e => hk _ o e⟩ ⟨lz, fun i key v hr => ?_⟩ ?_ fun h'' tk hd hk2 => ?_
    · obtain ⟨r1, r2⟩ := hr
      obtain ⟨k, hk1, hk2⟩ := valsZ_at ks ia i va (by simpa using r1)
      refine ⟨k, ?_, kV_is (P := X.prog) (w := X.w) hk2⟩
      have r3 : ib[i]? = some v := by simpa using r2
      rw [List.getElem?_zip_eq_some]
      exact ⟨hk1, r3⟩
    · refine Nat.le_trans (Nat.min_le_left _ _) ?_
      have := va.length
      rw [List.length_map] at this za
      show ia.length ≤ _
      omega
    · have e1 : (s2.heap.objs.size + 5 == sysModules) = false := beq_eq_false_iff_ne.mpr (by have b2 : sysModules < h'.objs.size := I2.big; rw [sz] at b2; exact Nat.ne_of_gt b2)
      have hlen : (mergeK [] (ks.zip ys)).length ≤ sizeLine := by
        refine Nat.le_trans (length_mergeK (ks.zip ys) []) ?_
        rw [List.length_nil, Nat.zero_add, List.length_zip]
        rw [List.length_map] at za
        omega
      have keep : ∀ c o, s2.heap.get? c = some o → h''.get? c = some o := fun c o e => by
        have lc := Heap.lt_size e
        refine hk2 c o ?_ (hk c o e)
        simp only [List.mem_cons, List.not_mem_nil, or_false, not_or]
        exact ⟨Nat.ne_of_lt (Nat.lt_of_lt_of_le lc (Nat.le_add_right _ _)), Nat.ne_of_lt (Nat.lt_of_lt_of_le lc (Nat.le_add_right _ _)), Nat.ne_of_lt lc, Nat.ne_of_lt (Nat.lt_of_lt_of_le lc (Nat.le_add_right _ _))⟩
      show EP _ _ _ _ (.ref h'.objs.size) _
      rw [sz] at hd ⊢
      exact ⟨.ref (s2.heap.objs.size + 5), L2.upd H1 (s2.heap.objs.size + 5) (.dK (mergeK [] (ks.zip ys))), I1.laid (t' := tk) keep (Nat.le_add_right _ _) (show ObjOk X.prog X.w _ _ _ (.dK (mergeK [] (ks.zip ys))) from ⟨hlen, e1, merged [] (ks.zip ib), KV.merge kzb .nil, hd⟩), rfl, q _ (I1.hok.fresh (Nat.le_add_right _ _))⟩
def keysZ : List U → Option (List Key)
  | [] => some []
  | u :: us => match keyU u, keysZ us with
    | some k, some ks => some (k :: ks)
    | _, _ => none
theorem keysZ_ok {K : PySem.W.Frag} {m : Mp} {H : Hp} : ∀ {us : List U} {vs : List V} {ks : List Key}, RUs K G m H us vs → keysZ us = some ks → vs = ks.map kV
  | [], vs, ks, r, h => by
    cases h
    exact r.eqnil
  | u :: us, vs, ks, r, h => by
    obtain ⟨v, t, rfl, rv, rt⟩ := r.uncons
    unfold keysZ at h
    split at h
    · rename_i k ks' hk hks
      cases h
      rw [keyU_ok rv hk, keysZ_ok rt hks]
      rfl
    · cases h
theorem RKs.zip {K : PySem.W.Frag} {m : Mp} {H : Hp} : ∀ (ks : List Key) {us : List U} {vs : List V}, RUs K G m H us vs → RKs K G m H (ks.zip us) (ks.zip vs)
  | [], us, vs, r => RKs.nil
  | k :: ks, [], vs, r => by
    have := r.eqnil
    subst this
    exact RKs.nil
  | k :: ks, u :: us, vs, r => by
    obtain ⟨v, t, rfl, rv, rt⟩ := r.uncons
    exact RKs.cons rv (RKs.zip ks rt)
def cDZ (mu : Bool) (c : Cm (List U)) : Cm U := fun env S => match c env S with
  | some ([u, w], S1) => match lstU S1 u, lstU S1 w with
    | some us, some ws => match keysZ us with
      | some ks => if mu then some (.ref S1.length, S1 ++ [.dct (mergeU [] (ks.zip ws))]) else some (.dct (mergeU [] (ks.zip ws)), S1)
      | none => none
    | _, _ => none
  | _ => none
theorem ee_dz (mu : Bool) (hcalm : X.calm = true) (hg : Gl X "dict") (hm : X.mg "dict" = none) (gz : Gl X "zip") (mz : X.mg "zip" = none) (ha : EA G X [e, e2] cl)
    (s1 : starEach [.Call (.Name "zip" p2) [e, e2] [] pos2] X.env = [(false, eval (.Call (.Name "zip" p2) [e, e2] [] pos2) X.env)] := by rfl)
    (hs : starEach [e, e2] X.env = (false, eval e X.env) :: starEach [e2] X.env := by rfl) (hpl : (backTo pos2 (starEach [e2] X.env)).any (·.1) = false := by rfl) :
    EE G X (.Call (.Name "dict" p) [.Call (.Name "zip" p2) [e, e2] [] pos2] [] pos) (cDZ mu cl) := (pe_dictzip hcalm hg hm gz mz ha s1 hs hpl).imp fun σ H Q ⟨m, S, env, z, S', st, re, hc, q⟩ => by
  unfold cDZ at hc
  split at hc
  · rename_i u w S1 e1
    split at hc
    · rename_i us ws e2 e3
      split at hc
      · rename_i ks hk
        refine ⟨m, S, env, _, _, st, re, e1, fun m1 H1 vs x1 st1 r1 => ?_⟩
        obtain ⟨v, r, rfl, rv, rr⟩ := r1.uncons
        obtain ⟨y, r', rfl, ry, rr'⟩ := rr.uncons
        have := rr'.eqnil
        subst this
        obtain ⟨a, va, rfl, qa, ra⟩ := lstU_ok st1 rv e2
        obtain ⟨b, vb, rfl, qb, rb⟩ := lstU_ok st1 ry e3
        have := keysZ_ok ra hk
        subst this
        have rk := RKs.zip ks rb
        have rm := mergeU_ok rk (RKs.nil (K := X.K) (G := G) (m := m1) (H := H1))
        have q1 : After X.K G m1 H1 z S' Q := fun m2 H2 v x2 st2 r2 => q m2 H2 v (x1.trans x2) st2 r2
        refine ⟨a, b, ks, vb, rfl, .inl qa, .inl qb, ?_⟩
        split at hc
        · cases hc
          exact After.cell (o := .dct (mergeU [] (ks.zip ws))) q1 st1 ⟨_, rfl, rm⟩
        · cases hc
          exact q1.dct st1 rm
      · cases hc
    · cases hc
  · cases hc
@[simp] theorem cDZ_ap (mu : Bool) (c : Cm (List U)) (env : Env') (S : Sto) : cDZ mu c env S = (match c env S with
  | some ([u, w], S1) => match lstU S1 u, lstU S1 w with
    | some us, some ws => match keysZ us with
      | some ks => if mu then some (.ref S1.length, S1 ++ [.dct (mergeU [] (ks.zip ws))]) else some (.dct (mergeU [] (ks.zip ws)), S1)
      | none => none
    | _, _ => none
  | _ => none) := rfl
theorem keysZ_strs : ∀ l : List Str, keysZ (l.map .str) = some (l.map .inr)
  | [] => rfl
  | x :: l => by
    rw [List.map_cons]
    unfold keysZ
    rw [keysZ_strs l]
    rfl
end OF
namespace OF
open PySem PySem.Spec PyProof.Rows L2
section
variable {prog : Program} {w : World} {A : Around} {E : Value → Shared → Prop} {s : Shared}
theorem entry_civ : entryFor table "proto.contains_iter" = some Builtin.«proto.contains_iter» := by first | exact entryFor_of_fast (by kernel_rfl) | exact entryFor_of_tree (by kernel_rfl)
theorem plain_civ : plainId "proto.contains_iter" = true := by decide +kernel
theorem civ_none : typeLookup (.type "dict_values") "__contains__" = pure none := by kernel_rfl
theorem civ_loop {I : Addr} {fp wr : List Addr} {n : Nat} {vals : List Str} {St : Nat → Heap → Prop} {R : Result → Shared → Prop} {x : Str} {tx : Tok} (W : Walks prog w A.in1 I fp wr n (fun i v => ∃ y t, vals[i]? = some y ∧ v = Value.str y t) St) (hn : n = vals.length)
    (hR : ∀ h' tk, (∀ b o, b ∉ wr → s.heap.get? b = some o → h'.get? b = some o) → R (.ok (.ret (.bool (decide (x ∈ vals))))) { s with heap := h', toks := tk }) :
    ∀ (k i : Nat) (h : Heap) (tk : Nat), n - i = k → i ≤ n → St i h → x ∉ vals.take i → (∀ b o, b ∉ wr → s.heap.get? b = some o → h.get? b = some o) →
      codeAny (model prog w) A (.builtin "proto.contains_iter" ⟨[.ref I, .str x tx], []⟩) R { s with heap := h, toks := tk }
  | k, i, h, tk, hk, hi, st, hx, keep => by
    refine codeAny_builtin entry_civ ?_
    rw [Around.under_plainId plain_civ _]
    show wpAny _ A.in1 (pyNext (.ref I) >>= _) _ _ _
    by_cases hlt : i < n
    · refine wpAny_bind (W.item i _ _ _ hlt st fun v h' tk' hv st' kk => ?_)
      obtain ⟨y, t, hy, rfl⟩ := hv
      have keep' : ∀ b o, b ∉ wr → s.heap.get? b = some o → h'.get? b = some o := fun b o hb e => kk b o hb (keep b o hb e)
      refine wpAny_bind (wpAny_eqBool_str ?_)
      by_cases hxy : y = x
      · subst hxy
        rw [decide_eq_true rfl]
        refine wpAny_bind (wpAny_rule ?_)
        have := hR h' tk' keep'
        rw [decide_eq_true (List.mem_of_getElem? hy)] at this
        exact wpAny_pure this
      · rw [decide_eq_false hxy]
        refine wpAny_pure ⟨plainId_quiet plain_civ _, ?_⟩
        refine civ_loop W hn hR (k - 1) (i + 1) h' tk' (by omega) (by omega) st' ?_ keep'
        rw [List.take_succ, hy]
        intro hm
        rcases List.mem_append.mp hm with hm | hm
        · exact hx hm
        · exact hxy (List.mem_singleton.mp hm).symm
    · have he : i = n := by omega
      subst he
      refine wpAny_bind (W.done _ _ _ st fun h' tk' kk => ?_)
      refine wpAny_bind (wpAny_rule ?_)
      have := hR h' tk' fun b o hb e => kk b o hb (keep b o hb e)
      rw [hn, List.take_length] at hx
      rw [decide_eq_false hx] at this
      exact wpAny_pure this
termination_by k => k
decreasing_by omega
theorem kv_at {κ : Type} {kvs : List (κ × V)} {vs : List (κ × Value)} (r : KV kvs vs) : ∀ {i : Nat} {p : κ × Value}, vs[i]? = some p → ∃ x, kvs[i]? = some (p.1, x) ∧ RelV x p.2 := by
  unfold KV at r
  induction r with
  | nil => intro i p e; simp at e
  | @cons a b l₁ l₂ r t ih =>
    intro i p e
    cases i with
    | zero =>
      have e' : b = p := by simpa using e
      subst e'
      exact ⟨a.2, by simp [← r.1], r.2⟩
    | succ i => simpa using ih (i := i) (by simpa using e)
theorem civ_in {v d : Addr} {es : Array DictEntry} {ep : Nat} {vals : List Str} {Q : Value → Shared → Prop} {x : Str} {tx : Tok} (hh : A.handled = none) (hv : s.heap.IsValuesView v d) (hm : s.heap.DictRaw d es ep) (hs : es.size = vals.length)
    (hval : ∀ (i : Nat) (e : DictEntry), es[i]? = some e → ∃ y t, vals[i]? = some y ∧ e.val = Value.str y t)
    (h : ∀ h' tk, (∀ b o, s.heap.get? b = some o → h'.get? b = some o) → Q (.bool (decide (x ∈ vals))) { s with heap := h', toks := tk }) :
    wpAny (model prog w) A (compareOp .In (.str x tx) (.ref v)) Q E s := by
  show wpAny _ _ (do return .bool (← contains (.ref v) (.str x tx))) Q E s
  refine wpAny_bind ?_
  unfold contains
  refine wpAny_holding ?_
  rw [stdlibNamesSay?_ref]
  refine wpAny_bind (wpAny_specialOf hv.typeIs civ_none ?_)
  show wpAny _ A (if ((none : Option Value) == some Value.none) = true then _ else _) _ E s
  rw [if_neg (by simp)]
  refine wpAny_bind (wpAny_callSpecialUnlessNone?_none hv.typeIs civ_none ?_)
  refine wpAny_bind (wpAny_rule ?_)
  have W := Walks.rawValues (prog := prog) (w := w) (A := A.in1) hh s.heap.objs.size d (Nat.ne_of_lt hm.lt_size) es ep
  have W' : Walks prog w A.in1 s.heap.objs.size [s.heap.objs.size, d] [s.heap.objs.size] es.size (fun i v => ∃ y t, vals[i]? = some y ∧ v = Value.str y t) (fun i h => h.IsValIter s.heap.objs.size d i es.size ep ∧ h.DictRaw d es ep) := ⟨W.sub, W.frame, fun i s Q E hi st hQ => W.item i s Q E hi st fun v h' tk hp => hQ v h' tk (by
    obtain ⟨hi', rfl⟩ := hp
    exact hval i _ (Array.getElem?_eq_getElem hi')), W.done, W.self⟩
  refine wpAny_bind (wpAny_tryCatch (wpAny_pyIter_values_raw hv hm ?_))
  have key := civ_loop (A := A) (s := { s with heap := s.heap.push { cls := .type "dict_valueiterator", data := .fields #[.ref d, .int 0 0, .int es.size 0, .int ep 0] } }) (R := fun (q : Result) (s' : Shared) => ∃ h' tk, q = .ok (.ret (.bool (decide (x ∈ vals)))) ∧ s' = { s with heap := h', toks := tk } ∧ ∀ b o, s.heap.get? b = some o → h'.get? b = some o) (x := x) (tx := tx) W' hs (fun h' tk kk => ⟨h', tk, rfl, rfl, fun b o e => kk b o (fun hb => by
    rw [List.mem_singleton.mp hb] at e
    exact Nat.lt_irrefl _ (Heap.lt_size e)) (Heap.get?_push_of_some _ e)⟩) _ 0 _ s.toks rfl (Nat.zero_le _) ⟨⟨_, Heap.get?_push_size _ rfl, rfl, rfl⟩, hm.push _⟩ (by simp) (fun b o _ e => e)
  refine wpAny_bind (wpAny_runValue (codeAny_mono key fun q s' hq => ?_))
  obtain ⟨h', tk, rfl, rfl, kk⟩ := hq
  exact wpAny_pure (wpAny_pure (h h' tk kk))
end
section
variable {X : Cx} {G : Gx} {a o : Expr} {ca co : Cm U} {ta td : TE} {apos mpos pos : Pos}
def tInV (ta td : TE) : TE := fun σ H Q => ta σ H fun x H0 => td σ H0 fun y H1 => ∃ (z : Str) (d : Addr) (kvs : List (Key × V)) (ws : List Str), x = V.str z ∧ y = V.ref d ∧ Rd H1 d (.dK kvs) ∧ kvs.map (·.2) = ws.map V.str ∧ Q (.bl (decide (z ∈ ws))) H1
theorem inV_run (hc : X.calm = true) (ha : PE X a ta) (hd : PE X o td) (hbase : attributeBase o "values" X.env (eval o X.env) = eval o X.env) (hline : (apos.endLine == mpos.line) = true) {pins : List (Addr × Obj)} {s : Shared} {σ : L2.St} {H : Hp} {Q : VK} (I : Inv X pins σ H s) (h : tInV ta td σ H Q) :
    wpAny (model X.prog X.w) X.A (eval a X.env) (fun v s1 => wpAny (model X.prog X.w) X.A (eval (.Call (.Attribute o "values" apos) [] [] mpos) X.env) (fun u s2 => wpAny (model X.prog X.w) X.A (compareOp .In v u) (EP X pins σ Q) X.xe s2) X.xe s1) X.xe s := by
  refine thn (ha.run pins s σ H _ I h) fun v0 s0 ⟨x, H0, I0, r0, q0⟩ => ?_
  refine wpAny_Call_method0_late hbase hline (thn (hd.run pins s0 σ H0 _ I0 q0) fun v s1 ⟨y, H1, I1, r1, z, d, kvs, ws, ex, ey, hr, hv, q⟩ => ?_)
  subst ex ey
  obtain ⟨tz, rfl⟩ := r0
  obtain rfl : v = Value.ref d := r1
  obtain ⟨_, hsys, vs, rel, dof⟩ := dk_rd I1.hok hr
  obtain ⟨es, ep, hraw, hsz, hent⟩ := dof.raw
  obtain ⟨ob, ho, ex, hdat⟩ := id hraw
  refine ⟨"dict", "dict.values", PySem.F.plainAttrs_dict, PySem.F.slot_dict_values, PySem.F.type_dict_values, ⟨ob, ho, ex.1⟩, fun b e => ?_, Calls.callWith_builtin rfl (PySem.evalArgs_none ?_)⟩
  · cases e
    exact ⟨ob, ho, ex.2.1⟩
  refine call_meetsIn PySem.F.slot_dict_values ⟨ob, ho, ex.1⟩ PySem.F.entry_dict_values (PySem.F.args_dict_values_1 _) (PySem.meets_dict_values_raw d hsys) ⟨⟨es, ep, hraw⟩, ?_⟩
  have k1 : ∀ b u, s1.heap.get? b = some u → (s1.heap.push { cls := .type "dict_values", data := .fields #[.ref d] }).get? b = some u := fun b u e => Heap.get?_push_of_some _ e
  have l1 : kvs.length = vs.length := KV.length rel
  have l2 : kvs.length = ws.length := by simpa using congrArg List.length hv
  refine civ_in (vals := ws) (I.ok.hd hc) ⟨_, Heap.get?_push_size _ rfl, rfl, rfl⟩ (hraw.push _) (by omega) (fun i e he => ?_) fun h' tk kk => ?_
  · obtain ⟨hi, rfl⟩ := Array.getElem?_eq_some_iff.mp he
    have hi' : i < vs.length := by omega
    obtain ⟨x1, h1, h2⟩ := kv_at (i := i) (p := vs[i]) rel (List.getElem?_eq_getElem hi')
    have e1 : (kvs.map (·.2))[i]? = some x1 := by rw [List.getElem?_map, h1] <;> rfl
    rw [hv, List.getElem?_map] at e1
    obtain ⟨y, hy, e2⟩ := Option.map_eq_some_iff.mp e1
    subst e2
    obtain ⟨t, e3⟩ := h2
    exact ⟨y, t, hy, ((hent i hi vs[i].1 vs[i].2 (List.getElem?_eq_getElem hi')).2).trans e3⟩
  · exact ⟨.bl _, H1, I1.kept (t' := tk) fun b u e => kk b u (k1 b u e), rfl, q⟩
theorem pt_inV (hc : X.calm = true) (ha : PE X a ta) (hd : PE X o td) (hbase : attributeBase o "values" X.env (eval o X.env) = eval o X.env := by rfl) (hline : (apos.endLine == mpos.line) = true := by rfl) (hm : behindInMarks .In (.Call (.Attribute o "values" apos) [] [] mpos) = false := by with_unfolding_all rfl) : PT X (.Compare a [.In] [.Call (.Attribute o "values" apos) [] [] mpos] pos) (tTest (tInV ta td)) := by
  refine ⟨fun pins s σ H Q I h => ?_⟩
  refine wpAny_isTrue_Compare1 (wpAny_mono (inV_run hc ha hd hbase hline I h) (fun v s1 h1 => wpAny_mono h1 (fun u s2 h2 => wpAny_mono h2 (fun c s3 ⟨z, H3, I3, r3, k, e, q3⟩ => ?_) fun _ _ e => e) fun _ _ e => e) fun _ _ e => e) hm
  subst e
  cases r3
  exact wpAny_truthy_bool ⟨H3, I3, q3⟩
def allStr : List (Key × U) → Option (List Str)
  | [] => some []
  | (_, .str x) :: r => (allStr r).map (x :: ·)
  | _ => none
theorem allStr_ok {K : PySem.W.Frag} {m : Mp} {H : Hp} : ∀ {us : List (Key × U)} {vs : List (Key × V)} {ws : List Str}, RKs K G m H us vs → allStr us = some ws → vs.map (·.2) = ws.map V.str
  | [], vs, ws, r, h => by
    cases h
    have := r.eqnil
    subst this
    rfl
  | (k, u) :: us, vs, ws, r, h => by
    obtain ⟨v, t, rfl, q, tl⟩ := r.uncons
    cases u with
    | str x =>
      unfold allStr at h
      obtain ⟨ws', h', rfl⟩ := Option.map_eq_some_iff.mp h
      have e : v = V.str x := q
      rw [List.map_cons, List.map_cons, allStr_ok tl h', e]
    | _ => cases h
def cInV (ca co : Cm U) : Cm U := fun env S => match ca env S with
  | some (.str z, S1) => match co env S1 with
    | some (u, S2) => match dctU S2 u with
      | some kvs => match allStr kvs with
        | some ws => some (.bl (decide (z ∈ ws)), S2)
        | none => none
      | none => none
    | none => none
  | _ => none
theorem inV_imp {σ : L2.St} {H : Hp} {Q : VK} (h : RE X.K G (cInV ca co) σ H Q) : tInV (RE X.K G ca) (RE X.K G co) σ H Q := by
  obtain ⟨m, S, env, z, S', st, re, hc, q⟩ := h
  unfold cInV at hc
  split at hc
  · rename_i x S1 e1
    split at hc
    · rename_i u S2 e2
      split at hc
      · rename_i kvs e3
        split at hc
        · rename_i ws e4
          cases hc
          refine ⟨m, S, env, _, S1, st, re, e1, fun m1 H1 v x1 st1 r1 => ⟨m1, S1, env, u, _, st1, re.keep x1.keeps, e2, fun m2 H2 y x2 st2 r2 => ?_⟩⟩
          obtain ⟨d, vs, rfl, hd, rk⟩ := dctU_ok st2 r2 e3
          have e : v = V.str x := r1
          exact ⟨x, d, vs, ws, e, rfl, hd, allStr_ok rk e4, q m2 H2 _ (x1.trans x2) st2 rfl⟩
        · cases hc
      · cases hc
    · cases hc
  · cases hc
theorem et_inV (hc : X.calm = true) (ha : EE G X a ca) (ho : EE G X o co) (hbase : attributeBase o "values" X.env (eval o X.env) = eval o X.env := by rfl) (hline : (apos.endLine == mpos.line) = true := by rfl) (hm : behindInMarks .In (.Call (.Attribute o "values" apos) [] [] mpos) = false := by with_unfolding_all rfl) : ET G X (.Compare a [.In] [.Call (.Attribute o "values" apos) [] [] mpos] pos) (cTru (cInV ca co)) :=
  (pt_inV hc ha ho hbase hline hm).imp fun σ H Q ⟨m, S, env, k, S', st, re, hc, q⟩ => by
    obtain ⟨u, e1, e2⟩ := cTru_some hc
    refine inV_imp ⟨m, S, env, u, S', st, re, e1, fun m1 H1 v x1 st1 r1 => ?_⟩
    have hb : ∃ b, u = .bl b := by
      unfold cInV at e1
      split at e1
      · split at e1
        · split at e1
          · split at e1
            · cases e1
              exact ⟨_, rfl⟩
            · cases e1
          · cases e1
        · cases e1
      · cases e1
    obtain ⟨b, rfl⟩ := hb
    have ev : v = V.bl b := r1
    cases e2
    exact ⟨_, ev, (q m1 H1 x1 st1 : _)⟩
@[simp] theorem cInV_ap (ca co : Cm U) (env : Env') (S : Sto) : cInV ca co env S = (match ca env S with
  | some (.str z, S1) => match co env S1 with
    | some (u, S2) => match dctU S2 u with
      | some kvs => match allStr kvs with
        | some ws => some (.bl (decide (z ∈ ws)), S2)
        | none => none
      | none => none
    | none => none
  | _ => none) := rfl
end
end OF
namespace K14
open PySem PySem.Spec PyProof.Rows L2 OF
def topS (i : Nat) : Stmt := PySem.Challenge.pw_onceforms_k14_whole_runs_otherwise_calle.main.body.getD i (.Pass ⟨0, 0, 0, 0⟩)
abbrev st__law_hand : Stmt := topS 26
abbrev N__law_hand : List Str := ["_law_script", "_law_k", "_law_cell", "_law_great"]
theorem sc__law_hand : FnScope N__law_hand ["_law_script", "_law_k"] (defScope st__law_hand) := ⟨rfl, rfl, rfl, by decide +kernel, rfl, by decide +kernel, by decide +kernel⟩
abbrev st__law_parts_of : Stmt := topS 34
abbrev N__law_parts_of : List Str := ["_law_whole", "_law_blocks", "_law_names_here", "_law_numbers", "_law_block", "_law_rows", "_law_end", "_law_row_here", "_law_part"]
theorem sc__law_parts_of : FnScope N__law_parts_of ["_law_whole"] (defScope st__law_parts_of) := ⟨rfl, rfl, rfl, by decide +kernel, rfl, by decide +kernel, by decide +kernel⟩
abbrev st__law_otherwise : Stmt := topS 35
abbrev N__law_otherwise : List Str := ["_law_whole", "_law_blocks", "_law_names_here", "_law_numbers", "_law_found", "_law_block", "_law_rows", "_law_end", "_law_made", "_law_row_here", "_law_parts", "_law_part"]
theorem sc__law_otherwise : FnScope N__law_otherwise ["_law_whole", "_law_blocks", "_law_names_here", "_law_numbers"] (defScope st__law_otherwise) := ⟨rfl, rfl, rfl, by decide +kernel, rfl, by decide +kernel, by decide +kernel⟩
abbrev st_rest_of : Stmt := topS 10
abbrev N_rest_of : List Str := ["number"]
theorem sc_rest_of : FnScope N_rest_of ["number"] (defScope st_rest_of) := ⟨rfl, rfl, rfl, by decide +kernel, rfl, by decide +kernel, by decide +kernel⟩
abbrev st_Story_init__ : Stmt := inClass (topS 20) 0
abbrev N_Story_init__ : List Str := ["self", "inputs", "steps", "number"]
theorem sc_Story_init__ : FnScope N_Story_init__ ["self", "inputs", "steps"] (defScope st_Story_init__) := ⟨rfl, rfl, rfl, by decide +kernel, rfl, by decide +kernel, by decide +kernel⟩
abbrev st_Story_pair : Stmt := inClass (topS 20) 7
abbrev N_Story_pair : List Str := ["self"]
theorem sc_Story_pair : FnScope N_Story_pair ["self"] (defScope st_Story_pair) := ⟨rfl, rfl, rfl, by decide +kernel, rfl, by decide +kernel, by decide +kernel⟩
abbrev st_Story_may_go : Stmt := inClass (topS 20) 1
abbrev N_Story_may_go : List Str := ["self"]
theorem sc_Story_may_go : FnScope N_Story_may_go ["self"] (defScope st_Story_may_go) := ⟨rfl, rfl, rfl, by decide +kernel, rfl, by decide +kernel, by decide +kernel⟩
abbrev st_Story_are_told : Stmt := inClass (topS 20) 2
abbrev N_Story_are_told : List Str := ["self", "names", "worths", "name", "worth"]
theorem sc_Story_are_told : FnScope N_Story_are_told ["self", "names", "worths"] (defScope st_Story_are_told) := ⟨rfl, rfl, rfl, by decide +kernel, rfl, by decide +kernel, by decide +kernel⟩
abbrev st_asked_by : Stmt := topS 5
abbrev N_asked_by : List Str := ["row", "sorts", "parts", "sort", "part"]
theorem sc_asked_by : FnScope N_asked_by ["row"] (defScope st_asked_by) := ⟨rfl, rfl, rfl, by decide +kernel, rfl, by decide +kernel, by decide +kernel⟩
abbrev st_Story_end_done : Stmt := inClass (topS 20) 6
abbrev N_Story_end_done : List Str := ["self", "block", "end", "worths", "word", "others"]
theorem sc_Story_end_done : FnScope N_Story_end_done ["self", "block", "end", "worths"] (defScope st_Story_end_done) := ⟨rfl, rfl, rfl, by decide +kernel, rfl, by decide +kernel, by decide +kernel⟩
abbrev st_Story_why_not : Stmt := inClass (topS 20) 3
abbrev N_Story_why_not : List Str := ["self", "row", "worths", "number", "word", "names"]
theorem sc_Story_why_not : FnScope N_Story_why_not ["self", "row", "worths"] (defScope st_Story_why_not) := ⟨rfl, rfl, rfl, by decide +kernel, rfl, by decide +kernel, by decide +kernel⟩
abbrev st_sum_of : Stmt := topS 11
abbrev N_sum_of : List Str := ["one", "other"]
theorem sc_sum_of : FnScope N_sum_of ["one", "other"] (defScope st_sum_of) := ⟨rfl, rfl, rfl, by decide +kernel, rfl, by decide +kernel, by decide +kernel⟩
abbrev st_left_of : Stmt := topS 12
abbrev N_left_of : List Str := ["one", "other"]
theorem sc_left_of : FnScope N_left_of ["one", "other"] (defScope st_left_of) := ⟨rfl, rfl, rfl, by decide +kernel, rfl, by decide +kernel, by decide +kernel⟩
abbrev st_product_of : Stmt := topS 13
abbrev N_product_of : List Str := ["one", "other"]
theorem sc_product_of : FnScope N_product_of ["one", "other"] (defScope st_product_of) := ⟨rfl, rfl, rfl, by decide +kernel, rfl, by decide +kernel, by decide +kernel⟩
abbrev st_part_of : Stmt := topS 14
abbrev N_part_of : List Str := ["one", "other"]
theorem sc_part_of : FnScope N_part_of ["one", "other"] (defScope st_part_of) := ⟨rfl, rfl, rfl, by decide +kernel, rfl, by decide +kernel, by decide +kernel⟩
abbrev st_same_told : Stmt := topS 15
abbrev N_same_told : List Str := ["one", "other"]
theorem sc_same_told : FnScope N_same_told ["one", "other"] (defScope st_same_told) := ⟨rfl, rfl, rfl, by decide +kernel, rfl, by decide +kernel, by decide +kernel⟩
abbrev st_below_told : Stmt := topS 16
abbrev N_below_told : List Str := ["one", "other"]
theorem sc_below_told : FnScope N_below_told ["one", "other"] (defScope st_below_told) := ⟨rfl, rfl, rfl, by decide +kernel, rfl, by decide +kernel, by decide +kernel⟩
abbrev st_reckoned : Stmt := topS 18
abbrev N_reckoned : List Str := ["word", "worths", "first", "others"]
theorem sc_reckoned : FnScope N_reckoned ["word", "worths"] (defScope st_reckoned) := ⟨rfl, rfl, rfl, by decide +kernel, rfl, by decide +kernel, by decide +kernel⟩
abbrev st_Story_worth_given : Stmt := inClass (topS 20) 4
abbrev N_Story_worth_given : List Str := ["self", "row", "worths", "word"]
theorem sc_Story_worth_given : FnScope N_Story_worth_given ["self", "row", "worths"] (defScope st_Story_worth_given) := ⟨rfl, rfl, rfl, by decide +kernel, rfl, by decide +kernel, by decide +kernel⟩
abbrev st_Story_row_done : Stmt := inClass (topS 20) 5
abbrev N_Story_row_done : List Str := ["self", "row", "worths", "given"]
theorem sc_Story_row_done : FnScope N_Story_row_done ["self", "row", "worths"] (defScope st_Story_row_done) := ⟨rfl, rfl, rfl, by decide +kernel, rfl, by decide +kernel, by decide +kernel⟩
abbrev st_given_by : Stmt := topS 6
abbrev N_given_by : List Str := ["row"]
theorem sc_given_by : FnScope N_given_by ["row"] (defScope st_given_by) := ⟨rfl, rfl, rfl, by decide +kernel, rfl, by decide +kernel, by decide +kernel⟩
abbrev st_held_worths : Stmt := topS 21
abbrev N_held_worths : List Str := ["held", "asker", "name"]
theorem sc_held_worths : FnScope N_held_worths ["held", "asker"] (defScope st_held_worths) := ⟨rfl, rfl, rfl, by decide +kernel, rfl, by decide +kernel, by decide +kernel⟩
abbrev st_block_done : Stmt := topS 22
abbrev N_block_done : List Str := ["story", "held", "block", "name", "rows", "end", "row", "given", "gives"]
theorem sc_block_done : FnScope N_block_done ["story", "held", "block"] (defScope st_block_done) := ⟨rfl, rfl, rfl, by decide +kernel, rfl, by decide +kernel, by decide +kernel⟩
abbrev st_block_of : Stmt := topS 8
abbrev N_block_of : List Str := ["program", "name", "block"]
theorem sc_block_of : FnScope N_block_of ["program", "name"] (defScope st_block_of) := ⟨rfl, rfl, rfl, by decide +kernel, rfl, by decide +kernel, by decide +kernel⟩
abbrev st_run_plain : Stmt := topS 23
abbrev N_run_plain : List Str := ["program", "inputs", "steps", "story", "held", "goal"]
theorem sc_run_plain : FnScope N_run_plain ["program", "inputs", "steps"] (defScope st_run_plain) := ⟨rfl, rfl, rfl, by decide +kernel, rfl, by decide +kernel, by decide +kernel⟩
abbrev st__law_take : Stmt := topS 27
abbrev N__law_take : List Str := ["_law_hand_here", "_law_many", "_law_digit"]
theorem sc__law_take : FnScope N__law_take ["_law_hand_here", "_law_many"] (defScope st__law_take) := ⟨rfl, rfl, rfl, by decide +kernel, rfl, by decide +kernel, by decide +kernel⟩
abbrev st__law_pick : Stmt := topS 28
abbrev N__law_pick : List Str := ["_law_hand_here", "_law_some"]
theorem sc__law_pick : FnScope N__law_pick ["_law_hand_here", "_law_some"] (defScope st__law_pick) := ⟨rfl, rfl, rfl, by decide +kernel, rfl, by decide +kernel, by decide +kernel⟩
abbrev st__law_names : Stmt := topS 29
abbrev N__law_names : List Str := ["_law_hand_here", "_law_many", "_law_letters", "_law_first", "_law_step", "_law_stem", "_law_spot", "_law_found", "_law_k", "_law_sign", "_law_words", "_law_word"]
theorem sc__law_names : FnScope N__law_names ["_law_hand_here", "_law_many"] (defScope st__law_names) := ⟨rfl, rfl, rfl, by decide +kernel, rfl, by decide +kernel, by decide +kernel⟩
abbrev st__law_goals : Stmt := topS 30
abbrev N__law_goals : List Str := ["_law_hand_here", "_law_many", "_law_stray", "_law_goals_here", "_law_k", "_law_free", "_law_way", "_law_goal", "_law_one"]
theorem sc__law_goals : FnScope N__law_goals ["_law_hand_here", "_law_many", "_law_stray"] (defScope st__law_goals) := ⟨rfl, rfl, rfl, by decide +kernel, rfl, by decide +kernel, by decide +kernel⟩
abbrev st__law_row : Stmt := topS 31
abbrev N__law_row : List Str := ["_law_hand_here", "_law_number", "_law_names_here", "_law_words", "_law_word", "_law_x", "_law_a", "_law_b"]
theorem sc__law_row : FnScope N__law_row ["_law_hand_here", "_law_number", "_law_names_here"] (defScope st__law_row) := ⟨rfl, rfl, rfl, by decide +kernel, rfl, by decide +kernel, by decide +kernel⟩
abbrev st__law_program : Stmt := topS 32
abbrev N__law_program : List Str := ["_law_hand_here", "_law_few", "_law_wide", "_law_size", "_law_many", "_law_most_names", "_law_blocks", "_law_names_here", "_law_first", "_law_step", "_law_by", "_law_goals_here", "_law_found", "_law_count", "_law_k", "_law_rows", "_law_place", "_law_number", "_law_ends", "_law_end", "_law_goal"]
theorem sc__law_program : FnScope N__law_program ["_law_hand_here", "_law_few", "_law_wide", "_law_size"] (defScope st__law_program) := ⟨rfl, rfl, rfl, by decide +kernel, rfl, by decide +kernel, by decide +kernel⟩
abbrev st__law_called : Stmt := topS 33
abbrev N__law_called : List Str := ["_law_hand_here", "_law_some", "_law_fresh", "_law_spot"]
theorem sc__law_called : FnScope N__law_called ["_law_hand_here", "_law_some"] (defScope st__law_called) := ⟨rfl, rfl, rfl, by decide +kernel, rfl, by decide +kernel, by decide +kernel⟩
abbrev st_said_in : Stmt := topS 24
abbrev N_said_in : List Str := ["program", "trace", "saying", "name", "rows", "end", "row", "place", "asked", "given"]
theorem sc_said_in : FnScope N_said_in ["program", "trace"] (defScope st_said_in) := ⟨rfl, rfl, rfl, by decide +kernel, rfl, by decide +kernel, by decide +kernel⟩
abbrev st__law_trace_called : Stmt := topS 36
abbrev N__law_trace_called : List Str := ["_law_trace", "_law_blocks", "_law_numbers", "_law_found", "_law_place", "_law_asked", "_law_given"]
theorem sc__law_trace_called : FnScope N__law_trace_called ["_law_trace", "_law_blocks", "_law_numbers"] (defScope st__law_trace_called) := ⟨rfl, rfl, rfl, by decide +kernel, rfl, by decide +kernel, by decide +kernel⟩
abbrev st__law_ending_called : Stmt := topS 37
abbrev N__law_ending_called : List Str := ["_law_ending", "_law_names_here", "_law_numbers"]
theorem sc__law_ending_called : FnScope N__law_ending_called ["_law_ending", "_law_names_here", "_law_numbers"] (defScope st__law_ending_called) := ⟨rfl, rfl, rfl, by decide +kernel, rfl, by decide +kernel, by decide +kernel⟩
abbrev st_law : Stmt := topS 38
abbrev N_law : List Str := ["_law_script", "_law_k", "_law_hand_here", "_law_whole", "_law_fed", "_law_blocks", "_law_names_here", "_law_numbers", "_law_called_here", "_law_spoken", "_law_first", "_law_pace", "_law_counted", "_law_other", "_law_at", "_law_more", "_law_trace", "_law_ending", "_law_found", "_law_beyond", "_law_last", "_law_some", "_law_fewer", "_law_j", "_law_number"]
theorem sc_law : FnScope N_law ["_law_script"] (defScope st_law) := ⟨rfl, rfl, rfl, by decide +kernel, rfl, by decide +kernel, by decide +kernel⟩
def tab_END_PARTS : List (Str × U) := [("go", (.str "b")), ("if", (.str "abb")), ("stop", (.str ""))]
def tab_RECKONINGS : List (Str × U) := [("plus", (.fn "sum_of")), ("less", (.fn "left_of")), ("times", (.fn "product_of")), ("part", (.fn "part_of")), ("same", (.fn "same_told")), ("below", (.fn "below_told"))]
def tab_ROW_PARTS : List (Str × U) := [("put", (.str "gn")), ("copy", (.str "ga")), ("plus", (.str "gaa")), ("less", (.str "gaa")), ("times", (.str "gaa")), ("part", (.str "gaa")), ("same", (.str "gaa")), ("below", (.str "gaa")), ("ask", (.str "g")), ("say", (.str "a"))]
noncomputable def c__law_hand : Sm := (sSeq (sAsg (cBin (addU false) (cBin (o2I mulI) (cCst (.int 3)) (cVar 1)) (cArg (on1 lenU) (cCons (cVar 0) cNil))) (gmName 2))
  (sSeq (sIf (cTru (cBin oLt (cVar 1) (cArg (on1 lenU) (cCons (cVar 0) cNil))))
  (sAsg (cBin ixU (cVar 0) (cVar 1)) (gmName 2))
  sNil)
  (sSeq (sAsg (cBin (o2I mulI) (cBin (o2I modI) (cArg (on1 absU) (cCons (cVar 2) cNil)) (cBin (o2I powJ) (cBin (o2I powI) (cCst (.int 10)) (cCst (.int 60))) (cCst (.int 5)))) (cArg (on1 intU) (cCons (cBin oGe (cArg (on1 absU) (cCons (cVar 2) cNil)) (cBin (o2I powI) (cCst (.int 10)) (cCst (.int 18)))) cNil))) (gmName 3))
  (sRet (cArg oLstM (cCons (cVar 3) (cCons (cBin (o2I modI) (cBin (o2I mulI) (cBin (addU false) (cBin (addU false) (cBin (o2I modI) (cVar 2) (cCst (.int 2305843009213693951))) (cBin (o2I mulI) (cBin (o2I mulI) (cCst (.int 7919)) (cVar 1)) (cVar 1))) (cCst (.int 11))) (cCst (.int 48271))) (cCst (.int 2305843009213693951))) cNil)))))))
noncomputable def F__law_hand : OpN := runF c__law_hand 2 4
noncomputable def c__law_parts_of : Sm := (sSeq (sPar3 1 2 3 (cCons (cLc (itSeq (cVar 0)) (.nm 4) cYes (cBin ixU (cVar 4) (cCst (.int 0))) [4]) (cCons cDNew (cCons (cArg oLstM cNil) cNil))))
  (sSeq (sFor (itSeq (cVar 0)) (.tp [(.nm 4), (.nm 5), (.nm 6)])
  (sSeq (sFor (itSeq (cVar 5)) (.nm 7)
  (sSeq (sExpr (cMt "list" appU (cVar 3) (cCons (cBin ixU (cVar 7) (cCst (.int 0))) cNil)))
  (sExpr (cMt "dict" updU (cVar 2) (cCons (cArg (on1 (dictU false)) (cCons (cLc (itSeq (cSl false (cVar 7) (cPart (cCst (.int 2))) cNoPart)) (.nm 8) (cTru (cIsi "str" (cVar 8))) (cArg oTup (cCons (cVar 8) (cCons (cCst (.bl true)) cNil))) [8]) cNil)) cNil)))))
  (sIf (cTru (cBin (eqU false) (cBin ixU (cVar 6) (cCst (.int 0))) (cCst (.str "if"))))
  (sSetI setD (cVar 2) (cBin ixU (cVar 6) (cCst (.int 1))) (cCst (.bl true)))
  sNil)))
  (sRet (cArg oTup (cCons (cVar 1) (cCons (cArg (on1 (listDU false)) (cCons (cVar 2) cNil)) (cCons (cVar 3) cNil)))))))
noncomputable def F__law_parts_of : OpN := runF c__law_parts_of 1 9
noncomputable def c__law_otherwise : Sm := (sSeq (sAsg (cArg oLstM cNil) (gmName 4))
  (sSeq (sFor (itSeq (cVar 0)) (.tp [(.nm 5), (.nm 6), (.nm 7)])
  (sSeq (sAsg (cArg oLstM cNil) (gmName 8))
  (sSeq (sFor (itSeq (cVar 6)) (.nm 9)
  (sSeq (sAsg (cArg (on1 tupleU) (cCons (cLc (itSeq (cSl false (cVar 9) (cPart (cCst (.int 2))) cNoPart)) (.nm 11) cYes (cIf (cTru (cIsi "str" (cVar 11))) (cBin dixU (cVar 2) (cVar 11)) (cVar 11)) [11]) cNil)) (gmName 10))
  (sExpr (cMt "list" appU (cVar 8) (cCons (cBin (addU false) (cArg oTup (cCons (cBin dixU (cVar 3) (cBin ixU (cVar 9) (cCst (.int 0)))) (cCons (cBin ixU (cVar 9) (cCst (.int 1))) cNil))) (cVar 10)) cNil)))))
  (sSeq (sIf (cTru (cBin (eqU false) (cBin ixU (cVar 7) (cCst (.int 0))) (cCst (.str "if"))))
  (sAsg (cArg oTup (cCons (cCst (.str "if")) (cCons (cBin dixU (cVar 2) (cBin ixU (cVar 7) (cCst (.int 1)))) (cCons (cBin dixU (cVar 1) (cBin ixU (cVar 7) (cCst (.int 2)))) (cCons (cBin dixU (cVar 1) (cBin ixU (cVar 7) (cCst (.int 3)))) cNil))))) (gmName 7))
  (sIf (cTru (cBin (eqU false) (cBin ixU (cVar 7) (cCst (.int 0))) (cCst (.str "go"))))
  (sAsg (cArg oTup (cCons (cCst (.str "go")) (cCons (cBin dixU (cVar 1) (cBin ixU (cVar 7) (cCst (.int 1)))) cNil))) (gmName 7))
  sNil))
  (sExpr (cMt "list" appU (cVar 4) (cCons (cArg oTup (cCons (cBin dixU (cVar 1) (cVar 5)) (cCons (cArg (on1 tupleU) (cCons (cVar 8) cNil)) (cCons (cVar 7) cNil)))) cNil)))))))
  (sRet (cVar 4))))
noncomputable def F__law_otherwise : OpN := runF c__law_otherwise 4 12
noncomputable def c_rest_of : Sm := (sRet (cBin (o2I modI) (cVar 0) (cCst (.int 1000003))))
noncomputable def P_rest_of : Pf := pureF (runF c_rest_of 1 1)
def gu_Story_init___1_steps (us ws : List U) : List U := us ++ ws
noncomputable def c_Story_init__ : Sm := (sSeq (sFldS ["Story"] "trace" (cVar 0) (cArg oLstM cNil))
  (sSeq (sFldS ["Story"] "ending" (cVar 0) (cCst .non))
  (sSeq (sFldS ["Story"] "waiting" (cVar 0) (cLcM (itSeq (cVar 1)) (.nm 3) cYes (cArg (liftP P_rest_of) (cCons (cVar 3) cNil)) [3]))
  (sFldS ["Story"] "steps" (cVar 0) (cVar 2)))))
noncomputable def F_Story_init__ : OpN := runF c_Story_init__ 3 4
noncomputable def c_Story_pair : Sm := (sRet (cArg oTup (cCons (cArg (on1 tupleU) (cCons (cFld ["Story"] "trace" (cVar 0)) cNil)) (cCons (cFld ["Story"] "ending" (cVar 0)) cNil))))
noncomputable def F_Story_pair : OpN := runF c_Story_pair 1 1
noncomputable def c_Story_may_go : Sm := (sSeq (sIf (cAndT (cTru (cBin (isN false) (cFld ["Story"] "ending" (cVar 0)) (cCst .non))) (cTru (cBin oGe (cArg (on1 lenU) (cCons (cFld ["Story"] "trace" (cVar 0)) cNil)) (cFld ["Story"] "steps" (cVar 0)))))
  (sFldS ["Story"] "ending" (cVar 0) (cArg oTup (cCons (cCst (.str "dry")) cNil)))
  sNil)
  (sRet (cBin (isN false) (cFld ["Story"] "ending" (cVar 0)) (cCst .non))))
noncomputable def F_Story_may_go : OpN := runF c_Story_may_go 1 1
noncomputable def c_Story_are_told : Sm := (sSeq (sFor (itZip (cCons (cVar 1) (cCons (cVar 2) cNil))) (.tp [(.nm 3), (.nm 4)])
  (sIf (cTru (cBin (isN false) (cVar 4) (cCst .non)))
  (sSeq (sFldS ["Story"] "ending" (cVar 0) (cArg oTup (cCons (cCst (.str "untold")) (cCons (cVar 3) cNil))))
  (sRet (cCst (.bl false))))
  sNil))
  (sRet (cCst (.bl true))))
noncomputable def F_Story_are_told : OpN := runF c_Story_are_told 3 5
noncomputable def c_asked_by : Sm := (sSeq (sIf (cTru (cIsi "str" (cBin ixU (cVar 0) (cCst (.int 0)))))
  (sPar2 1 2 (cCons (cTab tab_END_PARTS (cBin ixU (cVar 0) (cCst (.int 0)))) (cCons (cSl false (cVar 0) (cPart (cCst (.int 1))) cNoPart) cNil)))
  (sPar2 1 2 (cCons (cTab tab_ROW_PARTS (cBin ixU (cVar 0) (cCst (.int 1)))) (cCons (cSl false (cVar 0) (cPart (cCst (.int 2))) cNoPart) cNil))))
  (sRet (cArg (on1 tupleU) (cCons (cLc (itZip (cCons (cVar 1) (cCons (cVar 2) cNil))) (.tp [(.nm 3), (.nm 4)]) (cTru (cBin (eqU false) (cVar 3) (cCst (.str "a")))) (cVar 4) [3, 4]) cNil))))
noncomputable def P_asked_by : Pf := pureF (runF c_asked_by 1 5)
noncomputable def c_Story_end_done : Sm := (sSeq (sIf (cNotT (cTru (cMeth "Story" "are_told" F_Story_are_told (cVar 0) (cCons (cArg (liftP P_asked_by) (cCons (cVar 2) cNil)) (cCons (cVar 3) cNil)))))
  (sRet (cCst .non))
  sNil)
  (sSeq (sExpr (cMt "list" appU (cFld ["Story"] "trace" (cVar 0)) (cCons (cArg oTup (cCons (cVar 1) (cCons (cArg (on1 tupleU) (cCons (cVar 3) cNil)) (cCons (cCst .non) cNil)))) cNil)))
  (sSeq (sAsg (cVar 2) (gmStar false 1 2 [(.nm 4), (.nm 5)]))
  (sSeq (sIf (cTru (cBin (eqU false) (cVar 4) (cCst (.str "stop"))))
  (sSeq (sFldS ["Story"] "ending" (cVar 0) (cArg oTup (cCons (cCst (.str "stop")) cNil)))
  (sRet (cCst .non)))
  sNil)
  (sSeq (sIf (cTru (cBin (eqU false) (cVar 4) (cCst (.str "go"))))
  (sRet (cBin ixU (cVar 5) (cCst (.int 0))))
  sNil)
  (sRet (cIf (cTru (cBin (eqU true) (cBin ixU (cVar 3) (cCst (.int 0))) (cCst (.int 0)))) (cBin ixU (cVar 5) (cCst (.int 1))) (cBin ixU (cVar 5) (cCst (.int 2))))))))))
noncomputable def F_Story_end_done : OpN := runF c_Story_end_done 4 6
noncomputable def c_Story_why_not : Sm := (sSeq (sAsg (cVar 1) (gmStar false 2 3 [(.nm 3), (.nm 4), (.nm 5)]))
  (sSeq (sIf (cAndT (cTru (cBin (eqU false) (cVar 4) (cCst (.str "part")))) (cTru (cBin (eqU false) (cBin ixU (cVar 2) (cCst (.int 1))) (cCst (.int 0)))))
  (sRet (cArg oTup (cCons (cCst (.str "nought")) (cCons (cVar 3) cNil))))
  sNil)
  (sSeq (sIf (cAndT (cTru (cBin (eqU false) (cVar 4) (cCst (.str "ask")))) (cTru (cBin (eqU false) (cFld ["Story"] "waiting" (cVar 0)) (cArg oLst cNil))))
  (sRet (cArg oTup (cCons (cCst (.str "bare")) (cCons (cVar 3) cNil))))
  sNil)
  (sRet (cCst .non)))))
noncomputable def F_Story_why_not : OpN := runF c_Story_why_not 3 6
noncomputable def c_sum_of : Sm := (sRet (cArg (liftP P_rest_of) (cCons (cBin (addU false) (cVar 0) (cVar 1)) cNil)))
noncomputable def P_sum_of : Pf := pureF (runF c_sum_of 2 2)
noncomputable def c_left_of : Sm := (sRet (cArg (liftP P_rest_of) (cCons (cBin oSub (cVar 0) (cVar 1)) cNil)))
noncomputable def P_left_of : Pf := pureF (runF c_left_of 2 2)
noncomputable def c_product_of : Sm := (sRet (cArg (liftP P_rest_of) (cCons (cBin (o2I mulI) (cVar 0) (cVar 1)) cNil)))
noncomputable def P_product_of : Pf := pureF (runF c_product_of 2 2)
noncomputable def c_part_of : Sm := (sRet (cBin (o2I divI) (cVar 0) (cVar 1)))
noncomputable def P_part_of : Pf := pureF (runF c_part_of 2 2)
noncomputable def c_same_told : Sm := (sRet (cArg (on1 intU) (cCons (cBin (eqU false) (cVar 0) (cVar 1)) cNil)))
noncomputable def P_same_told : Pf := pureF (runF c_same_told 2 2)
noncomputable def c_below_told : Sm := (sRet (cArg (on1 intU) (cCons (cBin oLt (cVar 0) (cVar 1)) cNil)))
noncomputable def P_below_told : Pf := pureF (runF c_below_told 2 2)
noncomputable def fns_RECKONINGS (n : Str) : Option OpN := if n = "sum_of" then some (liftP P_sum_of) else if n = "left_of" then some (liftP P_left_of) else if n = "product_of" then some (liftP P_product_of) else if n = "part_of" then some (liftP P_part_of) else if n = "same_told" then some (liftP P_same_told) else if n = "below_told" then some (liftP P_below_told) else none
noncomputable def c_reckoned : Sm := (sSeq (sAsg (cVar 1) (gmStar false 1 2 [(.nm 2), (.nm 3)]))
  (sSeq (sIf (cTru (cBin (eqU false) (cVar 0) (cCst (.str "copy"))))
  (sRet (cVar 2))
  sNil)
  (sRet (cTabCall fns_RECKONINGS (cTab tab_RECKONINGS (cVar 0)) (cCons (cVar 2) (cCons (cBin ixU (cVar 3) (cCst (.int 0))) cNil))))))
noncomputable def P_reckoned : Pf := pureF (runF c_reckoned 2 4)
noncomputable def c_Story_worth_given : Sm := (sSeq (sAsg (cBin ixU (cVar 1) (cCst (.int 1))) (gmName 3))
  (sSeq (sIf (cTru (cBin (eqU false) (cVar 3) (cCst (.str "put"))))
  (sRet (cBin ixU (cVar 1) (cCst (.int 3))))
  sNil)
  (sSeq (sIf (cTru (cBin (eqU false) (cVar 3) (cCst (.str "ask"))))
  (sRet (cMt "list" popAtU (cFld ["Story"] "waiting" (cVar 0)) (cCons (cCst (.int 0)) cNil)))
  sNil)
  (sRet (cIf (cTru (cBin (eqU false) (cVar 3) (cCst (.str "say")))) (cCst .non) (cArg (liftP P_reckoned) (cCons (cVar 3) (cCons (cVar 2) cNil))))))))
noncomputable def F_Story_worth_given : OpN := runF c_Story_worth_given 3 4
noncomputable def c_Story_row_done : Sm := (sSeq (sIf (cNotT (cTru (cMeth "Story" "are_told" F_Story_are_told (cVar 0) (cCons (cArg (liftP P_asked_by) (cCons (cVar 1) cNil)) (cCons (cVar 2) cNil)))))
  (sRet (cCst .non))
  sNil)
  (sSeq (sFldS ["Story"] "ending" (cVar 0) (cMeth "Story" "why_not" F_Story_why_not (cVar 0) (cCons (cVar 1) (cCons (cVar 2) cNil))))
  (sSeq (sIf (cTru (cBin (isN true) (cFld ["Story"] "ending" (cVar 0)) (cCst .non)))
  (sRet (cCst .non))
  sNil)
  (sSeq (sAsg (cMeth "Story" "worth_given" F_Story_worth_given (cVar 0) (cCons (cVar 1) (cCons (cVar 2) cNil))) (gmName 3))
  (sSeq (sExpr (cMt "list" appU (cFld ["Story"] "trace" (cVar 0)) (cCons (cArg oTup (cCons (cBin ixU (cVar 1) (cCst (.int 0))) (cCons (cArg (on1 tupleU) (cCons (cVar 2) cNil)) (cCons (cVar 3) cNil)))) cNil)))
  (sRet (cVar 3)))))))
noncomputable def F_Story_row_done : OpN := runF c_Story_row_done 3 4
noncomputable def c_given_by : Sm := (sRet (cIf (cTru (cMt "str" startU (cTab tab_ROW_PARTS (cBin ixU (cVar 0) (cCst (.int 1)))) (cCons (cCst (.str "g")) cNil))) (cBin ixU (cVar 0) (cCst (.int 2))) (cCst .non)))
noncomputable def P_given_by : Pf := pureF (runF c_given_by 1 1)
noncomputable def c_held_worths : Sm := (sRet (cLc (itSeq (cArg (liftP P_asked_by) (cCons (cVar 1) cNil))) (.nm 2) cYes (cDGet (cVar 0) (cVar 2) (cCst .non)) [2]))
noncomputable def F_held_worths : OpN := runF c_held_worths 2 3
noncomputable def c_block_done : Sm := (sSeq (sAsg (cVar 2) (gmPat (.tp [(.nm 3), (.nm 4), (.nm 5)])))
  (sSeq (sFor (itSeq (cVar 4)) (.nm 6)
  (sSeq (sIf (cNotT (cTru (cMeth "Story" "may_go" F_Story_may_go (cVar 0) cNil)))
  (sRet (cCst .non))
  sNil)
  (sSeq (sPar2 7 8 (cCons (cMeth "Story" "row_done" F_Story_row_done (cVar 0) (cCons (cVar 6) (cCons (cArg F_held_worths (cCons (cVar 1) (cCons (cVar 6) cNil))) cNil))) (cCons (cArg (liftP P_given_by) (cCons (cVar 6) cNil)) cNil)))
  (sSeq (sIf (cTru (cBin (isN true) (cFld ["Story"] "ending" (cVar 0)) (cCst .non)))
  (sRet (cCst .non))
  sNil)
  (sIf (cTru (cBin (isN true) (cVar 8) (cCst .non)))
  (sSetI setD (cVar 1) (cVar 8) (cVar 7))
  sNil)))))
  (sRet (cIf (cTru (cMeth "Story" "may_go" F_Story_may_go (cVar 0) cNil)) (cMeth "Story" "end_done" F_Story_end_done (cVar 0) (cCons (cVar 3) (cCons (cVar 5) (cCons (cArg F_held_worths (cCons (cVar 1) (cCons (cVar 5) cNil))) cNil)))) (cCst .non)))))
noncomputable def F_block_done : OpN := runF c_block_done 3 9
noncomputable def c_block_of : Sm := (sRet (cBin ixU (cLc (itSeq (cVar 0)) (.nm 2) (cTru (cBin (eqU false) (cBin ixU (cVar 2) (cCst (.int 0))) (cVar 1))) (cVar 2) [2]) (cCst (.int 0))))
noncomputable def P_block_of : Pf := pureF (runF c_block_of 2 3)
def gu_run_plain_2_steps (us ws : List U) : List U := us ++ ws
def dus_run_plain_2 : List U := [(.int 200)]
noncomputable def c_run_plain : Sm := (sSeq (sAsg (cArg2 (fun us ws S => if us.length = 1 ∧ ws.length = (["steps"] : List Str).length then (oMake "Story" F_Story_init__) (gu_Story_init___1_steps us ws) S else none) (cCons (cVar 1) cNil) (cCons (cVar 2) cNil)) (gmName 3))
  (sSeq (sAsg cDNew (gmName 4))
  (sSeq (sAsg (cBin ixU (cBin ixU (cVar 0) (cCst (.int 0))) (cCst (.int 0))) (gmName 5))
  (sSeq (loopW (cTru (cBin (isN true) (cVar 5) (cCst .non))) (sAsg (cArg F_block_done (cCons (cVar 3) (cCons (cVar 4) (cCons (cArg (liftP P_block_of) (cCons (cVar 0) (cCons (cVar 5) cNil))) cNil)))) (gmName 5)) 100000)
  (sRet (cMeth "Story" "pair" F_Story_pair (cVar 3) cNil))))))
noncomputable def P_run_plain : Pf := pureF (runF c_run_plain 3 6)
noncomputable def c__law_take : Sm := (sSeq (sIf (cTru (cBin oGt (cBin ixU (cVar 0) (cCst (.int 0))) (cCst (.int 0))))
  (sSeq (sAsg (cBin (o2I modI) (cBin ixU (cVar 0) (cCst (.int 0))) (cVar 1)) (gmName 2))
  (sSeq (sSetI setL (cVar 0) (cCst (.int 0)) (cBin (o2I divI) (cBin ixU (cVar 0) (cCst (.int 0))) (cVar 1)))
  (sRet (cVar 2))))
  sNil)
  (sSeq (sSetI setL (cVar 0) (cCst (.int 1)) (cBin (o2I modI) (cBin (addU false) (cBin (o2I mulI) (cBin ixU (cVar 0) (cCst (.int 1))) (cCst (.int 1181783497276652981))) (cCst (.int 12345678910987))) (cCst (.int 2305843009213693951))))
  (sRet (cBin (o2I modI) (cBin (o2I divI) (cBin (o2I modI) (cBin (o2I mulI) (cBin (o2I divI) (cBin ixU (cVar 0) (cCst (.int 1))) (cCst (.int 65537))) (cBin (addU false) (cBin (o2I modI) (cBin ixU (cVar 0) (cCst (.int 1))) (cCst (.int 65537))) (cCst (.int 3)))) (cCst (.int 2305843009213693921))) (cCst (.int 97))) (cVar 1)))))
noncomputable def F__law_take : OpN := runF c__law_take 2 3
noncomputable def c__law_pick : Sm := (sRet (cBin ixU (cVar 1) (cArg F__law_take (cCons (cVar 0) (cCons (cArg (on1 lenU) (cCons (cVar 1) cNil)) cNil)))))
noncomputable def F__law_pick : OpN := runF c__law_pick 2 2
noncomputable def c__law_names : Sm := (sSeq (sAsg (cArg oTup (cCons (cCst (.str "abcdefghijklmnopqrstuvwxyz")) (cCons (cArg F__law_take (cCons (cVar 0) (cCons (cCst (.int 26)) cNil))) cNil))) (gmPat (.tp [(.nm 2), (.nm 3)])))
  (sSeq (sAsg (cArg F__law_pick (cCons (cVar 0) (cCons (cArg oLst (cCons (cCst (.int 1)) (cCons (cCst (.int 3)) (cCons (cCst (.int 5)) (cCons (cCst (.int 7)) (cCons (cCst (.int 9)) (cCons (cCst (.int 11)) (cCons (cCst (.int 25)) cNil)))))))) cNil))) (gmName 4))
  (sSeq (sAsg (cMt "str" joinU (cCst (.str "")) (cCons (cLc (itR1 (cCons (cArg F__law_pick (cCons (cVar 0) (cCons (cArg oLst (cCons (cCst (.int 0)) (cCons (cCst (.int 0)) (cCons (cCst (.int 0)) (cCons (cCst (.int 1)) (cCons (cCst (.int 2)) (cCons (cCst (.int 7)) cNil))))))) cNil))) cNil)) (.nm 8) cYes (cArg F__law_pick (cCons (cVar 0) (cCons (cVar 2) cNil))) [8]) cNil)) (gmName 5))
  (sSeq (sAsg (cArg F__law_take (cCons (cVar 0) (cCons (cBin (addU false) (cArg (on1 lenU) (cCons (cVar 5) cNil)) (cCst (.int 1))) cNil))) (gmName 6))
  (sSeq (sAsg (cArg oLstM cNil) (gmName 7))
  (sSeq (sFor (itR1 (cCons (cVar 1) cNil)) (.nm 8)
  (sSeq (sAsg (cBin ixU (cVar 2) (cBin (o2I modI) (cBin (addU false) (cVar 3) (cBin (o2I mulI) (cVar 4) (cVar 8))) (cCst (.int 26)))) (gmName 9))
  (sExpr (cMt "list" appU (cVar 7) (cCons (cBin (addU false) (cBin (addU false) (cSl false (cVar 5) cNoPart (cPart (cVar 6))) (cVar 9)) (cSl false (cVar 5) (cPart (cVar 6)) cNoPart)) cNil)))))
  (sSeq (sIf (cTru (cBin (eqU false) (cArg F__law_take (cCons (cVar 0) (cCons (cCst (.int 6)) cNil))) (cCst (.int 0))))
  (sSeq (sAsg (cArg oLst (cCons (cCst (.str "go")) (cCons (cCst (.str "if")) (cCons (cCst (.str "stop")) (cCons (cCst (.str "put")) (cCons (cCst (.str "say")) (cCons (cCst (.str "spare")) (cCons (cCst (.str "ask")) (cCons (cCst (.str "copy")) cNil))))))))) (gmName 10))
  (sAsg (cSl true (cBin (addU false) (cLc (itSeq (cVar 10)) (.nm 11) (cTru (cBin (inU true) (cVar 11) (cVar 7))) (cVar 11) [11]) (cVar 7)) cNoPart (cPart (cVar 1))) (gmName 7)))
  sNil)
  (sRet (cVar 7)))))))))
noncomputable def F__law_names : OpN := runF c__law_names 2 12
noncomputable def c__law_goals : Sm := (sSeq (sAsg (cLc (itR1 (cCons (cVar 1) cNil)) (.nm 4) cYes (cArg oLstM cNil) [4]) (gmName 3))
  (sSeq (sFor (itR2 (cCons (cCst (.int 1)) (cCons (cVar 1) cNil))) (.nm 4)
  (sSeq (sAsg (cLc (itR1 (cCons (cVar 4) cNil)) (.nm 8) (cTru (cBin oLt (cArg (on1 lenU) (cCons (cBin ixU (cVar 3) (cVar 8)) cNil)) (cCst (.int 2)))) (cVar 8) [8]) (gmName 5))
  (sIf (cOrT (cTru (cBin oGt (cArg F__law_take (cCons (cVar 0) (cCons (cCst (.int 8)) cNil))) (cCst (.int 0)))) (cNotT (cTru (cVar 2))))
  (sExpr (cMt "list" appU (cBin ixU (cVar 3) (cArg F__law_pick (cCons (cVar 0) (cCons (cBin (addU false) (cSl false (cVar 5) (cPart (cUn oNeg (cCst (.int 3)))) cNoPart) (cVar 5)) cNil)))) (cCons (cVar 4) cNil)))
  sNil)))
  (sSeq (sFor (itSeq (cBin (repU false) (cLrg true (cVar 1)) (cCst (.int 2)))) (.nm 4)
  (sSeq (sAsg (cArg F__law_take (cCons (cVar 0) (cCons (cCst (.int 5)) cNil))) (gmName 6))
  (sSeq (sAsg (cBin ixU (cArg oLst (cCons (cArg F__law_take (cCons (cVar 0) (cCons (cVar 1) cNil))) (cCons (cCst (.int 0)) (cCons (cVar 4) (cCons (cArg F__law_take (cCons (cVar 0) (cCons (cVar 1) cNil))) (cCons (cArg F__law_take (cCons (cVar 0) (cCons (cBin (addU false) (cVar 4) (cCst (.int 1))) cNil))) cNil)))))) (cVar 6)) (gmName 7))
  (sIf (cAndT (cTru (cBin oLt (cArg (on1 lenU) (cCons (cBin ixU (cVar 3) (cVar 4)) cNil)) (cCst (.int 2)))) (cAndT (cTru (cBin (inU true) (cVar 7) (cBin ixU (cVar 3) (cVar 4)))) (cTru (cBin oGt (cArg F__law_take (cCons (cVar 0) (cCons (cCst (.int 3)) cNil))) (cCst (.int 0))))))
  (sExpr (cMt "list" insU (cBin ixU (cVar 3) (cVar 4)) (cCons (cArg F__law_take (cCons (cVar 0) (cCons (cBin (addU false) (cArg (on1 lenU) (cCons (cBin ixU (cVar 3) (cVar 4)) cNil)) (cCst (.int 1))) cNil))) (cCons (cVar 7) cNil))))
  sNil))))
  (sRet (cVar 3)))))
noncomputable def F__law_goals : OpN := runF c__law_goals 3 9
noncomputable def c__law_row : Sm := (sSeq (sAsg (cArg oLst (cCons (cCst (.str "put")) (cCons (cCst (.str "plus")) (cCons (cCst (.str "copy")) (cCons (cCst (.str "say")) (cCons (cCst (.str "less")) (cCons (cCst (.str "times")) (cCons (cCst (.str "part")) (cCons (cCst (.str "same")) (cCons (cCst (.str "below")) (cCons (cCst (.str "ask")) cNil))))))))))) (gmName 3))
  (sSeq (sAsg (cArg F__law_pick (cCons (cVar 0) (cCons (cBin (addU false) (cVar 3) (cArg oLst (cCons (cCst (.str "put")) (cCons (cCst (.str "copy")) cNil)))) cNil))) (gmName 4))
  (sSeq (sPar3 5 6 7 (cCons (cArg F__law_pick (cCons (cVar 0) (cCons (cVar 2) cNil))) (cCons (cArg F__law_pick (cCons (cVar 0) (cCons (cVar 2) cNil))) (cCons (cArg F__law_pick (cCons (cVar 0) (cCons (cVar 2) cNil))) cNil))))
  (sSeq (sIf (cTru (cBin (eqU false) (cVar 4) (cCst (.str "put"))))
  (sRet (cArg oTup (cCons (cVar 1) (cCons (cVar 4) (cCons (cVar 5) (cCons (cArg F__law_pick (cCons (cVar 0) (cCons (cArg oLst (cCons (cCst (.int 0)) (cCons (cCst (.int 1)) (cCons (cCst (.int 2)) (cCons (cCst (.int 3)) (cCons (cCst (.int 1000002)) (cCons (cArg F__law_take (cCons (cVar 0) (cCons (cCst (.int 1000003)) cNil))) cNil))))))) cNil))) cNil))))))
  sNil)
  (sSeq (sIf (cTru (cBin (inU false) (cVar 4) (cArg oTup (cCons (cCst (.str "ask")) (cCons (cCst (.str "say")) cNil)))))
  (sRet (cArg oTup (cCons (cVar 1) (cCons (cVar 4) (cCons (cVar 5) cNil)))))
  sNil)
  (sRet (cIf (cTru (cBin (eqU false) (cVar 4) (cCst (.str "copy")))) (cArg oTup (cCons (cVar 1) (cCons (cVar 4) (cCons (cVar 5) (cCons (cVar 6) cNil))))) (cArg oTup (cCons (cVar 1) (cCons (cVar 4) (cCons (cVar 5) (cCons (cVar 6) (cCons (cVar 7) cNil)))))))))))))
noncomputable def F__law_row : OpN := runF c__law_row 3 8
noncomputable def c__law_program : Sm := (sSeq (sAsg (cBin (addU false) (cCst (.int 1)) (cArg F__law_take (cCons (cVar 0) (cCons (cVar 1) cNil)))) (gmName 4))
  (sSeq (sIf (cTru (cBin (eqU false) (cArg F__law_take (cCons (cVar 0) (cCons (cCst (.int 8)) cNil))) (cCst (.int 7))))
  (sAsg (cBin (addU false) (cCst (.int 1)) (cArg F__law_take (cCons (cVar 0) (cCons (cVar 2) cNil)))) (gmName 4))
  sNil)
  (sSeq (sAsg (cIf (cAndT (cTru (cBin oLt (cVar 4) (cCst (.int 8)))) (cTru (cBin (eqU false) (cArg F__law_take (cCons (cVar 0) (cCons (cCst (.int 4)) cNil))) (cCst (.int 0))))) (cCst (.int 12)) (cCst (.int 5))) (gmName 5))
  (sSeq (sAsg (cArg oTup (cCons (cArg F__law_names (cCons (cVar 0) (cCons (cVar 4) cNil))) (cCons (cArg F__law_names (cCons (cVar 0) (cCons (cBin (addU false) (cCst (.int 1)) (cArg F__law_take (cCons (cVar 0) (cCons (cVar 5) cNil)))) cNil))) cNil))) (gmPat (.tp [(.nm 6), (.nm 7)])))
  (sSeq (sPar3 8 9 10 (cCons (cArg F__law_take (cCons (cVar 0) (cCons (cCst (.int 9999)) cNil))) (cCons (cArg F__law_pick (cCons (cVar 0) (cCons (cArg oLst (cCons (cCst (.int 1)) (cCons (cCst (.int 2)) (cCons (cCst (.int 7)) (cCons (cCst (.int 10)) (cCons (cCst (.int 9998)) cNil)))))) cNil))) (cCons (cArg F__law_pick (cCons (cVar 0) (cCons (cArg oLst (cCons (cCst (.int 1)) (cCons (cCst (.int 1)) (cCons (cCst (.int 37)) (cCons (cCst (.int 64)) cNil))))) cNil))) cNil))))
  (sSeq (sPar3 11 12 13 (cCons (cArg F__law_goals (cCons (cVar 0) (cCons (cVar 4) (cCons (cBin (eqU false) (cArg F__law_take (cCons (cVar 0) (cCons (cCst (.int 3)) cNil))) (cCst (.int 0))) cNil)))) (cCons (cArg oLstM cNil) (cCons (cCst (.int 0)) cNil))))
  (sSeq (sFor (itR1 (cCons (cVar 4) cNil)) (.nm 14)
  (sSeq (sAsg (cArg oLstM cNil) (gmName 15))
  (sSeq (sFor (itR1 (cCons (cArg (on2 minU) (cCons (cArg F__law_take (cCons (cVar 0) (cCons (cBin (addU false) (cVar 3) (cCst (.int 1))) cNil))) (cCons (cBin oSub (cCst (.int 100)) (cVar 13)) cNil))) cNil)) (.nm 16)
  (sSeq (sAsg (cBin (addU false) (cCst (.int 1)) (cBin (o2I modI) (cBin (addU false) (cVar 8) (cBin (o2I mulI) (cVar 9) (cBin (o2I modI) (cBin (o2I mulI) (cVar 13) (cVar 10)) (cCst (.int 101))))) (cCst (.int 9999)))) (gmName 17))
  (sSeq (sExpr (cMt "list" appU (cVar 15) (cCons (cArg F__law_row (cCons (cVar 0) (cCons (cVar 17) (cCons (cVar 7) cNil)))) cNil)))
  (sAsg (cBin (addU false) (cVar 13) (cCst (.int 1))) (gmName 13)))))
  (sSeq (sAsg (cArg (on1 tupleU) (cCons (cLcG (itAny (cBin ixU (cVar 11) (cVar 14))) (.nm 20) cYes (cBin ixU (cVar 6) (cVar 20)) [20]) cNil)) (gmName 18))
  (sSeq (sAsg (cBin ixU (cArg oLst (cCons (cArg oTup (cCons (cCst (.str "stop")) cNil)) (cCons (cBin (addU false) (cArg oTup (cCons (cCst (.str "go")) cNil)) (cVar 18)) (cCons (cBin (addU false) (cArg oTup (cCons (cCst (.str "if")) (cCons (cArg F__law_pick (cCons (cVar 0) (cCons (cVar 7) cNil))) cNil))) (cVar 18)) cNil)))) (cArg (on1 lenU) (cCons (cVar 18) cNil))) (gmName 19))
  (sExpr (cMt "list" appU (cVar 12) (cCons (cArg oTup (cCons (cBin ixU (cVar 6) (cVar 14)) (cCons (cArg (on1 tupleU) (cCons (cVar 15) cNil)) (cCons (cVar 19) cNil)))) cNil))))))))
  (sSeq (sIf (cTru (cBin (eqU false) (cArg F__law_take (cCons (cVar 0) (cCons (cCst (.int 3)) cNil))) (cCst (.int 0))))
  (sAsg (cBin (addU true) (cSl false (cVar 12) cNoPart (cPart (cCst (.int 1)))) (cUn (revU false) (cSl false (cVar 12) (cPart (cCst (.int 1))) cNoPart))) (gmName 12))
  sNil)
  (sRet (cArg (on1 tupleU) (cCons (cVar 12) cNil)))))))))))
noncomputable def F__law_program : OpN := runF c__law_program 4 21
noncomputable def c__law_called : Sm := (sSeq (sAsg (cArg F__law_names (cCons (cVar 0) (cCons (cBin (addU false) (cArg (on1 lenU) (cCons (cVar 1) cNil)) (cCst (.int 3))) cNil))) (gmName 2))
  (sSeq (sAsg (cArg F__law_take (cCons (cVar 0) (cCons (cCst (.int 4)) cNil))) (gmName 3))
  (sRet (cDZ false (cCons (cVar 1) (cCons (cBin (addU false) (cSl false (cVar 2) (cPart (cVar 3)) cNoPart) (cSl false (cVar 2) cNoPart (cPart (cVar 3)))) cNil))))))
noncomputable def F__law_called : OpN := runF c__law_called 2 4
noncomputable def c_said_in : Sm := (sSeq (sAsg (cDcN false ⟨(itAny (cVar 0)), (.tp [(.nm 3), (.nm 4), (.nm 5)]), cYes, [3, 4, 5, 6]⟩ (clauseA ⟨(itAny (cVar 4)), (.nm 6), (cTru (cBin (eqU false) (cBin ixU (cVar 6) (cCst (.int 1))) (cCst (.str "say")))), [6]⟩ (outD (cBin ixU (cVar 6) (cCst (.int 0))) (cCst (.bl true))))) (gmName 2))
  (sRet (cArg (on1 tupleU) (cCons (cLc (itSeq (cVar 1)) (.tp [(.nm 7), (.nm 8), (.nm 9)]) (cTru (cBin (inU false) (cVar 7) (cVar 2))) (cBin ixU (cVar 8) (cCst (.int 0))) [7, 8, 9]) cNil))))
noncomputable def P_said_in : Pf := pureF (runF c_said_in 2 10)
noncomputable def c__law_trace_called : Sm := (sSeq (sAsg (cArg oLstM cNil) (gmName 3))
  (sSeq (sFor (itSeq (cVar 0)) (.tp [(.nm 4), (.nm 5), (.nm 6)])
  (sExpr (cMt "list" appU (cVar 3) (cCons (cArg oTup (cCons (cIf (cTru (cIsi "str" (cVar 4))) (cBin dixU (cVar 1) (cVar 4)) (cBin dixU (cVar 2) (cVar 4))) (cCons (cVar 5) (cCons (cVar 6) cNil)))) cNil))))
  (sRet (cArg (on1 tupleU) (cCons (cVar 3) cNil)))))
noncomputable def P__law_trace_called : Pf := pureF (runF c__law_trace_called 3 7)
noncomputable def c__law_ending_called : Sm := (sSeq (sIf (cTru (cBin (eqU false) (cBin ixU (cVar 0) (cCst (.int 0))) (cCst (.str "untold"))))
  (sRet (cArg oTup (cCons (cCst (.str "untold")) (cCons (cBin dixU (cVar 1) (cBin ixU (cVar 0) (cCst (.int 1)))) cNil))))
  sNil)
  (sRet (cIf (cTru (cBin oGt (cArg (on1 lenU) (cCons (cVar 0) cNil)) (cCst (.int 1)))) (cArg oTup (cCons (cBin ixU (cVar 0) (cCst (.int 0))) (cCons (cBin dixU (cVar 2) (cBin ixU (cVar 0) (cCst (.int 1)))) cNil))) (cVar 0))))
noncomputable def P__law_ending_called : Pf := pureF (runF c__law_ending_called 3 3)
noncomputable def c_law : Sm := (sSeq (sFor (itR1 (cCons (cArg (on2 maxU) (cCons (cCst (.int 1)) (cCons (cArg (on2 minU) (cCons (cArg (on1 lenU) (cCons (cVar 0) cNil)) (cCons (cCst (.int 2)) cNil))) cNil))) cNil)) (.nm 1)
  (sSeq (sAsg (cArg F__law_hand (cCons (cVar 0) (cCons (cVar 1) cNil))) (gmName 2))
  (sSeq (sPar2 3 4 (cCons (cArg F__law_program (cCons (cVar 2) (cCons (cCst (.int 7)) (cCons (cCst (.int 20)) (cCons (cCst (.int 5)) cNil))))) (cCons (cLc (itR1 (cCons (cArg F__law_take (cCons (cVar 2) (cCons (cCst (.int 5)) cNil))) cNil)) (.nm 23) cYes (cBin oSub (cArg F__law_take (cCons (cVar 2) (cCons (cCst (.int 9)) cNil))) (cCst (.int 4))) [23]) cNil)))
  (sSeq (sAsg (cArg F__law_parts_of (cCons (cVar 3) cNil)) (gmPat (.tp [(.nm 5), (.nm 6), (.nm 7)])))
  (sSeq (sPar2 8 9 (cCons (cArg F__law_called (cCons (cVar 2) (cCons (cVar 5) cNil))) (cCons (cArg F__law_called (cCons (cVar 2) (cCons (cVar 6) cNil))) cNil)))
  (sSeq (sAsg (cArg oTup (cCons (cArg F__law_take (cCons (cVar 2) (cCons (cCst (.int 9999)) cNil))) (cCons (cArg F__law_pick (cCons (cVar 2) (cCons (cArg oLst (cCons (cCst (.int 1)) (cCons (cCst (.int 2)) (cCons (cCst (.int 7)) (cCons (cCst (.int 9998)) cNil))))) cNil))) cNil))) (gmPat (.tp [(.nm 10), (.nm 11)])))
  (sSeq (sAsg (cArg (on1 (dictU false)) (cCons (cLcE (cCons (cVar 7) cNil) (.tp [(.nm 23), (.nm 24)]) cYes (cArg oTup (cCons (cVar 24) (cCons (cBin (addU false) (cCst (.int 1)) (cBin (o2I modI) (cBin (addU false) (cVar 10) (cBin (o2I mulI) (cVar 11) (cVar 23))) (cCst (.int 9999)))) cNil))) [23, 24]) cNil)) (gmName 12))
  (sSeq (sAsg (cArg F__law_otherwise (cCons (cVar 3) (cCons (cVar 8) (cCons (cVar 9) (cCons (cVar 12) cNil))))) (gmName 13))
  (sSeq (sAsg (cBin (addU false) (cCst (.int 1)) (cArg F__law_take (cCons (cVar 2) (cCons (cArg (on1 lenU) (cCons (cVar 13) cNil)) cNil)))) (gmName 14))
  (sSeq (sAsg (cBin (addU false) (cBin (addU false) (cBin (addU false) (cSl false (cVar 13) cNoPart (cPart (cCst (.int 1)))) (cSl false (cVar 13) (cPart (cVar 14)) cNoPart)) (cSl false (cVar 13) (cPart (cCst (.int 1))) (cPart (cVar 14)))) (cArg oLst (cCons (cArg oTup (cCons (cCst (.str "straying")) (cCons (cArg oTup cNil) (cCons (cArg oTup (cCons (cCst (.str "go")) (cCons (cBin ixU (cBin ixU (cVar 13) (cCst (.int 0))) (cCst (.int 0))) cNil))) cNil)))) cNil))) (gmName 13))
  (sSeq (sIf (cTru (cInV (cCst (.str "straying")) (cVar 8)))
  (sAsg (cSl false (cVar 13) cNoPart (cPart (cUn oNeg (cCst (.int 1))))) (gmName 13))
  sNil)
  (sSeq (sAsg (cArg (on1 tupleU) (cCons (cLc (itSeq (cVar 4)) (.nm 24) cYes (cBin (addU false) (cVar 24) (cBin (o2I mulI) (cCst (.int 1000003)) (cBin oSub (cArg F__law_take (cCons (cVar 2) (cCons (cCst (.int 5)) cNil))) (cCst (.int 2))))) [24]) cNil)) (gmName 15))
  (sSeq (sAsg (cArg (fun us => (liftP P_run_plain) (us ++ dus_run_plain_2)) (cCons (cVar 3) (cCons (cArg (on1 tupleU) (cCons (cVar 4) cNil)) cNil))) (gmPat (.tp [(.nm 16), (.nm 17)])))
  (sSeq (sAsg (cArg (fun us => (liftP P_run_plain) (us ++ dus_run_plain_2)) (cCons (cArg (on1 tupleU) (cCons (cVar 13) cNil)) (cCons (cVar 15) cNil))) (gmName 18))
  (sSeq (sIf (cTru (cBin (eqU true) (cVar 18) (cArg oTup (cCons (cArg (liftP P__law_trace_called) (cCons (cVar 16) (cCons (cVar 8) (cCons (cVar 12) cNil)))) (cCons (cArg (liftP P__law_ending_called) (cCons (cVar 17) (cCons (cVar 9) (cCons (cVar 12) cNil)))) cNil)))))
  (sRet (cCst (.bl false)))
  sNil)
  (sSeq (sIf (cTru (cBin (eqU true) (cArg (liftP P_said_in) (cCons (cArg (on1 tupleU) (cCons (cVar 13) cNil)) (cCons (cBin ixU (cVar 18) (cCst (.int 0))) cNil))) (cArg (liftP P_said_in) (cCons (cVar 3) (cCons (cVar 16) cNil)))))
  (sRet (cCst (.bl false)))
  sNil)
  (sSeq (sAsg (cArg (fun us => (liftP P_run_plain) (us ++ dus_run_plain_2)) (cCons (cVar 3) (cCons (cBin (addU false) (cArg (on1 tupleU) (cCons (cVar 4) cNil)) (cArg oTup (cCons (cCst (.int 3)) (cCons (cCst (.int 0)) (cCons (cCst (.int 1)) cNil))))) cNil))) (gmPat (.tp [(.nm 19), (.nm 20)])))
  (sSeq (sIf (cOrT (cTru (cBin (eqU true) (cSl false (cVar 19) cNoPart (cPart (cArg (on1 lenU) (cCons (cVar 16) cNil)))) (cVar 16))) (cAndT (cTru (cBin (eqU true) (cBin ixU (cVar 17) (cCst (.int 0))) (cCst (.str "bare")))) (cTru (cBin (eqU true) (cArg oTup (cCons (cVar 19) (cCons (cVar 20) cNil))) (cArg oTup (cCons (cVar 16) (cCons (cVar 17) cNil)))))))
  (sRet (cCst (.bl false)))
  sNil)
  (sSeq (sAsg (cArg F__law_take (cCons (cVar 2) (cCons (cBin (addU false) (cArg (on1 lenU) (cCons (cVar 16) cNil)) (cCst (.int 1))) cNil))) (gmName 21))
  (sSeq (sAsg (cArg2 (fun us ws S => if us.length = 2 ∧ ws.length = (["steps"] : List Str).length then (liftP P_run_plain) (gu_run_plain_2_steps us ws) S else none) (cCons (cVar 3) (cCons (cArg (on1 tupleU) (cCons (cVar 4) cNil)) cNil)) (cCons (cVar 21) cNil)) (gmName 22))
  (sSeq (sIf (cOrT (cTru (cBin (eqU true) (cBin ixU (cVar 22) (cCst (.int 0))) (cSl false (cVar 16) cNoPart (cPart (cVar 21))))) (cAndT (cTru (cBin oLt (cVar 21) (cArg (on1 lenU) (cCons (cVar 16) cNil)))) (cTru (cBin (eqU true) (cBin ixU (cVar 22) (cCst (.int 1))) (cArg oTup (cCons (cCst (.str "dry")) cNil))))))
  (sRet (cCst (.bl false)))
  sNil)
  (sIf (cAndT (cTru (cBin (eqU false) (cVar 17) (cArg oTup (cCons (cCst (.str "dry")) cNil)))) (cTru (cBin (eqU true) (cSl false (cBin ixU (cArg2 (fun us ws S => if us.length = 2 ∧ ws.length = (["steps"] : List Str).length then (liftP P_run_plain) (gu_run_plain_2_steps us ws) S else none) (cCons (cVar 3) (cCons (cArg (on1 tupleU) (cCons (cVar 4) cNil)) cNil)) (cCons (cCst (.int 260)) cNil)) (cCst (.int 0))) cNoPart (cPart (cArg (on1 lenU) (cCons (cVar 16) cNil)))) (cVar 16))))
  (sRet (cCst (.bl false)))
  sNil))))))))))))))))))))))
  (sRet (cCst (.bl true))))
noncomputable def P_law : Pf := pureF (runF c_law 1 25)
structure Ad where
  f__law_hand : Addr
  f__law_parts_of : Addr
  f__law_otherwise : Addr
  f_rest_of : Addr
  f_Story_init__ : Addr
  f_Story_pair : Addr
  f_Story_may_go : Addr
  f_Story_are_told : Addr
  f_asked_by : Addr
  f_Story_end_done : Addr
  f_Story_why_not : Addr
  f_sum_of : Addr
  f_left_of : Addr
  f_product_of : Addr
  f_part_of : Addr
  f_same_told : Addr
  f_below_told : Addr
  f_reckoned : Addr
  f_Story_worth_given : Addr
  f_Story_row_done : Addr
  f_given_by : Addr
  f_held_worths : Addr
  f_block_done : Addr
  f_block_of : Addr
  f_run_plain : Addr
  f__law_take : Addr
  f__law_pick : Addr
  f__law_names : Addr
  f__law_goals : Addr
  f__law_row : Addr
  f__law_program : Addr
  f__law_called : Addr
  f_said_in : Addr
  f__law_trace_called : Addr
  f__law_ending_called : Addr
  f_law : Addr
  C_Story : Addr
  d_END_PARTS : Addr
  d_RECKONINGS : Addr
  d_ROW_PARTS : Addr
  t_WHEEL : Tok
  e_run_plain_0 : Addr
structure Fd where
  _law_hand : FuncData
  _law_parts_of : FuncData
  _law_otherwise : FuncData
  rest_of : FuncData
  Story_init__ : FuncData
  Story_pair : FuncData
  Story_may_go : FuncData
  Story_are_told : FuncData
  asked_by : FuncData
  Story_end_done : FuncData
  Story_why_not : FuncData
  sum_of : FuncData
  left_of : FuncData
  product_of : FuncData
  part_of : FuncData
  same_told : FuncData
  below_told : FuncData
  reckoned : FuncData
  Story_worth_given : FuncData
  Story_row_done : FuncData
  given_by : FuncData
  held_worths : FuncData
  block_done : FuncData
  block_of : FuncData
  run_plain : FuncData
  _law_take : FuncData
  _law_pick : FuncData
  _law_names : FuncData
  _law_goals : FuncData
  _law_row : FuncData
  _law_program : FuncData
  _law_called : FuncData
  said_in : FuncData
  _law_trace_called : FuncData
  _law_ending_called : FuncData
  law : FuncData
def gx (ad : Ad) : Gx := ⟨fun c => if c = "Story" then some ad.C_Story else none, fun x => if x = "sum_of" then some ad.f_sum_of else if x = "left_of" then some ad.f_left_of else if x = "product_of" then some ad.f_product_of else if x = "part_of" then some ad.f_part_of else if x = "same_told" then some ad.f_same_told else if x = "below_told" then some ad.f_below_told else none⟩
structure Top (K : PySem.W.Frag) (w : World) (mg : Str → Option Value) (ad : Ad) (fd : Fd) : Prop where
  F__law_hand : Fun K "_law_hand" "_law_hand" st__law_hand ad.f__law_hand fd._law_hand
  b__law_hand : Binds K fd._law_hand ["_law_script", "_law_k"] []
  g__law_hand : mg "_law_hand" = some (.ref ad.f__law_hand)
  F__law_parts_of : Fun K "_law_parts_of" "_law_parts_of" st__law_parts_of ad.f__law_parts_of fd._law_parts_of
  b__law_parts_of : Binds K fd._law_parts_of ["_law_whole"] []
  g__law_parts_of : mg "_law_parts_of" = some (.ref ad.f__law_parts_of)
  F__law_otherwise : Fun K "_law_otherwise" "_law_otherwise" st__law_otherwise ad.f__law_otherwise fd._law_otherwise
  b__law_otherwise : Binds K fd._law_otherwise ["_law_whole", "_law_blocks", "_law_names_here", "_law_numbers"] []
  g__law_otherwise : mg "_law_otherwise" = some (.ref ad.f__law_otherwise)
  F_rest_of : Fun K "rest_of" "rest_of" st_rest_of ad.f_rest_of fd.rest_of
  b_rest_of : Binds K fd.rest_of ["number"] []
  g_rest_of : mg "rest_of" = some (.ref ad.f_rest_of)
  F_Story_init__ : FunD K "__init__" "Story.__init__" (defArgs st_Story_init__) (defBody st_Story_init__) (defScope st_Story_init__) [] [("steps", (.int 200))] ad.f_Story_init__ fd.Story_init__
  F_Story_pair : Fun K "pair" "Story.pair" st_Story_pair ad.f_Story_pair fd.Story_pair
  b_Story_pair : Binds K fd.Story_pair ["self"] []
  m_Story_pair : Meth K ad.C_Story "pair" ad.f_Story_pair
  F_Story_may_go : Fun K "may_go" "Story.may_go" st_Story_may_go ad.f_Story_may_go fd.Story_may_go
  b_Story_may_go : Binds K fd.Story_may_go ["self"] []
  m_Story_may_go : Meth K ad.C_Story "may_go" ad.f_Story_may_go
  F_Story_are_told : Fun K "are_told" "Story.are_told" st_Story_are_told ad.f_Story_are_told fd.Story_are_told
  b_Story_are_told : Binds K fd.Story_are_told ["self", "names", "worths"] []
  m_Story_are_told : Meth K ad.C_Story "are_told" ad.f_Story_are_told
  F_asked_by : Fun K "asked_by" "asked_by" st_asked_by ad.f_asked_by fd.asked_by
  b_asked_by : Binds K fd.asked_by ["row"] []
  g_asked_by : mg "asked_by" = some (.ref ad.f_asked_by)
  F_Story_end_done : Fun K "end_done" "Story.end_done" st_Story_end_done ad.f_Story_end_done fd.Story_end_done
  b_Story_end_done : Binds K fd.Story_end_done ["self", "block", "end", "worths"] []
  m_Story_end_done : Meth K ad.C_Story "end_done" ad.f_Story_end_done
  F_Story_why_not : Fun K "why_not" "Story.why_not" st_Story_why_not ad.f_Story_why_not fd.Story_why_not
  b_Story_why_not : Binds K fd.Story_why_not ["self", "row", "worths"] []
  m_Story_why_not : Meth K ad.C_Story "why_not" ad.f_Story_why_not
  F_sum_of : Fun K "sum_of" "sum_of" st_sum_of ad.f_sum_of fd.sum_of
  b_sum_of : Binds K fd.sum_of ["one", "other"] []
  g_sum_of : mg "sum_of" = some (.ref ad.f_sum_of)
  F_left_of : Fun K "left_of" "left_of" st_left_of ad.f_left_of fd.left_of
  b_left_of : Binds K fd.left_of ["one", "other"] []
  g_left_of : mg "left_of" = some (.ref ad.f_left_of)
  F_product_of : Fun K "product_of" "product_of" st_product_of ad.f_product_of fd.product_of
  b_product_of : Binds K fd.product_of ["one", "other"] []
  g_product_of : mg "product_of" = some (.ref ad.f_product_of)
  F_part_of : Fun K "part_of" "part_of" st_part_of ad.f_part_of fd.part_of
  b_part_of : Binds K fd.part_of ["one", "other"] []
  g_part_of : mg "part_of" = some (.ref ad.f_part_of)
  F_same_told : Fun K "same_told" "same_told" st_same_told ad.f_same_told fd.same_told
  b_same_told : Binds K fd.same_told ["one", "other"] []
  g_same_told : mg "same_told" = some (.ref ad.f_same_told)
  F_below_told : Fun K "below_told" "below_told" st_below_told ad.f_below_told fd.below_told
  b_below_told : Binds K fd.below_told ["one", "other"] []
  g_below_told : mg "below_told" = some (.ref ad.f_below_told)
  F_reckoned : Fun K "reckoned" "reckoned" st_reckoned ad.f_reckoned fd.reckoned
  b_reckoned : Binds K fd.reckoned ["word", "worths"] []
  g_reckoned : mg "reckoned" = some (.ref ad.f_reckoned)
  F_Story_worth_given : Fun K "worth_given" "Story.worth_given" st_Story_worth_given ad.f_Story_worth_given fd.Story_worth_given
  b_Story_worth_given : Binds K fd.Story_worth_given ["self", "row", "worths"] []
  m_Story_worth_given : Meth K ad.C_Story "worth_given" ad.f_Story_worth_given
  F_Story_row_done : Fun K "row_done" "Story.row_done" st_Story_row_done ad.f_Story_row_done fd.Story_row_done
  b_Story_row_done : Binds K fd.Story_row_done ["self", "row", "worths"] []
  m_Story_row_done : Meth K ad.C_Story "row_done" ad.f_Story_row_done
  F_given_by : Fun K "given_by" "given_by" st_given_by ad.f_given_by fd.given_by
  b_given_by : Binds K fd.given_by ["row"] []
  g_given_by : mg "given_by" = some (.ref ad.f_given_by)
  F_held_worths : Fun K "held_worths" "held_worths" st_held_worths ad.f_held_worths fd.held_worths
  b_held_worths : Binds K fd.held_worths ["held", "asker"] []
  g_held_worths : mg "held_worths" = some (.ref ad.f_held_worths)
  F_block_done : Fun K "block_done" "block_done" st_block_done ad.f_block_done fd.block_done
  b_block_done : Binds K fd.block_done ["story", "held", "block"] []
  g_block_done : mg "block_done" = some (.ref ad.f_block_done)
  F_block_of : Fun K "block_of" "block_of" st_block_of ad.f_block_of fd.block_of
  b_block_of : Binds K fd.block_of ["program", "name"] []
  g_block_of : mg "block_of" = some (.ref ad.f_block_of)
  F_run_plain : FunD K "run_plain" "run_plain" (defArgs st_run_plain) (defBody st_run_plain) (defScope st_run_plain) [(.ref ad.e_run_plain_0)] [("steps", (.int 200))] ad.f_run_plain fd.run_plain
  g_run_plain : mg "run_plain" = some (.ref ad.f_run_plain)
  F__law_take : Fun K "_law_take" "_law_take" st__law_take ad.f__law_take fd._law_take
  b__law_take : Binds K fd._law_take ["_law_hand_here", "_law_many"] []
  g__law_take : mg "_law_take" = some (.ref ad.f__law_take)
  F__law_pick : Fun K "_law_pick" "_law_pick" st__law_pick ad.f__law_pick fd._law_pick
  b__law_pick : Binds K fd._law_pick ["_law_hand_here", "_law_some"] []
  g__law_pick : mg "_law_pick" = some (.ref ad.f__law_pick)
  F__law_names : Fun K "_law_names" "_law_names" st__law_names ad.f__law_names fd._law_names
  b__law_names : Binds K fd._law_names ["_law_hand_here", "_law_many"] []
  g__law_names : mg "_law_names" = some (.ref ad.f__law_names)
  F__law_goals : Fun K "_law_goals" "_law_goals" st__law_goals ad.f__law_goals fd._law_goals
  b__law_goals : Binds K fd._law_goals ["_law_hand_here", "_law_many", "_law_stray"] []
  g__law_goals : mg "_law_goals" = some (.ref ad.f__law_goals)
  F__law_row : Fun K "_law_row" "_law_row" st__law_row ad.f__law_row fd._law_row
  b__law_row : Binds K fd._law_row ["_law_hand_here", "_law_number", "_law_names_here"] []
  g__law_row : mg "_law_row" = some (.ref ad.f__law_row)
  F__law_program : Fun K "_law_program" "_law_program" st__law_program ad.f__law_program fd._law_program
  b__law_program : Binds K fd._law_program ["_law_hand_here", "_law_few", "_law_wide", "_law_size"] []
  g__law_program : mg "_law_program" = some (.ref ad.f__law_program)
  F__law_called : Fun K "_law_called" "_law_called" st__law_called ad.f__law_called fd._law_called
  b__law_called : Binds K fd._law_called ["_law_hand_here", "_law_some"] []
  g__law_called : mg "_law_called" = some (.ref ad.f__law_called)
  F_said_in : Fun K "said_in" "said_in" st_said_in ad.f_said_in fd.said_in
  b_said_in : Binds K fd.said_in ["program", "trace"] []
  g_said_in : mg "said_in" = some (.ref ad.f_said_in)
  F__law_trace_called : Fun K "_law_trace_called" "_law_trace_called" st__law_trace_called ad.f__law_trace_called fd._law_trace_called
  b__law_trace_called : Binds K fd._law_trace_called ["_law_trace", "_law_blocks", "_law_numbers"] []
  g__law_trace_called : mg "_law_trace_called" = some (.ref ad.f__law_trace_called)
  F__law_ending_called : Fun K "_law_ending_called" "_law_ending_called" st__law_ending_called ad.f__law_ending_called fd._law_ending_called
  b__law_ending_called : Binds K fd._law_ending_called ["_law_ending", "_law_names_here", "_law_numbers"] []
  g__law_ending_called : mg "_law_ending_called" = some (.ref ad.f__law_ending_called)
  F_law : Fun K "law" "law" st_law ad.f_law fd.law
  b_law : Binds K fd.law ["_law_script"] []
  g_law : mg "law" = some (.ref ad.f_law)
  g_Story : mg "Story" = some (.ref ad.C_Story)
  cl_Story : Cls K ad.C_Story
  mk_Story : Mk K ad.C_Story ad.f_Story_init__
  na_Story_ending : NoAttr K ad.C_Story "ending"
  na_Story_steps : NoAttr K ad.C_Story "steps"
  na_Story_trace : NoAttr K ad.C_Story "trace"
  na_Story_waiting : NoAttr K ad.C_Story "waiting"
  n_abs : mg "abs" = none
  n_dict : mg "dict" = none
  n_enumerate : mg "enumerate" = none
  n_int : mg "int" = none
  n_isinstance : mg "isinstance" = none
  n_len : mg "len" = none
  n_list : mg "list" = none
  n_max : mg "max" = none
  n_min : mg "min" = none
  n_range : mg "range" = none
  n_str : mg "str" = none
  n_tuple : mg "tuple" = none
  n_zip : mg "zip" = none
  k_WHEEL : mg "WHEEL" = some (.int 1000003 ad.t_WHEEL)
  g_END_PARTS : mg "END_PARTS" = some (.ref ad.d_END_PARTS)
  t_END_PARTS : KTab K w (gx ad) ad.d_END_PARTS tab_END_PARTS
  g_RECKONINGS : mg "RECKONINGS" = some (.ref ad.d_RECKONINGS)
  t_RECKONINGS : KTab K w (gx ad) ad.d_RECKONINGS tab_RECKONINGS
  g_ROW_PARTS : mg "ROW_PARTS" = some (.ref ad.d_ROW_PARTS)
  t_ROW_PARTS : KTab K w (gx ad) ad.d_ROW_PARTS tab_ROW_PARTS
  z_run_plain_0 : ∃ (o : Obj) (n : Nat), K.lookup ad.e_run_plain_0 = some o ∧ o.cls = .type "tuple" ∧ o.data = .seq #[] n
  d_Story_init___1_steps : ∃ mv : List Value, KBn K fd.Story_init__ ["self", "inputs", "steps"] 2 ["steps"] (fun us ws => us ++ (mv ++ ws)) (fun vs zs => vs ++ (([] : List (Str × V)).map (·.2) ++ zs))
  d_run_plain_2_steps : ∃ its mv : List Value, KBn K fd.run_plain ["program", "inputs", "steps"] 2 ["steps"] (fun us ws => us ++ (its.drop 1 ++ (mv ++ ws))) (fun vs zs => vs ++ (([(.ref ad.e_run_plain_0)] : List V).drop 1 ++ (([] : List (Str × V)).map (·.2) ++ zs)))
  d_run_plain_2 : ∃ ds, Vals (([(.ref ad.e_run_plain_0)] : List V).drop 1 ++ ([("steps", (.int 200))] : List (Str × V)).map (·.2)) ds ∧ Binds K fd.run_plain ["program", "inputs", "steps"] ds
section
variable {P : Program} {w : World} {K : PySem.W.Frag} {mg : Str → Option Value} {base : Heap} {ad : Ad} {fd : Fd}
theorem Top.kp__law_hand (T : Top K w mg ad fd) : PySem.W.keepIn K (.ref ad.f__law_hand) = true := T.F__law_hand.kp
theorem Top.kp__law_parts_of (T : Top K w mg ad fd) : PySem.W.keepIn K (.ref ad.f__law_parts_of) = true := T.F__law_parts_of.kp
theorem Top.kp__law_otherwise (T : Top K w mg ad fd) : PySem.W.keepIn K (.ref ad.f__law_otherwise) = true := T.F__law_otherwise.kp
theorem Top.kp_rest_of (T : Top K w mg ad fd) : PySem.W.keepIn K (.ref ad.f_rest_of) = true := T.F_rest_of.kp
theorem Top.kp_asked_by (T : Top K w mg ad fd) : PySem.W.keepIn K (.ref ad.f_asked_by) = true := T.F_asked_by.kp
theorem Top.kp_sum_of (T : Top K w mg ad fd) : PySem.W.keepIn K (.ref ad.f_sum_of) = true := T.F_sum_of.kp
theorem Top.kp_left_of (T : Top K w mg ad fd) : PySem.W.keepIn K (.ref ad.f_left_of) = true := T.F_left_of.kp
theorem Top.kp_product_of (T : Top K w mg ad fd) : PySem.W.keepIn K (.ref ad.f_product_of) = true := T.F_product_of.kp
theorem Top.kp_part_of (T : Top K w mg ad fd) : PySem.W.keepIn K (.ref ad.f_part_of) = true := T.F_part_of.kp
theorem Top.kp_same_told (T : Top K w mg ad fd) : PySem.W.keepIn K (.ref ad.f_same_told) = true := T.F_same_told.kp
theorem Top.kp_below_told (T : Top K w mg ad fd) : PySem.W.keepIn K (.ref ad.f_below_told) = true := T.F_below_told.kp
theorem Top.kp_reckoned (T : Top K w mg ad fd) : PySem.W.keepIn K (.ref ad.f_reckoned) = true := T.F_reckoned.kp
theorem Top.kp_given_by (T : Top K w mg ad fd) : PySem.W.keepIn K (.ref ad.f_given_by) = true := T.F_given_by.kp
theorem Top.kp_held_worths (T : Top K w mg ad fd) : PySem.W.keepIn K (.ref ad.f_held_worths) = true := T.F_held_worths.kp
theorem Top.kp_block_done (T : Top K w mg ad fd) : PySem.W.keepIn K (.ref ad.f_block_done) = true := T.F_block_done.kp
theorem Top.kp_block_of (T : Top K w mg ad fd) : PySem.W.keepIn K (.ref ad.f_block_of) = true := T.F_block_of.kp
theorem Top.kp_run_plain (T : Top K w mg ad fd) : PySem.W.keepIn K (.ref ad.f_run_plain) = true := T.F_run_plain.kp
theorem Top.kp__law_take (T : Top K w mg ad fd) : PySem.W.keepIn K (.ref ad.f__law_take) = true := T.F__law_take.kp
theorem Top.kp__law_pick (T : Top K w mg ad fd) : PySem.W.keepIn K (.ref ad.f__law_pick) = true := T.F__law_pick.kp
theorem Top.kp__law_names (T : Top K w mg ad fd) : PySem.W.keepIn K (.ref ad.f__law_names) = true := T.F__law_names.kp
theorem Top.kp__law_goals (T : Top K w mg ad fd) : PySem.W.keepIn K (.ref ad.f__law_goals) = true := T.F__law_goals.kp
theorem Top.kp__law_row (T : Top K w mg ad fd) : PySem.W.keepIn K (.ref ad.f__law_row) = true := T.F__law_row.kp
theorem Top.kp__law_program (T : Top K w mg ad fd) : PySem.W.keepIn K (.ref ad.f__law_program) = true := T.F__law_program.kp
theorem Top.kp__law_called (T : Top K w mg ad fd) : PySem.W.keepIn K (.ref ad.f__law_called) = true := T.F__law_called.kp
theorem Top.kp_said_in (T : Top K w mg ad fd) : PySem.W.keepIn K (.ref ad.f_said_in) = true := T.F_said_in.kp
theorem Top.kp__law_trace_called (T : Top K w mg ad fd) : PySem.W.keepIn K (.ref ad.f__law_trace_called) = true := T.F__law_trace_called.kp
theorem Top.kp__law_ending_called (T : Top K w mg ad fd) : PySem.W.keepIn K (.ref ad.f__law_ending_called) = true := T.F__law_ending_called.kp
theorem Top.c_Story (_T : Top K w mg ad fd) : (gx ad).cls "Story" = some ad.C_Story := by
  unfold gx
  dsimp only
  exact if_pos rfl
theorem Top.fl_ending (T : Top K w mg ad fd) : ∀ c C, (["Story"] : List Str).contains c = true → (gx ad).cls c = some C → Cls K C ∧ NoAttr K C "ending" := by
  intro c C hc h
  have hm : c ∈ (["Story"] : List Str) := by simpa using hc
  rcases List.mem_cons.mp hm with e | hm
  · subst e; rw [T.c_Story] at h; cases h; exact ⟨T.cl_Story, T.na_Story_ending⟩
  · cases hm
theorem Top.fl_steps (T : Top K w mg ad fd) : ∀ c C, (["Story"] : List Str).contains c = true → (gx ad).cls c = some C → Cls K C ∧ NoAttr K C "steps" := by
  intro c C hc h
  have hm : c ∈ (["Story"] : List Str) := by simpa using hc
  rcases List.mem_cons.mp hm with e | hm
  · subst e; rw [T.c_Story] at h; cases h; exact ⟨T.cl_Story, T.na_Story_steps⟩
  · cases hm
theorem Top.fl_trace (T : Top K w mg ad fd) : ∀ c C, (["Story"] : List Str).contains c = true → (gx ad).cls c = some C → Cls K C ∧ NoAttr K C "trace" := by
  intro c C hc h
  have hm : c ∈ (["Story"] : List Str) := by simpa using hc
  rcases List.mem_cons.mp hm with e | hm
  · subst e; rw [T.c_Story] at h; cases h; exact ⟨T.cl_Story, T.na_Story_trace⟩
  · cases hm
theorem Top.fl_waiting (T : Top K w mg ad fd) : ∀ c C, (["Story"] : List Str).contains c = true → (gx ad).cls c = some C → Cls K C ∧ NoAttr K C "waiting" := by
  intro c C hc h
  have hm : c ∈ (["Story"] : List Str) := by simpa using hc
  rcases List.mem_cons.mp hm with e | hm
  · subst e; rw [T.c_Story] at h; cases h; exact ⟨T.cl_Story, T.na_Story_waiting⟩
  · cases hm
theorem Top.u_Story_init___1_steps (_T : Top K w mg ad fd) : ∀ m H u v us vs ws zs, us.length = 1 → ws.length = (["steps"] : List Str).length → RU K (gx ad) m H u v → RUs K (gx ad) m H us vs → RUs K (gx ad) m H ws zs → ∃ t, (v :: vs) ++ (([] : List (Str × V)).map (·.2) ++ zs) = v :: t ∧ RUs K (gx ad) m H (gu_Story_init___1_steps us ws) t := fun m H u v us vs ws zs _ _ _ r1 r2 => ⟨_, rfl, r1.append r2⟩
theorem Top.v_Story_init___1_steps (_T : Top K w mg ad fd) : ∀ (v : V) vs zs t, (v :: vs) ++ (([] : List (Str × V)).map (·.2) ++ zs) = v :: t → ∀ w, (w :: vs) ++ (([] : List (Str × V)).map (·.2) ++ zs) = w :: t := fun v vs zs t h w => by
  injection h with _ h
  exact congrArg (w :: ·) h
theorem Top.u_run_plain_2_steps (T : Top K w mg ad fd) : ∀ m H us vs ws zs, us.length = 2 → ws.length = (["steps"] : List Str).length → RUs K (gx ad) m H us vs → RUs K (gx ad) m H ws zs → RUs K (gx ad) m H (gu_run_plain_2_steps us ws) (vs ++ (([(.ref ad.e_run_plain_0)] : List V).drop 1 ++ (([] : List (Str × V)).map (·.2) ++ zs))) := fun m H us vs ws zs _ _ r1 r2 => r1.append r2
theorem Top.u_run_plain_2 (T : Top K w mg ad fd) : ∀ m H, RUs K (gx ad) m H dus_run_plain_2 (([(.ref ad.e_run_plain_0)] : List V).drop 1 ++ ([("steps", (.int 200))] : List (Str × V)).map (·.2)) := fun m H => (RUs.cons rfl RUs.nil)
theorem ok__law_hand (T : Top K w mg ad fd) : FnOk P w K mg base CX0 1 ad.f__law_hand fd._law_hand ["_law_script", "_law_k"] (spU K (gx ad) F__law_hand) := by
  have nd := sc__law_hand.nd
  unfold F__law_hand
  refine fn_ok (k := 0) (s := c__law_hand) (np := 2) (n := 4) rfl rfl T.F__law_hand sc__law_hand (fun cdv A outer s0 H E hr => ?_)
  exact (ss_cons (es_set (i := 2) nd rfl (by first | exact Or.inl rfl | exact Or.inr rfl) (ee_op (ou_addA false) (ee_op ou_mul ee_int (ee_var (pv 1))) (ee_callB cu_len (by rfl) T.n_len (by decide +kernel) (ea_cons (ee_var (pv 0)) ea_nil))))
  (ss_cons (es_if (et_cmp ou_lt (ee_var (pv 1)) (ee_callB cu_len (by rfl) T.n_len (by decide +kernel) (ea_cons (ee_var (pv 0)) ea_nil)) (nomark _)) (ss_one (es_set (i := 2) nd rfl (by first | exact Or.inl rfl | exact Or.inr rfl) (ee_ix (ee_var (pv 0)) (ee_var (pv 1))))) ss_nil)
  (ss_cons (es_set (i := 3) nd rfl (by first | exact Or.inl rfl | exact Or.inr rfl) (ee_op ou_mul (ee_op ou_mod (ee_callB cu_abs (by rfl) T.n_abs (by decide +kernel) (ea_cons (ee_var (pv 2)) ea_nil)) (ee_op ou_powJ (ee_op ou_pow ee_int ee_int) ee_int)) (ee_callTy cu_int (by rfl) T.n_int (by decide +kernel) (ea_cons (ee_cmp ou_ge (ee_callB cu_abs (by rfl) T.n_abs (by decide +kernel) (ea_cons (ee_var (pv 2)) ea_nil)) (ee_op ou_pow ee_int ee_int) (nomark _)) ea_nil))))
  (ss_one (es_ret (ee_lstM (ea_cons (ee_var (pv 3)) (ea_cons (ee_op ou_mod (ee_op ou_mul (ee_op (ou_addA false) (ee_op (ou_addA false) (ee_op ou_mod (ee_var (pv 2)) ee_int) (ee_op ou_mul (ee_op ou_mul ee_int (ee_var (pv 1))) (ee_var (pv 1)))) ee_int) ee_int) ee_int) ea_nil))))))))
theorem ok__law_parts_of (T : Top K w mg ad fd) : FnOk P w K mg base CX0 1 ad.f__law_parts_of fd._law_parts_of ["_law_whole"] (spU K (gx ad) F__law_parts_of) := by
  have nd := sc__law_parts_of.nd
  unfold F__law_parts_of
  refine fn_ok (k := 0) (s := c__law_parts_of) (np := 1) (n := 9) rfl rfl T.F__law_parts_of sc__law_parts_of (fun cdv A outer s0 H E hr => ?_)
  exact (ss_cons (es_par3 rfl nd rfl rfl rfl (by decide) (by decide) (by decide) rfl rfl rfl (ea_cons (ee_lc (own := [("_law_block", 4)]) rfl nd (ei_seq (ee_var (pv 0))) (blkOk_by (own := [("_law_block", 4)]) (N := N__law_parts_of) (sc := defScope st__law_parts_of) (by decide +kernel)) (fun _ _ _ _ _ => (ep_name (i := 4) nd rfl (by first | exact Or.inl rfl | exact Or.inr rfl))) (fun _ _ _ _ _ => ets_nil) (fun _ _ _ _ _ => (ee_ix (ee_var (pv 4)) ee_int)) (by decide)) (ea_cons ee_dnew (ea_cons (ee_lstM ea_nil) ea_nil))) (by rfl))
  (ss_cons (es_for PassesOwn.never rfl (ei_seq (ee_var (pv 0))) (ep_tup rfl (eps_cons (ep_name (i := 4) nd rfl (by first | exact Or.inl rfl | exact Or.inr rfl)) (eps_cons (ep_name (i := 5) nd rfl (by first | exact Or.inl rfl | exact Or.inr rfl)) (eps_cons (ep_name (i := 6) nd rfl (by first | exact Or.inl rfl | exact Or.inr rfl)) eps_nil)))) (ss_cons (es_for PassesOwn.never rfl (ei_seq (ee_var (pv 5))) (ep_name (i := 7) nd rfl (by first | exact Or.inl rfl | exact Or.inr rfl)) (ss_cons (es_expr (ee_mt PySem.F.plainAttrs_list PySem.F.slot_list_append PySem.F.type_list_append mu_append (ee_var (pv 3)) (ea_cons (ee_ix (ee_var (pv 7)) ee_int) ea_nil)))
  (ss_one (es_expr (ee_mt PySem.F.plainAttrs_dict PySem.F.slot_dict_update PySem.F.type_dict_update mu_update (ee_var (pv 2)) (ea_cons (ee_callTy (cu_dict false rfl) (by rfl) T.n_dict (by decide +kernel) (ea_cons (ee_lc (own := [("_law_part", 8)]) rfl nd (ei_seq (ee_slice false (ee_var (pv 7)) (eo_some ee_int) eo_none)) (blkOk_by (own := [("_law_part", 8)]) (N := N__law_parts_of) (sc := defScope st__law_parts_of) (by decide +kernel)) (fun _ _ _ _ _ => (ep_name (i := 8) nd rfl (by first | exact Or.inl rfl | exact Or.inr rfl))) (fun _ _ _ _ _ => (ets_one (et_tru (ee_isi (T := "str") (by rfl) T.n_isinstance (by rfl) T.n_str (by decide +kernel) (ee_var (pv 8)))))) (fun _ _ _ _ _ => (ee_tup (ea_cons (ee_var (pv 8)) (ea_cons ee_bl ea_nil)))) (by decide)) ea_nil)) ea_nil))))))
  (ss_one (es_if (et_cmp (ou_eq hr.units) (ee_ix (ee_var (pv 6)) ee_int) ee_str (nomark _)) (ss_one (es_setD (hu_of hr) (ee_var (pv 2)) (ee_ix (ee_var (pv 6)) ee_int) ee_bl)) ss_nil))))
  (ss_one (es_ret (ee_tup (ea_cons (ee_var (pv 1)) (ea_cons (ee_callTy (cu_listD false rfl) (by rfl) T.n_list (by decide +kernel) (ea_cons (ee_var (pv 2)) ea_nil)) (ea_cons (ee_var (pv 3)) ea_nil))))))))
theorem ok__law_otherwise (T : Top K w mg ad fd) : FnOk P w K mg base CX0 1 ad.f__law_otherwise fd._law_otherwise ["_law_whole", "_law_blocks", "_law_names_here", "_law_numbers"] (spU K (gx ad) F__law_otherwise) := by
  have nd := sc__law_otherwise.nd
  unfold F__law_otherwise
  refine fn_ok (k := 0) (s := c__law_otherwise) (np := 4) (n := 12) rfl rfl T.F__law_otherwise sc__law_otherwise (fun cdv A outer s0 H E hr => ?_)
  exact (ss_cons (es_set (i := 4) nd rfl (by first | exact Or.inl rfl | exact Or.inr rfl) (ee_lstM ea_nil))
  (ss_cons (es_for PassesOwn.never rfl (ei_seq (ee_var (pv 0))) (ep_tup rfl (eps_cons (ep_name (i := 5) nd rfl (by first | exact Or.inl rfl | exact Or.inr rfl)) (eps_cons (ep_name (i := 6) nd rfl (by first | exact Or.inl rfl | exact Or.inr rfl)) (eps_cons (ep_name (i := 7) nd rfl (by first | exact Or.inl rfl | exact Or.inr rfl)) eps_nil)))) (ss_cons (es_set (i := 8) nd rfl (by first | exact Or.inl rfl | exact Or.inr rfl) (ee_lstM ea_nil))
  (ss_cons (es_for PassesOwn.never rfl (ei_seq (ee_var (pv 6))) (ep_name (i := 9) nd rfl (by first | exact Or.inl rfl | exact Or.inr rfl)) (ss_cons (es_set (i := 10) nd rfl (by first | exact Or.inl rfl | exact Or.inr rfl) (ee_callTy cu_tuple (by rfl) T.n_tuple (by decide +kernel) (ea_cons (ee_lc (own := [("_law_part", 11)]) rfl nd (ei_seq (ee_slice false (ee_var (pv 9)) (eo_some ee_int) eo_none)) (blkOk_by (own := [("_law_part", 11)]) (N := N__law_otherwise) (sc := defScope st__law_otherwise) (by decide +kernel)) (fun _ _ _ _ _ => (ep_name (i := 11) nd rfl (by first | exact Or.inl rfl | exact Or.inr rfl))) (fun _ _ _ _ _ => ets_nil) (fun _ _ _ _ _ => (ee_if (et_tru (ee_isi (T := "str") (by rfl) T.n_isinstance (by rfl) T.n_str (by decide +kernel) (ee_var (pv 11)))) (ee_dix (hu_of hr) (ee_var (pv 2)) (ee_var (pv 11))) (ee_var (pv 11)))) (by decide)) ea_nil)))
  (ss_one (es_expr (ee_mt PySem.F.plainAttrs_list PySem.F.slot_list_append PySem.F.type_list_append mu_append (ee_var (pv 8)) (ea_cons (ee_op (ou_addA false) (ee_tup (ea_cons (ee_dix (hu_of hr) (ee_var (pv 3)) (ee_ix (ee_var (pv 9)) ee_int)) (ea_cons (ee_ix (ee_var (pv 9)) ee_int) ea_nil))) (ee_var (pv 10))) ea_nil))))))
  (ss_cons (es_if (et_cmp (ou_eq hr.units) (ee_ix (ee_var (pv 7)) ee_int) ee_str (nomark _)) (ss_one (es_set (i := 7) nd rfl (by first | exact Or.inl rfl | exact Or.inr rfl) (ee_tup (ea_cons ee_str (ea_cons (ee_dix (hu_of hr) (ee_var (pv 2)) (ee_ix (ee_var (pv 7)) ee_int)) (ea_cons (ee_dix (hu_of hr) (ee_var (pv 1)) (ee_ix (ee_var (pv 7)) ee_int)) (ea_cons (ee_dix (hu_of hr) (ee_var (pv 1)) (ee_ix (ee_var (pv 7)) ee_int)) ea_nil))))))) (ss_one (es_if (et_cmp (ou_eq hr.units) (ee_ix (ee_var (pv 7)) ee_int) ee_str (nomark _)) (ss_one (es_set (i := 7) nd rfl (by first | exact Or.inl rfl | exact Or.inr rfl) (ee_tup (ea_cons ee_str (ea_cons (ee_dix (hu_of hr) (ee_var (pv 1)) (ee_ix (ee_var (pv 7)) ee_int)) ea_nil))))) ss_nil)))
  (ss_one (es_expr (ee_mt PySem.F.plainAttrs_list PySem.F.slot_list_append PySem.F.type_list_append mu_append (ee_var (pv 4)) (ea_cons (ee_tup (ea_cons (ee_dix (hu_of hr) (ee_var (pv 1)) (ee_var (pv 5))) (ea_cons (ee_callTy cu_tuple (by rfl) T.n_tuple (by decide +kernel) (ea_cons (ee_var (pv 8)) ea_nil)) (ea_cons (ee_var (pv 7)) ea_nil)))) ea_nil))))))))
  (ss_one (es_ret (ee_var (pv 4))))))
theorem ok_rest_of (T : Top K w mg ad fd) : FnOk P w K mg base CX0 1 ad.f_rest_of fd.rest_of ["number"] (spU K (gx ad) (liftP P_rest_of)) := by
  have nd := sc_rest_of.nd
  unfold P_rest_of
  refine fn_pure (fn_ok (k := 0) (s := c_rest_of) (np := 1) (n := 1) rfl rfl T.F_rest_of sc_rest_of (fun cdv A outer s0 H E hr => ?_))
  exact (ss_one (es_ret (ee_op ou_mod (ee_var (pv 0)) (ee_glob (v := .int 1000003) (by rfl) T.k_WHEEL ⟨_, rfl⟩ (fun _ _ => rfl)))))
theorem ok_Story_init__ (T : Top K w mg ad fd) : FnOk P w K mg base CX0 2 ad.f_Story_init__ fd.Story_init__ ["self", "inputs", "steps"] (spU K (gx ad) F_Story_init__) := by
  have nd := sc_Story_init__.nd
  unfold F_Story_init__
  refine fn_okD (k := 1) (s := c_Story_init__) (np := 3) (n := 4) rfl rfl T.F_Story_init__ sc_Story_init__ (fun cdv A outer s0 H E hr => ?_)
  exact (ss_cons (es_fld (T.fl_trace) (ee_var (pv 0)) (ee_lstM ea_nil))
  (ss_cons (es_fld (T.fl_ending) (ee_var (pv 0)) ee_non)
  (ss_cons (es_fld (T.fl_waiting) (ee_var (pv 0)) (ee_lcM (own := [("number", 3)]) rfl nd (ei_seq (ee_var (pv 1))) (blkOk_by (own := [("number", 3)]) (N := N_Story_init__) (sc := defScope st_Story_init__) (by decide +kernel)) (fun _ _ _ _ _ => (ep_name (i := 3) nd rfl (by first | exact Or.inl rfl | exact Or.inr rfl))) (fun _ _ _ _ _ => ets_nil) (fun _ _ _ _ _ => (ee_call (ok_rest_of T) (hr.mono (by decide)) (by rfl) T.g_rest_of T.kp_rest_of T.b_rest_of (ea_cons (ee_var (pv 3)) ea_nil))) (by decide)))
  (ss_one (es_fld (T.fl_steps) (ee_var (pv 0)) (ee_var (pv 2)))))))
theorem ok_Story_pair (T : Top K w mg ad fd) : FnOk P w K mg base CX0 1 ad.f_Story_pair fd.Story_pair ["self"] (spU K (gx ad) F_Story_pair) := by
  have nd := sc_Story_pair.nd
  unfold F_Story_pair
  refine fn_ok (k := 0) (s := c_Story_pair) (np := 1) (n := 1) rfl rfl T.F_Story_pair sc_Story_pair (fun cdv A outer s0 H E hr => ?_)
  exact (ss_one (es_ret (ee_tup (ea_cons (ee_callTy cu_tuple (by rfl) T.n_tuple (by decide +kernel) (ea_cons (ee_fld (T.fl_trace) (ee_var (pv 0))) ea_nil)) (ea_cons (ee_fld (T.fl_ending) (ee_var (pv 0))) ea_nil)))))
theorem ok_Story_may_go (T : Top K w mg ad fd) : FnOk P w K mg base CX0 1 ad.f_Story_may_go fd.Story_may_go ["self"] (spU K (gx ad) F_Story_may_go) := by
  have nd := sc_Story_may_go.nd
  unfold F_Story_may_go
  refine fn_ok (k := 0) (s := c_Story_may_go) (np := 1) (n := 1) rfl rfl T.F_Story_may_go sc_Story_may_go (fun cdv A outer s0 H E hr => ?_)
  exact (ss_cons (es_if (et_w (ew_and (et_cmp ou_isN (ee_fld (T.fl_ending) (ee_var (pv 0))) ee_non (nomark _)) (ew_and1 (et_cmp ou_ge (ee_callB cu_len (by rfl) T.n_len (by decide +kernel) (ea_cons (ee_fld (T.fl_trace) (ee_var (pv 0))) ea_nil)) (ee_fld (T.fl_steps) (ee_var (pv 0))) (nomark _))))) (ss_one (es_fld (T.fl_ending) (ee_var (pv 0)) (ee_tup (ea_cons ee_str ea_nil)))) ss_nil)
  (ss_one (es_ret (ee_cmp ou_isN (ee_fld (T.fl_ending) (ee_var (pv 0))) ee_non (nomark _)))))
theorem ok_Story_are_told (T : Top K w mg ad fd) : FnOk P w K mg base CX0 1 ad.f_Story_are_told fd.Story_are_told ["self", "names", "worths"] (spU K (gx ad) F_Story_are_told) := by
  have nd := sc_Story_are_told.nd
  unfold F_Story_are_told
  refine fn_ok (k := 0) (s := c_Story_are_told) (np := 3) (n := 5) rfl rfl T.F_Story_are_told sc_Story_are_told (fun cdv A outer s0 H E hr => ?_)
  exact (ss_cons (es_for PassesOwn.never rfl (ei_zip (by rfl) T.n_zip (ea_cons (ee_var (pv 1)) (ea_cons (ee_var (pv 2)) ea_nil))) (ep_tup rfl (eps_cons (ep_name (i := 3) nd rfl (by first | exact Or.inl rfl | exact Or.inr rfl)) (eps_cons (ep_name (i := 4) nd rfl (by first | exact Or.inl rfl | exact Or.inr rfl)) eps_nil))) (ss_one (es_if (et_cmp ou_isN (ee_var (pv 4)) ee_non (nomark _)) (ss_cons (es_fld (T.fl_ending) (ee_var (pv 0)) (ee_tup (ea_cons ee_str (ea_cons (ee_var (pv 3)) ea_nil))))
  (ss_one (es_ret ee_bl))) ss_nil)))
  (ss_one (es_ret ee_bl)))
theorem ok_asked_by (T : Top K w mg ad fd) : FnOk P w K mg base CX0 1 ad.f_asked_by fd.asked_by ["row"] (spU K (gx ad) (liftP P_asked_by)) := by
  have nd := sc_asked_by.nd
  unfold P_asked_by
  refine fn_pure (fn_ok (k := 0) (s := c_asked_by) (np := 1) (n := 5) rfl rfl T.F_asked_by sc_asked_by (fun cdv A outer s0 H E hr => ?_))
  exact (ss_cons (es_if (et_tru (ee_isi (T := "str") (by rfl) T.n_isinstance (by rfl) T.n_str (by decide +kernel) (ee_ix (ee_var (pv 0)) ee_int))) (ss_one (es_par2 rfl nd rfl rfl (by decide) rfl rfl (ea_cons (ee_tab (by rfl) T.g_END_PARTS T.t_END_PARTS (ee_ix (ee_var (pv 0)) ee_int)) (ea_cons (ee_slice false (ee_var (pv 0)) (eo_some ee_int) eo_none) ea_nil)) (by rfl))) (ss_one (es_par2 rfl nd rfl rfl (by decide) rfl rfl (ea_cons (ee_tab (by rfl) T.g_ROW_PARTS T.t_ROW_PARTS (ee_ix (ee_var (pv 0)) ee_int)) (ea_cons (ee_slice false (ee_var (pv 0)) (eo_some ee_int) eo_none) ea_nil)) (by rfl))))
  (ss_one (es_ret (ee_callTy cu_tuple (by rfl) T.n_tuple (by decide +kernel) (ea_cons (ee_lc (own := [("sort", 3), ("part", 4)]) rfl nd (ei_zip (by rfl) T.n_zip (ea_cons (ee_var (pv 1)) (ea_cons (ee_var (pv 2)) ea_nil))) (blkOk_by (own := [("sort", 3), ("part", 4)]) (N := N_asked_by) (sc := defScope st_asked_by) (by decide +kernel)) (fun _ _ _ _ _ => (ep_tup rfl (eps_cons (ep_name (i := 3) nd rfl (by first | exact Or.inl rfl | exact Or.inr rfl)) (eps_cons (ep_name (i := 4) nd rfl (by first | exact Or.inl rfl | exact Or.inr rfl)) eps_nil)))) (fun _ _ _ _ _ => (ets_one (et_cmp (ou_eq hr.units) (ee_var (pv 3)) ee_str (nomark _)))) (fun _ _ _ _ _ => (ee_var (pv 4))) (by decide)) ea_nil)))))
theorem ok_Story_end_done (T : Top K w mg ad fd) : FnOk P w K mg base CX0 2 ad.f_Story_end_done fd.Story_end_done ["self", "block", "end", "worths"] (spU K (gx ad) F_Story_end_done) := by
  have nd := sc_Story_end_done.nd
  unfold F_Story_end_done
  refine fn_ok (k := 1) (s := c_Story_end_done) (np := 4) (n := 6) rfl rfl T.F_Story_end_done sc_Story_end_done (fun cdv A outer s0 H E hr => ?_)
  exact (ss_cons (es_if (et_not (et_tru (ee_meth (c := "Story") T.c_Story (ee_var (pv 0)) T.cl_Story T.m_Story_are_told (ok_Story_are_told T) (hr.mono (by decide)) T.b_Story_are_told (ea_cons (ee_call (ok_asked_by T) (hr.mono (by decide)) (by rfl) T.g_asked_by T.kp_asked_by T.b_asked_by (ea_cons (ee_var (pv 2)) ea_nil)) (ea_cons (ee_var (pv 3)) ea_nil))))) (ss_one (es_ret ee_non)) ss_nil)
  (ss_cons (es_expr (ee_mt PySem.F.plainAttrs_list PySem.F.slot_list_append PySem.F.type_list_append mu_append (ee_fld (T.fl_trace) (ee_var (pv 0))) (ea_cons (ee_tup (ea_cons (ee_var (pv 1)) (ea_cons (ee_callTy cu_tuple (by rfl) T.n_tuple (by decide +kernel) (ea_cons (ee_var (pv 3)) ea_nil)) (ea_cons ee_non ea_nil)))) ea_nil)))
  (ss_cons (es_asg (ee_var (pv 2)) (eg_star (i := 1) (n := 2) false rfl (eps_cons (ep_name (i := 4) nd rfl (by first | exact Or.inl rfl | exact Or.inr rfl)) (eps_star (ep_name (i := 5) nd rfl (by first | exact Or.inl rfl | exact Or.inr rfl)) eps_nil)) (by decide)))
  (ss_cons (es_if (et_cmp (ou_eq hr.units) (ee_var (pv 4)) ee_str (nomark _)) (ss_cons (es_fld (T.fl_ending) (ee_var (pv 0)) (ee_tup (ea_cons ee_str ea_nil)))
  (ss_one (es_ret ee_non))) ss_nil)
  (ss_cons (es_if (et_cmp (ou_eq hr.units) (ee_var (pv 4)) ee_str (nomark _)) (ss_one (es_ret (ee_ix (ee_var (pv 5)) ee_int))) ss_nil)
  (ss_one (es_ret (ee_if (et_cmp (ou_ne hr.units) (ee_ix (ee_var (pv 3)) ee_int) ee_int (nomark _)) (ee_ix (ee_var (pv 5)) ee_int) (ee_ix (ee_var (pv 5)) ee_int)))))))))
theorem ok_Story_why_not (T : Top K w mg ad fd) : FnOk P w K mg base CX0 1 ad.f_Story_why_not fd.Story_why_not ["self", "row", "worths"] (spU K (gx ad) F_Story_why_not) := by
  have nd := sc_Story_why_not.nd
  unfold F_Story_why_not
  refine fn_ok (k := 0) (s := c_Story_why_not) (np := 3) (n := 6) rfl rfl T.F_Story_why_not sc_Story_why_not (fun cdv A outer s0 H E hr => ?_)
  exact (ss_cons (es_asg (ee_var (pv 1)) (eg_star (i := 2) (n := 3) false rfl (eps_cons (ep_name (i := 3) nd rfl (by first | exact Or.inl rfl | exact Or.inr rfl)) (eps_cons (ep_name (i := 4) nd rfl (by first | exact Or.inl rfl | exact Or.inr rfl)) (eps_star (ep_name (i := 5) nd rfl (by first | exact Or.inl rfl | exact Or.inr rfl)) eps_nil))) (by decide)))
  (ss_cons (es_if (et_w (ew_and (et_cmp (ou_eq hr.units) (ee_var (pv 4)) ee_str (nomark _)) (ew_and1 (et_cmp (ou_eq hr.units) (ee_ix (ee_var (pv 2)) ee_int) ee_int (nomark _))))) (ss_one (es_ret (ee_tup (ea_cons ee_str (ea_cons (ee_var (pv 3)) ea_nil))))) ss_nil)
  (ss_cons (es_if (et_w (ew_and (et_cmp (ou_eq hr.units) (ee_var (pv 4)) ee_str (nomark _)) (ew_and1 (et_cmp (ou_eq hr.units) (ee_fld (T.fl_waiting) (ee_var (pv 0))) (ee_lst ea_nil) (nomark _))))) (ss_one (es_ret (ee_tup (ea_cons ee_str (ea_cons (ee_var (pv 3)) ea_nil))))) ss_nil)
  (ss_one (es_ret ee_non)))))
theorem ok_sum_of (T : Top K w mg ad fd) : FnOk P w K mg base CX0 2 ad.f_sum_of fd.sum_of ["one", "other"] (spU K (gx ad) (liftP P_sum_of)) := by
  have nd := sc_sum_of.nd
  unfold P_sum_of
  refine fn_pure (fn_ok (k := 1) (s := c_sum_of) (np := 2) (n := 2) rfl rfl T.F_sum_of sc_sum_of (fun cdv A outer s0 H E hr => ?_))
  exact (ss_one (es_ret (ee_call (ok_rest_of T) (hr.mono (by decide)) (by rfl) T.g_rest_of T.kp_rest_of T.b_rest_of (ea_cons (ee_op (ou_addA false) (ee_var (pv 0)) (ee_var (pv 1))) ea_nil))))
theorem ok_left_of (T : Top K w mg ad fd) : FnOk P w K mg base CX0 2 ad.f_left_of fd.left_of ["one", "other"] (spU K (gx ad) (liftP P_left_of)) := by
  have nd := sc_left_of.nd
  unfold P_left_of
  refine fn_pure (fn_ok (k := 1) (s := c_left_of) (np := 2) (n := 2) rfl rfl T.F_left_of sc_left_of (fun cdv A outer s0 H E hr => ?_))
  exact (ss_one (es_ret (ee_call (ok_rest_of T) (hr.mono (by decide)) (by rfl) T.g_rest_of T.kp_rest_of T.b_rest_of (ea_cons (ee_op ou_sub (ee_var (pv 0)) (ee_var (pv 1))) ea_nil))))
theorem ok_product_of (T : Top K w mg ad fd) : FnOk P w K mg base CX0 2 ad.f_product_of fd.product_of ["one", "other"] (spU K (gx ad) (liftP P_product_of)) := by
  have nd := sc_product_of.nd
  unfold P_product_of
  refine fn_pure (fn_ok (k := 1) (s := c_product_of) (np := 2) (n := 2) rfl rfl T.F_product_of sc_product_of (fun cdv A outer s0 H E hr => ?_))
  exact (ss_one (es_ret (ee_call (ok_rest_of T) (hr.mono (by decide)) (by rfl) T.g_rest_of T.kp_rest_of T.b_rest_of (ea_cons (ee_op ou_mul (ee_var (pv 0)) (ee_var (pv 1))) ea_nil))))
theorem ok_part_of (T : Top K w mg ad fd) : FnOk P w K mg base CX0 1 ad.f_part_of fd.part_of ["one", "other"] (spU K (gx ad) (liftP P_part_of)) := by
  have nd := sc_part_of.nd
  unfold P_part_of
  refine fn_pure (fn_ok (k := 0) (s := c_part_of) (np := 2) (n := 2) rfl rfl T.F_part_of sc_part_of (fun cdv A outer s0 H E hr => ?_))
  exact (ss_one (es_ret (ee_op ou_div (ee_var (pv 0)) (ee_var (pv 1)))))
theorem ok_same_told (T : Top K w mg ad fd) : FnOk P w K mg base CX0 1 ad.f_same_told fd.same_told ["one", "other"] (spU K (gx ad) (liftP P_same_told)) := by
  have nd := sc_same_told.nd
  unfold P_same_told
  refine fn_pure (fn_ok (k := 0) (s := c_same_told) (np := 2) (n := 2) rfl rfl T.F_same_told sc_same_told (fun cdv A outer s0 H E hr => ?_))
  exact (ss_one (es_ret (ee_callTy cu_int (by rfl) T.n_int (by decide +kernel) (ea_cons (ee_cmp (ou_eq hr.units) (ee_var (pv 0)) (ee_var (pv 1)) (nomark _)) ea_nil))))
theorem ok_below_told (T : Top K w mg ad fd) : FnOk P w K mg base CX0 1 ad.f_below_told fd.below_told ["one", "other"] (spU K (gx ad) (liftP P_below_told)) := by
  have nd := sc_below_told.nd
  unfold P_below_told
  refine fn_pure (fn_ok (k := 0) (s := c_below_told) (np := 2) (n := 2) rfl rfl T.F_below_told sc_below_told (fun cdv A outer s0 H E hr => ?_))
  exact (ss_one (es_ret (ee_callTy cu_int (by rfl) T.n_int (by decide +kernel) (ea_cons (ee_cmp ou_lt (ee_var (pv 0)) (ee_var (pv 1)) (nomark _)) ea_nil))))
theorem okT_RECKONINGS (T : Top K w mg ad fd) : ∀ n f, fns_RECKONINGS n = some f → ∀ A, (gx ad).fns n = some A → ∃ fd0 ps, FnOk P w K mg base CX0 2 A fd0 ps (spU K (gx ad) f) ∧ PySem.W.keepIn K (.ref A) = true ∧ Binds K fd0 ps [] := by
  intro n f h A hA
  simp only [fns_RECKONINGS] at h
  simp only [gx] at hA
  by_cases e : n = "sum_of"
  · rw [if_pos e] at h hA; cases h; cases hA; exact ⟨_, _, (ok_sum_of T).mono (by decide), T.kp_sum_of, T.b_sum_of⟩
  rw [if_neg e] at h hA; clear e
  by_cases e : n = "left_of"
  · rw [if_pos e] at h hA; cases h; cases hA; exact ⟨_, _, (ok_left_of T).mono (by decide), T.kp_left_of, T.b_left_of⟩
  rw [if_neg e] at h hA; clear e
  by_cases e : n = "product_of"
  · rw [if_pos e] at h hA; cases h; cases hA; exact ⟨_, _, (ok_product_of T).mono (by decide), T.kp_product_of, T.b_product_of⟩
  rw [if_neg e] at h hA; clear e
  by_cases e : n = "part_of"
  · rw [if_pos e] at h hA; cases h; cases hA; exact ⟨_, _, (ok_part_of T).mono (by decide), T.kp_part_of, T.b_part_of⟩
  rw [if_neg e] at h hA; clear e
  by_cases e : n = "same_told"
  · rw [if_pos e] at h hA; cases h; cases hA; exact ⟨_, _, (ok_same_told T).mono (by decide), T.kp_same_told, T.b_same_told⟩
  rw [if_neg e] at h hA; clear e
  by_cases e : n = "below_told"
  · rw [if_pos e] at h hA; cases h; cases hA; exact ⟨_, _, (ok_below_told T).mono (by decide), T.kp_below_told, T.b_below_told⟩
  rw [if_neg e] at h hA; clear e
  cases h
theorem ok_reckoned (T : Top K w mg ad fd) : FnOk P w K mg base CX0 3 ad.f_reckoned fd.reckoned ["word", "worths"] (spU K (gx ad) (liftP P_reckoned)) := by
  have nd := sc_reckoned.nd
  unfold P_reckoned
  refine fn_pure (fn_ok (k := 2) (s := c_reckoned) (np := 2) (n := 4) rfl rfl T.F_reckoned sc_reckoned (fun cdv A outer s0 H E hr => ?_))
  exact (ss_cons (es_asg (ee_var (pv 1)) (eg_star (i := 1) (n := 2) false rfl (eps_cons (ep_name (i := 2) nd rfl (by first | exact Or.inl rfl | exact Or.inr rfl)) (eps_star (ep_name (i := 3) nd rfl (by first | exact Or.inl rfl | exact Or.inr rfl)) eps_nil)) (by decide)))
  (ss_cons (es_if (et_cmp (ou_eq hr.units) (ee_var (pv 0)) ee_str (nomark _)) (ss_one (es_ret (ee_var (pv 2)))) ss_nil)
  (ss_one (es_ret (ee_callE (k := 2) (ee_tab (by rfl) T.g_RECKONINGS T.t_RECKONINGS (ee_var (pv 0))) (okT_RECKONINGS T) (hr.mono (by decide)) (ea_cons (ee_var (pv 2)) (ea_cons (ee_ix (ee_var (pv 3)) ee_int) ea_nil)))))))
theorem ok_Story_worth_given (T : Top K w mg ad fd) : FnOk P w K mg base CX0 4 ad.f_Story_worth_given fd.Story_worth_given ["self", "row", "worths"] (spU K (gx ad) F_Story_worth_given) := by
  have nd := sc_Story_worth_given.nd
  unfold F_Story_worth_given
  refine fn_ok (k := 3) (s := c_Story_worth_given) (np := 3) (n := 4) rfl rfl T.F_Story_worth_given sc_Story_worth_given (fun cdv A outer s0 H E hr => ?_)
  exact (ss_cons (es_set (i := 3) nd rfl (by first | exact Or.inl rfl | exact Or.inr rfl) (ee_ix (ee_var (pv 1)) ee_int))
  (ss_cons (es_if (et_cmp (ou_eq hr.units) (ee_var (pv 3)) ee_str (nomark _)) (ss_one (es_ret (ee_ix (ee_var (pv 1)) ee_int))) ss_nil)
  (ss_cons (es_if (et_cmp (ou_eq hr.units) (ee_var (pv 3)) ee_str (nomark _)) (ss_one (es_ret (ee_mt PySem.F.plainAttrs_list PySem.F.slot_list_pop PySem.F.type_list_pop mu_popAt (ee_fld (T.fl_waiting) (ee_var (pv 0))) (ea_cons ee_int ea_nil)))) ss_nil)
  (ss_one (es_ret (ee_if (et_cmp (ou_eq hr.units) (ee_var (pv 3)) ee_str (nomark _)) ee_non (ee_call (ok_reckoned T) (hr.mono (by decide)) (by rfl) T.g_reckoned T.kp_reckoned T.b_reckoned (ea_cons (ee_var (pv 3)) (ea_cons (ee_var (pv 2)) ea_nil)))))))))
theorem ok_Story_row_done (T : Top K w mg ad fd) : FnOk P w K mg base CX0 5 ad.f_Story_row_done fd.Story_row_done ["self", "row", "worths"] (spU K (gx ad) F_Story_row_done) := by
  have nd := sc_Story_row_done.nd
  unfold F_Story_row_done
  refine fn_ok (k := 4) (s := c_Story_row_done) (np := 3) (n := 4) rfl rfl T.F_Story_row_done sc_Story_row_done (fun cdv A outer s0 H E hr => ?_)
  exact (ss_cons (es_if (et_not (et_tru (ee_meth (c := "Story") T.c_Story (ee_var (pv 0)) T.cl_Story T.m_Story_are_told (ok_Story_are_told T) (hr.mono (by decide)) T.b_Story_are_told (ea_cons (ee_call (ok_asked_by T) (hr.mono (by decide)) (by rfl) T.g_asked_by T.kp_asked_by T.b_asked_by (ea_cons (ee_var (pv 1)) ea_nil)) (ea_cons (ee_var (pv 2)) ea_nil))))) (ss_one (es_ret ee_non)) ss_nil)
  (ss_cons (es_fld (T.fl_ending) (ee_var (pv 0)) (ee_meth (c := "Story") T.c_Story (ee_var (pv 0)) T.cl_Story T.m_Story_why_not (ok_Story_why_not T) (hr.mono (by decide)) T.b_Story_why_not (ea_cons (ee_var (pv 1)) (ea_cons (ee_var (pv 2)) ea_nil))))
  (ss_cons (es_if (et_cmp ou_notN (ee_fld (T.fl_ending) (ee_var (pv 0))) ee_non (nomark _)) (ss_one (es_ret ee_non)) ss_nil)
  (ss_cons (es_set (i := 3) nd rfl (by first | exact Or.inl rfl | exact Or.inr rfl) (ee_meth (c := "Story") T.c_Story (ee_var (pv 0)) T.cl_Story T.m_Story_worth_given (ok_Story_worth_given T) (hr.mono (by decide)) T.b_Story_worth_given (ea_cons (ee_var (pv 1)) (ea_cons (ee_var (pv 2)) ea_nil))))
  (ss_cons (es_expr (ee_mt PySem.F.plainAttrs_list PySem.F.slot_list_append PySem.F.type_list_append mu_append (ee_fld (T.fl_trace) (ee_var (pv 0))) (ea_cons (ee_tup (ea_cons (ee_ix (ee_var (pv 1)) ee_int) (ea_cons (ee_callTy cu_tuple (by rfl) T.n_tuple (by decide +kernel) (ea_cons (ee_var (pv 2)) ea_nil)) (ea_cons (ee_var (pv 3)) ea_nil)))) ea_nil)))
  (ss_one (es_ret (ee_var (pv 3)))))))))
theorem ok_given_by (T : Top K w mg ad fd) : FnOk P w K mg base CX0 1 ad.f_given_by fd.given_by ["row"] (spU K (gx ad) (liftP P_given_by)) := by
  have nd := sc_given_by.nd
  unfold P_given_by
  refine fn_pure (fn_ok (k := 0) (s := c_given_by) (np := 1) (n := 1) rfl rfl T.F_given_by sc_given_by (fun cdv A outer s0 H E hr => ?_))
  exact (ss_one (es_ret (ee_if (et_tru (ee_mt PySem.F.plainAttrs_str PySem.F.slot_str_startswith PySem.F.type_str_startswith mu_startswith (ee_tab (by rfl) T.g_ROW_PARTS T.t_ROW_PARTS (ee_ix (ee_var (pv 0)) ee_int)) (ea_cons ee_str ea_nil))) (ee_ix (ee_var (pv 0)) ee_int) ee_non)))
theorem ok_held_worths (T : Top K w mg ad fd) : FnOk P w K mg base CX0 2 ad.f_held_worths fd.held_worths ["held", "asker"] (spU K (gx ad) F_held_worths) := by
  have nd := sc_held_worths.nd
  unfold F_held_worths
  refine fn_ok (k := 1) (s := c_held_worths) (np := 2) (n := 3) rfl rfl T.F_held_worths sc_held_worths (fun cdv A outer s0 H E hr => ?_)
  exact (ss_one (es_ret (ee_lc (own := [("name", 2)]) rfl nd (ei_seq (ee_call (ok_asked_by T) (hr.mono (by decide)) (by rfl) T.g_asked_by T.kp_asked_by T.b_asked_by (ea_cons (ee_var (pv 1)) ea_nil))) (blkOk_by (own := [("name", 2)]) (N := N_held_worths) (sc := defScope st_held_worths) (by decide +kernel)) (fun _ _ _ _ _ => (ep_name (i := 2) nd rfl (by first | exact Or.inl rfl | exact Or.inr rfl))) (fun _ _ _ _ _ => ets_nil) (fun _ _ _ _ _ => (ee_dget1 (hu_of hr) (ee_var (pv 0)) (ee_var (pv 2)))) (by decide))))
theorem ok_block_done (T : Top K w mg ad fd) : FnOk P w K mg base CX0 6 ad.f_block_done fd.block_done ["story", "held", "block"] (spU K (gx ad) F_block_done) := by
  have nd := sc_block_done.nd
  unfold F_block_done
  refine fn_ok (k := 5) (s := c_block_done) (np := 3) (n := 9) rfl rfl T.F_block_done sc_block_done (fun cdv A outer s0 H E hr => ?_)
  exact (ss_cons (es_asg (ee_var (pv 2)) (eg_pat (ep_tup rfl (eps_cons (ep_name (i := 3) nd rfl (by first | exact Or.inl rfl | exact Or.inr rfl)) (eps_cons (ep_name (i := 4) nd rfl (by first | exact Or.inl rfl | exact Or.inr rfl)) (eps_cons (ep_name (i := 5) nd rfl (by first | exact Or.inl rfl | exact Or.inr rfl)) eps_nil))))))
  (ss_cons (es_for PassesOwn.never rfl (ei_seq (ee_var (pv 4))) (ep_name (i := 6) nd rfl (by first | exact Or.inl rfl | exact Or.inr rfl)) (ss_cons (es_if (et_not (et_tru (ee_meth0 (c := "Story") T.c_Story (ee_var (pv 0)) T.cl_Story T.m_Story_may_go (ok_Story_may_go T) (hr.mono (by decide)) T.b_Story_may_go))) (ss_one (es_ret ee_non)) ss_nil)
  (ss_cons (es_par2 rfl nd rfl rfl (by decide) rfl rfl (ea_cons (ee_meth (c := "Story") T.c_Story (ee_var (pv 0)) T.cl_Story T.m_Story_row_done (ok_Story_row_done T) (hr.mono (by decide)) T.b_Story_row_done (ea_cons (ee_var (pv 6)) (ea_cons (ee_call (ok_held_worths T) (hr.mono (by decide)) (by rfl) T.g_held_worths T.kp_held_worths T.b_held_worths (ea_cons (ee_var (pv 1)) (ea_cons (ee_var (pv 6)) ea_nil))) ea_nil))) (ea_cons (ee_call (ok_given_by T) (hr.mono (by decide)) (by rfl) T.g_given_by T.kp_given_by T.b_given_by (ea_cons (ee_var (pv 6)) ea_nil)) ea_nil)) (by rfl))
  (ss_cons (es_if (et_cmp ou_notN (ee_fld (T.fl_ending) (ee_var (pv 0))) ee_non (nomark _)) (ss_one (es_ret ee_non)) ss_nil)
  (ss_one (es_if (et_cmp ou_notN (ee_var (pv 8)) ee_non (nomark _)) (ss_one (es_setD (hu_of hr) (ee_var (pv 1)) (ee_var (pv 8)) (ee_var (pv 7)))) ss_nil))))))
  (ss_one (es_ret (ee_if (et_tru (ee_meth0 (c := "Story") T.c_Story (ee_var (pv 0)) T.cl_Story T.m_Story_may_go (ok_Story_may_go T) (hr.mono (by decide)) T.b_Story_may_go)) (ee_meth (c := "Story") T.c_Story (ee_var (pv 0)) T.cl_Story T.m_Story_end_done (ok_Story_end_done T) (hr.mono (by decide)) T.b_Story_end_done (ea_cons (ee_var (pv 3)) (ea_cons (ee_var (pv 5)) (ea_cons (ee_call (ok_held_worths T) (hr.mono (by decide)) (by rfl) T.g_held_worths T.kp_held_worths T.b_held_worths (ea_cons (ee_var (pv 1)) (ea_cons (ee_var (pv 5)) ea_nil))) ea_nil)))) ee_non)))))
theorem ok_block_of (T : Top K w mg ad fd) : FnOk P w K mg base CX0 1 ad.f_block_of fd.block_of ["program", "name"] (spU K (gx ad) (liftP P_block_of)) := by
  have nd := sc_block_of.nd
  unfold P_block_of
  refine fn_pure (fn_ok (k := 0) (s := c_block_of) (np := 2) (n := 3) rfl rfl T.F_block_of sc_block_of (fun cdv A outer s0 H E hr => ?_))
  exact (ss_one (es_ret (ee_ix (ee_lc (own := [("block", 2)]) rfl nd (ei_seq (ee_var (pv 0))) (blkOk_by (own := [("block", 2)]) (N := N_block_of) (sc := defScope st_block_of) (by decide +kernel)) (fun _ _ _ _ _ => (ep_name (i := 2) nd rfl (by first | exact Or.inl rfl | exact Or.inr rfl))) (fun _ _ _ _ _ => (ets_one (et_cmp (ou_eq hr.units) (ee_ix (ee_var (pv 2)) ee_int) (ee_var (pv 1)) (nomark _)))) (fun _ _ _ _ _ => (ee_var (pv 2))) (by decide)) ee_int)))
theorem ok_run_plain (T : Top K w mg ad fd) : FnOk P w K mg base CX0 7 ad.f_run_plain fd.run_plain ["program", "inputs", "steps"] (spU K (gx ad) (liftP P_run_plain)) := by
  have nd := sc_run_plain.nd
  unfold P_run_plain
  refine fn_pure (fn_okD (k := 6) (s := c_run_plain) (np := 3) (n := 6) rfl rfl T.F_run_plain sc_run_plain (fun cdv A outer s0 H E hr => ?_))
  exact (ss_cons (es_set (i := 3) nd rfl (by first | exact Or.inl rfl | exact Or.inr rfl) (ee_makeK gu_Story_init___1_steps (c := "Story") T.c_Story T.mk_Story (ok_Story_init__ T) (hr.mono (by decide)) (by rfl) T.g_Story (Classical.choose_spec T.d_Story_init___1_steps) T.u_Story_init___1_steps T.v_Story_init___1_steps (ea_cons (ee_var (pv 1)) ea_nil) (ek_cons (ee_var (pv 2)) ek_nil)))
  (ss_cons (es_set (i := 4) nd rfl (by first | exact Or.inl rfl | exact Or.inr rfl) ee_dnew)
  (ss_cons (es_set (i := 5) nd rfl (by first | exact Or.inl rfl | exact Or.inr rfl) (ee_ix (ee_ix (ee_var (pv 0)) ee_int) ee_int))
  (ss_cons (es_while 100000 PassesOwn.never (et_cmp ou_notN (ee_var (pv 5)) ee_non (nomark _)) (ss_one (es_set (i := 5) nd rfl (by first | exact Or.inl rfl | exact Or.inr rfl) (ee_call (ok_block_done T) (hr.mono (by decide)) (by rfl) T.g_block_done T.kp_block_done T.b_block_done (ea_cons (ee_var (pv 3)) (ea_cons (ee_var (pv 4)) (ea_cons (ee_call (ok_block_of T) (hr.mono (by decide)) (by rfl) T.g_block_of T.kp_block_of T.b_block_of (ea_cons (ee_var (pv 0)) (ea_cons (ee_var (pv 5)) ea_nil))) ea_nil)))))))
  (ss_one (es_ret (ee_meth0 (c := "Story") T.c_Story (ee_var (pv 3)) T.cl_Story T.m_Story_pair (ok_Story_pair T) (hr.mono (by decide)) T.b_Story_pair)))))))
theorem ok__law_take (T : Top K w mg ad fd) : FnOk P w K mg base CX0 1 ad.f__law_take fd._law_take ["_law_hand_here", "_law_many"] (spU K (gx ad) F__law_take) := by
  have nd := sc__law_take.nd
  unfold F__law_take
  refine fn_ok (k := 0) (s := c__law_take) (np := 2) (n := 3) rfl rfl T.F__law_take sc__law_take (fun cdv A outer s0 H E hr => ?_)
  exact (ss_cons (es_if (et_cmp ou_gt (ee_ix (ee_var (pv 0)) ee_int) ee_int (nomark _)) (ss_cons (es_set (i := 2) nd rfl (by first | exact Or.inl rfl | exact Or.inr rfl) (ee_op ou_mod (ee_ix (ee_var (pv 0)) ee_int) (ee_var (pv 1))))
  (ss_cons (es_setL (ee_var (pv 0)) ee_int (ee_op ou_div (ee_ix (ee_var (pv 0)) ee_int) (ee_var (pv 1))))
  (ss_one (es_ret (ee_var (pv 2)))))) ss_nil)
  (ss_cons (es_setL (ee_var (pv 0)) ee_int (ee_op ou_mod (ee_op (ou_addA false) (ee_op ou_mul (ee_ix (ee_var (pv 0)) ee_int) ee_int) ee_int) ee_int))
  (ss_one (es_ret (ee_op ou_mod (ee_op ou_div (ee_op ou_mod (ee_op ou_mul (ee_op ou_div (ee_ix (ee_var (pv 0)) ee_int) ee_int) (ee_op (ou_addA false) (ee_op ou_mod (ee_ix (ee_var (pv 0)) ee_int) ee_int) ee_int)) ee_int) ee_int) (ee_var (pv 1)))))))
theorem ok__law_pick (T : Top K w mg ad fd) : FnOk P w K mg base CX0 2 ad.f__law_pick fd._law_pick ["_law_hand_here", "_law_some"] (spU K (gx ad) F__law_pick) := by
  have nd := sc__law_pick.nd
  unfold F__law_pick
  refine fn_ok (k := 1) (s := c__law_pick) (np := 2) (n := 2) rfl rfl T.F__law_pick sc__law_pick (fun cdv A outer s0 H E hr => ?_)
  exact (ss_one (es_ret (ee_ix (ee_var (pv 1)) (ee_call (ok__law_take T) (hr.mono (by decide)) (by rfl) T.g__law_take T.kp__law_take T.b__law_take (ea_cons (ee_var (pv 0)) (ea_cons (ee_callB cu_len (by rfl) T.n_len (by decide +kernel) (ea_cons (ee_var (pv 1)) ea_nil)) ea_nil))))))
theorem ok__law_names (T : Top K w mg ad fd) : FnOk P w K mg base CX0 3 ad.f__law_names fd._law_names ["_law_hand_here", "_law_many"] (spU K (gx ad) F__law_names) := by
  have nd := sc__law_names.nd
  unfold F__law_names
  refine fn_ok (k := 2) (s := c__law_names) (np := 2) (n := 12) rfl rfl T.F__law_names sc__law_names (fun cdv A outer s0 H E hr => ?_)
  exact (ss_cons (es_asg (ee_tup (ea_cons ee_str (ea_cons (ee_call (ok__law_take T) (hr.mono (by decide)) (by rfl) T.g__law_take T.kp__law_take T.b__law_take (ea_cons (ee_var (pv 0)) (ea_cons ee_int ea_nil))) ea_nil))) (eg_pat (ep_tup rfl (eps_cons (ep_name (i := 2) nd rfl (by first | exact Or.inl rfl | exact Or.inr rfl)) (eps_cons (ep_name (i := 3) nd rfl (by first | exact Or.inl rfl | exact Or.inr rfl)) eps_nil)))))
  (ss_cons (es_set (i := 4) nd rfl (by first | exact Or.inl rfl | exact Or.inr rfl) (ee_call (ok__law_pick T) (hr.mono (by decide)) (by rfl) T.g__law_pick T.kp__law_pick T.b__law_pick (ea_cons (ee_var (pv 0)) (ea_cons (ee_lst (ea_cons ee_int (ea_cons ee_int (ea_cons ee_int (ea_cons ee_int (ea_cons ee_int (ea_cons ee_int (ea_cons ee_int ea_nil)))))))) ea_nil))))
  (ss_cons (es_set (i := 5) nd rfl (by first | exact Or.inl rfl | exact Or.inr rfl) (ee_mt PySem.F.plainAttrs_str PySem.F.slot_str_join PySem.F.type_str_join mu_join ee_str (ea_cons (ee_lc (own := [("_law_k", 8)]) rfl nd (ei_range1 (by rfl) T.n_range (ea_cons (ee_call (ok__law_pick T) (hr.mono (by decide)) (by rfl) T.g__law_pick T.kp__law_pick T.b__law_pick (ea_cons (ee_var (pv 0)) (ea_cons (ee_lst (ea_cons ee_int (ea_cons ee_int (ea_cons ee_int (ea_cons ee_int (ea_cons ee_int (ea_cons ee_int ea_nil))))))) ea_nil))) ea_nil)) (blkOk_by (own := [("_law_k", 8)]) (N := N__law_names) (sc := defScope st__law_names) (by decide +kernel)) (fun _ _ _ _ _ => (ep_name (i := 8) nd rfl (by first | exact Or.inl rfl | exact Or.inr rfl))) (fun _ _ _ _ _ => ets_nil) (fun _ _ _ _ _ => (ee_call (ok__law_pick T) (hr.mono (by decide)) (by rfl) T.g__law_pick T.kp__law_pick T.b__law_pick (ea_cons (ee_var (pv 0)) (ea_cons (ee_var (pv 2)) ea_nil)))) (by decide)) ea_nil)))
  (ss_cons (es_set (i := 6) nd rfl (by first | exact Or.inl rfl | exact Or.inr rfl) (ee_call (ok__law_take T) (hr.mono (by decide)) (by rfl) T.g__law_take T.kp__law_take T.b__law_take (ea_cons (ee_var (pv 0)) (ea_cons (ee_op (ou_addA false) (ee_callB cu_len (by rfl) T.n_len (by decide +kernel) (ea_cons (ee_var (pv 5)) ea_nil)) ee_int) ea_nil))))
  (ss_cons (es_set (i := 7) nd rfl (by first | exact Or.inl rfl | exact Or.inr rfl) (ee_lstM ea_nil))
  (ss_cons (es_for PassesOwn.never rfl (ei_range1 (by rfl) T.n_range (ea_cons (ee_var (pv 1)) ea_nil)) (ep_name (i := 8) nd rfl (by first | exact Or.inl rfl | exact Or.inr rfl)) (ss_cons (es_set (i := 9) nd rfl (by first | exact Or.inl rfl | exact Or.inr rfl) (ee_ix (ee_var (pv 2)) (ee_op ou_mod (ee_op (ou_addA false) (ee_var (pv 3)) (ee_op ou_mul (ee_var (pv 4)) (ee_var (pv 8)))) ee_int)))
  (ss_one (es_expr (ee_mt PySem.F.plainAttrs_list PySem.F.slot_list_append PySem.F.type_list_append mu_append (ee_var (pv 7)) (ea_cons (ee_op (ou_addA false) (ee_op (ou_addA false) (ee_slice false (ee_var (pv 5)) eo_none (eo_some (ee_var (pv 6)))) (ee_var (pv 9))) (ee_slice false (ee_var (pv 5)) (eo_some (ee_var (pv 6))) eo_none)) ea_nil))))))
  (ss_cons (es_if (et_cmp (ou_eq hr.units) (ee_call (ok__law_take T) (hr.mono (by decide)) (by rfl) T.g__law_take T.kp__law_take T.b__law_take (ea_cons (ee_var (pv 0)) (ea_cons ee_int ea_nil))) ee_int (nomark _)) (ss_cons (es_set (i := 10) nd rfl (by first | exact Or.inl rfl | exact Or.inr rfl) (ee_lst (ea_cons ee_str (ea_cons ee_str (ea_cons ee_str (ea_cons ee_str (ea_cons ee_str (ea_cons ee_str (ea_cons ee_str (ea_cons ee_str ea_nil))))))))))
  (ss_one (es_set (i := 7) nd rfl (by first | exact Or.inl rfl | exact Or.inr rfl) (ee_slice true (ee_op (ou_addA false) (ee_lc (own := [("_law_word", 11)]) rfl nd (ei_seq (ee_var (pv 10))) (blkOk_by (own := [("_law_word", 11)]) (N := N__law_names) (sc := defScope st__law_names) (by decide +kernel)) (fun _ _ _ _ _ => (ep_name (i := 11) nd rfl (by first | exact Or.inl rfl | exact Or.inr rfl))) (fun _ _ _ _ _ => (ets_one (et_cmp (ou_notin (hu_of hr)) (ee_var (pv 11)) (ee_var (pv 7)) (by rfl)))) (fun _ _ _ _ _ => (ee_var (pv 11))) (by decide)) (ee_var (pv 7))) eo_none (eo_some (ee_var (pv 1))))))) ss_nil)
  (ss_one (es_ret (ee_var (pv 7)))))))))))
theorem ok__law_goals (T : Top K w mg ad fd) : FnOk P w K mg base CX0 3 ad.f__law_goals fd._law_goals ["_law_hand_here", "_law_many", "_law_stray"] (spU K (gx ad) F__law_goals) := by
  have nd := sc__law_goals.nd
  unfold F__law_goals
  refine fn_ok (k := 2) (s := c__law_goals) (np := 3) (n := 9) rfl rfl T.F__law_goals sc__law_goals (fun cdv A outer s0 H E hr => ?_)
  exact (ss_cons (by first | exact es_setLc (i := 3) (own := [("_law_k", 4)]) rfl nd rfl rfl (sw_true rfl rfl rfl (by decide +kernel)) (ei_range1 (by rfl) T.n_range (ea_cons (ee_var (pv 1)) ea_nil)) (blkOk_by (own := [("_law_k", 4)]) (N := N__law_goals) (sc := defScope st__law_goals) (by decide +kernel)) (fun _ _ _ _ _ => (ep_name (i := 4) nd rfl (by first | exact Or.inl rfl | exact Or.inr rfl))) (fun _ _ _ _ _ => ets_nil) (fun _ _ _ _ _ => (ee_lstM ea_nil)) (by decide) | exact es_set (i := 3) nd rfl (by first | exact Or.inl rfl | exact Or.inr rfl) (ee_lc (own := [("_law_k", 4)]) rfl nd (ei_range1 (by rfl) T.n_range (ea_cons (ee_var (pv 1)) ea_nil)) (blkOk_by (own := [("_law_k", 4)]) (N := N__law_goals) (sc := defScope st__law_goals) (by decide +kernel)) (fun _ _ _ _ _ => (ep_name (i := 4) nd rfl (by first | exact Or.inl rfl | exact Or.inr rfl))) (fun _ _ _ _ _ => ets_nil) (fun _ _ _ _ _ => (ee_lstM ea_nil)) (by decide)))
  (ss_cons (es_for PassesOwn.never rfl (ei_range2 (by rfl) T.n_range (ea_cons ee_int (ea_cons (ee_var (pv 1)) ea_nil))) (ep_name (i := 4) nd rfl (by first | exact Or.inl rfl | exact Or.inr rfl)) (ss_cons (by first | exact es_setLc (i := 5) (own := [("_law_one", 8)]) rfl nd rfl rfl (sw_true rfl rfl rfl (by decide +kernel)) (ei_range1 (by rfl) T.n_range (ea_cons (ee_var (pv 4)) ea_nil)) (blkOk_by (own := [("_law_one", 8)]) (N := N__law_goals) (sc := defScope st__law_goals) (by decide +kernel)) (fun _ _ _ _ _ => (ep_name (i := 8) nd rfl (by first | exact Or.inl rfl | exact Or.inr rfl))) (fun _ _ _ _ _ => (ets_one (et_cmp ou_lt (ee_callB cu_len (by rfl) T.n_len (by decide +kernel) (ea_cons (ee_ix (ee_var (pv 3)) (ee_var (pv 8))) ea_nil)) ee_int (nomark _)))) (fun _ _ _ _ _ => (ee_var (pv 8))) (by decide) | exact es_set (i := 5) nd rfl (by first | exact Or.inl rfl | exact Or.inr rfl) (ee_lc (own := [("_law_one", 8)]) rfl nd (ei_range1 (by rfl) T.n_range (ea_cons (ee_var (pv 4)) ea_nil)) (blkOk_by (own := [("_law_one", 8)]) (N := N__law_goals) (sc := defScope st__law_goals) (by decide +kernel)) (fun _ _ _ _ _ => (ep_name (i := 8) nd rfl (by first | exact Or.inl rfl | exact Or.inr rfl))) (fun _ _ _ _ _ => (ets_one (et_cmp ou_lt (ee_callB cu_len (by rfl) T.n_len (by decide +kernel) (ea_cons (ee_ix (ee_var (pv 3)) (ee_var (pv 8))) ea_nil)) ee_int (nomark _)))) (fun _ _ _ _ _ => (ee_var (pv 8))) (by decide)))
  (ss_one (es_if (et_w (ew_or (et_cmp ou_gt (ee_call (ok__law_take T) (hr.mono (by decide)) (by rfl) T.g__law_take T.kp__law_take T.b__law_take (ea_cons (ee_var (pv 0)) (ea_cons ee_int ea_nil))) ee_int (nomark _)) (ew_or1 (et_not (et_tru (ee_var (pv 2))))))) (ss_one (es_expr (ee_mt PySem.F.plainAttrs_list PySem.F.slot_list_append PySem.F.type_list_append mu_append (ee_ix (ee_var (pv 3)) (ee_call (ok__law_pick T) (hr.mono (by decide)) (by rfl) T.g__law_pick T.kp__law_pick T.b__law_pick (ea_cons (ee_var (pv 0)) (ea_cons (ee_op (ou_addA false) (ee_slice false (ee_var (pv 5)) (eo_some (ee_un uu_neg ee_int)) eo_none) (ee_var (pv 5))) ea_nil)))) (ea_cons (ee_var (pv 4)) ea_nil)))) ss_nil))))
  (ss_cons (es_for PassesOwn.never rfl (ei_seq (ee_op (ou_rep false) (ee_lrg true rfl (by rfl) T.n_list (by rfl) T.n_range (ee_var (pv 1))) ee_int)) (ep_name (i := 4) nd rfl (by first | exact Or.inl rfl | exact Or.inr rfl)) (ss_cons (es_set (i := 6) nd rfl (by first | exact Or.inl rfl | exact Or.inr rfl) (ee_call (ok__law_take T) (hr.mono (by decide)) (by rfl) T.g__law_take T.kp__law_take T.b__law_take (ea_cons (ee_var (pv 0)) (ea_cons ee_int ea_nil))))
  (ss_cons (es_set (i := 7) nd rfl (by first | exact Or.inl rfl | exact Or.inr rfl) (ee_ix (ee_lst (ea_cons (ee_call (ok__law_take T) (hr.mono (by decide)) (by rfl) T.g__law_take T.kp__law_take T.b__law_take (ea_cons (ee_var (pv 0)) (ea_cons (ee_var (pv 1)) ea_nil))) (ea_cons ee_int (ea_cons (ee_var (pv 4)) (ea_cons (ee_call (ok__law_take T) (hr.mono (by decide)) (by rfl) T.g__law_take T.kp__law_take T.b__law_take (ea_cons (ee_var (pv 0)) (ea_cons (ee_var (pv 1)) ea_nil))) (ea_cons (ee_call (ok__law_take T) (hr.mono (by decide)) (by rfl) T.g__law_take T.kp__law_take T.b__law_take (ea_cons (ee_var (pv 0)) (ea_cons (ee_op (ou_addA false) (ee_var (pv 4)) ee_int) ea_nil))) ea_nil)))))) (ee_var (pv 6))))
  (ss_one (es_if (et_w (ew_and (et_cmp ou_lt (ee_callB cu_len (by rfl) T.n_len (by decide +kernel) (ea_cons (ee_ix (ee_var (pv 3)) (ee_var (pv 4))) ea_nil)) ee_int (nomark _)) (ew_and (et_cmp (ou_notin (hu_of hr)) (ee_var (pv 7)) (ee_ix (ee_var (pv 3)) (ee_var (pv 4))) (by rfl)) (ew_and1 (et_cmp ou_gt (ee_call (ok__law_take T) (hr.mono (by decide)) (by rfl) T.g__law_take T.kp__law_take T.b__law_take (ea_cons (ee_var (pv 0)) (ea_cons ee_int ea_nil))) ee_int (nomark _)))))) (ss_one (es_expr (ee_mt PySem.F.plainAttrs_list PySem.F.slot_list_insert PySem.F.type_list_insert mu_insert (ee_ix (ee_var (pv 3)) (ee_var (pv 4))) (ea_cons (ee_call (ok__law_take T) (hr.mono (by decide)) (by rfl) T.g__law_take T.kp__law_take T.b__law_take (ea_cons (ee_var (pv 0)) (ea_cons (ee_op (ou_addA false) (ee_callB cu_len (by rfl) T.n_len (by decide +kernel) (ea_cons (ee_ix (ee_var (pv 3)) (ee_var (pv 4))) ea_nil)) ee_int) ea_nil))) (ea_cons (ee_var (pv 7)) ea_nil))))) ss_nil)))))
  (ss_one (es_ret (ee_var (pv 3)))))))
theorem ok__law_row (T : Top K w mg ad fd) : FnOk P w K mg base CX0 3 ad.f__law_row fd._law_row ["_law_hand_here", "_law_number", "_law_names_here"] (spU K (gx ad) F__law_row) := by
  have nd := sc__law_row.nd
  unfold F__law_row
  refine fn_ok (k := 2) (s := c__law_row) (np := 3) (n := 8) rfl rfl T.F__law_row sc__law_row (fun cdv A outer s0 H E hr => ?_)
  exact (ss_cons (es_set (i := 3) nd rfl (by first | exact Or.inl rfl | exact Or.inr rfl) (ee_lst (ea_cons ee_str (ea_cons ee_str (ea_cons ee_str (ea_cons ee_str (ea_cons ee_str (ea_cons ee_str (ea_cons ee_str (ea_cons ee_str (ea_cons ee_str (ea_cons ee_str ea_nil))))))))))))
  (ss_cons (es_set (i := 4) nd rfl (by first | exact Or.inl rfl | exact Or.inr rfl) (ee_call (ok__law_pick T) (hr.mono (by decide)) (by rfl) T.g__law_pick T.kp__law_pick T.b__law_pick (ea_cons (ee_var (pv 0)) (ea_cons (ee_op (ou_addA false) (ee_var (pv 3)) (ee_lst (ea_cons ee_str (ea_cons ee_str ea_nil)))) ea_nil))))
  (ss_cons (es_par3 rfl nd rfl rfl rfl (by decide) (by decide) (by decide) rfl rfl rfl (ea_cons (ee_call (ok__law_pick T) (hr.mono (by decide)) (by rfl) T.g__law_pick T.kp__law_pick T.b__law_pick (ea_cons (ee_var (pv 0)) (ea_cons (ee_var (pv 2)) ea_nil))) (ea_cons (ee_call (ok__law_pick T) (hr.mono (by decide)) (by rfl) T.g__law_pick T.kp__law_pick T.b__law_pick (ea_cons (ee_var (pv 0)) (ea_cons (ee_var (pv 2)) ea_nil))) (ea_cons (ee_call (ok__law_pick T) (hr.mono (by decide)) (by rfl) T.g__law_pick T.kp__law_pick T.b__law_pick (ea_cons (ee_var (pv 0)) (ea_cons (ee_var (pv 2)) ea_nil))) ea_nil))) (by rfl))
  (ss_cons (es_if (et_cmp (ou_eq hr.units) (ee_var (pv 4)) ee_str (nomark _)) (ss_one (es_ret (ee_tup (ea_cons (ee_var (pv 1)) (ea_cons (ee_var (pv 4)) (ea_cons (ee_var (pv 5)) (ea_cons (ee_call (ok__law_pick T) (hr.mono (by decide)) (by rfl) T.g__law_pick T.kp__law_pick T.b__law_pick (ea_cons (ee_var (pv 0)) (ea_cons (ee_lst (ea_cons ee_int (ea_cons ee_int (ea_cons ee_int (ea_cons ee_int (ea_cons ee_int (ea_cons (ee_call (ok__law_take T) (hr.mono (by decide)) (by rfl) T.g__law_take T.kp__law_take T.b__law_take (ea_cons (ee_var (pv 0)) (ea_cons ee_int ea_nil))) ea_nil))))))) ea_nil))) ea_nil))))))) ss_nil)
  (ss_cons (es_if (et_cmp (ou_in (hu_of hr)) (ee_var (pv 4)) (ee_tup (ea_cons ee_str (ea_cons ee_str ea_nil))) (by rfl)) (ss_one (es_ret (ee_tup (ea_cons (ee_var (pv 1)) (ea_cons (ee_var (pv 4)) (ea_cons (ee_var (pv 5)) ea_nil)))))) ss_nil)
  (ss_one (es_ret (ee_if (et_cmp (ou_eq hr.units) (ee_var (pv 4)) ee_str (nomark _)) (ee_tup (ea_cons (ee_var (pv 1)) (ea_cons (ee_var (pv 4)) (ea_cons (ee_var (pv 5)) (ea_cons (ee_var (pv 6)) ea_nil))))) (ee_tup (ea_cons (ee_var (pv 1)) (ea_cons (ee_var (pv 4)) (ea_cons (ee_var (pv 5)) (ea_cons (ee_var (pv 6)) (ea_cons (ee_var (pv 7)) ea_nil))))))))))))))
theorem ok__law_program (T : Top K w mg ad fd) : FnOk P w K mg base CX0 4 ad.f__law_program fd._law_program ["_law_hand_here", "_law_few", "_law_wide", "_law_size"] (spU K (gx ad) F__law_program) := by
  have nd := sc__law_program.nd
  unfold F__law_program
  refine fn_ok (k := 3) (s := c__law_program) (np := 4) (n := 21) rfl rfl T.F__law_program sc__law_program (fun cdv A outer s0 H E hr => ?_)
  exact (ss_cons (es_set (i := 4) nd rfl (by first | exact Or.inl rfl | exact Or.inr rfl) (ee_op (ou_addA false) ee_int (ee_call (ok__law_take T) (hr.mono (by decide)) (by rfl) T.g__law_take T.kp__law_take T.b__law_take (ea_cons (ee_var (pv 0)) (ea_cons (ee_var (pv 1)) ea_nil)))))
  (ss_cons (es_if (et_cmp (ou_eq hr.units) (ee_call (ok__law_take T) (hr.mono (by decide)) (by rfl) T.g__law_take T.kp__law_take T.b__law_take (ea_cons (ee_var (pv 0)) (ea_cons ee_int ea_nil))) ee_int (nomark _)) (ss_one (es_set (i := 4) nd rfl (by first | exact Or.inl rfl | exact Or.inr rfl) (ee_op (ou_addA false) ee_int (ee_call (ok__law_take T) (hr.mono (by decide)) (by rfl) T.g__law_take T.kp__law_take T.b__law_take (ea_cons (ee_var (pv 0)) (ea_cons (ee_var (pv 2)) ea_nil)))))) ss_nil)
  (ss_cons (es_set (i := 5) nd rfl (by first | exact Or.inl rfl | exact Or.inr rfl) (ee_if (et_w (ew_and (et_cmp ou_lt (ee_var (pv 4)) ee_int (nomark _)) (ew_and1 (et_cmp (ou_eq hr.units) (ee_call (ok__law_take T) (hr.mono (by decide)) (by rfl) T.g__law_take T.kp__law_take T.b__law_take (ea_cons (ee_var (pv 0)) (ea_cons ee_int ea_nil))) ee_int (nomark _))))) ee_int ee_int))
  (ss_cons (es_asg (ee_tup (ea_cons (ee_call (ok__law_names T) (hr.mono (by decide)) (by rfl) T.g__law_names T.kp__law_names T.b__law_names (ea_cons (ee_var (pv 0)) (ea_cons (ee_var (pv 4)) ea_nil))) (ea_cons (ee_call (ok__law_names T) (hr.mono (by decide)) (by rfl) T.g__law_names T.kp__law_names T.b__law_names (ea_cons (ee_var (pv 0)) (ea_cons (ee_op (ou_addA false) ee_int (ee_call (ok__law_take T) (hr.mono (by decide)) (by rfl) T.g__law_take T.kp__law_take T.b__law_take (ea_cons (ee_var (pv 0)) (ea_cons (ee_var (pv 5)) ea_nil)))) ea_nil))) ea_nil))) (eg_pat (ep_tup rfl (eps_cons (ep_name (i := 6) nd rfl (by first | exact Or.inl rfl | exact Or.inr rfl)) (eps_cons (ep_name (i := 7) nd rfl (by first | exact Or.inl rfl | exact Or.inr rfl)) eps_nil)))))
  (ss_cons (es_par3 rfl nd rfl rfl rfl (by decide) (by decide) (by decide) rfl rfl rfl (ea_cons (ee_call (ok__law_take T) (hr.mono (by decide)) (by rfl) T.g__law_take T.kp__law_take T.b__law_take (ea_cons (ee_var (pv 0)) (ea_cons ee_int ea_nil))) (ea_cons (ee_call (ok__law_pick T) (hr.mono (by decide)) (by rfl) T.g__law_pick T.kp__law_pick T.b__law_pick (ea_cons (ee_var (pv 0)) (ea_cons (ee_lst (ea_cons ee_int (ea_cons ee_int (ea_cons ee_int (ea_cons ee_int (ea_cons ee_int ea_nil)))))) ea_nil))) (ea_cons (ee_call (ok__law_pick T) (hr.mono (by decide)) (by rfl) T.g__law_pick T.kp__law_pick T.b__law_pick (ea_cons (ee_var (pv 0)) (ea_cons (ee_lst (ea_cons ee_int (ea_cons ee_int (ea_cons ee_int (ea_cons ee_int ea_nil))))) ea_nil))) ea_nil))) (by rfl))
  (ss_cons (es_par3 rfl nd rfl rfl rfl (by decide) (by decide) (by decide) rfl rfl rfl (ea_cons (ee_call (ok__law_goals T) (hr.mono (by decide)) (by rfl) T.g__law_goals T.kp__law_goals T.b__law_goals (ea_cons (ee_var (pv 0)) (ea_cons (ee_var (pv 4)) (ea_cons (ee_cmp (ou_eq hr.units) (ee_call (ok__law_take T) (hr.mono (by decide)) (by rfl) T.g__law_take T.kp__law_take T.b__law_take (ea_cons (ee_var (pv 0)) (ea_cons ee_int ea_nil))) ee_int (nomark _)) ea_nil)))) (ea_cons (ee_lstM ea_nil) (ea_cons ee_int ea_nil))) (by rfl))
  (ss_cons (es_for PassesOwn.never rfl (ei_range1 (by rfl) T.n_range (ea_cons (ee_var (pv 4)) ea_nil)) (ep_name (i := 14) nd rfl (by first | exact Or.inl rfl | exact Or.inr rfl)) (ss_cons (es_set (i := 15) nd rfl (by first | exact Or.inl rfl | exact Or.inr rfl) (ee_lstM ea_nil))
  (ss_cons (es_for PassesOwn.never rfl (ei_range1 (by rfl) T.n_range (ea_cons (ee_callB (cu_min rfl) (by rfl) T.n_min (by decide +kernel) (ea_cons (ee_call (ok__law_take T) (hr.mono (by decide)) (by rfl) T.g__law_take T.kp__law_take T.b__law_take (ea_cons (ee_var (pv 0)) (ea_cons (ee_op (ou_addA false) (ee_var (pv 3)) ee_int) ea_nil))) (ea_cons (ee_op ou_sub ee_int (ee_var (pv 13))) ea_nil))) ea_nil)) (ep_name (i := 16) nd rfl (by first | exact Or.inl rfl | exact Or.inr rfl)) (ss_cons (es_set (i := 17) nd rfl (by first | exact Or.inl rfl | exact Or.inr rfl) (ee_op (ou_addA false) ee_int (ee_op ou_mod (ee_op (ou_addA false) (ee_var (pv 8)) (ee_op ou_mul (ee_var (pv 9)) (ee_op ou_mod (ee_op ou_mul (ee_var (pv 13)) (ee_var (pv 10))) ee_int))) ee_int)))
  (ss_cons (es_expr (ee_mt PySem.F.plainAttrs_list PySem.F.slot_list_append PySem.F.type_list_append mu_append (ee_var (pv 15)) (ea_cons (ee_call (ok__law_row T) (hr.mono (by decide)) (by rfl) T.g__law_row T.kp__law_row T.b__law_row (ea_cons (ee_var (pv 0)) (ea_cons (ee_var (pv 17)) (ea_cons (ee_var (pv 7)) ea_nil)))) ea_nil)))
  (ss_one (es_set (i := 13) nd rfl (by first | exact Or.inl rfl | exact Or.inr rfl) (ee_op (ou_addA false) (ee_var (pv 13)) ee_int))))))
  (ss_cons (es_set (i := 18) nd rfl (by first | exact Or.inl rfl | exact Or.inr rfl) (ee_callTy cu_tuple (by rfl) T.n_tuple (by decide +kernel) (ea_cons (ee_lcG (own := [("_law_goal", 20)]) rfl nd (ei_any (ee_ix (ee_var (pv 11)) (ee_var (pv 14)))) (blkOk_by (own := [("_law_goal", 20)]) (N := N__law_program) (sc := defScope st__law_program) (by decide +kernel)) (fun _ _ _ _ _ => (ep_name (i := 20) nd rfl (by first | exact Or.inl rfl | exact Or.inr rfl))) (fun _ _ _ _ _ => ets_nil) (fun _ _ _ _ _ => (ee_ix (ee_var (pv 6)) (ee_var (pv 20)))) (by decide)) ea_nil)))
  (ss_cons (es_set (i := 19) nd rfl (by first | exact Or.inl rfl | exact Or.inr rfl) (ee_ix (ee_lst (ea_cons (ee_tup (ea_cons ee_str ea_nil)) (ea_cons (ee_op (ou_addA false) (ee_tup (ea_cons ee_str ea_nil)) (ee_var (pv 18))) (ea_cons (ee_op (ou_addA false) (ee_tup (ea_cons ee_str (ea_cons (ee_call (ok__law_pick T) (hr.mono (by decide)) (by rfl) T.g__law_pick T.kp__law_pick T.b__law_pick (ea_cons (ee_var (pv 0)) (ea_cons (ee_var (pv 7)) ea_nil))) ea_nil))) (ee_var (pv 18))) ea_nil)))) (ee_callB cu_len (by rfl) T.n_len (by decide +kernel) (ea_cons (ee_var (pv 18)) ea_nil))))
  (ss_one (es_expr (ee_mt PySem.F.plainAttrs_list PySem.F.slot_list_append PySem.F.type_list_append mu_append (ee_var (pv 12)) (ea_cons (ee_tup (ea_cons (ee_ix (ee_var (pv 6)) (ee_var (pv 14))) (ea_cons (ee_callTy cu_tuple (by rfl) T.n_tuple (by decide +kernel) (ea_cons (ee_var (pv 15)) ea_nil)) (ea_cons (ee_var (pv 19)) ea_nil)))) ea_nil)))))))))
  (ss_cons (es_if (et_cmp (ou_eq hr.units) (ee_call (ok__law_take T) (hr.mono (by decide)) (by rfl) T.g__law_take T.kp__law_take T.b__law_take (ea_cons (ee_var (pv 0)) (ea_cons ee_int ea_nil))) ee_int (nomark _)) (ss_one (es_set (i := 12) nd rfl (by first | exact Or.inl rfl | exact Or.inr rfl) (ee_op (ou_addA true) (ee_slice false (ee_var (pv 12)) eo_none (eo_some ee_int)) (ee_rev false (ee_slice false (ee_var (pv 12)) (eo_some ee_int) eo_none))))) ss_nil)
  (ss_one (es_ret (ee_callTy cu_tuple (by rfl) T.n_tuple (by decide +kernel) (ea_cons (ee_var (pv 12)) ea_nil))))))))))))
theorem ok__law_called (T : Top K w mg ad fd) : FnOk P w K mg base CX0 4 ad.f__law_called fd._law_called ["_law_hand_here", "_law_some"] (spU K (gx ad) F__law_called) := by
  have nd := sc__law_called.nd
  unfold F__law_called
  refine fn_ok (k := 3) (s := c__law_called) (np := 2) (n := 4) rfl rfl T.F__law_called sc__law_called (fun cdv A outer s0 H E hr => ?_)
  exact (ss_cons (es_set (i := 2) nd rfl (by first | exact Or.inl rfl | exact Or.inr rfl) (ee_call (ok__law_names T) (hr.mono (by decide)) (by rfl) T.g__law_names T.kp__law_names T.b__law_names (ea_cons (ee_var (pv 0)) (ea_cons (ee_op (ou_addA false) (ee_callB cu_len (by rfl) T.n_len (by decide +kernel) (ea_cons (ee_var (pv 1)) ea_nil)) ee_int) ea_nil))))
  (ss_cons (es_set (i := 3) nd rfl (by first | exact Or.inl rfl | exact Or.inr rfl) (ee_call (ok__law_take T) (hr.mono (by decide)) (by rfl) T.g__law_take T.kp__law_take T.b__law_take (ea_cons (ee_var (pv 0)) (ea_cons ee_int ea_nil))))
  (ss_one (es_ret (ee_dz false rfl (by rfl) T.n_dict (by rfl) T.n_zip (ea_cons (ee_var (pv 1)) (ea_cons (ee_op (ou_addA false) (ee_slice false (ee_var (pv 2)) (eo_some (ee_var (pv 3))) eo_none) (ee_slice false (ee_var (pv 2)) eo_none (eo_some (ee_var (pv 3))))) ea_nil)))))))
theorem ok_said_in (T : Top K w mg ad fd) : FnOk P w K mg base CX0 1 ad.f_said_in fd.said_in ["program", "trace"] (spU K (gx ad) (liftP P_said_in)) := by
  have nd := sc_said_in.nd
  unfold P_said_in
  refine fn_pure (fn_ok (k := 0) (s := c_said_in) (np := 2) (n := 10) rfl rfl T.F_said_in sc_said_in (fun cdv A outer s0 H E hr => ?_))
  exact (ss_cons (by first | exact es_setD2 (i := 2) (c := ⟨(itAny (cVar 0)), (.tp [(.nm 3), (.nm 4), (.nm 5)]), cYes, [3, 4, 5, 6]⟩) (c1 := ⟨(itAny (cVar 4)), (.nm 6), (cTru (cBin (eqU false) (cBin ixU (cVar 6) (cCst (.int 1))) (cCst (.str "say")))), [6]⟩) false rfl nd rfl rfl (sw_trueD rfl rfl rfl (by decide +kernel)) (ei_anyK (ee_var (pv 0))) (blkOk_by (own := [("name", 3), ("rows", 4), ("end", 5), ("row", 6)]) (N := N_said_in) (sc := defScope st_said_in) (by decide +kernel)) rfl (fun _ _ _ _ _ => (ep_tup rfl (eps_cons (ep_name (i := 3) nd rfl (by first | exact Or.inl rfl | exact Or.inr rfl)) (eps_cons (ep_name (i := 4) nd rfl (by first | exact Or.inl rfl | exact Or.inr rfl)) (eps_cons (ep_name (i := 5) nd rfl (by first | exact Or.inl rfl | exact Or.inr rfl)) eps_nil))))) (fun _ _ _ _ _ => ets_nil) (fun _ _ _ _ _ => (ei_anyK (ee_var (pv 4)))) (fun _ _ _ _ _ => (ep_name (i := 6) nd rfl (by first | exact Or.inl rfl | exact Or.inr rfl))) (fun _ _ _ _ _ => (ets_one (et_cmp (ou_eq hr.units) (ee_ix (ee_var (pv 6)) ee_int) ee_str (nomark _)))) (fun _ _ _ _ _ => (ee_ix (ee_var (pv 6)) ee_int)) (fun _ _ _ _ _ => ee_bl) (by decide) (by decide) (by decide) | exact es_set (i := 2) nd rfl (by first | exact Or.inl rfl | exact Or.inr rfl) (ee_dc2 (c := ⟨(itAny (cVar 0)), (.tp [(.nm 3), (.nm 4), (.nm 5)]), cYes, [3, 4, 5, 6]⟩) (c1 := ⟨(itAny (cVar 4)), (.nm 6), (cTru (cBin (eqU false) (cBin ixU (cVar 6) (cCst (.int 1))) (cCst (.str "say")))), [6]⟩) false rfl nd (ei_anyK (ee_var (pv 0))) (blkOk_by (own := [("name", 3), ("rows", 4), ("end", 5), ("row", 6)]) (N := N_said_in) (sc := defScope st_said_in) (by decide +kernel)) rfl (fun _ _ _ _ _ => (ep_tup rfl (eps_cons (ep_name (i := 3) nd rfl (by first | exact Or.inl rfl | exact Or.inr rfl)) (eps_cons (ep_name (i := 4) nd rfl (by first | exact Or.inl rfl | exact Or.inr rfl)) (eps_cons (ep_name (i := 5) nd rfl (by first | exact Or.inl rfl | exact Or.inr rfl)) eps_nil))))) (fun _ _ _ _ _ => ets_nil) (fun _ _ _ _ _ => (ei_anyK (ee_var (pv 4)))) (fun _ _ _ _ _ => (ep_name (i := 6) nd rfl (by first | exact Or.inl rfl | exact Or.inr rfl))) (fun _ _ _ _ _ => (ets_one (et_cmp (ou_eq hr.units) (ee_ix (ee_var (pv 6)) ee_int) ee_str (nomark _)))) (fun _ _ _ _ _ => (ee_ix (ee_var (pv 6)) ee_int)) (fun _ _ _ _ _ => ee_bl) (by decide) (by decide) (by decide)))
  (ss_one (es_ret (ee_callTy cu_tuple (by rfl) T.n_tuple (by decide +kernel) (ea_cons (ee_lc (own := [("place", 7), ("asked", 8), ("given", 9)]) rfl nd (ei_seq (ee_var (pv 1))) (blkOk_by (own := [("place", 7), ("asked", 8), ("given", 9)]) (N := N_said_in) (sc := defScope st_said_in) (by decide +kernel)) (fun _ _ _ _ _ => (ep_tup rfl (eps_cons (ep_name (i := 7) nd rfl (by first | exact Or.inl rfl | exact Or.inr rfl)) (eps_cons (ep_name (i := 8) nd rfl (by first | exact Or.inl rfl | exact Or.inr rfl)) (eps_cons (ep_name (i := 9) nd rfl (by first | exact Or.inl rfl | exact Or.inr rfl)) eps_nil))))) (fun _ _ _ _ _ => (ets_one (et_cmp (ou_in (hu_of hr)) (ee_var (pv 7)) (ee_var (pv 2)) (by rfl)))) (fun _ _ _ _ _ => (ee_ix (ee_var (pv 8)) ee_int)) (by decide)) ea_nil)))))
theorem ok__law_trace_called (T : Top K w mg ad fd) : FnOk P w K mg base CX0 1 ad.f__law_trace_called fd._law_trace_called ["_law_trace", "_law_blocks", "_law_numbers"] (spU K (gx ad) (liftP P__law_trace_called)) := by
  have nd := sc__law_trace_called.nd
  unfold P__law_trace_called
  refine fn_pure (fn_ok (k := 0) (s := c__law_trace_called) (np := 3) (n := 7) rfl rfl T.F__law_trace_called sc__law_trace_called (fun cdv A outer s0 H E hr => ?_))
  exact (ss_cons (es_set (i := 3) nd rfl (by first | exact Or.inl rfl | exact Or.inr rfl) (ee_lstM ea_nil))
  (ss_cons (es_for PassesOwn.never rfl (ei_seq (ee_var (pv 0))) (ep_tup rfl (eps_cons (ep_name (i := 4) nd rfl (by first | exact Or.inl rfl | exact Or.inr rfl)) (eps_cons (ep_name (i := 5) nd rfl (by first | exact Or.inl rfl | exact Or.inr rfl)) (eps_cons (ep_name (i := 6) nd rfl (by first | exact Or.inl rfl | exact Or.inr rfl)) eps_nil)))) (ss_one (es_expr (ee_mt PySem.F.plainAttrs_list PySem.F.slot_list_append PySem.F.type_list_append mu_append (ee_var (pv 3)) (ea_cons (ee_tup (ea_cons (ee_if (et_tru (ee_isi (T := "str") (by rfl) T.n_isinstance (by rfl) T.n_str (by decide +kernel) (ee_var (pv 4)))) (ee_dix (hu_of hr) (ee_var (pv 1)) (ee_var (pv 4))) (ee_dix (hu_of hr) (ee_var (pv 2)) (ee_var (pv 4)))) (ea_cons (ee_var (pv 5)) (ea_cons (ee_var (pv 6)) ea_nil)))) ea_nil)))))
  (ss_one (es_ret (ee_callTy cu_tuple (by rfl) T.n_tuple (by decide +kernel) (ea_cons (ee_var (pv 3)) ea_nil))))))
theorem ok__law_ending_called (T : Top K w mg ad fd) : FnOk P w K mg base CX0 1 ad.f__law_ending_called fd._law_ending_called ["_law_ending", "_law_names_here", "_law_numbers"] (spU K (gx ad) (liftP P__law_ending_called)) := by
  have nd := sc__law_ending_called.nd
  unfold P__law_ending_called
  refine fn_pure (fn_ok (k := 0) (s := c__law_ending_called) (np := 3) (n := 3) rfl rfl T.F__law_ending_called sc__law_ending_called (fun cdv A outer s0 H E hr => ?_))
  exact (ss_cons (es_if (et_cmp (ou_eq hr.units) (ee_ix (ee_var (pv 0)) ee_int) ee_str (nomark _)) (ss_one (es_ret (ee_tup (ea_cons ee_str (ea_cons (ee_dix (hu_of hr) (ee_var (pv 1)) (ee_ix (ee_var (pv 0)) ee_int)) ea_nil))))) ss_nil)
  (ss_one (es_ret (ee_if (et_cmp ou_gt (ee_callB cu_len (by rfl) T.n_len (by decide +kernel) (ea_cons (ee_var (pv 0)) ea_nil)) ee_int (nomark _)) (ee_tup (ea_cons (ee_ix (ee_var (pv 0)) ee_int) (ea_cons (ee_dix (hu_of hr) (ee_var (pv 2)) (ee_ix (ee_var (pv 0)) ee_int)) ea_nil))) (ee_var (pv 0))))))
theorem ok_law (T : Top K w mg ad fd) : FnOk P w K mg base CX0 8 ad.f_law fd.law ["_law_script"] (spU K (gx ad) (liftP P_law)) := by
  have nd := sc_law.nd
  unfold P_law
  refine fn_pure (fn_ok (k := 7) (s := c_law) (np := 1) (n := 25) rfl rfl T.F_law sc_law (fun cdv A outer s0 H E hr => ?_))
  exact (ss_cons (es_for PassesOwn.never rfl (ei_range1 (by rfl) T.n_range (ea_cons (ee_callB (cu_max rfl) (by rfl) T.n_max (by decide +kernel) (ea_cons ee_int (ea_cons (ee_callB (cu_min rfl) (by rfl) T.n_min (by decide +kernel) (ea_cons (ee_callB cu_len (by rfl) T.n_len (by decide +kernel) (ea_cons (ee_var (pv 0)) ea_nil)) (ea_cons ee_int ea_nil))) ea_nil))) ea_nil)) (ep_name (i := 1) nd rfl (by first | exact Or.inl rfl | exact Or.inr rfl)) (ss_cons (es_set (i := 2) nd rfl (by first | exact Or.inl rfl | exact Or.inr rfl) (ee_call (ok__law_hand T) (hr.mono (by decide)) (by rfl) T.g__law_hand T.kp__law_hand T.b__law_hand (ea_cons (ee_var (pv 0)) (ea_cons (ee_var (pv 1)) ea_nil))))
  (ss_cons (es_par2 rfl nd rfl rfl (by decide) rfl rfl (ea_cons (ee_call (ok__law_program T) (hr.mono (by decide)) (by rfl) T.g__law_program T.kp__law_program T.b__law_program (ea_cons (ee_var (pv 2)) (ea_cons ee_int (ea_cons ee_int (ea_cons ee_int ea_nil))))) (ea_cons (ee_lc (own := [("_law_j", 23)]) rfl nd (ei_range1 (by rfl) T.n_range (ea_cons (ee_call (ok__law_take T) (hr.mono (by decide)) (by rfl) T.g__law_take T.kp__law_take T.b__law_take (ea_cons (ee_var (pv 2)) (ea_cons ee_int ea_nil))) ea_nil)) (blkOk_by (own := [("_law_j", 23)]) (N := N_law) (sc := defScope st_law) (by decide +kernel)) (fun _ _ _ _ _ => (ep_name (i := 23) nd rfl (by first | exact Or.inl rfl | exact Or.inr rfl))) (fun _ _ _ _ _ => ets_nil) (fun _ _ _ _ _ => (ee_op ou_sub (ee_call (ok__law_take T) (hr.mono (by decide)) (by rfl) T.g__law_take T.kp__law_take T.b__law_take (ea_cons (ee_var (pv 2)) (ea_cons ee_int ea_nil))) ee_int)) (by decide)) ea_nil)) (by rfl))
  (ss_cons (es_asg (ee_call (ok__law_parts_of T) (hr.mono (by decide)) (by rfl) T.g__law_parts_of T.kp__law_parts_of T.b__law_parts_of (ea_cons (ee_var (pv 3)) ea_nil)) (eg_pat (ep_tup rfl (eps_cons (ep_name (i := 5) nd rfl (by first | exact Or.inl rfl | exact Or.inr rfl)) (eps_cons (ep_name (i := 6) nd rfl (by first | exact Or.inl rfl | exact Or.inr rfl)) (eps_cons (ep_name (i := 7) nd rfl (by first | exact Or.inl rfl | exact Or.inr rfl)) eps_nil))))))
  (ss_cons (es_par2 rfl nd rfl rfl (by decide) rfl rfl (ea_cons (ee_call (ok__law_called T) (hr.mono (by decide)) (by rfl) T.g__law_called T.kp__law_called T.b__law_called (ea_cons (ee_var (pv 2)) (ea_cons (ee_var (pv 5)) ea_nil))) (ea_cons (ee_call (ok__law_called T) (hr.mono (by decide)) (by rfl) T.g__law_called T.kp__law_called T.b__law_called (ea_cons (ee_var (pv 2)) (ea_cons (ee_var (pv 6)) ea_nil))) ea_nil)) (by rfl))
  (ss_cons (es_asg (ee_tup (ea_cons (ee_call (ok__law_take T) (hr.mono (by decide)) (by rfl) T.g__law_take T.kp__law_take T.b__law_take (ea_cons (ee_var (pv 2)) (ea_cons ee_int ea_nil))) (ea_cons (ee_call (ok__law_pick T) (hr.mono (by decide)) (by rfl) T.g__law_pick T.kp__law_pick T.b__law_pick (ea_cons (ee_var (pv 2)) (ea_cons (ee_lst (ea_cons ee_int (ea_cons ee_int (ea_cons ee_int (ea_cons ee_int ea_nil))))) ea_nil))) ea_nil))) (eg_pat (ep_tup rfl (eps_cons (ep_name (i := 10) nd rfl (by first | exact Or.inl rfl | exact Or.inr rfl)) (eps_cons (ep_name (i := 11) nd rfl (by first | exact Or.inl rfl | exact Or.inr rfl)) eps_nil)))))
  (ss_cons (es_set (i := 12) nd rfl (by first | exact Or.inl rfl | exact Or.inr rfl) (ee_callTy (cu_dict false rfl) (by rfl) T.n_dict (by decide +kernel) (ea_cons (ee_lcE (own := [("_law_j", 23), ("_law_number", 24)]) rfl nd (ei_enumC (by rfl) T.n_enumerate (ea_cons (ee_var (pv 7)) ea_nil)) (blkOk_by (own := [("_law_j", 23), ("_law_number", 24)]) (N := N_law) (sc := defScope st_law) (by decide +kernel)) (fun _ _ _ _ _ => (ep_tup rfl (eps_cons (ep_name (i := 23) nd rfl (by first | exact Or.inl rfl | exact Or.inr rfl)) (eps_cons (ep_name (i := 24) nd rfl (by first | exact Or.inl rfl | exact Or.inr rfl)) eps_nil)))) (fun _ _ _ _ _ => ets_nil) (fun _ _ _ _ _ => (ee_tup (ea_cons (ee_var (pv 24)) (ea_cons (ee_op (ou_addA false) ee_int (ee_op ou_mod (ee_op (ou_addA false) (ee_var (pv 10)) (ee_op ou_mul (ee_var (pv 11)) (ee_var (pv 23)))) ee_int)) ea_nil)))) (by decide)) ea_nil)))
  (ss_cons (es_set (i := 13) nd rfl (by first | exact Or.inl rfl | exact Or.inr rfl) (ee_call (ok__law_otherwise T) (hr.mono (by decide)) (by rfl) T.g__law_otherwise T.kp__law_otherwise T.b__law_otherwise (ea_cons (ee_var (pv 3)) (ea_cons (ee_var (pv 8)) (ea_cons (ee_var (pv 9)) (ea_cons (ee_var (pv 12)) ea_nil))))))
  (ss_cons (es_set (i := 14) nd rfl (by first | exact Or.inl rfl | exact Or.inr rfl) (ee_op (ou_addA false) ee_int (ee_call (ok__law_take T) (hr.mono (by decide)) (by rfl) T.g__law_take T.kp__law_take T.b__law_take (ea_cons (ee_var (pv 2)) (ea_cons (ee_callB cu_len (by rfl) T.n_len (by decide +kernel) (ea_cons (ee_var (pv 13)) ea_nil)) ea_nil)))))
  (ss_cons (es_set (i := 13) nd rfl (by first | exact Or.inl rfl | exact Or.inr rfl) (ee_op (ou_addA false) (ee_op (ou_addA false) (ee_op (ou_addA false) (ee_slice false (ee_var (pv 13)) eo_none (eo_some ee_int)) (ee_slice false (ee_var (pv 13)) (eo_some (ee_var (pv 14))) eo_none)) (ee_slice false (ee_var (pv 13)) (eo_some ee_int) (eo_some (ee_var (pv 14))))) (ee_lst (ea_cons (ee_tup (ea_cons ee_str (ea_cons (ee_tup ea_nil) (ea_cons (ee_tup (ea_cons ee_str (ea_cons (ee_ix (ee_ix (ee_var (pv 13)) ee_int) ee_int) ea_nil))) ea_nil)))) ea_nil))))
  (ss_cons (es_if (et_inV rfl ee_str (ee_var (pv 8))) (ss_one (es_set (i := 13) nd rfl (by first | exact Or.inl rfl | exact Or.inr rfl) (ee_slice false (ee_var (pv 13)) eo_none (eo_some (ee_un uu_neg ee_int))))) ss_nil)
  (ss_cons (es_set (i := 15) nd rfl (by first | exact Or.inl rfl | exact Or.inr rfl) (ee_callTy cu_tuple (by rfl) T.n_tuple (by decide +kernel) (ea_cons (ee_lc (own := [("_law_number", 24)]) rfl nd (ei_seq (ee_var (pv 4))) (blkOk_by (own := [("_law_number", 24)]) (N := N_law) (sc := defScope st_law) (by decide +kernel)) (fun _ _ _ _ _ => (ep_name (i := 24) nd rfl (by first | exact Or.inl rfl | exact Or.inr rfl))) (fun _ _ _ _ _ => ets_nil) (fun _ _ _ _ _ => (ee_op (ou_addA false) (ee_var (pv 24)) (ee_op ou_mul ee_int (ee_op ou_sub (ee_call (ok__law_take T) (hr.mono (by decide)) (by rfl) T.g__law_take T.kp__law_take T.b__law_take (ea_cons (ee_var (pv 2)) (ea_cons ee_int ea_nil))) ee_int)))) (by decide)) ea_nil)))
  (ss_cons (es_asg (ee_callD (ok_run_plain T) (hr.mono (by decide)) (by rfl) T.g_run_plain T.kp_run_plain (Classical.choose_spec T.d_run_plain_2).2 (Classical.choose_spec T.d_run_plain_2).1 T.u_run_plain_2 (ea_cons (ee_var (pv 3)) (ea_cons (ee_callTy cu_tuple (by rfl) T.n_tuple (by decide +kernel) (ea_cons (ee_var (pv 4)) ea_nil)) ea_nil))) (eg_pat (ep_tup rfl (eps_cons (ep_name (i := 16) nd rfl (by first | exact Or.inl rfl | exact Or.inr rfl)) (eps_cons (ep_name (i := 17) nd rfl (by first | exact Or.inl rfl | exact Or.inr rfl)) eps_nil)))))
  (ss_cons (es_set (i := 18) nd rfl (by first | exact Or.inl rfl | exact Or.inr rfl) (ee_callD (ok_run_plain T) (hr.mono (by decide)) (by rfl) T.g_run_plain T.kp_run_plain (Classical.choose_spec T.d_run_plain_2).2 (Classical.choose_spec T.d_run_plain_2).1 T.u_run_plain_2 (ea_cons (ee_callTy cu_tuple (by rfl) T.n_tuple (by decide +kernel) (ea_cons (ee_var (pv 13)) ea_nil)) (ea_cons (ee_var (pv 15)) ea_nil))))
  (ss_cons (es_if (et_cmp (ou_ne hr.units) (ee_var (pv 18)) (ee_tup (ea_cons (ee_call (ok__law_trace_called T) (hr.mono (by decide)) (by rfl) T.g__law_trace_called T.kp__law_trace_called T.b__law_trace_called (ea_cons (ee_var (pv 16)) (ea_cons (ee_var (pv 8)) (ea_cons (ee_var (pv 12)) ea_nil)))) (ea_cons (ee_call (ok__law_ending_called T) (hr.mono (by decide)) (by rfl) T.g__law_ending_called T.kp__law_ending_called T.b__law_ending_called (ea_cons (ee_var (pv 17)) (ea_cons (ee_var (pv 9)) (ea_cons (ee_var (pv 12)) ea_nil)))) ea_nil))) (nomark _)) (ss_one (es_ret ee_bl)) ss_nil)
  (ss_cons (es_if (et_cmp (ou_ne hr.units) (ee_call (ok_said_in T) (hr.mono (by decide)) (by rfl) T.g_said_in T.kp_said_in T.b_said_in (ea_cons (ee_callTy cu_tuple (by rfl) T.n_tuple (by decide +kernel) (ea_cons (ee_var (pv 13)) ea_nil)) (ea_cons (ee_ix (ee_var (pv 18)) ee_int) ea_nil))) (ee_call (ok_said_in T) (hr.mono (by decide)) (by rfl) T.g_said_in T.kp_said_in T.b_said_in (ea_cons (ee_var (pv 3)) (ea_cons (ee_var (pv 16)) ea_nil))) (nomark _)) (ss_one (es_ret ee_bl)) ss_nil)
  (ss_cons (es_asg (ee_callD (ok_run_plain T) (hr.mono (by decide)) (by rfl) T.g_run_plain T.kp_run_plain (Classical.choose_spec T.d_run_plain_2).2 (Classical.choose_spec T.d_run_plain_2).1 T.u_run_plain_2 (ea_cons (ee_var (pv 3)) (ea_cons (ee_op (ou_addA false) (ee_callTy cu_tuple (by rfl) T.n_tuple (by decide +kernel) (ea_cons (ee_var (pv 4)) ea_nil)) (ee_tup (ea_cons ee_int (ea_cons ee_int (ea_cons ee_int ea_nil))))) ea_nil))) (eg_pat (ep_tup rfl (eps_cons (ep_name (i := 19) nd rfl (by first | exact Or.inl rfl | exact Or.inr rfl)) (eps_cons (ep_name (i := 20) nd rfl (by first | exact Or.inl rfl | exact Or.inr rfl)) eps_nil)))))
  (ss_cons (es_if (et_w (ew_or (et_cmp (ou_ne hr.units) (ee_slice false (ee_var (pv 19)) eo_none (eo_some (ee_callB cu_len (by rfl) T.n_len (by decide +kernel) (ea_cons (ee_var (pv 16)) ea_nil)))) (ee_var (pv 16)) (nomark _)) (ew_or1 (et_w (ew_and (et_cmp (ou_ne hr.units) (ee_ix (ee_var (pv 17)) ee_int) ee_str (nomark _)) (ew_and1 (et_cmp (ou_ne hr.units) (ee_tup (ea_cons (ee_var (pv 19)) (ea_cons (ee_var (pv 20)) ea_nil))) (ee_tup (ea_cons (ee_var (pv 16)) (ea_cons (ee_var (pv 17)) ea_nil))) (nomark _)))))))) (ss_one (es_ret ee_bl)) ss_nil)
  (ss_cons (es_set (i := 21) nd rfl (by first | exact Or.inl rfl | exact Or.inr rfl) (ee_call (ok__law_take T) (hr.mono (by decide)) (by rfl) T.g__law_take T.kp__law_take T.b__law_take (ea_cons (ee_var (pv 2)) (ea_cons (ee_op (ou_addA false) (ee_callB cu_len (by rfl) T.n_len (by decide +kernel) (ea_cons (ee_var (pv 16)) ea_nil)) ee_int) ea_nil))))
  (ss_cons (es_set (i := 22) nd rfl (by first | exact Or.inl rfl | exact Or.inr rfl) (ee_callN gu_run_plain_2_steps (ok_run_plain T) (hr.mono (by decide)) (by rfl) T.g_run_plain T.kp_run_plain (Classical.choose_spec (Classical.choose_spec T.d_run_plain_2_steps)) T.u_run_plain_2_steps (ea_cons (ee_var (pv 3)) (ea_cons (ee_callTy cu_tuple (by rfl) T.n_tuple (by decide +kernel) (ea_cons (ee_var (pv 4)) ea_nil)) ea_nil)) (ek_cons (ee_var (pv 21)) ek_nil)))
  (ss_cons (es_if (et_w (ew_or (et_cmp (ou_ne hr.units) (ee_ix (ee_var (pv 22)) ee_int) (ee_slice false (ee_var (pv 16)) eo_none (eo_some (ee_var (pv 21)))) (nomark _)) (ew_or1 (et_w (ew_and (et_cmp ou_lt (ee_var (pv 21)) (ee_callB cu_len (by rfl) T.n_len (by decide +kernel) (ea_cons (ee_var (pv 16)) ea_nil)) (nomark _)) (ew_and1 (et_cmp (ou_ne hr.units) (ee_ix (ee_var (pv 22)) ee_int) (ee_tup (ea_cons ee_str ea_nil)) (nomark _)))))))) (ss_one (es_ret ee_bl)) ss_nil)
  (ss_one (es_if (et_w (ew_and (et_cmp (ou_eq hr.units) (ee_var (pv 17)) (ee_tup (ea_cons ee_str ea_nil)) (nomark _)) (ew_and1 (et_cmp (ou_ne hr.units) (ee_slice false (ee_ix (ee_callN gu_run_plain_2_steps (ok_run_plain T) (hr.mono (by decide)) (by rfl) T.g_run_plain T.kp_run_plain (Classical.choose_spec (Classical.choose_spec T.d_run_plain_2_steps)) T.u_run_plain_2_steps (ea_cons (ee_var (pv 3)) (ea_cons (ee_callTy cu_tuple (by rfl) T.n_tuple (by decide +kernel) (ea_cons (ee_var (pv 4)) ea_nil)) ea_nil)) (ek_cons ee_int ek_nil)) ee_int) eo_none (eo_some (ee_callB cu_len (by rfl) T.n_len (by decide +kernel) (ea_cons (ee_var (pv 16)) ea_nil)))) (ee_var (pv 16)) (nomark _))))) (ss_one (es_ret ee_bl)) ss_nil)))))))))))))))))))))))
  (ss_one (es_ret ee_bl)))
end
end K14
namespace OF
open PySem PySem.Spec PyProof.Rows L2
def wp {α : Type} (x : Option α) (Q : α → Prop) : Prop := ∃ a, x = some a ∧ Q a
@[simp] theorem wp_some {α : Type} (a : α) (Q : α → Prop) : wp (some a) Q = Q a := by simp [wp]
@[simp] theorem wp_none {α : Type} (Q : α → Prop) : wp none Q = False := by simp [wp]
theorem wp_mono {α : Type} {x : Option α} {P Q : α → Prop} (h : wp x P) (i : ∀ a, P a → Q a) : wp x Q := let ⟨a, e, p⟩ := h; ⟨a, e, i a p⟩
theorem wp_of {α : Type} {x : Option α} {P : α → Prop} {a : α} (h : x = some a) (p : P a) : wp x P := ⟨a, h, p⟩
def wif (k : Bool) (A B : Prop) : Prop := if k = true then A else B
@[simp] theorem wif_t {A B : Prop} : wif true A B = A := if_pos rfl
@[simp] theorem wif_f {A B : Prop} : wif false A B = B := if_neg (by decide)
theorem wif_of {k : Bool} {A B : Prop} (h1 : k = true → A) (h2 : k = false → B) : wif k A B := by cases k <;> simp_all
theorem wif_dec {p : Prop} [Decidable p] {A B : Prop} (h1 : p → A) (h2 : ¬ p → B) : wif (decide p) A B := by
  by_cases h : p
  · simpa [h] using h1 h
  · simpa [h] using h2 h
section
variable {env : Env'} {S : Sto}
theorem wp_cBin {f : Op2} {a b : Cm U} {Q} : wp (cBin f a b env S) Q = wp (a env S) fun p => wp (b env p.2) fun q => wp (f p.1 q.1 q.2) Q := by
  unfold cBin wp
  rcases a env S with _ | ⟨u, S1⟩
  · simp
  · simp only [Option.some.injEq, exists_eq_left']
    rcases b env S1 with _ | ⟨v, S2⟩ <;> simp
theorem wp_cUn {f : Op1} {a : Cm U} {Q} : wp (cUn f a env S) Q = wp (a env S) fun p => wp (f p.1 p.2) Q := by
  unfold cUn wp
  rcases a env S with _ | ⟨u, S1⟩ <;> simp
theorem wp_cCons {a : Cm U} {r : Cm (List U)} {Q} : wp (cCons a r env S) Q = wp (a env S) fun p => wp (r env p.2) fun q => Q (p.1 :: q.1, q.2) := by
  unfold cCons wp
  rcases a env S with _ | ⟨u, S1⟩
  · simp
  · simp only [Option.some.injEq, exists_eq_left']
    rcases r env S1 with _ | ⟨v, S2⟩ <;> simp
theorem wp_cArg {f : OpN} {r : Cm (List U)} {Q} : wp (cArg f r env S) Q = wp (r env S) fun p => wp (f p.1 p.2) Q := by
  unfold cArg wp
  rcases r env S with _ | ⟨u, S1⟩ <;> simp
def seqK (b : Sm) (Q : Fl × Env' × Sto → Prop) : Fl × Env' × Sto → Prop
  | (.nx, e, S) => wp (b e S) Q
  | r => Q r
theorem wp_sSeq {a b : Sm} {Q} : wp (sSeq a b env S) Q = wp (a env S) (seqK b Q) := by
  unfold sSeq wp
  rcases a env S with _ | ⟨fl, e, S1⟩
  · simp
  · cases fl <;> simp [seqK, wp]
theorem wp_sExpr {a : Cm U} {Q} : wp (sExpr a env S) Q = wp (a env S) fun p => Q (.nx, env, p.2) := by
  unfold sExpr wp
  rcases a env S with _ | ⟨u, S1⟩ <;> simp
theorem wp_sRet {a : Cm U} {Q} : wp (sRet a env S) Q = wp (a env S) fun p => Q (.ret p.1, env, p.2) := by
  unfold sRet wp
  rcases a env S with _ | ⟨u, S1⟩ <;> simp
theorem wp_sIf {c : Cm Bool} {a b : Sm} {Q} : wp (sIf c a b env S) Q = wp (c env S) fun p => wif p.1 (wp (a env p.2) Q) (wp (b env p.2) Q) := by
  unfold sIf wp
  rcases c env S with _ | ⟨k, S1⟩
  · simp
  · cases k <;> simp
theorem wp_cIf {c : Cm Bool} {a b : Cm U} {Q} : wp (cIf c a b env S) Q = wp (c env S) fun p => wif p.1 (wp (a env p.2) Q) (wp (b env p.2) Q) := by
  unfold cIf wp
  rcases c env S with _ | ⟨k, S1⟩
  · simp
  · cases k <;> simp
theorem wp_sAsg {a : Cm U} {g : Gm} {Q} : wp (sAsg a g env S) Q = wp (a env S) fun p => wp (g p.1 env p.2) fun q => Q (.nx, q.1, q.2) := by
  unfold sAsg wp
  rcases a env S with _ | ⟨u, S1⟩
  · simp
  · simp only [Option.some.injEq, exists_eq_left']
    rcases g u env S1 with _ | ⟨v, S2⟩ <;> simp
theorem wp_cTru {a : Cm U} {Q} : wp (cTru a env S) Q = wp (a env S) fun p => wp (truU p.2 p.1) fun k => Q (k, p.2) := by
  unfold cTru wp
  rcases a env S with _ | ⟨u, S1⟩
  · simp
  · simp only [Option.some.injEq, exists_eq_left']
    rcases truU S1 u with _ | k <;> simp
theorem wp_cAndT {a b : Cm Bool} {Q} : wp (cAndT a b env S) Q = wp (a env S) fun p => wif p.1 (wp (b env p.2) Q) (Q (false, p.2)) := by
  unfold cAndT wp
  rcases a env S with _ | ⟨k, S1⟩
  · simp
  · cases k <;> simp
theorem wp_cOrT {a b : Cm Bool} {Q} : wp (cOrT a b env S) Q = wp (a env S) fun p => wif p.1 (Q (true, p.2)) (wp (b env p.2) Q) := by
  unfold cOrT wp
  rcases a env S with _ | ⟨k, S1⟩
  · simp
  · cases k <;> simp
theorem wp_cNotT {a : Cm Bool} {Q} : wp (cNotT a env S) Q = wp (a env S) fun p => Q (!p.1, p.2) := by
  unfold cNotT wp
  rcases a env S with _ | ⟨k, S1⟩ <;> simp
def retK (Q : U × Sto → Prop) : Fl × Env' × Sto → Prop
  | (.ret u, _, S) => Q (u, S)
  | (.nx, _, S) => Q (.non, S)
  | _ => False
theorem wp_runF {s : Sm} {np n : Nat} {us : List U} {Q} : wp (runF s np n us S) Q = (us.length = np ∧ wp (s (startE n us) S) (retK Q)) := by
  unfold runF wp
  by_cases h : us.length = np
  · simp only [h, if_true, true_and]
    rcases s (startE n us) S with _ | ⟨fl, e, S1⟩
    · simp
    · cases fl <;> simp [retK]
  · simp [h]
theorem wp_sFor {it : Cm (List U)} {pt : Pat} {b : Sm} {Q} : wp (sFor it pt b env S) Q = wp (it env S) fun p => wp (loopF pt b p.1 env p.2) Q := by
  unfold sFor wp
  rcases it env S with _ | ⟨u, S1⟩ <;> simp
theorem wp_cLcL {it : Cm (List U)} {pt : Pat} {t : Cm Bool} {c : Cm U} {vs : List Nat} {Q} : wp (cLcL it pt t c vs env S) Q = wp (it env S) fun p => wp (mapC pt t c (wipeE env vs) p.1 p.2) fun q => q.1.length ≤ sizeLine ∧ Q q := by
  unfold cLcL wp
  rcases it env S with _ | ⟨u, S1⟩
  · simp
  · simp only [Option.some.injEq, exists_eq_left']
    rcases mapC pt t c (wipeE env vs) u S1 with _ | ⟨ys, S2⟩
    · simp
    · by_cases h : ys.length ≤ sizeLine <;> simp [h]
theorem wp_cLc {it : Cm (List U)} {pt : Pat} {t : Cm Bool} {c : Cm U} {vs : List Nat} {Q} : wp (cLc it pt t c vs env S) Q = wp (cLcL it pt t c vs env S) fun q => Q (.lst q.1, q.2) := by
  unfold cLc wp
  rcases cLcL it pt t c vs env S with _ | ⟨u, S1⟩ <;> simp
theorem wp_itSeq {c : Cm U} {Q} : wp (itSeq c env S) Q = wp (c env S) fun p => wp (seqU p.1) fun us => Q (us, p.2) := by
  unfold itSeq wp
  rcases c env S with _ | ⟨u, S1⟩
  · simp
  · simp only [Option.some.injEq, exists_eq_left']
    rcases seqU u with _ | us <;> simp
def r1K (S : Sto) : List U → Option (List U × Sto)
  | [.int j] => if -(2 ^ 62) ≤ j ∧ j < 2 ^ 62 then some (rangeU 0 j.toNat, S) else none
  | _ => none
theorem wp_r1K {j : Int} {Q} : wp (r1K S [.int j]) Q = ((-4611686018427387904 ≤ j ∧ j < 4611686018427387904) ∧ Q (rangeU 0 j.toNat, S)) := by
  have e : r1K S [.int j] = if -(2 ^ 62) ≤ j ∧ j < 2 ^ 62 then some (rangeU 0 j.toNat, S) else none := rfl
  rw [e]
  by_cases h : -(2 ^ 62) ≤ j ∧ j < 2 ^ 62
  · rw [if_pos h, wp_some]
    exact propext ⟨fun q => ⟨h, q⟩, fun q => q.2⟩
  · rw [if_neg h, wp_none]
    exact propext ⟨False.elim, fun q => h q.1⟩
theorem wp_itR1 {c : Cm (List U)} {Q} : wp (itR1 c env S) Q = wp (c env S) fun p => wp (r1K p.2 p.1) Q := by
  unfold itR1 wp
  rcases c env S with _ | ⟨u, S1⟩
  · simp
  · simp only [Option.some.injEq, exists_eq_left']
    unfold r1K
    split <;> simp_all
def r2K (S : Sto) : List U → Option (List U × Sto)
  | [.int i, .int j] => if (-(2 ^ 62) ≤ i ∧ i < 2 ^ 62) ∧ -(2 ^ 62) ≤ j ∧ j < 2 ^ 62 then some (rangeU i (j - i).toNat, S) else none
  | _ => none
theorem wp_r2K {i j : Int} {Q} : wp (r2K S [.int i, .int j]) Q = (((-4611686018427387904 ≤ i ∧ i < 4611686018427387904) ∧ (-4611686018427387904 ≤ j ∧ j < 4611686018427387904)) ∧ Q (rangeU i (j - i).toNat, S)) := by
  have e : r2K S [.int i, .int j] = if (-(2 ^ 62) ≤ i ∧ i < 2 ^ 62) ∧ -(2 ^ 62) ≤ j ∧ j < 2 ^ 62 then some (rangeU i (j - i).toNat, S) else none := rfl
  rw [e]
  by_cases h : (-(2 ^ 62) ≤ i ∧ i < 2 ^ 62) ∧ -(2 ^ 62) ≤ j ∧ j < 2 ^ 62
  · rw [if_pos h, wp_some]
    exact propext ⟨fun q => ⟨h, q⟩, fun q => q.2⟩
  · rw [if_neg h, wp_none]
    exact propext ⟨False.elim, fun q => h q.1⟩
theorem wp_itR2 {c : Cm (List U)} {Q} : wp (itR2 c env S) Q = wp (c env S) fun p => wp (r2K p.2 p.1) Q := by
  unfold itR2 wp
  rcases c env S with _ | ⟨u, S1⟩
  · simp
  · simp only [Option.some.injEq, exists_eq_left']
    unfold r2K
    split <;> simp_all
def partK (S : Sto) : U → Option (Option Int × Sto)
  | .int i => some (some i, S)
  | _ => none
@[simp] theorem partK_int {i : Int} : partK S (.int i) = some (some i, S) := rfl
theorem wp_cPart {c : Cm U} {Q} : wp (cPart c env S) Q = wp (c env S) fun p => wp (partK p.2 p.1) Q := by
  unfold cPart wp
  rcases c env S with _ | ⟨u, S1⟩
  · simp
  · cases u <;> simp only [Option.some.injEq, exists_eq_left', partK, reduceCtorEq, false_and, exists_false]
theorem wp_cSl {mu : Bool} {c : Cm U} {l h : CmO} {Q} : wp (cSl mu c l h env S) Q = wp (c env S) fun p => wp (l env p.2) fun q => wp (h env q.2) fun r => wp (slU mu p.1 q.1 r.1 r.2) Q := by
  unfold cSl wp
  rcases c env S with _ | ⟨u, S1⟩
  · simp
  · simp only [Option.some.injEq, exists_eq_left']
    rcases l env S1 with _ | ⟨lo, S2⟩
    · simp
    · simp only [Option.some.injEq, exists_eq_left']
      rcases h env S2 with _ | ⟨hi, S3⟩ <;> simp
theorem wp_cMt {T : String} {f : U → OpN} {a : Cm U} {r : Cm (List U)} {Q} : wp (cMt T f a r env S) Q = wp (a env S) fun p => (tyOkU T p.2 p.1 = true ∧ wp (r env p.2) fun q => wp (f p.1 q.1 q.2) Q) := by
  unfold cMt wp
  rcases a env S with _ | ⟨u, S1⟩
  · simp
  · simp only [Option.some.injEq, exists_eq_left']
    by_cases h : tyOkU T S1 u = true
    · simp only [h, if_true, true_and]
      rcases r env S1 with _ | ⟨us, S2⟩ <;> simp
    · simp [h]
def par3K (i j l : Nat) (env : Env') (S : Sto) : List U → Option (Fl × Env' × Sto)
  | [u, v, w] => some (.nx, ((env.set i (some u)).set j (some v)).set l (some w), S)
  | _ => none
@[simp] theorem par3K_three {i j l : Nat} {u v w : U} : par3K i j l env S [u, v, w] = some (.nx, ((env.set i (some u)).set j (some v)).set l (some w), S) := rfl
theorem wp_sPar3 {i j l : Nat} {a : Cm (List U)} {Q} : wp (sPar3 i j l a env S) Q = wp (a env S) fun p => wp (par3K i j l env p.2 p.1) Q := by
  unfold sPar3 wp
  rcases a env S with _ | ⟨u, S1⟩
  · simp
  · simp only [Option.some.injEq, exists_eq_left']
    unfold par3K
    split <;> simp_all
def loopK (pt : Pat) (b : Sm) (us : List U) (Q : Fl × Env' × Sto → Prop) : Fl × Env' × Sto → Prop
  | (.nx, e, S) => wp (loopF pt b us e S) Q
  | (.ct, e, S) => wp (loopF pt b us e S) Q
  | (.brk, e, S) => Q (.nx, e, S)
  | (.ret z, e, S) => Q (.ret z, e, S)
theorem wp_loop_nil {pt : Pat} {b : Sm} {Q} : wp (loopF pt b [] env S) Q = Q (.nx, env, S) := by simp
theorem wp_loop {pt : Pat} {b : Sm} {u : U} {us : List U} {Q} : wp (loopF pt b (u :: us) env S) Q = wp (bindP pt u) fun bs => wp (b (setAll env bs) S) (loopK pt b us Q) := by
  rw [loopF_cons]
  unfold wp
  rcases bindP pt u with _ | bs
  · simp
  · simp only [Option.some.injEq, exists_eq_left']
    rcases b (setAll env bs) S with _ | ⟨fl, e, S1⟩
    · simp
    · cases fl <;> simp [loopK, wp]
theorem wp_map_nil {pt : Pat} {t : Cm Bool} {c : Cm U} {Q} : wp (mapC pt t c env [] S) Q = Q ([], S) := by simp
def mapK (pt : Pat) (t : Cm Bool) (c : Cm U) (env : Env') (us : List U) (e2 : Env') (S : Sto) (Q : List U × Sto → Prop) (k : Bool) : Prop := wif k (wp (c e2 S) fun p => wp (mapC pt t c env us p.2) fun q => Q (p.1 :: q.1, q.2)) (wp (mapC pt t c env us S) Q)
theorem wp_map {pt : Pat} {t : Cm Bool} {c : Cm U} {u : U} {us : List U} {Q} : wp (mapC pt t c env (u :: us) S) Q = wp (bindP pt u) fun bs => wp (t (setAll env bs) S) fun p => mapK pt t c env us (setAll env bs) p.2 Q p.1 := by
  rw [mapC_cons]
  unfold wp
  rcases bindP pt u with _ | bs
  · simp
  · simp only [Option.some.injEq, exists_eq_left']
    rcases t (setAll env bs) S with _ | ⟨k, S1⟩
    · simp
    · cases k
      · simp [mapK, wp]
      · simp only [Option.some.injEq, exists_eq_left', mapK, wif_t, wp]
        rcases c (setAll env bs) S1 with _ | ⟨y, S2⟩
        · simp
        · simp only [Option.some.injEq, exists_eq_left']
          rcases mapC pt t c env us S2 with _ | ⟨ys, S3⟩ <;> simp
theorem wp_loop_inv {pt : Pat} {b : Sm} {Q : Fl × Env' × Sto → Prop} (I : List U → Env' → Sto → Prop) (fin : ∀ e S, I [] e S → Q (.nx, e, S))
    (step : ∀ u us e S, I (u :: us) e S → wp (bindP pt u) fun bs => wp (b (setAll e bs) S) fun r => match r with
      | (.nx, e', S') => I us e' S'
      | (.ct, e', S') => I us e' S'
      | (.brk, e', S') => Q (.nx, e', S')
      | (.ret z, e', S') => Q (.ret z, e', S')) : ∀ us env S, I us env S → wp (loopF pt b us env S) Q
  | [], env, S, h => by rw [wp_loop_nil]; exact fin _ _ h
  | u :: us, env, S, h => by
    rw [wp_loop]
    refine wp_mono (step u us env S h) fun bs hb => wp_mono hb fun r hr => ?_
    rcases r with ⟨fl, e, S1⟩
    cases fl with
    | nx => exact wp_loop_inv I fin step us e S1 hr
    | ct => exact wp_loop_inv I fin step us e S1 hr
    | brk => exact hr
    | ret z => exact hr
end
end OF
namespace OF
open PySem PySem.Spec PyProof.Rows L2
class Hid (α : Type) where
  v : α
def wq {α : Type} (x : Option α) [Q : Hid (α → Prop)] : Prop := wp x Q.v
def wiH (k : Bool) [A : Hid Prop] [B : Hid Prop] : Prop := wif k A.v B.v
def seqH [b : Hid Sm] [Q : Hid (Fl × Env' × Sto → Prop)] (r : Fl × Env' × Sto) : Prop := seqK b.v Q.v r
def retH [Q : Hid (U × Sto → Prop)] (r : Fl × Env' × Sto) : Prop := retK Q.v r
def loopH (pt : Pat) [b : Hid Sm] [us : Hid (List U)] [Q : Hid (Fl × Env' × Sto → Prop)] (r : Fl × Env' × Sto) : Prop := loopK pt b.v us.v Q.v r
@[simp ↓] theorem hid_ap {α β : Type} {f : α → β} {a : α} : @Hid.v (α → β) ⟨f⟩ a = f a := rfl
@[simp ↓] theorem hid_p {p : Prop} : @Hid.v Prop ⟨p⟩ = p := rfl
@[simp ↓] theorem wp_def {α : Type} {x : Option α} {Q : α → Prop} : wp x Q = @wq _ x ⟨Q⟩ := rfl
@[simp] theorem wq_some {α : Type} (a : α) (Q : α → Prop) : @wq _ (some a) ⟨Q⟩ = Q a := wp_some a Q
@[simp] theorem wiH_t {A B : Prop} : @wiH true ⟨A⟩ ⟨B⟩ = A := wif_t
@[simp] theorem wiH_f {A B : Prop} : @wiH false ⟨A⟩ ⟨B⟩ = B := wif_f
@[simp ↓] theorem seqH_nx {b : Sm} {Q} {e : Env'} {S : Sto} : @seqH ⟨b⟩ ⟨Q⟩ (.nx, e, S) = @wq _ (b e S) ⟨Q⟩ := rfl
@[simp ↓] theorem seqH_ret {b : Sm} {Q} {e : Env'} {S : Sto} {u : U} : @seqH ⟨b⟩ ⟨Q⟩ (.ret u, e, S) = Q (.ret u, e, S) := rfl
@[simp ↓] theorem seqH_brk {b : Sm} {Q} {e : Env'} {S : Sto} : @seqH ⟨b⟩ ⟨Q⟩ (.brk, e, S) = Q (.brk, e, S) := rfl
@[simp ↓] theorem seqH_ct {b : Sm} {Q} {e : Env'} {S : Sto} : @seqH ⟨b⟩ ⟨Q⟩ (.ct, e, S) = Q (.ct, e, S) := rfl
@[simp ↓] theorem retH_ret {Q} {e : Env'} {S : Sto} {u : U} : @retH ⟨Q⟩ (.ret u, e, S) = Q (u, S) := rfl
@[simp ↓] theorem retH_nx {Q} {e : Env'} {S : Sto} : @retH ⟨Q⟩ (.nx, e, S) = Q (.non, S) := rfl
section
variable {env : Env'} {S : Sto}
@[simp ↓] theorem loopH_nx {pt : Pat} {b : Sm} {us : List U} {Q} {e : Env'} : @loopH pt ⟨b⟩ ⟨us⟩ ⟨Q⟩ (.nx, e, S) = @wq _ (loopF pt b us e S) ⟨Q⟩ := rfl
@[simp ↓] theorem loopH_ct {pt : Pat} {b : Sm} {us : List U} {Q} {e : Env'} : @loopH pt ⟨b⟩ ⟨us⟩ ⟨Q⟩ (.ct, e, S) = @wq _ (loopF pt b us e S) ⟨Q⟩ := rfl
@[simp ↓] theorem loopH_brk {pt : Pat} {b : Sm} {us : List U} {Q} {e : Env'} : @loopH pt ⟨b⟩ ⟨us⟩ ⟨Q⟩ (.brk, e, S) = Q (.nx, e, S) := rfl
@[simp ↓] theorem loopH_ret {pt : Pat} {b : Sm} {us : List U} {Q} {e : Env'} {z : U} : @loopH pt ⟨b⟩ ⟨us⟩ ⟨Q⟩ (.ret z, e, S) = Q (.ret z, e, S) := rfl
@[simp ↓] theorem wq_cBin {f : Op2} {a b : Cm U} {Q : _ → Prop} : @wq _ (cBin f a b env S) ⟨Q⟩ = @wq _ (a env S) ⟨fun p => @wq _ (b env p.2) ⟨fun q => @wq _ (f p.1 q.1 q.2) ⟨Q⟩⟩⟩ := wp_cBin
@[simp ↓] theorem wq_cUn {f : Op1} {a : Cm U} {Q : _ → Prop} : @wq _ (cUn f a env S) ⟨Q⟩ = @wq _ (a env S) ⟨fun p => @wq _ (f p.1 p.2) ⟨Q⟩⟩ := wp_cUn
@[simp ↓] theorem wq_cCons {a : Cm U} {r : Cm (List U)} {Q : _ → Prop} : @wq _ (cCons a r env S) ⟨Q⟩ = @wq _ (a env S) ⟨fun p => @wq _ (r env p.2) ⟨fun q => Q (p.1 :: q.1, q.2)⟩⟩ := wp_cCons
@[simp ↓] theorem wq_cArg {f : OpN} {r : Cm (List U)} {Q : _ → Prop} : @wq _ (cArg f r env S) ⟨Q⟩ = @wq _ (r env S) ⟨fun p => @wq _ (f p.1 p.2) ⟨Q⟩⟩ := wp_cArg
@[simp ↓] theorem wq_sSeq {a b : Sm} {Q : _ → Prop} : @wq _ (sSeq a b env S) ⟨Q⟩ = @wq _ (a env S) ⟨@seqH ⟨b⟩ ⟨Q⟩⟩ := wp_sSeq
@[simp ↓] theorem wq_sExpr {a : Cm U} {Q : _ → Prop} : @wq _ (sExpr a env S) ⟨Q⟩ = @wq _ (a env S) ⟨fun p => Q (.nx, env, p.2)⟩ := wp_sExpr
@[simp ↓] theorem wq_sRet {a : Cm U} {Q : _ → Prop} : @wq _ (sRet a env S) ⟨Q⟩ = @wq _ (a env S) ⟨fun p => Q (.ret p.1, env, p.2)⟩ := wp_sRet
@[simp ↓] theorem wq_sIf {c : Cm Bool} {a b : Sm} {Q : _ → Prop} : @wq _ (sIf c a b env S) ⟨Q⟩ = @wq _ (c env S) ⟨fun p => @wiH p.1 ⟨@wq _ (a env p.2) ⟨Q⟩⟩ ⟨@wq _ (b env p.2) ⟨Q⟩⟩⟩ := wp_sIf
@[simp ↓] theorem wq_cIf {c : Cm Bool} {a b : Cm U} {Q : _ → Prop} : @wq _ (cIf c a b env S) ⟨Q⟩ = @wq _ (c env S) ⟨fun p => @wiH p.1 ⟨@wq _ (a env p.2) ⟨Q⟩⟩ ⟨@wq _ (b env p.2) ⟨Q⟩⟩⟩ := wp_cIf
@[simp ↓] theorem wq_sAsg {a : Cm U} {g : Gm} {Q : _ → Prop} : @wq _ (sAsg a g env S) ⟨Q⟩ = @wq _ (a env S) ⟨fun p => @wq _ (g p.1 env p.2) ⟨fun q => Q (.nx, q.1, q.2)⟩⟩ := wp_sAsg
@[simp ↓] theorem wq_cTru {a : Cm U} {Q : _ → Prop} : @wq _ (cTru a env S) ⟨Q⟩ = @wq _ (a env S) ⟨fun p => @wq _ (truU p.2 p.1) ⟨fun k => Q (k, p.2)⟩⟩ := wp_cTru
@[simp ↓] theorem wq_cAndT {a b : Cm Bool} {Q : _ → Prop} : @wq _ (cAndT a b env S) ⟨Q⟩ = @wq _ (a env S) ⟨fun p => @wiH p.1 ⟨@wq _ (b env p.2) ⟨Q⟩⟩ ⟨Q (false, p.2)⟩⟩ := wp_cAndT
@[simp ↓] theorem wq_cOrT {a b : Cm Bool} {Q : _ → Prop} : @wq _ (cOrT a b env S) ⟨Q⟩ = @wq _ (a env S) ⟨fun p => @wiH p.1 ⟨Q (true, p.2)⟩ ⟨@wq _ (b env p.2) ⟨Q⟩⟩⟩ := wp_cOrT
@[simp ↓] theorem wq_cNotT {a : Cm Bool} {Q : _ → Prop} : @wq _ (cNotT a env S) ⟨Q⟩ = @wq _ (a env S) ⟨fun p => Q (!p.1, p.2)⟩ := wp_cNotT
@[simp ↓] theorem wq_runF {s : Sm} {np n : Nat} {us : List U} {Q : _ → Prop} : @wq _ (runF s np n us S) ⟨Q⟩ = (us.length = np ∧ @wq _ (s (startE n us) S) ⟨@retH ⟨Q⟩⟩) := wp_runF
@[simp ↓] theorem wq_sFor {it : Cm (List U)} {pt : Pat} {b : Sm} {Q : _ → Prop} : @wq _ (sFor it pt b env S) ⟨Q⟩ = @wq _ (it env S) ⟨fun p => @wq _ (loopF pt b p.1 env p.2) ⟨Q⟩⟩ := wp_sFor
@[simp ↓] theorem wq_cLcL {it : Cm (List U)} {pt : Pat} {t : Cm Bool} {c : Cm U} {vs : List Nat} {Q : _ → Prop} : @wq _ (cLcL it pt t c vs env S) ⟨Q⟩ = @wq _ (it env S) ⟨fun p => @wq _ (mapC pt t c (wipeE env vs) p.1 p.2) ⟨fun q => q.1.length ≤ sizeLine ∧ Q q⟩⟩ := wp_cLcL
@[simp ↓] theorem wq_cLc {it : Cm (List U)} {pt : Pat} {t : Cm Bool} {c : Cm U} {vs : List Nat} {Q : _ → Prop} : @wq _ (cLc it pt t c vs env S) ⟨Q⟩ = @wq _ (cLcL it pt t c vs env S) ⟨fun q => Q (.lst q.1, q.2)⟩ := wp_cLc
@[simp ↓] theorem wq_itSeq {c : Cm U} {Q : _ → Prop} : @wq _ (itSeq c env S) ⟨Q⟩ = @wq _ (c env S) ⟨fun p => @wq _ (seqU p.1) ⟨fun us => Q (us, p.2)⟩⟩ := wp_itSeq
@[simp ↓] theorem wq_r1K {j : Int} {Q : _ → Prop} : @wq _ (r1K S [.int j]) ⟨Q⟩ = ((-4611686018427387904 ≤ j ∧ j < 4611686018427387904) ∧ Q (rangeU 0 j.toNat, S)) := wp_r1K
@[simp ↓] theorem wq_itR1 {c : Cm (List U)} {Q : _ → Prop} : @wq _ (itR1 c env S) ⟨Q⟩ = @wq _ (c env S) ⟨fun p => @wq _ (r1K p.2 p.1) ⟨Q⟩⟩ := wp_itR1
@[simp ↓] theorem wq_r2K {i j : Int} {Q : _ → Prop} : @wq _ (r2K S [.int i, .int j]) ⟨Q⟩ = (((-4611686018427387904 ≤ i ∧ i < 4611686018427387904) ∧ (-4611686018427387904 ≤ j ∧ j < 4611686018427387904)) ∧ Q (rangeU i (j - i).toNat, S)) := wp_r2K
@[simp ↓] theorem wq_itR2 {c : Cm (List U)} {Q : _ → Prop} : @wq _ (itR2 c env S) ⟨Q⟩ = @wq _ (c env S) ⟨fun p => @wq _ (r2K p.2 p.1) ⟨Q⟩⟩ := wp_itR2
@[simp ↓] theorem wq_cPart {c : Cm U} {Q : _ → Prop} : @wq _ (cPart c env S) ⟨Q⟩ = @wq _ (c env S) ⟨fun p => @wq _ (partK p.2 p.1) ⟨Q⟩⟩ := wp_cPart
@[simp ↓] theorem wq_cSl {mu : Bool} {c : Cm U} {l h : CmO} {Q : _ → Prop} : @wq _ (cSl mu c l h env S) ⟨Q⟩ = @wq _ (c env S) ⟨fun p => @wq _ (l env p.2) ⟨fun q => @wq _ (h env q.2) ⟨fun r => @wq _ (slU mu p.1 q.1 r.1 r.2) ⟨Q⟩⟩⟩⟩ := wp_cSl
@[simp ↓] theorem wq_cMt {T : String} {f : U → OpN} {a : Cm U} {r : Cm (List U)} {Q : _ → Prop} : @wq _ (cMt T f a r env S) ⟨Q⟩ = @wq _ (a env S) ⟨fun p => (tyOkU T p.2 p.1 = true ∧ @wq _ (r env p.2) ⟨fun q => @wq _ (f p.1 q.1 q.2) ⟨Q⟩⟩)⟩ := wp_cMt
@[simp ↓] theorem wq_sPar3 {i j l : Nat} {a : Cm (List U)} {Q : _ → Prop} : @wq _ (sPar3 i j l a env S) ⟨Q⟩ = @wq _ (a env S) ⟨fun p => @wq _ (par3K i j l env p.2 p.1) ⟨Q⟩⟩ := wp_sPar3
@[simp ↓] theorem wq_loop {pt : Pat} {b : Sm} {u : U} {us : List U} {Q : _ → Prop} : @wq _ (loopF pt b (u :: us) env S) ⟨Q⟩ = @wq _ (bindP pt u) ⟨fun bs => @wq _ (b (setAll env bs) S) ⟨@loopH pt ⟨b⟩ ⟨us⟩ ⟨Q⟩⟩⟩ := wp_loop
@[simp ↓] theorem wq_map_nil {pt : Pat} {t : Cm Bool} {c : Cm U} {Q : _ → Prop} : @wq _ (mapC pt t c env [] S) ⟨Q⟩ = Q ([], S) := wp_map_nil
@[simp ↓] theorem wq_map {pt : Pat} {t : Cm Bool} {c : Cm U} {u : U} {us : List U} {Q : _ → Prop} : @wq _ (mapC pt t c env (u :: us) S) ⟨Q⟩ = @wq _ (bindP pt u) ⟨fun bs => @wq _ (t (setAll env bs) S) ⟨fun p => @wiH p.1 ⟨@wq _ (c (setAll env bs) p.2) ⟨fun p2 => @wq _ (mapC pt t c env us p2.2) ⟨fun q => Q (p2.1 :: q.1, q.2)⟩⟩⟩ ⟨@wq _ (mapC pt t c env us p.2) ⟨Q⟩⟩⟩⟩ := wp_map
end
theorem wiH_of {k : Bool} {A B : Hid Prop} (h1 : k = true → A.v) (h2 : k = false → B.v) : @wiH k A B := wif_of h1 h2
theorem wiH_dec {p : Prop} [Decidable p] {A B : Hid Prop} (h1 : p → A.v) (h2 : ¬ p → B.v) : @wiH (decide p) A B := wif_dec h1 h2
theorem wq_of {α : Type} {x : Option α} {Q : Hid (α → Prop)} {a : α} (h : x = some a) (p : Q.v a) : @wq _ x Q := wp_of h p
end OF
namespace OF
open PySem PySem.Spec PyProof.Rows L2
def St (S : Sto) (h : Nat) (o : O) (cs : List O) : Sto := S.set h o ++ cs
section
variable {S : Sto} {h : Nat} {o o' : O} {cs : List O}
theorem st_of (hS : S[h]? = some o) : S = St S h o [] := by
  unfold St
  rw [List.append_nil]
  obtain ⟨hl, he⟩ := List.getElem?_eq_some_iff.mp hS
  rw [← he, List.set_getElem_self]
@[simp high] theorem st_len : (St S h o cs).length = S.length + cs.length := by simp [St]
theorem st_get (hh : h < S.length) : (St S h o cs)[h]? = some o := by
  unfold St
  rw [List.getElem?_append_left (by simpa using hh)]
  exact List.getElem?_set_self hh
theorem st_set (hh : h < S.length) : (St S h o cs).set h o' = St S h o' cs := by
  unfold St
  rw [List.set_append_left _ _ (by simpa using hh), List.set_set]
@[simp high] theorem st_at {i : Nat} : (St S h o cs)[S.length + i]? = cs[i]? := by
  unfold St
  rw [List.getElem?_append_right (by simp)]
  simp
@[simp high] theorem st_put {i : Nat} {x : O} : (St S h o cs).set (S.length + i) x = St S h o (cs.set i x) := by
  unfold St
  rw [List.set_append_right _ _ (by simp)]
  simp
@[simp high] theorem st_app {x : List O} : St S h o cs ++ x = St S h o (cs ++ x) := by simp [St]
theorem st_old {j : Nat} (hj : j < S.length) (hn : j ≠ h) : (St S h o cs)[j]? = S[j]? := by
  unfold St
  rw [List.getElem?_append_left (by simpa using hj), List.getElem?_set_ne (Ne.symm hn)]
end
@[simp] theorem rangeU_0 : rangeU 0 0 = [] := rfl
@[simp] theorem rangeU_3 : rangeU 0 3 = [.int 0, .int 1, .int 2] := rfl
theorem rangeU_eq (n : Nat) : rangeU 0 n = (List.range n).map fun (i : Nat) => U.int (i : Int) := by simp [rangeU]
@[simp high] theorem addU_i {mu : Bool} {i j : Int} {S : Sto} : addU mu (.int i) (.int j) S = some (.int (i + j), S) := rfl
@[simp high] theorem addU_s {mu : Bool} {x y : Str} {S : Sto} : addU mu (.str x) (.str y) S = if x.length + y.length ≤ sizeLine then some (.str (x ++ y), S) else none := by
  unfold addU
  simp only [orO_ap, o2I_ap, strAdd_ap, tupAdd_ap, lstAdd_ap, lstU]
  by_cases h : x.length + y.length ≤ sizeLine <;> simp [h]
@[simp high] theorem addU_t {mu : Bool} {x y : List U} {S : Sto} : addU mu (.tup x) (.tup y) S = if x.length + y.length ≤ sizeLine then some (.tup (x ++ y), S) else none := by
  unfold addU
  simp only [orO_ap, o2I_ap, strAdd_ap, tupAdd_ap, lstAdd_ap, lstU]
  by_cases h : x.length + y.length ≤ sizeLine <;> simp [h]
@[simp high] theorem addU_l {mu : Bool} {x : List U} {y : U} {S : Sto} : addU mu (.lst x) y S = lstAdd mu (.lst x) y S := rfl
@[simp high] theorem addU_r {mu : Bool} {x : Nat} {y : U} {S : Sto} : addU mu (.ref x) y S = lstAdd mu (.ref x) y S := rfl
theorem atI_mem {α : Type} {us : List α} {d : Int} (h0 : 0 ≤ d) (h1 : d < us.length) : ∃ u, atI us d = some u ∧ u ∈ us := by
  obtain ⟨n, rfl⟩ : ∃ n : Nat, d = n := ⟨d.toNat, by omega⟩
  rw [OF.atI_nat]
  have : n < us.length := by omega
  exact ⟨us[n], List.getElem?_eq_getElem this, List.getElem_mem this⟩
end OF
namespace OF
open PySem PySem.Spec PyProof.Rows L2
@[simp] theorem dctU_dct (S : Sto) (kvs : List (Key × U)) : dctU S (.dct kvs) = some kvs := rfl
@[simp] theorem getK_nil {α : Type} (k : Key) : getK ([] : List (Key × α)) k = none := rfl
@[simp] theorem getK_cons {α : Type} (p : Key × α) (t : List (Key × α)) (k : Key) : getK (p :: t) k = if p.1 = k then some p.2 else getK t k := by
  unfold getK
  by_cases e : p.1 = k <;> simp [List.find?_cons, e]
@[simp] theorem putKU_nil {α : Type} (k : Key) (v : α) : putKU [] k v = [(k, v)] := rfl
end OF
namespace K14
open PySem PySem.Spec PyProof.Rows L2 OF
theorem lg1100 {x : Int} (h : x.natAbs < 2 ^ 1100) : x.natAbs.log2 < 1100 := by
  by_cases h0 : x.natAbs = 0
  · rw [h0]; decide
  · rw [Nat.log2_lt h0]; exact h
theorem mulI_ok {i j : Int} (h1 : i.natAbs < 2 ^ 1100) (h2 : j.natAbs < 2 ^ 1100) : mulI i j = some (.int (i * j)) := by
  unfold mulI
  have := lg1100 h1
  have := lg1100 h2
  rw [if_pos (by omega)]
theorem divI_ok {i j : Int} (h0 : 0 < j) (h1 : j.natAbs < 2 ^ 1100) : divI i j = some (.int (i / j)) := by
  unfold divI
  have := lg1100 h1
  rw [if_pos ⟨h0, by omega⟩]
theorem modI_ok {i j : Int} (h0 : 0 < j) : modI i j = some (.int (i % j)) := by
  unfold modI
  rw [if_pos h0]
theorem sm {x : Int} (h : x.natAbs < 2 ^ 64) : x.natAbs < 2 ^ 1100 := Nat.lt_trans h (Nat.pow_lt_pow_right (by decide) (by decide))
def hnd (g b : Int) : O := .lst [.int g, .int b]
structure Hok (g b : Int) : Prop where
  g0 : 0 ≤ g
  g1 : g < 10 ^ 300
  b0 : 0 ≤ b
  b1 : b < 2305843009213693951
@[simp high] theorem addU_int {mu : Bool} {i j : Int} {S : Sto} : addU mu (.int i) (.int j) S = some (.int (i + j), S) := rfl
@[simp high] theorem ixU_ref {n : Nat} {i : Int} {S : Sto} : ixU (.ref n) (.int i) S = (match S[n]? with
  | some (.lst us) => (match atI us i with
    | some w => some (w, S)
    | none => none)
  | _ => none) := by
  simp only [ixU_ap, itmU_ref]
  cases S[n]? with
  | none => rfl
  | some o => cases o <;> rfl
theorem take_ok {S : Sto} {h : Nat} {g b : Int} (hS : S[h]? = some (hnd g b)) (hk : Hok g b) (m : Int) (hm0 : 0 < m) (hm1 : m < 1000000000000) :
    ∃ d g' b', F__law_take [.ref h, .int m] S = some (.int d, S.set h (hnd g' b')) ∧ 0 ≤ d ∧ d < m ∧ Hok g' b' := by
  obtain ⟨g0, g1, b0, b1⟩ := hk
  have hlt : h < S.length := (List.getElem?_eq_some_iff.mp hS).1
  have hset : ∀ o : O, (S.set h o)[h]? = some o := fun o => List.getElem?_set_self hlt
  clear hlt
  have i0 : ixN 2 0 = some 0 := rfl
  have i1 : ixN 2 1 = some 1 := rfl
  unfold F__law_take c__law_take
  unfold hnd at hS
  by_cases hg : 0 < g
  · refine ⟨g % m, g / m, b, ?_, Int.emod_nonneg _ (by omega), Int.emod_lt_of_pos _ hm0, ?_⟩
    · simp [hS, hg, modI_ok hm0, divI_ok hm0 (sm (show m.natAbs < 2 ^ 64 by omega)), hnd, i0]
    · exact ⟨Int.ediv_nonneg g0 (by omega), Int.lt_of_le_of_lt (Int.ediv_le_self _ g0) g1, b0, b1⟩
  · have e1 : mulI b 1181783497276652981 = some (.int (b * 1181783497276652981)) := mulI_ok (sm (by omega)) (sm (by decide))
    generalize hy : (b * 1181783497276652981 + 12345678910987) % 2305843009213693951 = y
    have y0 : 0 ≤ y := by rw [← hy]; exact Int.emod_nonneg _ (by decide)
    have y1 : y < 2305843009213693951 := by rw [← hy]; exact Int.emod_lt_of_pos _ (by decide)
    have m1 : ∀ i, modI i 2305843009213693951 = some (.int (i % 2305843009213693951)) := fun i => modI_ok (by decide)
    have m2 : ∀ i, modI i 2305843009213693921 = some (.int (i % 2305843009213693921)) := fun i => modI_ok (by decide)
    have m3 : ∀ i, modI i 65537 = some (.int (i % 65537)) := fun i => modI_ok (by decide)
    have d1 : ∀ i, divI i 65537 = some (.int (i / 65537)) := fun i => divI_ok (by decide) (sm (by decide))
    have d2 : ∀ i, divI i 97 = some (.int (i / 97)) := fun i => divI_ok (by decide) (sm (by decide))
    have e2 : mulI (y / 65537) (y % 65537 + 3) = some (.int (y / 65537 * (y % 65537 + 3))) := mulI_ok (sm (by omega)) (sm (by omega))
    generalize hx : y / 65537 * (y % 65537 + 3) % 2305843009213693921 / 97 = x
    refine ⟨x % m, g, y, ?_, Int.emod_nonneg _ (by omega), Int.emod_lt_of_pos _ hm0, ⟨g0, g1, y0, y1⟩⟩
    simp [hS, hg, hnd, i1, hset, e1, m1, hy, d1, m3, e2, m2, d2, hx, modI_ok hm0]
theorem take_wp {S : Sto} {h : Nat} {cs : List O} {g b m : Int} {Q : U × Sto → Prop} (hh : h < S.length) (hk : Hok g b) (m0 : 0 < m) (m1 : m < 1000000000000)
    (q : ∀ d g' b', 0 ≤ d → d < m → Hok g' b' → Q (.int d, St S h (hnd g' b') cs)) : wp (F__law_take [.ref h, .int m] (St S h (hnd g b) cs)) Q := by
  obtain ⟨d, g', b', e, d0, d1, k⟩ := take_ok (st_get hh) hk m m0 m1
  rw [st_set hh] at e
  exact wp_of e (q d g' b' d0 d1 k)
theorem atI_in {α : Type} {us : List α} {d : Int} (h0 : 0 ≤ d) (h1 : d < us.length) : ∃ u, atI us d = some u ∧ u ∈ us := atI_mem h0 h1
theorem pick_wp {S : Sto} {h : Nat} {cs : List O} {g b : Int} {us : List U} {Q : U × Sto → Prop} (hh : h < S.length) (hk : Hok g b) (n0 : us ≠ []) (n1 : us.length < 1000000)
    (q : ∀ u g' b', u ∈ us → Hok g' b' → Q (u, St S h (hnd g' b') cs)) : wp (F__law_pick [.ref h, .lst us] (St S h (hnd g b) cs)) Q := by
  unfold F__law_pick c__law_pick
  simp
  have : 0 < us.length := List.length_pos_iff.mpr n0
  refine take_wp hh hk (by omega) (by omega) fun d g' b' d0 d1 k => ?_
  obtain ⟨u, e, hu⟩ := atI_in d0 d1
  simp [e]
  exact q u g' b' hu k
theorem pick_ref {S : Sto} {h j : Nat} {cs : List O} {g b : Int} {us : List U} {Q : U × Sto → Prop} (hh : h < S.length) (hk : Hok g b) (hj : ∀ o, (St S h o cs)[j]? = some (.lst us)) (n0 : us ≠ []) (n1 : us.length < 1000000)
    (q : ∀ u g' b', u ∈ us → Hok g' b' → Q (u, St S h (hnd g' b') cs)) : wp (F__law_pick [.ref h, .ref j] (St S h (hnd g b) cs)) Q := by
  unfold F__law_pick c__law_pick
  simp [hj]
  have : 0 < us.length := List.length_pos_iff.mpr n0
  refine take_wp hh hk (by omega) (by omega) fun d g' b' d0 d1 k => ?_
  obtain ⟨u, e, hu⟩ := atI_in d0 d1
  simp [hj, e]
  exact q u g' b' hu k
def letters : Str := "abcdefghijklmnopqrstuvwxyz"
theorem pick_let {S : Sto} {h : Nat} {cs : List O} {g b : Int} {Q : U × Sto → Prop} (hh : h < S.length) (hk : Hok g b)
    (q : ∀ (c : Nat) g' b', c ∈ letters.cps.toList → Hok g' b' → Q (.str ⟨#[c]⟩, St S h (hnd g' b') cs)) : wp (F__law_pick [.ref h, .str "abcdefghijklmnopqrstuvwxyz"] (St S h (hnd g b) cs)) Q := by
  have hl : (Str.ofString "abcdefghijklmnopqrstuvwxyz").length = 26 := by decide +kernel
  have hz : (26 : Nat) ≤ sizeLine := le_size _ (by omega)
  unfold F__law_pick c__law_pick
  simp [hl, hz]
  refine take_wp hh hk (by omega) (by omega) fun d g' b' d0 d1 k => ?_
  obtain ⟨u, e, hu⟩ := atI_in (us := letters.cps.toList) (d := d) d0 (by
    have : letters.cps.toList.length = 26 := by decide +kernel
    rw [this]; exact d1)
  have e' : atI (Str.ofString "abcdefghijklmnopqrstuvwxyz").cps.toList d = some u := e
  simp [hl, hz, e']
  exact q u g' b' hu k
theorem pow_facts (a : Int) : ∃ A D E r : Int, powI 10 60 = some (.int A) ∧ powJ A 5 = some (.int D) ∧ powI 10 18 = some (.int E) ∧ modI a D = some (.int r) ∧ 0 ≤ r ∧ r < 10 ^ 300 := by
  refine ⟨10 ^ 60, 10 ^ 300, 10 ^ 18, a % 10 ^ 300, rfl, by kernel_rfl, rfl, modI_ok (by decide), Int.emod_nonneg _ (by decide), Int.emod_lt_of_pos _ (by decide)⟩
theorem hand_ok (ns : List Int) (k : Nat) (S : Sto) (hk : k < 100) (hn : ns.length ≤ 63) : ∃ g b, F__law_hand [.scr (ns.map .int), .int k] S = some (.ref S.length, S ++ [hnd g b]) ∧ Hok g b := by
  have m1 : ∀ i, modI i 2305843009213693951 = some (.int (i % 2305843009213693951)) := fun i => modI_ok (by decide)
  have e0 : mulI 3 (k : Int) = some (.int (3 * k)) := mulI_ok (sm (by decide)) (sm (by omega))
  have e1 : mulI 7919 (k : Int) = some (.int (7919 * k)) := mulI_ok (sm (by decide)) (sm (by omega))
  have kk : 0 ≤ (7919 * (k : Int)) * k ∧ (7919 * (k : Int)) * k ≤ 7919 * 100 * 100 := ⟨Int.mul_nonneg (by omega) (by omega), by apply Int.mul_le_mul <;> omega⟩
  have e1' : mulI (7919 * (k : Int)) k = some (.int (7919 * k * k)) := mulI_ok (sm (by omega)) (sm (by omega))
  generalize hz : 7919 * (k : Int) * k = z at kk e1'
  have main : ∀ x : Int, ∃ g b, Hok g b ∧ ∃ A D E r : Int, powI 10 60 = some (.int A) ∧ powJ A 5 = some (.int D) ∧ powI 10 18 = some (.int E) ∧ modI (if x < 0 then -x else x) D = some (.int r) ∧ mulI r (if E ≤ (if x < 0 then -x else x) then 1 else 0) = some (.int g) ∧ mulI (x % 2305843009213693951 + z + 11) 48271 = some (.int ((x % 2305843009213693951 + z + 11) * 48271)) ∧ b = (x % 2305843009213693951 + z + 11) * 48271 % 2305843009213693951 := by
    intro x
    obtain ⟨A, D, E, r, p60, q1, p18, q3, r0, r1⟩ := pow_facts (if x < 0 then -x else x)
    generalize (if x < 0 then -x else x) = a at q3 ⊢
    refine ⟨r * (if E ≤ a then 1 else 0), _, ⟨?_, ?_, Int.emod_nonneg _ (by decide), Int.emod_lt_of_pos _ (by decide)⟩, A, D, E, r, p60, q1, p18, q3, ?_, mulI_ok (sm (by omega)) (sm (by decide)), rfl⟩
    · split <;> omega
    · split <;> omega
    · have hr : r.natAbs < 2 ^ 1100 := by
        have h1 : r.natAbs < 10 ^ 300 := by omega
        exact Nat.lt_trans h1 (by decide +kernel)
      split
      · exact mulI_ok hr (sm (by decide))
      · exact mulI_ok hr (sm (by decide))
  unfold F__law_hand c__law_hand
  by_cases hl : k < ns.length
  · obtain ⟨g, b, hgb, A, D, E, r, p60, q1, p18, q3, q4, q5, rfl⟩ := main ns[k]
    have hat : atI (ns.map U.int) k = some (.int ns[k]) := by
      rw [OF.atI_nat]
      simp [hl]
    refine ⟨g, _, ?_, hgb⟩
    by_cases hE : E ≤ (if ns[k] < 0 then -ns[k] else ns[k])
    · simp only [hE, if_true] at q4
      simp [hl, hat, absU, e0, p60, q1, q3, p18, m1, e1, e1', hE, q4, q5, hnd]
    · simp only [hE, if_false] at q4
      simp [hl, hat, absU, e0, p60, q1, q3, p18, m1, e1, e1', hE, q4, q5, hnd]
  · obtain ⟨g, b, hgb, A, D, E, r, p60, q1, p18, q3, q4, q5, rfl⟩ := main (3 * k + ns.length)
    refine ⟨g, _, ?_, hgb⟩
    by_cases hE : E ≤ (if (3 * (k : Int) + ns.length) < 0 then -(3 * (k : Int) + ns.length) else (3 * (k : Int) + ns.length))
    · simp only [hE, if_true] at q4
      simp [hl, absU, e0, p60, q1, q3, p18, m1, e1, e1', hE, q4, q5, hnd]
    · simp only [hE, if_false] at q4
      simp [hl, absU, e0, p60, q1, q3, p18, m1, e1, e1', hE, q4, q5, hnd]
end K14
namespace K14
open PySem PySem.Spec PyProof.Rows L2 OF
def mk (l : List Nat) : Str := ⟨l.toArray⟩
theorem mk_app (a b : List Nat) : mk a ++ mk b = mk (a ++ b) := by
  show Str.append (mk a) (mk b) = _
  simp [Str.append, mk]
@[simp] theorem mk_len (a : List Nat) : (mk a).length = a.length := by simp [mk, Str.length]
@[simp] theorem mk_size (a : List Nat) : (mk a).cps.size = a.length := by simp [mk]
theorem mk_inj {a b : List Nat} (h : mk a = mk b) : a = b := by
  have : (mk a).cps.toList = (mk b).cps.toList := by rw [h]
  simpa [mk] using this
def lets : List Nat := letters.cps.toList
theorem lets_ok : ∀ c ∈ lets, c < 0x110000 := by decide +kernel
theorem lets_len : lets.length = 26 := by decide +kernel
theorem lets_nodup : lets.Nodup := by decide +kernel
structure Nm (x : Str) : Prop where
  ok : PyData.strOk x = true
  s0 : 1 ≤ x.cps.size
  s1 : x.cps.size ≤ 8
  ltr : ∀ c ∈ x.cps.toList, c ∈ lets
theorem nm_mk {l : List Nat} (h : ∀ c ∈ l, c ∈ lets) (h0 : 1 ≤ l.length) (h1 : l.length ≤ 8) : Nm (mk l) := by
  refine ⟨?_, by simpa using h0, by simpa using h1, by simpa [mk] using h⟩
  unfold PyData.strOk
  rw [Array.all_eq_true']
  intro c hc
  have := lets_ok c (h c (by simpa [mk] using hc))
  simpa using this
theorem cut_lo (l : List Nat) (n : Nat) : cutS (mk l) none (some (n : Int)) = mk (l.take n) := by
  unfold cutS
  simp only [mk_len, HT.sIx_none, HT.sIx_nat]
  show (⟨_⟩ : Str) = ⟨_⟩
  congr 1
  simp [mk]
theorem cut_hi (l : List Nat) (n : Nat) : cutS (mk l) (some (n : Int)) none = mk (l.drop n) := by
  unfold cutS
  simp only [mk_len, HT.sIx_none, HT.sIx_nat]
  show (⟨_⟩ : Str) = ⟨_⟩
  congr 1
  simp [mk]
  by_cases h : n ≤ l.length
  · rw [Nat.min_eq_left h, List.take_of_length_le (by simp)]
  · rw [Nat.min_eq_right (by omega)]
    simp
    omega
def one (c : Nat) : Str := ⟨#[c]⟩
theorem fold_one : ∀ (cs acc : List Nat), (cs.map one).foldl (fun (a : Array Nat) (p : Str) => a ++ (Str.ofString "").cps ++ p.cps) acc.toArray = (acc ++ cs).toArray
  | [], acc => by simp
  | c :: cs, acc => by
    have e : (Str.ofString "").cps = #[] := by decide +kernel
    rw [List.map_cons, List.foldl_cons]
    have h : acc.toArray ++ (Str.ofString "").cps ++ (one c).cps = (acc ++ [c]).toArray := by rw [e]; simp [one]
    rw [h, fold_one cs (acc ++ [c])]
    simp
theorem join_ones (cs : List Nat) : Txt.join "" (cs.map fun c => (⟨#[c]⟩ : Str)) = mk cs := by
  unfold Txt.join Builtin.Str.glued
  cases cs with
  | nil => rfl
  | cons c cs =>
    have := fold_one cs [c]
    simp only [List.map_cons, List.drop_succ_cons, List.drop_zero, List.headD_cons]
    show (⟨_⟩ : Str) = ⟨_⟩
    congr 1
theorem strs_ones : ∀ cs : List Nat, strsU (cs.map fun c => U.str ⟨#[c]⟩) = some (cs.map fun c => (⟨#[c]⟩ : Str))
  | [] => rfl
  | c :: cs => by simp [strsU, strs_ones cs]
theorem sum_ones (cs : List Nat) : ((cs.map fun c => (⟨#[c]⟩ : Str)).map (·.length)).sum = cs.length := by
  induction cs with
  | nil => rfl
  | cons c cs ih =>
    rw [List.map_cons, List.map_cons, List.sum_cons, ih, List.length_cons]
    show 1 + cs.length = _
    omega
theorem atI_let (i : Nat) : atI (Str.ofString "abcdefghijklmnopqrstuvwxyz").cps.toList (i : Int) = lets[i]? := OF.atI_nat _ _ _
theorem stem_wp {S : Sto} {h : Nat} {cs : List O} {x0 x1 x2 x3 x4 x5 x6 x7 x9 x10 x11 : Option U} : ∀ (n : Nat) (us : List U) (g b : Int) (Q : List U × Sto → Prop), us.length = n → h < S.length → Hok g b →
    (∀ (l : List Nat) g' b', l.length = n → (∀ c ∈ l, c ∈ lets) → Hok g' b' → Q (l.map (fun c => U.str ⟨#[c]⟩), St S h (hnd g' b') cs)) →
    wp (mapC (.nm 8) cYes (cArg F__law_pick (cCons (cVar 0) (cCons (cVar 2) cNil))) [some (.ref h), x1, some (.str "abcdefghijklmnopqrstuvwxyz"), x3, x4, x5, x6, x7, none, x9, x10, x11] us (St S h (hnd g b) cs)) Q
  | 0, [], g, b, Q, _, hh, hk, q => by
    simp
    simpa using q [] g b rfl (by simp) hk
  | n + 1, u :: us, g, b, Q, hl, hh, hk, q => by
    simp [-mapC_cons]
    refine pick_let hh hk fun c g1 b1 hc k1 => ?_
    simp
    refine stem_wp (x0 := x0) (x2 := x2) n us g1 b1 _ (by simpa using hl) hh k1 fun l g2 b2 l0 l1 k2 => ?_
    simp
    have := q (c :: l) g2 b2 (by simp [l0]) (by
      intro d hd
      rcases List.mem_cons.mp hd with rfl | hd
      · exact hc
      · exact l1 d hd) k2
    simpa using this
end K14
namespace K14
open PySem PySem.Spec PyProof.Rows L2 OF
def nmB : Sm := (sSeq (sAsg (cBin ixU (cVar 2) (cBin (o2I modI) (cBin (addU false) (cVar 3) (cBin (o2I mulI) (cVar 4) (cVar 8))) (cCst (.int 26)))) (gmName 9))
  (sExpr (cMt "list" appU (cVar 7) (cCons (cBin (addU false) (cBin (addU false) (cSl false (cVar 5) cNoPart (cPart (cVar 6))) (cVar 9)) (cSl false (cVar 5) (cPart (cVar 6)) cNoPart)) cNil))))
def letAt (i : Int) : Nat := lets.getD (i % 26).toNat 97
def nameL (l : List Nat) (sp : Nat) (f st : Int) (k : Nat) : List Nat := l.take sp ++ [letAt (f + st * k)] ++ l.drop sp
theorem letAt_get (i : Int) : atI (Str.ofString "abcdefghijklmnopqrstuvwxyz").cps.toList (i % 26) = some (letAt i) := by
  have h0 : 0 ≤ i % 26 := Int.emod_nonneg _ (by decide)
  have h1 : i % 26 < 26 := Int.emod_lt_of_pos _ (by decide)
  obtain ⟨n, hn⟩ : ∃ n : Nat, i % 26 = n := ⟨(i % 26).toNat, by omega⟩
  have hl := lets_len
  unfold letAt
  rw [hn, atI_let, Int.toNat_natCast]
  have : n < lets.length := by omega
  rw [List.getElem?_eq_getElem this, List.getD_eq_getElem?_getD, List.getElem?_eq_getElem this]
  rfl
theorem letAt_mem (i : Int) : letAt i ∈ lets := by
  have h0 : 0 ≤ i % 26 := Int.emod_nonneg _ (by decide)
  have h1 : i % 26 < 26 := Int.emod_lt_of_pos _ (by decide)
  have hl := lets_len
  unfold letAt
  have : (i % 26).toNat < lets.length := by omega
  rw [List.getD_eq_getElem?_getD, List.getElem?_eq_getElem this]
  exact List.getElem_mem this
theorem letAt_inj {i j : Int} (h : letAt i = letAt j) : i % 26 = j % 26 := by
  have a0 : 0 ≤ i % 26 := Int.emod_nonneg _ (by decide)
  have a1 : i % 26 < 26 := Int.emod_lt_of_pos _ (by decide)
  have b0 : 0 ≤ j % 26 := Int.emod_nonneg _ (by decide)
  have b1 : j % 26 < 26 := Int.emod_lt_of_pos _ (by decide)
  have hl := lets_len
  have ha : (i % 26).toNat < lets.length := by omega
  have hb : (j % 26).toNat < lets.length := by omega
  unfold letAt at h
  rw [List.getD_eq_getElem?_getD, List.getElem?_eq_getElem ha, List.getD_eq_getElem?_getD, List.getElem?_eq_getElem hb] at h
  have h' : lets[(i % 26).toNat] = lets[(j % 26).toNat] := h
  have nd := List.pairwise_iff_getElem.mp lets_nodup
  rcases Nat.lt_trichotomy (i % 26).toNat (j % 26).toNat with c | c | c
  · exact absurd h' (nd _ _ ha hb c)
  · omega
  · exact absurd h'.symm (nd _ _ hb ha c)
theorem names_loop {S : Sto} {h : Nat} {cs : List O} {g b : Int} {l : List Nat} {sp : Nat} {f st : Int} (hl : l.length ≤ 7) (f0 : 0 ≤ f) (f1 : f < 26) (s0 : 0 ≤ st) (s1 : st < 26) (x0 x1 x10 x11 : Option U) :
    ∀ (ks : List Nat) (done : List Str) (x8 x9 : Option U), (∀ k ∈ ks, k < 100) → done.length + ks.length < 1000 → ∃ y8 y9, loopF (.nm 8) nmB (ks.map fun (k : Nat) => U.int (k : Int)) [x0, x1, some (.str "abcdefghijklmnopqrstuvwxyz"), some (.int f), some (.int st), some (.str (mk l)), some (.int (sp : Int)), some (.ref (S.length + cs.length)), x8, x9, x10, x11] (St S h (hnd g b) (cs ++ [.lst (done.map .str)])) =
      some (.nx, [x0, x1, some (.str "abcdefghijklmnopqrstuvwxyz"), some (.int f), some (.int st), some (.str (mk l)), some (.int (sp : Int)), some (.ref (S.length + cs.length)), y8, y9, x10, x11], St S h (hnd g b) (cs ++ [.lst ((done ++ ks.map fun k => mk (nameL l sp f st k)).map .str)]))
  | [], done, x8, x9, _, _ => ⟨x8, x9, by simp⟩
  | k :: ks, done, x8, x9, hk, hd => by
    have kk := hk k (by simp)
    obtain ⟨y8, y9, ih⟩ := names_loop (S := S) (h := h) (cs := cs) (g := g) (b := b) (l := l) (sp := sp) hl f0 f1 s0 s1 x0 x1 x10 x11 ks (done ++ [mk (nameL l sp f st k)]) (some (.int k)) (some (.str (mk [letAt (f + st * k)]))) (fun j hj => hk j (by simp [hj])) (by simp at hd ⊢; omega)
    refine ⟨y8, y9, ?_⟩
    have e1 : mulI st (k : Int) = some (.int (st * k)) := mulI_ok (sm (by omega)) (sm (by omega))
    have hz : (Str.ofString "abcdefghijklmnopqrstuvwxyz").length ≤ sizeLine := le_size _ (by decide +kernel)
    have hz2 : l.length ≤ sizeLine := le_size _ (by omega)
    have hz3 : ∀ a b : Str, a.length ≤ 100 → b.length ≤ 100 → a.length + b.length ≤ sizeLine := fun a b h1 h2 => le_size _ (by omega)
    have hz4 : done.length < sizeLine := lt_size _ (by simp at hd; omega)
    have t1 : (mk (l.take sp)).length ≤ 100 := by simp; omega
    have t2 : (mk (l.take sp ++ [letAt (f + st * k)])).length ≤ 100 := by simp; omega
    have t3 : (mk (l.drop sp)).length ≤ 100 := by simp; omega
    have t4 : (mk [letAt (f + st * k)]).length ≤ 100 := by simp
    have a1 := hz3 _ _ t1 t4
    have a2 := hz3 _ _ t2 t3
    simp at a1 a2
    have hm := letAt_get (f + st * k)
    have hmod : modI (f + st * (k : Int)) 26 = some (.int ((f + st * k) % 26)) := modI_ok (by decide)
    have hone : (⟨#[letAt (f + st * k)]⟩ : Str) = mk [letAt (f + st * k)] := rfl
    unfold nmB at ih ⊢
    simp only [List.map_append, List.map_cons, List.map_nil, List.append_assoc, List.cons_append, List.nil_append] at ih
    simp [-loopF_cons] at ih
    rw [List.map_cons, loopF_cons]
    simp [-loopF_cons, e1, hmod, hm, hz, hz2, cut_lo, cut_hi, hone, mk_app, a1, a2, hz4]
    simp [nameL] at ih ⊢
    exact ih
end K14
namespace K14
open PySem PySem.Spec PyProof.Rows L2 OF
theorem step_inj {f st : Int} {i j : Nat} (hs : st = 1 ∨ st = 3 ∨ st = 5 ∨ st = 7 ∨ st = 9 ∨ st = 11 ∨ st = 25) (hi : i < 26) (hj : j < 26) (h : (f + st * i) % 26 = (f + st * j) % 26) : i = j := by
  rcases hs with rfl | rfl | rfl | rfl | rfl | rfl | rfl <;> omega
theorem nameL_inj {l : List Nat} {sp : Nat} {f st : Int} {i j : Nat} (hs : st = 1 ∨ st = 3 ∨ st = 5 ∨ st = 7 ∨ st = 9 ∨ st = 11 ∨ st = 25) (hi : i < 26) (hj : j < 26) (h : mk (nameL l sp f st i) = mk (nameL l sp f st j)) : i = j := by
  have h1 := mk_inj h
  unfold nameL at h1
  rw [List.append_assoc, List.append_assoc] at h1
  have h2 := List.append_cancel_left h1
  simp only [List.cons_append, List.nil_append, List.cons.injEq, and_true] at h2
  exact step_inj hs hi hj (letAt_inj h2)
theorem names_nodup {l : List Nat} {sp : Nat} {f st : Int} (hs : st = 1 ∨ st = 3 ∨ st = 5 ∨ st = 7 ∨ st = 9 ∨ st = 11 ∨ st = 25) {n : Nat} (hn : n ≤ 26) : ((List.range n).map fun k => mk (nameL l sp f st k)).Nodup := by
  unfold List.Nodup
  rw [List.pairwise_map]
  refine List.Pairwise.imp_of_mem ?_ (List.nodup_range (n := n))
  intro a b ha hb hne h
  simp at ha hb
  exact hne (nameL_inj hs (by omega) (by omega) h)
theorem nameL_nm {l : List Nat} {sp : Nat} {f st : Int} (hl : l.length ≤ 7) (hm : ∀ c ∈ l, c ∈ lets) (k : Nat) : Nm (mk (nameL l sp f st k)) := by
  refine nm_mk ?_ (by simp [nameL]; omega) (by simp [nameL]; omega)
  intro c hc
  unfold nameL at hc
  rcases List.mem_append.mp hc with hc | hc
  · rcases List.mem_append.mp hc with hc | hc
    · exact hm c (List.mem_of_mem_take hc)
    · simp at hc; subst hc; exact letAt_mem _
  · exact hm c (List.mem_of_mem_drop hc)
def wordsL : List Str := ["go", "if", "stop", "put", "say", "spare", "ask", "copy"]
theorem words_nm : ∀ x ∈ wordsL, Nm x := by
  intro x hx
  simp only [wordsL, List.mem_cons, List.not_mem_nil, or_false] at hx
  rcases hx with rfl | rfl | rfl | rfl | rfl | rfl | rfl | rfl <;> exact ⟨by decide +kernel, by decide +kernel, by decide +kernel, by decide +kernel⟩
theorem words_nodup : wordsL.Nodup := by decide +kernel
theorem anyF_str (x : Str) : ∀ ns : List Str, ((ns.map U.str).any fun y => eqF y (.str x)) = decide (x ∈ ns)
  | [] => by simp
  | y :: ns => by
    have ih := anyF_str x ns
    rw [List.map_cons, List.any_cons, ih]
    simp only [eqF]
    by_cases h : y = x
    · simp [h]
    · have h' : ¬ x = y := fun z => h z.symm
      simp [h, h']
theorem allF_str : ∀ ns : List Str, (ns.map U.str).all flatU = true
  | [] => rfl
  | y :: ns => by rw [List.map_cons, List.all_cons, allF_str ns]; rfl
theorem words_map {S : Sto} {n : Nat} {ns : List Str} {env : Env'} (hn : S[n]? = some (.lst (ns.map .str))) (e7 : env[7]? = some (some (.ref n))) (hl : env.length = 12) : ∀ ws : List Str, mapC (.nm 11) (cTru (cBin (inU true) (cVar 11) (cVar 7))) (cVar 11) env (ws.map .str) S = some ((ws.filter fun w => decide (w ∉ ns)).map .str, S)
  | [] => rfl
  | w :: ws => by
    have ih := words_map hn e7 hl ws
    have hb := inB_refL S (.str w) n _ hn
    rw [allF_str, anyF_str] at hb
    simp at hb
    have g7 : (env.set 11 (some (.str w)))[7]? = some (some (.ref n)) := by rw [List.getElem?_set_ne (by decide)]; exact e7
    have g11 : (env.set 11 (some (.str w)))[11]? = some (some (.str w)) := List.getElem?_set_self (by omega)
    by_cases h : w ∈ ns
    · simp [g7, g11, hb, h, ih]
    · simp [g7, g11, hb, h, ih]
theorem names_wp {S : Sto} {h : Nat} {cs : List O} {g b : Int} {n : Nat} {Q : U × Sto → Prop} (hh : h < S.length) (hk : Hok g b) (hn : n ≤ 24)
    (q : ∀ (xs : List Str) (jk : List O) (i : Nat) g' b', xs.length = n → xs.Nodup → (∀ x ∈ xs, Nm x) → (cs ++ jk)[i]? = some (.lst (xs.map .str)) → Hok g' b' → Q (.ref (S.length + i), St S h (hnd g' b') (cs ++ jk))) : wp (F__law_names [.ref h, .int n] (St S h (hnd g b) cs)) Q := by
  unfold F__law_names c__law_names
  simp [-loopF_cons, -wq_loop]
  refine take_wp hh hk (by omega) (by omega) fun f g1 b1 f0 f1 k1 => ?_
  simp [-loopF_cons, -wq_loop]
  refine pick_wp hh k1 (by simp) (by simp) fun u g2 b2 hu k2 => ?_
  obtain ⟨st, rfl, hs⟩ : ∃ st : Int, u = .int st ∧ (st = 1 ∨ st = 3 ∨ st = 5 ∨ st = 7 ∨ st = 9 ∨ st = 11 ∨ st = 25) := by
    simp at hu
    rcases hu with rfl | rfl | rfl | rfl | rfl | rfl | rfl <;> exact ⟨_, rfl, by simp⟩
  simp [-loopF_cons, -wq_loop]
  refine pick_wp hh k2 (by simp) (by simp) fun u g3 b3 hu k3 => ?_
  obtain ⟨m, rfl, hm⟩ : ∃ m : Nat, u = .int m ∧ m ≤ 7 := by
    simp at hu
    rcases hu with rfl | rfl | rfl | rfl
    · exact ⟨0, rfl, by omega⟩
    · exact ⟨1, rfl, by omega⟩
    · exact ⟨2, rfl, by omega⟩
    · exact ⟨7, rfl, by omega⟩
  have hm2 : (m : Int) < 4611686018427387904 := by omega
  have hm3 : (-4611686018427387904 : Int) ≤ m := by omega
  simp [-loopF_cons, -wq_loop, -mapC_cons, hm2, hm3]
  refine stem_wp (x0 := none) (x2 := none) m _ g3 b3 _ (by simp [rangeU]) hh k3 fun l g4 b4 l0 l1 k4 => ?_
  have lz : l.length ≤ sizeLine := le_size _ (by omega)
  have le : (Str.ofString "").length = 0 := by decide +kernel
  have js := strs_ones l
  have jj := join_ones l
  have jz : ((l.map fun c => (⟨#[c]⟩ : Str)).map (·.length)).sum + (l.map fun c => (⟨#[c]⟩ : Str)).length * (Str.ofString "").length ≤ 16777216 := by rw [sum_ones, le]; omega
  simp [-loopF_cons, -wq_loop, lz, joinU, js]
  rw [if_pos (by simpa using jz)]
  rw [jj]
  simp [-loopF_cons, -wq_loop, lz]
  refine take_wp hh k4 (by omega) (by omega) fun sp g5 b5 p0 p1 k5 => ?_
  obtain ⟨sp, rfl⟩ : ∃ s : Nat, sp = s := ⟨sp.toNat, by omega⟩
  have hn2 : (n : Int) < 4611686018427387904 := by omega
  have hn3 : (-4611686018427387904 : Int) ≤ n := by omega
  simp [-loopF_cons, -wq_loop, hn2, hn3]
  rw [rangeU_eq]
  obtain ⟨y8, y9, e⟩ := names_loop (S := S) (h := h) (cs := cs) (g := g5) (b := b5) (l := l) (sp := sp) (f := f) (st := st) (by omega) f0 f1 (by omega) (by omega) (some (.ref h)) (some (.int n)) none none (List.range n) [] none none (by simp; omega) (by simp; omega)
  unfold nmB at e
  simp only [List.map_nil, List.nil_append] at e
  simp only [e, wq_some]
  have nd := names_nodup (l := l) (sp := sp) (f := f) hs (n := n) (by omega)
  have nm : ∀ x ∈ (List.range n).map fun k => mk (nameL l sp f st k), Nm x := by
    intro x hx
    obtain ⟨k, _, rfl⟩ := List.mem_map.mp hx
    exact nameL_nm (by omega) l1 k
  have ln : ((List.range n).map fun k => mk (nameL l sp f st k)).length = n := by simp
  generalize ((List.range n).map fun k => mk (nameL l sp f st k)) = ns at nd nm ln e ⊢
  simp
  refine take_wp hh k5 (by omega) (by omega) fun d g6 b6 d0 d1 k6 => ?_
  simp
  refine wiH_dec (fun hd => ?_) (fun hd => ?_)
  · have wm := words_map (S := St S h (hnd g6 b6) (cs ++ [.lst (ns.map .str)])) (n := S.length + cs.length) (ns := ns) (env := [some (.ref h), some (.int n), some (.str "abcdefghijklmnopqrstuvwxyz"), some (.int f), some (.int st), some (.str (mk l)), some (.int (sp : Int)), some (.ref (S.length + cs.length)), y8, y9, some (.lst (wordsL.map .str)), none]) (by simp) rfl rfl wordsL
    have ew : (wordsL.map U.str) = [.str "go", .str "if", .str "stop", .str "put", .str "say", .str "spare", .str "ask", .str "copy"] := rfl
    rw [ew] at wm
    have fl : (wordsL.filter fun w => decide (w ∉ ns)).length ≤ 8 := List.length_filter_le _ _
    generalize hfw : (wordsL.filter fun w => decide (w ∉ ns)) = fw at wm fl
    have fz : fw.length ≤ sizeLine := le_size _ (by omega)
    have az : fw.length + ns.length ≤ sizeLine := le_size _ (by omega)
    simp [-mapC_cons, -wq_map, wm, fz, az]
    have hc : cutU (fw.map U.str ++ ns.map U.str) none (some (n : Int)) = ((fw ++ ns).take n).map U.str := by
      unfold cutU
      rw [HT.sIx_none, HT.sIx_nat]
      simp
    rw [hc]
    have ndf : fw.Nodup := by rw [← hfw]; exact words_nodup.filter _
    have dis : ∀ a ∈ fw, ∀ b ∈ ns, a ≠ b := by
      intro a ha b hb e
      rw [← hfw] at ha
      have := List.mem_filter.mp ha
      subst e
      simp at this
      exact this.2 hb
    have nda : (fw ++ ns).Nodup := List.nodup_append.mpr ⟨ndf, nd, dis⟩
    have := q ((fw ++ ns).take n) [.lst (ns.map .str), .lst (((fw ++ ns).take n).map .str)] (cs.length + 1) g6 b6 (by simp; omega) (nda.sublist (List.take_sublist _ _)) (by
      intro x hx
      rcases List.mem_append.mp (List.mem_of_mem_take hx) with hx | hx
      · rw [← hfw] at hx
        exact words_nm x (List.mem_filter.mp hx).1
      · exact nm x hx) (by simp) k6
    simpa [Nat.add_assoc] using this
  · have := q ns [.lst (ns.map .str)] cs.length g6 b6 ln nd nm (by simp) k6
    simpa using this
end K14
namespace K14
open PySem PySem.Spec PyProof.Rows L2 OF
def gc (l : List Nat) : O := .lst (l.map fun (i : Nat) => U.int (i : Int))
def refs (S : Sto) (cs : List O) (n : Nat) : List U := (List.range n).map fun i => U.ref (S.length + (cs.length + i))
section
variable {S : Sto} {h : Nat} {o : O} {cs tl : List O} {gs : List (List Nat)} {k n : Nat}
theorem atI_refs (hk : k < n) : atI (refs S cs n) (k : Int) = some (.ref (S.length + (cs.length + k))) := by
  rw [OF.atI_nat]
  simp [refs, hk]
theorem st_goal {l : List Nat} (hk : gs[k]? = some l) : (St S h o (cs ++ (gs.map gc ++ tl)))[S.length + (cs.length + k)]? = some (gc l) := by
  rw [st_at, List.getElem?_append_right (by omega), Nat.add_sub_cancel_left]
  have : k < gs.length := (List.getElem?_eq_some_iff.mp hk).1
  rw [List.getElem?_append_left (by simpa using this), List.getElem?_map, hk]
  rfl
end
structure Gk (n : Nat) (gs : List (List Nat)) : Prop where
  len : gs.length = n
  two : ∀ l ∈ gs, l.length ≤ 2
  lt : ∀ l ∈ gs, ∀ i ∈ l, i < n
  nd : ∀ l ∈ gs, l.Nodup
theorem Gk.set {n : Nat} {gs : List (List Nat)} (h : Gk n gs) {k : Nat} {l : List Nat} (h2 : l.length ≤ 2) (h3 : ∀ i ∈ l, i < n) (h4 : l.Nodup) : Gk n (gs.set k l) := by
  refine ⟨by simp [h.len], fun m hm => ?_, fun m hm => ?_, fun m hm => ?_⟩
  · rcases List.mem_or_eq_of_mem_set hm with hm | rfl
    · exact h.two m hm
    · exact h2
  · rcases List.mem_or_eq_of_mem_set hm with hm | rfl
    · exact h.lt m hm
    · exact h3
  · rcases List.mem_or_eq_of_mem_set hm with hm | rfl
    · exact h.nd m hm
    · exact h4
theorem new_goals {S : Sto} {h : Nat} {o : O} {env : Env'} : ∀ (us : List U) (cs : List O), mapC (.nm 4) cYes (cArg oLstM cNil) env us (St S h o cs) = some (refs S cs us.length, St S h o (cs ++ (List.replicate us.length ([] : List Nat)).map gc))
  | [], cs => by simp [refs]
  | u :: us, cs => by
    have ih := new_goals (S := S) (h := h) (o := o) (env := env) us (cs ++ [gc []])
    have e : gc [] = .lst [] := rfl
    rw [e] at ih
    rw [mapC_cons]
    simp [-mapC_cons, ih]
    refine ⟨?_, ?_⟩
    · unfold refs
      rw [List.range_succ_eq_map]
      simp
      intro i _
      omega
    · rw [List.replicate_succ]
      simp [e]
def freeL (gs : List (List Nat)) (k : Nat) : List Nat := (List.range k).filter fun i => decide ((gs.getD i []).length < 2)
theorem free_map {S : Sto} {h : Nat} {o : O} {cs tl : List O} {gs : List (List Nat)} {n : Nat} (hn : gs.length = n) {env : Env'} (e3 : env[3]? = some (some (.lst (refs S cs n)))) (hl : env.length = 9) : ∀ ks : List Nat, (∀ k ∈ ks, k < n) →
    mapC (.nm 8) (cTru (cBin oLt (cArg (on1 lenU) (cCons (cBin ixU (cVar 3) (cVar 8)) cNil)) (cCst (.int 2)))) (cVar 8) env (ks.map fun (k : Nat) => U.int (k : Int)) (St S h o (cs ++ (gs.map gc ++ tl))) = some ((ks.filter fun i => decide ((gs.getD i []).length < 2)).map (fun (k : Nat) => U.int (k : Int)), St S h o (cs ++ (gs.map gc ++ tl)))
  | [], _ => rfl
  | k :: ks, hk => by
    have ih := free_map (S := S) (h := h) (o := o) (cs := cs) (tl := tl) hn e3 hl ks fun j hj => hk j (by simp [hj])
    have kn := hk k (by simp)
    have g3 : (env.set 8 (some (.int (k : Int))))[3]? = some (some (.lst (refs S cs n))) := by rw [List.getElem?_set_ne (by decide)]; exact e3
    have g8 : (env.set 8 (some (.int (k : Int))))[8]? = some (some (.int (k : Int))) := List.getElem?_set_self (by omega)
    have hg : gs[k]? = some (gs.getD k []) := by
      rw [List.getD_eq_getElem?_getD, List.getElem?_eq_getElem (by omega)]; rfl
    have hs := st_goal (S := S) (h := h) (o := o) (cs := cs) (tl := tl) hg
    have ha := atI_refs (S := S) (cs := cs) kn
    have hi : ixU (.lst (refs S cs n)) (.int (k : Int)) (St S h o (cs ++ (gs.map gc ++ tl))) = some (.ref (S.length + (cs.length + k)), St S h o (cs ++ (gs.map gc ++ tl))) := by simp [ha]
    have hlen : lenU (.ref (S.length + (cs.length + k))) (St S h o (cs ++ (gs.map gc ++ tl))) = some (.int ((gs.getD k []).length : Int), St S h o (cs ++ (gs.map gc ++ tl))) := by
      generalize St S h o (cs ++ (gs.map gc ++ tl)) = X at hs ⊢
      generalize S.length + (cs.length + k) = r at hs ⊢
      simp [hs, gc]
    generalize St S h o (cs ++ (gs.map gc ++ tl)) = X at ih hi hlen ⊢
    generalize S.length + (cs.length + k) = r at hi hlen
    generalize hG : gs.getD k [] = G at hi hlen
    rw [List.map_cons, mapC_cons, List.filter_cons, hG]
    by_cases h2 : G.length < 2
    · have h2' : (G.length : Int) < 2 := by omega
      have h3 := decide_eq_true h2'
      simp only [h2, if_true, if_false, decide_true, decide_false, List.map_cons]
      simp [-mapC_cons, -lenU_ap, -ixU_ap, -List.getD_eq_getElem?_getD, g3, g8, hi, hlen, h3, ih]
    · have h2' : ¬ (G.length : Int) < 2 := by omega
      have h3 := decide_eq_false h2'
      simp only [h2, if_true, if_false, decide_true, decide_false, List.map_cons]
      simp [-mapC_cons, -lenU_ap, -ixU_ap, -List.getD_eq_getElem?_getD, g3, g8, hi, hlen, h3, ih]
end K14
namespace K14
open PySem PySem.Spec PyProof.Rows L2 OF
theorem free_sum : ∀ (k : Nat) (gs : List (List Nat)), k ≤ gs.length → (∀ i, i < k → 2 ≤ (gs.getD i []).length) → 2 * k ≤ (gs.map List.length).sum
  | 0, _, _, _ => by omega
  | k + 1, [], h, _ => by simp at h
  | k + 1, g :: gs, h, a => by
    have h0 := a 0 (by omega)
    have := free_sum k gs (by simpa using h) fun i hi => by
      have := a (i + 1) (by omega)
      simpa using this
    simp at h0 ⊢
    omega
theorem free_ne {gs : List (List Nat)} {k : Nat} (hk : k ≤ gs.length) (k1 : 1 ≤ k) (hs : (gs.map List.length).sum ≤ k - 1) : freeL gs k ≠ [] := by
  intro e
  have := free_sum k gs hk fun i hi => by
    have hn : ¬ i ∈ freeL gs k := by rw [e]; simp
    unfold freeL at hn
    simp only [List.mem_filter, List.mem_range, decide_eq_true_eq, not_and] at hn
    have := hn hi
    omega
  omega
theorem sum_set {gs : List (List Nat)} {k : Nat} {l : List Nat} (hk : k < gs.length) (hl : l.length ≤ (gs.getD k []).length + 1) : ((gs.set k l).map List.length).sum ≤ (gs.map List.length).sum + 1 := by
  induction gs generalizing k with
  | nil => simp at hk
  | cons g gs ih =>
    cases k with
    | zero => simp at hl ⊢; omega
    | succ k =>
      have := ih (k := k) (by simpa using hk) (by simpa using hl)
      simp at this ⊢
      omega
theorem cut_mem {us : List U} {a b : Option Int} {u : U} (h : u ∈ cutU us a b) : u ∈ us := by
  unfold cutU at h
  exact List.mem_of_mem_drop (List.mem_of_mem_take h)
section
variable (S : Sto) (h : Nat) (cs : List O) (n : Nat) (y2 : Option U)
def gEnv (y4 y5 y6 y7 y8 : Option U) : Env' := [some (.ref h), some (.int (n : Int)), y2, some (.lst (refs S cs n)), y4, y5, y6, y7, y8]
def gI1 (us : List U) (env : Env') (X : Sto) : Prop := ∃ (k : Nat) (gs : List (List Nat)) (g b : Int) (y4 y5 : Option U), 1 ≤ k ∧ k ≤ n ∧ us = (List.range' k (n - k)).map (fun (i : Nat) => U.int (i : Int)) ∧ Gk n gs ∧ (∀ l ∈ gs, ∀ i ∈ l, i < k) ∧ (gs.map List.length).sum ≤ k - 1 ∧ Hok g b ∧ env = gEnv S h cs n y2 y4 y5 none none none ∧ X = St S h (hnd g b) (cs ++ (gs.map gc ++ []))
end
end K14
namespace K14
open PySem PySem.Spec PyProof.Rows L2 OF
theorem goal_cell {cs tl : List O} {gs : List (List Nat)} {k : Nat} {l : List Nat} (hk : gs[k]? = some l) : (cs ++ (gs.map gc ++ tl))[cs.length + k]? = some (gc l) := by
  rw [List.getElem?_append_right (by omega), Nat.add_sub_cancel_left]
  have : k < gs.length := (List.getElem?_eq_some_iff.mp hk).1
  rw [List.getElem?_append_left (by simpa using this), List.getElem?_map, hk]
  rfl
theorem goal_set {cs tl : List O} {gs : List (List Nat)} {k : Nat} {l : List Nat} (hk : k < gs.length) : (cs ++ (gs.map gc ++ tl)).set (cs.length + k) (gc l) = cs ++ ((gs.set k l).map gc ++ tl) := by
  rw [List.set_append_right _ _ (by omega), Nat.add_sub_cancel_left, List.set_append_left _ _ (by simpa using hk), List.map_set]
noncomputable def gB1 : Sm := (sSeq (sAsg (cLc (itR1 (cCons (cVar 4) cNil)) (.nm 8) (cTru (cBin oLt (cArg (on1 lenU) (cCons (cBin ixU (cVar 3) (cVar 8)) cNil)) (cCst (.int 2)))) (cVar 8) [8]) (gmName 5))
  (sIf (cOrT (cTru (cBin oGt (cArg F__law_take (cCons (cVar 0) (cCons (cCst (.int 8)) cNil))) (cCst (.int 0)))) (cNotT (cTru (cVar 2))))
  (sExpr (cMt "list" appU (cBin ixU (cVar 3) (cArg F__law_pick (cCons (cVar 0) (cCons (cBin (addU false) (cSl false (cVar 5) (cPart (cUn oNeg (cCst (.int 3)))) cNoPart) (cVar 5)) cNil)))) (cCons (cVar 4) cNil)))
  sNil))
noncomputable def gA1 : Sm := (sExpr (cMt "list" appU (cBin ixU (cVar 3) (cArg F__law_pick (cCons (cVar 0) (cCons (cBin (addU false) (cSl false (cVar 5) (cPart (cUn oNeg (cCst (.int 3)))) cNoPart) (cVar 5)) cNil)))) (cCons (cVar 4) cNil)))
theorem g_add {S : Sto} {h : Nat} {cs : List O} {n k : Nat} {gs : List (List Nat)} {fr : List Nat} {g b : Int} {y1 y2 y6 y7 y8 : Option U} {P : Fl × Env' × Sto → Prop} (hh : h < S.length) (hk : Hok g b) (hg : Gk n gs) (f0 : fr ≠ []) (f1 : fr.length ≤ 24) (f2 : ∀ i ∈ fr, i < n)
    (q : ∀ i ∈ fr, ∀ g' b', Hok g' b' → P (.nx, [some (.ref h), y1, y2, some (.lst (refs S cs n)), some (.int (k : Int)), some (.lst (fr.map fun (k : Nat) => U.int (k : Int))), y6, y7, y8], St S h (hnd g' b') (cs ++ (gs.set i (gs.getD i [] ++ [k])).map gc))) :
    wp (gA1 [some (.ref h), y1, y2, some (.lst (refs S cs n)), some (.int (k : Int)), some (.lst (fr.map fun (k : Nat) => U.int (k : Int))), y6, y7, y8] (St S h (hnd g b) (cs ++ gs.map gc))) P := by
  have cl : (cutU (fr.map fun (k : Nat) => U.int (k : Int)) (some (-3)) none).length ≤ 24 := by
    unfold cutU
    rw [List.length_take, List.length_drop, List.length_map]
    omega
  have cz : (cutU (fr.map fun (k : Nat) => U.int (k : Int)) (some (-3)) none).length + fr.length ≤ sizeLine := le_size _ (by omega)
  unfold gA1
  simp [cz]
  refine pick_wp hh hk (by simp [f0]) (by simp; omega) fun u g' b' hu k' => ?_
  obtain ⟨i, hi, rfl⟩ : ∃ i ∈ fr, u = .int (i : Int) := by
    rcases List.mem_append.mp hu with hu | hu
    · obtain ⟨i, hi, e⟩ := List.mem_map.mp (cut_mem hu)
      exact ⟨i, hi, e.symm⟩
    · obtain ⟨i, hi, e⟩ := List.mem_map.mp hu
      exact ⟨i, hi, e.symm⟩
  have ha := atI_refs (S := S) (cs := cs) (f2 i hi)
  have il : i < gs.length := by rw [hg.len]; exact f2 i hi
  have hgi : gs[i]? = some (gs.getD i []) := by
    rw [List.getD_eq_getElem?_getD, List.getElem?_eq_getElem il]; rfl
  have hm : gs.getD i [] ∈ gs := List.mem_of_getElem? hgi
  have h2 := hg.two _ hm
  have hz : (gs.getD i []).length < sizeLine := by have := le_size 24 (by omega); omega
  have q' := q i hi g' b' k'
  generalize gs.getD i [] = l at hgi hz q'
  have hc : (cs ++ gs.map gc)[cs.length + i]? = some (.lst (l.map fun (k : Nat) => U.int (k : Int))) := by
    have := goal_cell (cs := cs) (tl := []) hgi
    rw [List.append_nil] at this
    exact this
  have hs : (gs.map gc).set i (.lst (l.map (fun (k : Nat) => U.int (k : Int)) ++ [.int (k : Int)])) = (gs.set i (l ++ [k])).map gc := by
    rw [List.map_set]; simp [gc]
  rw [List.map_set] at hs q'
  simp [ha, hc, hz, hs]
  exact q'
theorem goals1 {S : Sto} {h : Nat} {cs : List O} {n : Nat} {st : Bool} {Q : Fl × Env' × Sto → Prop} (hh : h < S.length) (hn : n ≤ 24)
    (q : ∀ gs g b y4 y5, Gk n gs → Hok g b → Q (.nx, gEnv S h cs n (some (.bl st)) y4 y5 none none none, St S h (hnd g b) (cs ++ (gs.map gc ++ [])))) :
    ∀ us env X, gI1 S h cs n (some (.bl st)) us env X → wp (loopF (.nm 4) gB1 us env X) Q := by
  refine wp_loop_inv (gI1 S h cs n (some (.bl st))) ?_ ?_
  · rintro e X ⟨k, gs, g, b, y4, y5, k1, kn, hu, hg, hlk, hs, hk, rfl, rfl⟩
    exact q gs g b y4 y5 hg hk
  · rintro u us e X ⟨k, gs, g, b, y4, y5, k1, kn, hu, hg, hlk, hs, hk, rfl, rfl⟩
    obtain ⟨m, hm⟩ : ∃ m, n - k = m + 1 := by
      rcases hmm : n - k with _ | m
      · rw [hmm] at hu; simp at hu
      · exact ⟨m, rfl⟩
    rw [hm, List.range'_succ, List.map_cons] at hu
    obtain ⟨rfl, rfl⟩ := List.cons.inj hu
    have fm := free_map (S := S) (h := h) (o := hnd g b) (cs := cs) (tl := []) (gs := gs) (n := n) hg.len (env := gEnv S h cs n (some (.bl st)) (some (.int (k : Int))) y5 none none none) rfl rfl (List.range k) (by simp; omega)
    have fne := free_ne (gs := gs) (k := k) (by rw [hg.len]; omega) k1 hs
    have fd : freeL gs k = (List.range k).filter fun i => decide ((gs.getD i []).length < 2) := rfl
    rw [← fd, ← rangeU_eq] at fm
    have fmem : ∀ i ∈ freeL gs k, i < k ∧ (gs.getD i []).length < 2 := by
      intro i hi
      simp only [fd, List.mem_filter, List.mem_range, decide_eq_true_eq] at hi
      exact hi
    have flen : (freeL gs k).length ≤ 24 := by
      have := List.length_filter_le (fun i => decide ((gs.getD i []).length < 2)) (List.range k)
      rw [← fd] at this
      simp at this
      omega
    generalize freeL gs k = fr at fm fne fmem flen
    have fz : fr.length ≤ sizeLine := le_size _ (by omega)
    have k2 : (k : Int) < 4611686018427387904 := by omega
    have k3 : (-4611686018427387904 : Int) ≤ k := by omega
    unfold gEnv at fm
    rw [List.append_nil] at fm ⊢
    have stay : ∀ g' b' y5, Hok g' b' → gI1 S h cs n (some (.bl st)) (List.map (fun (i : Nat) => U.int (i : Int)) (List.range' (k + 1) m)) (gEnv S h cs n (some (.bl st)) (some (.int (k : Int))) y5 none none none) (St S h (hnd g' b') (cs ++ gs.map gc)) := fun g' b' y5 hk' => ⟨k + 1, gs, g', b', _, _, by omega, by omega, by rw [show n - (k + 1) = m by omega], hg, fun l hl i hi => Nat.lt_succ_of_lt (hlk l hl i hi), by omega, hk', rfl, by rw [List.append_nil]⟩
    have add : ∀ g' b' y5 i, i ∈ fr → Hok g' b' → gI1 S h cs n (some (.bl st)) (List.map (fun (i : Nat) => U.int (i : Int)) (List.range' (k + 1) m)) (gEnv S h cs n (some (.bl st)) (some (.int (k : Int))) y5 none none none) (St S h (hnd g' b') (cs ++ (gs.set i (gs.getD i [] ++ [k])).map gc)) := by
      intro g' b' y5 i hi hk'
      obtain ⟨i1, i2⟩ := fmem i hi
      have gmem : gs.getD i [] ∈ gs := by
        have hi' : i < gs.length := by rw [hg.len]; omega
        rw [List.getD_eq_getElem?_getD, List.getElem?_eq_getElem hi']
        exact List.getElem_mem hi'
      refine ⟨k + 1, _, g', b', _, _, by omega, by omega, by rw [show n - (k + 1) = m by omega], hg.set (k := i) (l := gs.getD i [] ++ [k]) (by rw [List.length_append, List.length_singleton]; omega) ?_ (List.nodup_append.mpr ⟨hg.nd _ gmem, by simp, fun a ha b hb e => by
        have := hlk _ gmem a ha
        simp at hb
        omega⟩), ?_, ?_, hk', rfl, by rw [List.append_nil]⟩
      · intro j hj
        rcases List.mem_append.mp hj with hj | hj
        · have hi' : i < gs.length := by rw [hg.len]; omega
          have : gs.getD i [] ∈ gs := by
            rw [List.getD_eq_getElem?_getD, List.getElem?_eq_getElem hi']
            exact List.getElem_mem hi'
          exact hg.lt _ this j hj
        · simp at hj; omega
      · intro l hl j hj
        rcases List.mem_or_eq_of_mem_set hl with hl | rfl
        · exact Nat.lt_succ_of_lt (hlk l hl j hj)
        · rcases List.mem_append.mp hj with hj | hj
          · exact Nat.lt_succ_of_lt (hlk _ gmem j hj)
          · simp at hj; omega
      · have := sum_set (gs := gs) (k := i) (l := gs.getD i [] ++ [k]) (by rw [hg.len]; omega) (by simp)
        omega
    unfold gB1
    unfold gEnv at stay add ⊢
    simp [-mapC_cons, -wq_map, fm, k2, k3, fz]
    refine take_wp hh hk (by omega) (by omega) fun d g1 b1 d0 d1 k1' => ?_
    have f2 : ∀ i ∈ fr, i < n := fun i hi => by have := (fmem i hi).1; omega
    simp
    refine wiH_dec (fun hd => ?_) (fun hd => ?_)
    · simp only [hid_p, wiH_t]
      exact g_add hh k1' hg fne flen f2 fun i hi g' b' hk' => add g' b' _ i hi hk'
    · simp
      cases st
      · simp only [Bool.not_false, hid_p, wiH_t]
        exact g_add hh k1' hg fne flen f2 fun i hi g' b' hk' => add g' b' _ i hi hk'
      · simp
        exact stay _ _ _ k1'
end K14
namespace K14
open PySem PySem.Spec PyProof.Rows L2 OF
noncomputable def gB2 : Sm := (sSeq (sAsg (cArg F__law_take (cCons (cVar 0) (cCons (cCst (.int 5)) cNil))) (gmName 6))
  (sSeq (sAsg (cBin ixU (cArg oLst (cCons (cArg F__law_take (cCons (cVar 0) (cCons (cVar 1) cNil))) (cCons (cCst (.int 0)) (cCons (cVar 4) (cCons (cArg F__law_take (cCons (cVar 0) (cCons (cVar 1) cNil))) (cCons (cArg F__law_take (cCons (cVar 0) (cCons (cBin (addU false) (cVar 4) (cCst (.int 1))) cNil))) cNil)))))) (cVar 6)) (gmName 7))
  (sIf (cAndT (cTru (cBin oLt (cArg (on1 lenU) (cCons (cBin ixU (cVar 3) (cVar 4)) cNil)) (cCst (.int 2)))) (cAndT (cTru (cBin (inU true) (cVar 7) (cBin ixU (cVar 3) (cVar 4)))) (cTru (cBin oGt (cArg F__law_take (cCons (cVar 0) (cCons (cCst (.int 3)) cNil))) (cCst (.int 0))))))
  (sExpr (cMt "list" insU (cBin ixU (cVar 3) (cVar 4)) (cCons (cArg F__law_take (cCons (cVar 0) (cCons (cBin (addU false) (cArg (on1 lenU) (cCons (cBin ixU (cVar 3) (cVar 4)) cNil)) (cCst (.int 1))) cNil))) (cCons (cVar 7) cNil))))
  sNil)))
def gI2 (S : Sto) (h : Nat) (cs tl : List O) (n : Nat) (y2 : Option U) (us : List U) (env : Env') (X : Sto) : Prop := ∃ (gs : List (List Nat)) (g b : Int) (y4 y5 y6 y7 : Option U), (∀ u ∈ us, ∃ i : Nat, i < n ∧ u = .int (i : Int)) ∧ Gk n gs ∧ Hok g b ∧ env = gEnv S h cs n y2 y4 y5 y6 y7 none ∧ X = St S h (hnd g b) (cs ++ (gs.map gc ++ tl))
theorem anyI (x : Nat) : ∀ l : List Nat, (l.map fun (i : Nat) => U.int (i : Int)).any (fun y => eqF y (.int (x : Int))) = decide (x ∈ l)
  | [] => rfl
  | a :: l => by
    rw [List.map_cons, List.any_cons, anyI x l]
    have : eqF (.int (a : Int)) (.int (x : Int)) = decide (x = a) := by
      have h : eqF (.int (a : Int)) (.int (x : Int)) = decide ((a : Int) = (x : Int)) := rfl
      rw [h]
      by_cases e : x = a
      · subst e; simp
      · rw [decide_eq_false e, decide_eq_false (by omega)]
    rw [this]
    simp
theorem allI : ∀ l : List Nat, (l.map fun (i : Nat) => U.int (i : Int)).all flatU = true
  | [] => rfl
  | a :: l => by rw [List.map_cons, List.all_cons, allI l]; rfl
theorem ins_ok {X : Sto} {r : Nat} {xs : List U} {i : Int} {y : U} (hX : X[r]? = some (.lst xs)) (hl : xs.length < sizeLine) (i0 : 0 ≤ i) (i1 : i < 100) : insU (.ref r) [.int i, y] X = some (.non, X.set r (.lst (xs.take i.toNat ++ [y] ++ xs.drop i.toNat))) := by
  rw [insU_ap]
  unfold cellL
  simp only [hX]
  rw [if_pos ⟨hl, i0, by omega⟩]
theorem goals2 {S : Sto} {h : Nat} {cs tl : List O} {n : Nat} {y2 : Option U} {Q : Fl × Env' × Sto → Prop} (hh : h < S.length) (hn : n ≤ 24)
    (q : ∀ gs g b y4 y5 y6 y7, Gk n gs → Hok g b → Q (.nx, gEnv S h cs n y2 y4 y5 y6 y7 none, St S h (hnd g b) (cs ++ (gs.map gc ++ tl)))) :
    ∀ us env X, gI2 S h cs tl n y2 us env X → wp (loopF (.nm 4) gB2 us env X) Q := by
  refine wp_loop_inv (gI2 S h cs tl n y2) ?_ ?_
  · rintro e X ⟨gs, g, b, y4, y5, y6, y7, hu, hg, hk, rfl, rfl⟩
    exact q gs g b y4 y5 y6 y7 hg hk
  · rintro u us e X ⟨gs, g, b, y4, y5, y6, y7, hu, hg, hk, rfl, rfl⟩
    obtain ⟨k, kn, rfl⟩ := hu u (by simp)
    have stay : ∀ g' b' y6 y7, Hok g' b' → gI2 S h cs tl n y2 us (gEnv S h cs n y2 (some (.int (k : Int))) y5 y6 y7 none) (St S h (hnd g' b') (cs ++ (gs.map gc ++ tl))) := fun g' b' y6 y7 hk' => ⟨gs, g', b', _, _, _, _, fun v hv => hu v (by simp [hv]), hg, hk', rfl, rfl⟩
    have il : k < gs.length := by rw [hg.len]; exact kn
    have hgi : gs[k]? = some (gs.getD k []) := by
      rw [List.getD_eq_getElem?_getD, List.getElem?_eq_getElem il]; rfl
    have hm : gs.getD k [] ∈ gs := List.mem_of_getElem? hgi
    have h2 := hg.two _ hm
    have hlt := hg.lt _ hm
    have hgnd := hg.nd _ hm
    have hz : (gs.getD k []).length < sizeLine := by have := le_size 24 (by omega); omega
    have add : ∀ g' b' y6 y7 (l : List Nat), Hok g' b' → l.length ≤ 2 → (∀ i ∈ l, i < n) → l.Nodup → gI2 S h cs tl n y2 us (gEnv S h cs n y2 (some (.int (k : Int))) y5 y6 y7 none) (St S h (hnd g' b') (cs ++ ((gs.set k l).map gc ++ tl))) := fun g' b' y6 y7 l hk' l2 ln ld => ⟨_, g', b', _, _, _, _, fun v hv => hu v (by simp [hv]), hg.set l2 ln ld, hk', rfl, rfl⟩
    generalize gs.getD k [] = l at hgi h2 hlt hgnd hz
    have hc : (cs ++ (gs.map gc ++ tl))[cs.length + k]? = some (.lst (l.map fun (k : Nat) => U.int (k : Int))) := goal_cell hgi
    have ha := atI_refs (S := S) (cs := cs) kn
    unfold gB2
    unfold gEnv at stay add ⊢
    simp
    refine take_wp hh hk (by omega) (by omega) fun w g1 b1 w0 w1 k1 => ?_
    simp
    refine take_wp hh k1 (by omega) (by omega) fun d1 g2 b2 d10 d11 k2 => ?_
    simp
    refine take_wp hh k2 (by omega) (by omega) fun d2 g3 b3 d20 d21 k3 => ?_
    simp
    refine take_wp hh k3 (by omega) (by omega) fun d3 g4 b4 d30 d31 k4 => ?_
    obtain ⟨v, hv, gv, v0, v1⟩ : ∃ v : Int, atI [U.int d1, .int 0, .int (k : Int), .int d2, .int d3] w = some (.int v) ∧ True ∧ 0 ≤ v ∧ v < n := by
      obtain ⟨u, e, hu⟩ := atI_in (us := [U.int d1, .int 0, .int (k : Int), .int d2, .int d3]) w0 w1
      simp at hu
      rcases hu with rfl | rfl | rfl | rfl | rfl
      · exact ⟨_, e, trivial, by omega, by omega⟩
      · exact ⟨_, e, trivial, by omega, by omega⟩
      · exact ⟨_, e, trivial, by omega, by omega⟩
      · exact ⟨_, e, trivial, by omega, by omega⟩
      · exact ⟨_, e, trivial, by omega, by omega⟩
    obtain ⟨x, rfl⟩ : ∃ x : Nat, v = x := ⟨v.toNat, by omega⟩
    have hb : ∀ g b, inB (St S h (hnd g b) (cs ++ (gs.map gc ++ tl))) (.int (x : Int)) (.ref (S.length + (cs.length + k))) = some (decide (x ∈ l)) := by
      intro g b
      rw [inB_refL _ _ _ _ (by rw [st_at]; exact hc), allI, anyI]
      simp [flatU]
    simp [hv, ha, hc]
    refine wiH_dec (fun hd => ?_) (fun hd => ?_)
    · simp [ha, hb]
      refine wiH_of (fun hx => ?_) (fun hx => ?_)
      · simp
        refine take_wp hh k4 (by omega) (by omega) fun d4 g5 b5 d40 d41 k5 => ?_
        simp
        refine wiH_dec (fun hd4 => ?_) (fun hd4 => ?_)
        · simp [ha, hc]
          refine take_wp hh k5 (by omega) (by omega) fun d5 g6 b6 d50 d51 k6 => ?_
          have hi := fun y => ins_ok (X := St S h (hnd g6 b6) (cs ++ (gs.map gc ++ tl))) (r := S.length + (cs.length + k)) (i := d5) (y := y) (by rw [st_at]; exact hc) (by simpa using hz) d50 (by omega)
          simp [-insU_ap, ha, hi]
          have hs : (l.map fun (k : Nat) => U.int (k : Int)).take d5.toNat ++ .int (x : Int) :: (l.map fun (k : Nat) => U.int (k : Int)).drop d5.toNat = (l.take d5.toNat ++ x :: l.drop d5.toNat).map fun (k : Nat) => U.int (k : Int) := by
            simp
          have := add g6 b6 (some (.int w)) (some (.int (x : Int))) (l.take d5.toNat ++ x :: l.drop d5.toNat) k6 (by simp; omega) (by
            intro i hi
            rcases List.mem_append.mp hi with hi | hi
            · exact hlt i (List.mem_of_mem_take hi)
            · rcases List.mem_cons.mp hi with rfl | hi
              · omega
              · exact hlt i (List.mem_of_mem_drop hi)) (by
            have hx' : x ∉ l := by simpa using hx
            have e : (l.take d5.toNat ++ x :: l.drop d5.toNat).Perm (x :: l) := by
              refine List.perm_middle.trans (List.Perm.cons x ?_)
              rw [List.take_append_drop]
            exact e.nodup_iff.mpr (List.nodup_cons.mpr ⟨hx', hgnd⟩))
          rw [← goal_set il] at this
          simpa [gc] using this
        · simp
          exact stay _ _ _ _ k5
      · simp
        exact stay _ _ _ _ k4
    · simp
      exact stay _ _ _ _ k4
end K14
namespace K14
open PySem PySem.Spec PyProof.Rows L2 OF
theorem lrg_ok {S : Sto} {n : Nat} (hn : n ≤ 24) : lrgK true S (.int (n : Int)) = some (.ref S.length, S ++ [.lst (rangeU 0 n)]) := by
  have := le_size 24 (by omega)
  unfold lrgK
  simp
  omega
theorem rep_ok {S : Sto} {r n : Nat} (hr : S[r]? = some (.lst (rangeU 0 n))) (hn : n ≤ 24) : repU false (.ref r) (.int 2) S = some (.lst (rangeU 0 n ++ rangeU 0 n), S) := by
  have := le_size 48 (by omega)
  unfold repU
  have hl : (rangeU 0 n).length = n := by simp [rangeU]
  simp only [hr]
  rw [if_pos ⟨by omega, by rw [hl]; show n * 2 ≤ _; omega⟩]
  simp [List.replicate]
theorem goals_wp {S : Sto} {h : Nat} {cs : List O} {n : Nat} {g b : Int} {st : Bool} {Q : U × Sto → Prop} (hh : h < S.length) (hk : Hok g b) (n1 : 1 ≤ n) (hn : n ≤ 24)
    (q : ∀ gs g b, Gk n gs → Hok g b → Q (.lst (refs S cs n), St S h (hnd g b) (cs ++ (gs.map gc ++ [.lst (rangeU 0 n)])))) : wp (F__law_goals [.ref h, .int (n : Int), .bl st] (St S h (hnd g b) cs)) Q := by
  have n2 : (n : Int) < 4611686018427387904 := by omega
  have n3 : (-4611686018427387904 : Int) ≤ n := by omega
  have nz : n ≤ sizeLine := le_size _ (by omega)
  have ng := new_goals (S := S) (h := h) (o := hnd g b) (env := [some (.ref h), some (.int (n : Int)), some (.bl st), none, none, none, none, none, none]) (rangeU 0 n) cs
  have rl : (rangeU 0 n).length = n := by simp [rangeU]
  rw [rl] at ng
  unfold F__law_goals c__law_goals
  simp [-loopF_cons, -wq_loop, -mapC_cons, -wq_map, n2, n3]
  refine wq_of ng ?_
  have rfl' : (refs S cs n).length = n := by simp [refs]
  simp [-loopF_cons, -wq_loop, -mapC_cons, -wq_map, n2, n3, rfl', nz]
  refine goals1 (S := S) (cs := cs) (n := n) (st := st) hh hn ?_ _ _ _ ?_
  · intro gs g b y4 y5 hg hk
    have lr := lrg_ok (S := St S h (hnd g b) (cs ++ gs.map gc)) hn
    have ro := rep_ok (S := St S h (hnd g b) (cs ++ (gs.map gc ++ [.lst (rangeU 0 n)]))) (r := S.length + (cs.length + gs.length)) (n := n) (by simp) hn
    unfold gEnv cLrg
    rw [List.append_nil]
    simp [-loopF_cons, -wq_loop, -mapC_cons, -wq_map, lr, ro]
    refine goals2 (S := S) (cs := cs) (tl := [.lst (rangeU 0 n)]) (n := n) (y2 := some (.bl st)) hh hn ?_ _ _ _ ?_
    · intro gs g b y4 y5 y6 y7 hg hk
      unfold gEnv
      simp
      exact q gs g b hg hk
    · refine ⟨gs, g, b, y4, y5, none, none, ?_, hg, hk, rfl, rfl⟩
      intro u hu
      have hu' : u ∈ rangeU 0 n := by
        rcases List.mem_append.mp hu with hu | hu <;> exact hu
      rw [rangeU_eq] at hu'
      obtain ⟨i, hi, e⟩ := List.mem_map.mp hu'
      exact ⟨i, by simpa using hi, e.symm⟩
  · refine ⟨1, List.replicate n [], g, b, none, none, by omega, n1, ?_, ⟨by simp, ?_, ?_, ?_⟩, ?_, by simp, hk, rfl, by simp⟩
    · unfold rangeU
      rw [List.range'_eq_map_range]
      simp
    · intro l hl
      rw [(List.mem_replicate.mp hl).2]; simp
    · intro l hl
      rw [(List.mem_replicate.mp hl).2]; simp
    · intro l hl
      rw [(List.mem_replicate.mp hl).2]; simp
    · intro l hl
      rw [(List.mem_replicate.mp hl).2]; simp
end K14
namespace K14
open PySem PySem.Spec PyProof.Rows L2 OF
inductive Wd where
  | plus | less | times | part | same | below
  deriving DecidableEq
def Wd.s : Wd → Str
  | .plus => "plus" | .less => "less" | .times => "times" | .part => "part" | .same => "same" | .below => "below"
inductive Rw where
  | put (n : Int) (g : Str) (v : Int)
  | copy (n : Int) (g a : Str)
  | bin (w : Wd) (n : Int) (g a b : Str)
  | ask (n : Int) (g : Str)
  | say (n : Int) (a : Str)
inductive En where
  | go (b : Str)
  | iff (a b c : Str)
  | stop
structure Bk where
  name : Str
  rows : List Rw
  en : En
def encR : Rw → U
  | .put n g v => .tup [.int n, .str "put", .str g, .int v]
  | .copy n g a => .tup [.int n, .str "copy", .str g, .str a]
  | .bin w n g a b => .tup [.int n, .str w.s, .str g, .str a, .str b]
  | .ask n g => .tup [.int n, .str "ask", .str g]
  | .say n a => .tup [.int n, .str "say", .str a]
def encE : En → U
  | .go b => .tup [.str "go", .str b]
  | .iff a b c => .tup [.str "if", .str a, .str b, .str c]
  | .stop => .tup [.str "stop"]
def encB (b : Bk) : U := .tup [.str b.name, .tup (b.rows.map encR), encE b.en]
def Rw.asks : Rw → List Str
  | .put _ _ _ => [] | .copy _ _ a => [a] | .bin _ _ _ a b => [a, b] | .ask _ _ => [] | .say _ a => [a]
def Rw.gives : Rw → Option Str
  | .put _ g _ => some g | .copy _ g _ => some g | .bin _ _ g _ _ => some g | .ask _ g => some g | .say _ _ => none
def En.asks : En → List Str
  | .go _ => [] | .iff a _ _ => [a] | .stop => []
theorem asked_row (r : Rw) : P_asked_by [encR r] = some (.tup (r.asks.map .str)) := by
  cases r with
  | bin w n g a b => cases w <;> kernel_rfl
  | _ => kernel_rfl
theorem asked_end (r : En) : P_asked_by [encE r] = some (.tup (r.asks.map .str)) := by
  cases r <;> kernel_rfl
def optS : Option Str → U
  | some x => .str x
  | none => .non
theorem given_row (r : Rw) : P_given_by [encR r] = some (optS r.gives) := by
  cases r with
  | bin w n g a b => cases w <;> kernel_rfl
  | _ => kernel_rfl
structure Sx where
  tr : List U
  wt : List Int
  hd : List (Str × Int)
def look (hd : List (Str × Int)) (a : Str) : Option Int := (hd.find? fun kv => decide (kv.1 = a)).map (·.2)
def put (hd : List (Str × Int)) (a : Str) (v : Int) : List (Str × Int) := if (hd.any fun kv => decide (kv.1 = a)) = true then hd.map (fun kv => if kv.1 = a then (kv.1, v) else kv) else hd ++ [(a, v)]
def hdU (hd : List (Str × Int)) : List (Key × U) := hd.map fun p => (.inr p.1, .int p.2)
def sto (e : U) (k : Int) (s : Sx) : Sto := [.ins "Story" [("trace", .ref 1), ("ending", e), ("waiting", .ref 2), ("steps", .int k)], .lst s.tr, .lst (s.wt.map .int), .dct (hdU s.hd)]
def optI : Option Int → U
  | some x => .int x
  | none => .non
theorem getK_hd (hd : List (Str × Int)) (a : Str) : getK (hdU hd) (.inr a) = (look hd a).map .int := by
  induction hd with
  | nil => rfl
  | cons p t ih =>
    unfold getK look hdU at *
    simp only [List.map_cons, List.find?_cons, Sum.inr.injEq]
    by_cases h : p.1 = a
    · simp [h]
    · simp [h]
      simpa using ih
theorem putK_hd (hd : List (Str × Int)) (a : Str) (v : Int) : putKU (hdU hd) (.inr a) (.int v) = hdU (put hd a v) := by
  unfold putKU put hdU
  rw [List.any_map]
  have e : ((fun kv : Key × U => decide (kv.1 = Sum.inr a)) ∘ fun p : Str × Int => ((Sum.inr p.1 : Key), U.int p.2)) = fun kv => decide (kv.1 = a) := by
    funext kv
    simp
  rw [e]
  split
  · simp only [List.map_map]
    apply List.map_congr_left
    intro p _
    by_cases h : p.1 = a <;> simp [h]
  · simp
@[simp] theorem noref_encR (r : Rw) : noref (encR r) = true := by cases r <;> simp [encR]
@[simp] theorem noref_encE (r : En) : noref (encE r) = true := by cases r <;> simp [encE]
@[simp] theorem getD_hd (hd : List (Str × Int)) (a : Str) : (getK (hdU hd) (.inr a)).getD .non = optI (look hd a) := by
  rw [getK_hd]
  cases look hd a <;> rfl
theorem held_row (r : Rw) (e : U) (k : Int) (s : Sx) : F_held_worths [.ref 3, encR r] (sto e k s) = some (.lst (r.asks.map fun a => optI (look s.hd a)), sto e k s) := by
  unfold F_held_worths c_held_worths
  simp [asked_row, sto]
  cases r <;> simp [Rw.asks]
theorem held_end (r : En) (e : U) (k : Int) (s : Sx) : F_held_worths [.ref 3, encE r] (sto e k s) = some (.lst (r.asks.map fun a => optI (look s.hd a)), sto e k s) := by
  unfold F_held_worths c_held_worths
  simp [asked_end, sto]
  cases r <;> simp [En.asks]
def dryU : U := .tup [.str "dry"]
def stopU : U := .tup [.str "stop"]
def untoldU (a : Str) : U := .tup [.str "untold", .str a]
theorem may_go (k : Int) (s : Sx) : F_Story_may_go [.ref 0] (sto .non k s) = if k ≤ s.tr.length then some (.bl false, sto dryU k s) else some (.bl true, sto .non k s) := by
  unfold F_Story_may_go c_Story_may_go
  by_cases h : k ≤ s.tr.length <;> simp [sto, dryU, h]
theorem are_told0 (k : Int) (s : Sx) : F_Story_are_told [.ref 0, .tup [], .lst []] (sto .non k s) = some (.bl true, sto .non k s) := by
  unfold F_Story_are_told c_Story_are_told
  simp [sto]
theorem are_told1 (k : Int) (s : Sx) (a : Str) (o : Option Int) : F_Story_are_told [.ref 0, .tup [.str a], .lst [optI o]] (sto .non k s) = match o with
  | some _ => some (.bl true, sto .non k s)
  | none => some (.bl false, sto (untoldU a) k s) := by
  unfold F_Story_are_told c_Story_are_told
  cases o <;> simp [sto, optI, untoldU]
theorem are_told2 (k : Int) (s : Sx) (a b : Str) (o o' : Option Int) : F_Story_are_told [.ref 0, .tup [.str a, .str b], .lst [optI o, optI o']] (sto .non k s) = match o with
  | none => some (.bl false, sto (untoldU a) k s)
  | some _ => match o' with
    | none => some (.bl false, sto (untoldU b) k s)
    | some _ => some (.bl true, sto .non k s) := by
  unfold F_Story_are_told c_Story_are_told
  cases o <;> cases o' <;> simp [sto, optI, untoldU]
def why (r : Rw) (ws : List Int) (wt : List Int) : Option U := match r with
  | .bin .part n _ _ _ => match ws with
    | [_, y] => if y = 0 then some (.tup [.str "nought", .int n]) else none
    | _ => none
  | .ask n _ => if wt = [] then some (.tup [.str "bare", .int n]) else none
  | _ => none
def optU : Option U → U
  | some u => u
  | none => .non
theorem toDs_ints (xs : List Int) : toDs (xs.map .int) = some (xs.map .int) ∧ PyData.canLayAll0 (xs.map .int) = true ∧ PyData.depthAll (xs.map .int) ≤ 1 := by
  induction xs with
  | nil => exact ⟨rfl, rfl, by simp [PyData.depthAll]⟩
  | cons x xs ih =>
    refine ⟨?_, ?_, ?_⟩
    · simp [toDs, toD, ih.1]
    · simp [PyData.canLayAll0, PyData.canLay0, ih.2.1]
    · simp only [List.map_cons, PyData.depthAll, PyData.depth]
      have := ih.2.2
      omega
theorem eqU_refnil {neg : Bool} {S : Sto} {n : Nat} {xs : List Int} (h : S[n]? = some (.lst (xs.map .int))) : OF.eqU neg (.ref n) (.lst []) S = some (.bl (if neg then !xs.isEmpty else xs.isEmpty), S) := by
  unfold OF.eqU orO eqS
  show eqDU neg (.ref n) (.lst []) S = _
  unfold eqDU
  have h3 := toDs_ints xs
  have e1 : toDS S (.ref n) = some (.list (xs.map .int)) := by
    simp only [toDS, h, h3.1]
  have e2 : toDS S (.lst []) = some (.list []) := by
    simp [toDS, toD, toDs]
  rw [e1, e2]
  have hs : SeqAt.shaped (.list (xs.map .int)) = true := by
    unfold SeqAt.shaped
    simp only [PyData.canLay0, PyData.depth, h3.2.1]
    simp
    have := h3.2.2
    omega
  have hs2 : SeqAt.shaped (.list []) = true := by decide
  simp only [hs, hs2, and_self, if_true]
  have : PyData.eqv (.list (xs.map .int)) (.list []) = xs.isEmpty := by
    rw [PyData.eqv]
    cases xs <;> rfl
  rw [this]
theorem why_not (k : Int) (s : Sx) (r : Rw) (ws : List Int) (hl : ws.length = r.asks.length) : F_Story_why_not [.ref 0, encR r, .lst (ws.map .int)] (sto .non k s) = some (optU (why r ws s.wt), sto .non k s) := by
  unfold F_Story_why_not c_Story_why_not
  cases r with
  | bin w n g a b =>
    obtain ⟨x, y, rfl⟩ : ∃ x y, ws = [x, y] := by
      match ws, hl with
      | [x, y], _ => exact ⟨x, y, rfl⟩
    cases w with
    | part =>
      by_cases h : y = 0 <;> simp [sto, encR, Wd.s, why, optU, h]
    | _ => simp [sto, encR, Wd.s, why, optU]
  | ask n g =>
    have e := eqU_refnil (neg := false) (S := sto .non k s) (n := 2) (xs := s.wt) rfl
    unfold sto at e
    obtain ⟨tr, wt, hd⟩ := s
    cases wt with
    | nil =>
      simp only [List.map_nil, List.isEmpty_nil] at e
      simp [sto, encR, why, optU, e]
    | cons x wt =>
      simp only [List.map_cons, List.isEmpty_cons] at e
      simp [sto, encR, why, optU, e]
  | _ => simp [sto, encR, why, optU]
def Wd.val : Wd → Int → Int → Int
  | .plus, x, y => (x + y) % 1000003
  | .less, x, y => (x - y) % 1000003
  | .times, x, y => (x * y) % 1000003
  | .part, x, y => x / y
  | .same, x, y => if x = y then 1 else 0
  | .below, x, y => if x < y then 1 else 0
def InW (x : Int) : Prop := 0 ≤ x ∧ x < 1000003
theorem log_small {x : Int} (h : InW x) : x.natAbs.log2 < 20 := by
  by_cases h0 : x.natAbs = 0
  · rw [h0]; decide
  · rw [Nat.log2_lt h0]
    have := h.1
    have := h.2
    omega
theorem rest_ok (x : Int) : P_rest_of [.int x] = some (.int (x % 1000003)) := by
  unfold P_rest_of c_rest_of
  simp [modI]
theorem sum_ok (x y : Int) : P_sum_of [.int x, .int y] = some (.int ((x + y) % 1000003)) := by
  unfold P_sum_of c_sum_of
  simp [rest_ok, addU]
theorem left_ok (x y : Int) : P_left_of [.int x, .int y] = some (.int ((x - y) % 1000003)) := by
  unfold P_left_of c_left_of
  simp [rest_ok]
theorem product_ok (x y : Int) (hx : InW x) (hy : InW y) : P_product_of [.int x, .int y] = some (.int ((x * y) % 1000003)) := by
  unfold P_product_of c_product_of
  have h : x.natAbs.log2 + y.natAbs.log2 < 1000000 := by
    have := log_small hx
    have := log_small hy
    omega
  simp [rest_ok, mulI, h]
theorem part_ok (x y : Int) (hy : InW y) (h : y ≠ 0) : P_part_of [.int x, .int y] = some (.int (x / y)) := by
  unfold P_part_of c_part_of
  have h1 : 0 < y ∧ y.natAbs.log2 < 9000 := by
    have := log_small hy
    have := hy.1
    omega
  simp [divI, h1]
theorem same_ok (x y : Int) : P_same_told [.int x, .int y] = some (.int (if x = y then 1 else 0)) := by
  unfold P_same_told c_same_told
  by_cases h : x = y <;> simp [h]
theorem below_ok (x y : Int) : P_below_told [.int x, .int y] = some (.int (if x < y then 1 else 0)) := by
  unfold P_below_told c_below_told
  by_cases h : x < y <;> simp [h]
theorem reck (w : Wd) (x y : Int) (hx : InW x) (hy : InW y) (h0 : w = .part → y ≠ 0) : P_reckoned [.str w.s, .lst [.int x, .int y]] = some (.int (w.val x y)) := by
  unfold P_reckoned c_reckoned
  cases w with
  | part => simp [Wd.s, tab_RECKONINGS, fns_RECKONINGS, part_ok x y hy (h0 rfl), Wd.val]
  | times => simp [Wd.s, tab_RECKONINGS, fns_RECKONINGS, product_ok x y hx hy, Wd.val]
  | _ => simp [Wd.s, tab_RECKONINGS, fns_RECKONINGS, sum_ok, left_ok, same_ok, below_ok, Wd.val]
theorem reck1 (x : Int) : P_reckoned [.str "copy", .lst [.int x]] = some (.int x) := by
  unfold P_reckoned c_reckoned
  simp
def Rw.worth : Rw → List Int → List Int → Option Int
  | .put _ _ v, _, _ => some v
  | .copy _ _ _, ws, _ => ws[0]?
  | .bin w _ _ _ _, ws, _ => match ws with
    | [x, y] => some (w.val x y)
    | _ => none
  | .ask _ _, _, wt => wt[0]?
  | .say _ _, _, _ => none
def Rw.left : Rw → List Int → List Int
  | .ask _ _, wt => wt.tail
  | _, wt => wt
@[simp] theorem seqIx0 (n : Nat) : seqIndex? 0 (n + 1) = some 0 := by
  unfold seqIndex?
  simp
theorem worth_given (k : Int) (s : Sx) (r : Rw) (ws : List Int) (hl : ws.length = r.asks.length) (hw : why r ws s.wt = none) (hi : ∀ x ∈ ws, InW x) :
    F_Story_worth_given [.ref 0, encR r, .lst (ws.map .int)] (sto .non k s) = some (optI (r.worth ws s.wt), sto .non k ⟨s.tr, r.left s.wt, s.hd⟩) := by
  unfold F_Story_worth_given c_Story_worth_given
  cases r with
  | bin w n g a b =>
    obtain ⟨x, y, rfl⟩ : ∃ x y, ws = [x, y] := by
      match ws, hl with
      | [x, y], _ => exact ⟨x, y, rfl⟩
    have e := reck w x y (hi x (by simp)) (hi y (by simp)) (fun h => by subst h; simpa [why] using hw)
    cases w <;> simp only [Wd.s] at e <;> simp [sto, encR, Wd.s, e, Rw.worth, Rw.left, optI]
  | copy n g a =>
    obtain ⟨x, rfl⟩ : ∃ x, ws = [x] := by
      match ws, hl with
      | [x], _ => exact ⟨x, rfl⟩
    simp [sto, encR, reck1, Rw.worth, Rw.left, optI]
  | ask n g =>
    obtain ⟨tr, wt, hd⟩ := s
    cases wt with
    | nil => simp [why] at hw
    | cons x wt => simp [sto, encR, Rw.worth, Rw.left, optI]
  | _ => simp [sto, encR, Rw.worth, Rw.left, optI]
section
variable (e : U) (k : Int) (s : Sx)
@[simp] theorem sto0 : (sto e k s)[0]? = some (.ins "Story" [("trace", .ref 1), ("ending", e), ("waiting", .ref 2), ("steps", .int k)]) := rfl
@[simp] theorem sto1 : (sto e k s)[1]? = some (.lst s.tr) := rfl
@[simp] theorem sto2 : (sto e k s)[2]? = some (.lst (s.wt.map .int)) := rfl
@[simp] theorem sto3 : (sto e k s)[3]? = some (.dct (hdU s.hd)) := rfl
@[simp] theorem stoS0 (e' : U) : (sto e k s).set 0 (.ins "Story" [("trace", .ref 1), ("ending", e'), ("waiting", .ref 2), ("steps", .int k)]) = sto e' k s := rfl
@[simp] theorem stoS1 (t : List U) : (sto e k s).set 1 (.lst t) = sto e k ⟨t, s.wt, s.hd⟩ := rfl
@[simp] theorem stoS3 (t : List (Str × Int)) : (sto e k s).set 3 (.dct (hdU t)) = sto e k ⟨s.tr, s.wt, t⟩ := rfl
end
def Rw.num : Rw → Int
  | .put n _ _ => n | .copy n _ _ => n | .bin _ n _ _ _ => n | .ask n _ => n | .say n _ => n
@[simp high] theorem ix_encR (r : Rw) (S : Sto) : ixU (encR r) (.int 0) S = some (.int r.num, S) := by
  cases r <;> simp [encR, Rw.num]
inductive Rs where
  | off (e : U)
  | on (v : Option Int) (s : Sx)
def rowMid (r : Rw) (s : Sx) : Rs := match r.asks.find? fun a => (look s.hd a).isNone with
  | some a => .off (untoldU a)
  | none => match why r (r.asks.filterMap (look s.hd)) s.wt with
    | some e => .off e
    | none => .on (r.worth (r.asks.filterMap (look s.hd)) s.wt) ⟨s.tr ++ [.tup [.int r.num, .tup ((r.asks.filterMap (look s.hd)).map .int), optI (r.worth (r.asks.filterMap (look s.hd)) s.wt)]], r.left s.wt, s.hd⟩
def InH (hd : List (Str × Int)) : Prop := ∀ p ∈ hd, InW p.2
theorem look_in {hd : List (Str × Int)} (h : InH hd) {a : Str} {x : Int} (e : look hd a = some x) : InW x := by
  unfold look at e
  cases q : hd.find? fun kv => decide (kv.1 = a) with
  | none => rw [q] at e; cases e
  | some p =>
    rw [q] at e
    cases e
    exact h p (List.mem_of_find?_eq_some q)
theorem why_endU {r : Rw} {ws wt : List Int} {e : U} (h : why r ws wt = some e) : ∃ us, e = .tup us := by
  unfold why at h
  split at h
  · split at h
    · split at h
      · cases h; exact ⟨_, rfl⟩
      · cases h
    · cases h
  · split at h
    · cases h; exact ⟨_, rfl⟩
    · cases h
  · cases h
theorem row_done (k : Int) (s : Sx) (r : Rw) (hh : InH s.hd) (hn : s.tr.length < 16777216) :
    F_Story_row_done [.ref 0, encR r, .lst (r.asks.map fun a => optI (look s.hd a))] (sto .non k s) = match rowMid r s with
      | .off e => some (.non, sto e k s)
      | .on v s' => some (optI v, sto .non k s') := by
  have tail : ∀ ws : List Int, ws.length = r.asks.length → (∀ x ∈ ws, InW x) → F_Story_are_told [.ref 0, .tup (r.asks.map .str), .lst (ws.map .int)] (sto .non k s) = some (.bl true, sto .non k s) →
      F_Story_row_done [.ref 0, encR r, .lst (ws.map .int)] (sto .non k s) = match (match why r ws s.wt with
          | some e => Rs.off e
          | none => Rs.on (r.worth ws s.wt) ⟨s.tr ++ [U.tup [.int r.num, .tup (ws.map .int), optI (r.worth ws s.wt)]], r.left s.wt, s.hd⟩) with
        | .off e => some (.non, sto e k s)
        | .on v s' => some (optI v, sto .non k s') := by
    intro ws hl hi ht
    have e2 := why_not k s r ws hl
    unfold F_Story_row_done c_Story_row_done
    cases hw : why r ws s.wt with
    | some e =>
      obtain ⟨us, rfl⟩ := why_endU hw
      simp [asked_row, ht, e2, hw, optU]
    | none =>
      have e3 := worth_given k s r ws hl hw hi
      have hn' : s.tr.length < sizeLine := lt_size _ hn
      simp [asked_row, ht, e2, hw, optU, e3, hn']
  cases r with
  | put n g v => simpa [rowMid, Rw.asks] using tail [] rfl (by simp) (are_told0 k s)
  | ask n g =>
    have := tail [] rfl (by simp) (are_told0 k s)
    simp only [List.map_nil] at this
    simp only [rowMid, Rw.asks, List.map_nil, List.find?_nil, List.filterMap_nil]
    exact this
  | copy n g a =>
    cases h : look s.hd a with
    | none =>
      have := are_told1 k s a none
      simp only [optI] at this
      simp only [rowMid, Rw.asks, List.map_cons, List.map_nil, List.find?_cons, h, Option.isNone_none]
      unfold F_Story_row_done c_Story_row_done
      simp [asked_row, Rw.asks, this, optI]
    | some x =>
      have := tail [x] rfl (by simpa using look_in hh h) (are_told1 k s a (some x))
      simp only [rowMid, Rw.asks, List.map_cons, List.map_nil, List.find?_cons, h, Option.isNone_some, List.find?_nil, List.filterMap_cons, List.filterMap_nil, optI] at this ⊢
      exact this
  | say n a =>
    cases h : look s.hd a with
    | none =>
      have := are_told1 k s a none
      simp only [optI] at this
      simp only [rowMid, Rw.asks, List.map_cons, List.map_nil, List.find?_cons, h, Option.isNone_none]
      unfold F_Story_row_done c_Story_row_done
      simp [asked_row, Rw.asks, this, optI]
    | some x =>
      have := tail [x] rfl (by simpa using look_in hh h) (are_told1 k s a (some x))
      simp only [rowMid, Rw.asks, List.map_cons, List.map_nil, List.find?_cons, h, Option.isNone_some, List.find?_nil, List.filterMap_cons, List.filterMap_nil, optI] at this ⊢
      exact this
  | bin w n g a b =>
    cases h : look s.hd a with
    | none =>
      have := are_told2 k s a b none (look s.hd b)
      simp only [optI] at this
      simp only [rowMid, Rw.asks, List.map_cons, List.map_nil, List.find?_cons, h, Option.isNone_none]
      unfold F_Story_row_done c_Story_row_done
      simp [asked_row, Rw.asks, this, optI]
    | some x =>
      cases h2 : look s.hd b with
      | none =>
        have := are_told2 k s a b (some x) none
        simp only [optI] at this
        simp only [rowMid, Rw.asks, List.map_cons, List.map_nil, List.find?_cons, h, h2, Option.isNone_none, Option.isNone_some]
        unfold F_Story_row_done c_Story_row_done
        simp [asked_row, Rw.asks, this, optI]
      | some y =>
        have := tail [x, y] rfl (by simpa using ⟨look_in hh h, look_in hh h2⟩) (are_told2 k s a b (some x) (some y))
        simp only [rowMid, Rw.asks, List.map_cons, List.map_nil, List.find?_cons, h, h2, Option.isNone_some, List.find?_nil, List.filterMap_cons, List.filterMap_nil, optI] at this ⊢
        exact this
inductive Es where
  | off (e : U) (s : Sx)
  | on (b : Str) (s : Sx)
def endMid (name : Str) (e : En) (s : Sx) : Es := match e with
  | .go b => .on b ⟨s.tr ++ [.tup [.str name, .tup [], .non]], s.wt, s.hd⟩
  | .iff a b c => match look s.hd a with
    | none => .off (untoldU a) s
    | some x => .on (if x ≠ 0 then b else c) ⟨s.tr ++ [.tup [.str name, .tup [.int x], .non]], s.wt, s.hd⟩
  | .stop => .off stopU ⟨s.tr ++ [.tup [.str name, .tup [], .non]], s.wt, s.hd⟩
theorem end_done (k : Int) (s : Sx) (name : Str) (e : En) (hn : s.tr.length < 16777216) :
    F_Story_end_done [.ref 0, .str name, encE e, .lst (e.asks.map fun a => optI (look s.hd a))] (sto .non k s) = match endMid name e s with
      | .off e s' => some (.non, sto e k s')
      | .on b s' => some (.str b, sto .non k s') := by
  have hn' : s.tr.length < sizeLine := lt_size _ hn
  unfold F_Story_end_done c_Story_end_done
  have ha := asked_end e
  cases e with
  | go b =>
    have := are_told0 k s
    simp only [encE, En.asks, List.map_nil] at ha
    simp [ha, En.asks, this, encE, hn', endMid]
  | stop =>
    have := are_told0 k s
    simp only [encE, En.asks, List.map_nil] at ha
    simp [ha, En.asks, this, encE, hn', endMid, stopU]
  | iff a b c =>
    simp only [encE, En.asks, List.map_nil, List.map_cons] at ha
    cases h : look s.hd a with
    | none =>
      have := are_told1 k s a none
      simp only [optI] at this
      simp [ha, En.asks, this, encE, hn', endMid, h, optI]
    | some x =>
      have := are_told1 k s a (some x)
      simp only [optI] at this
      by_cases hx : x = 0
      · subst hx
        simp [ha, En.asks, this, encE, hn', endMid, h, optI]
      · simp [ha, En.asks, this, encE, hn', endMid, h, optI, hx]
end K14
namespace K14
open PySem PySem.Spec PyProof.Rows L2 OF
def rowStep (r : Rw) (s : Sx) : Rs := match rowMid r s with
  | .off e => .off e
  | .on v s' => .on v ⟨s'.tr, s'.wt, match r.gives, v with
    | some g, some v => put s'.hd g v
    | _, _ => s'.hd⟩
inductive Ro where
  | over (e : U) (s : Sx)
  | thru (n : Nat) (s : Sx)
def rowsGo : List Rw → Nat → Sx → Ro
  | [], n, s => .thru n s
  | _ :: _, 0, s => .over dryU s
  | r :: rs, n + 1, s => match rowStep r s with
    | .off e => .over e s
    | .on _ s' => rowsGo rs n s'
inductive Bo where
  | over (e : U) (s : Sx)
  | next (b : Str) (n : Nat) (s : Sx)
def blockGo (b : Bk) (n : Nat) (s : Sx) : Bo := match rowsGo b.rows n s with
  | .over e s' => .over e s'
  | .thru 0 s' => .over dryU s'
  | .thru (n + 1) s' => match endMid b.name b.en s' with
    | .off e s2 => .over e s2
    | .on g s2 => .next g n s2
def Rw.ok : Rw → Prop
  | .put _ _ v => InW v
  | _ => True
structure Sok (s : Sx) : Prop where
  hd : InH s.hd
  wt : ∀ x ∈ s.wt, InW x
  ln : s.hd.length ≤ s.tr.length
theorem put_len (hd : List (Str × Int)) (a : Str) (v : Int) : (put hd a v).length ≤ hd.length + 1 := by
  unfold put
  split <;> simp
@[simp] theorem optI_some (v : Int) : optI (some v) = .int v := rfl
@[simp] theorem optI_none : optI none = .non := rfl
theorem worth_some {r : Rw} {s : Sx} (h : (r.asks.find? fun a => (look s.hd a).isNone) = none) (hw : why r (r.asks.filterMap (look s.hd)) s.wt = none) {g : Str} (hg : r.gives = some g) : ∃ v, r.worth (r.asks.filterMap (look s.hd)) s.wt = some v := by
  cases r with
  | put n g v => exact ⟨v, rfl⟩
  | say n a => cases hg
  | ask n g =>
    simp only [why, Rw.worth] at hw ⊢
    cases e : s.wt with
    | nil => simp [e] at hw
    | cons x t => exact ⟨x, rfl⟩
  | copy n g a =>
    simp [Rw.asks] at h
    cases e : look s.hd a with
    | none => simp [e] at h
    | some x => exact ⟨x, by simp [Rw.worth, Rw.asks, e]⟩
  | bin w n g a b =>
    simp [Rw.asks] at h
    cases e : look s.hd a with
    | none => simp [e] at h
    | some x =>
      cases e2 : look s.hd b with
      | none => simp [e2] at h
      | some y => exact ⟨w.val x y, by simp [Rw.worth, Rw.asks, e, e2]⟩
theorem put_in {hd : List (Str × Int)} (h : InH hd) {a : Str} {v : Int} (hv : InW v) : InH (put hd a v) := by
  unfold put
  split
  · intro p hp
    obtain ⟨q, hq, rfl⟩ := List.mem_map.mp hp
    by_cases e : q.1 = a
    · simp [e]; exact hv
    · simp [e]; exact h q hq
  · intro p hp
    rcases List.mem_append.mp hp with hp | hp
    · exact h p hp
    · simp at hp
      subst hp
      exact hv
theorem val_in (w : Wd) {x y : Int} (hx : InW x) (hy : InW y) (h0 : w = .part → y ≠ 0) : InW (w.val x y) := by
  obtain ⟨h1, h2⟩ := hx
  obtain ⟨h3, h4⟩ := hy
  cases w <;> simp only [Wd.val, InW]
  case plus => omega
  case less => omega
  case times => exact ⟨Int.emod_nonneg _ (by decide), Int.emod_lt_of_pos _ (by decide)⟩
  case part =>
    have := h0 rfl
    refine ⟨Int.ediv_nonneg h1 h3, ?_⟩
    exact Int.lt_of_le_of_lt (Int.ediv_le_self _ h1) h2
  case same => split <;> omega
  case below => split <;> omega
theorem rowMid_on {r : Rw} {s s' : Sx} {v : Option Int} (h : rowMid r s = .on v s') : ∃ ws : List Int, (∀ x ∈ ws, ∃ a, look s.hd a = some x) ∧ ws.length ≤ r.asks.length ∧ ws = r.asks.filterMap (look s.hd) ∧ why r ws s.wt = none ∧ v = r.worth ws s.wt ∧ (∀ g, r.gives = some g → ∃ x, v = some x) ∧ s' = ⟨s.tr ++ [.tup [.int r.num, .tup (ws.map .int), optI v]], r.left s.wt, s.hd⟩ := by
  unfold rowMid at h
  split at h
  · cases h
  · split at h
    · cases h
    · rename_i hf _ hw
      cases h
      refine ⟨_, ?_, ?_, rfl, hw, rfl, fun g hg => worth_some hf hw hg, rfl⟩
      · intro x hx
        obtain ⟨a, _, ha⟩ := List.mem_filterMap.mp hx
        exact ⟨a, ha⟩
      · exact List.length_filterMap_le _ _
theorem worth_in {r : Rw} {s : Sx} (hs : Sok s) (hr : r.ok) {ws : List Int} (hw : ∀ x ∈ ws, InW x) (hy : why r ws s.wt = none) {v : Int} (h : r.worth ws s.wt = some v) : InW v := by
  cases r with
  | put n g v' => cases h; exact hr
  | copy n g a =>
    simp only [Rw.worth] at h
    exact hw v (List.mem_of_getElem? h)
  | ask n g =>
    simp only [Rw.worth] at h
    exact hs.wt v (List.mem_of_getElem? h)
  | say n a => cases h
  | bin w n g a b =>
    simp only [Rw.worth] at h
    split at h
    · rename_i x y
      cases h
      refine val_in w (hw x (by simp)) (hw y (by simp)) ?_
      intro e
      subst e
      simpa [why] using hy
    · cases h
theorem rowStep_on {r : Rw} {s s' : Sx} {v : Option Int} (hs : Sok s) (hr : r.ok) (h : rowStep r s = .on v s') : Sok s' ∧ s'.tr.length = s.tr.length + 1 ∧ ∃ u, s'.tr = s.tr ++ [u] := by
  unfold rowStep at h
  split at h
  · cases h
  · rename_i v' s1 e
    cases h
    obtain ⟨ws, h1, h2, h3, h4, h5, _, rfl⟩ := rowMid_on e
    have hw : ∀ x ∈ ws, InW x := fun x hx => (h1 x hx).elim fun a ha => look_in hs.hd ha
    refine ⟨⟨?_, ?_, ?_⟩, by simp, ⟨_, rfl⟩⟩
    · simp only
      split
      · exact put_in hs.hd (worth_in hs hr hw h4 h5.symm)
      · exact hs.hd
    · simp only
      intro x hx
      apply hs.wt
      cases r with
      | ask n g => exact List.mem_of_mem_tail hx
      | _ => exact hx
    · have := hs.ln
      simp only
      split
      · have := put_len s.hd ‹_› ‹_›
        simp
        omega
      · simp
        omega
noncomputable def bodyB : Sm := (sSeq (sIf (cNotT (cTru (cMeth "Story" "may_go" F_Story_may_go (cVar 0) cNil)))
  (sRet (cCst .non))
  sNil)
  (sSeq (sPar2 7 8 (cCons (cMeth "Story" "row_done" F_Story_row_done (cVar 0) (cCons (cVar 6) (cCons (cArg F_held_worths (cCons (cVar 1) (cCons (cVar 6) cNil))) cNil))) (cCons (cArg (liftP P_given_by) (cCons (cVar 6) cNil)) cNil)))
  (sSeq (sIf (cTru (cBin (isN true) (cFld ["Story"] "ending" (cVar 0)) (cCst .non)))
  (sRet (cCst .non))
  sNil)
  (sIf (cTru (cBin (isN true) (cVar 8) (cCst .non)))
  (sSetI setD (cVar 1) (cVar 8) (cVar 7))
  sNil))))
theorem why_ne {r : Rw} {s : Sx} {e : U} (h : rowMid r s = .off e) : ∃ us, e = .tup us := by
  unfold rowMid at h
  split at h
  · cases h; exact ⟨_, rfl⟩
  · split at h
    · rename_i hw
      cases h
      exact why_endU hw
    · cases h
theorem body_ok (k : Int) (s : Sx) (r : Rw) (hs : Sok s) (hr : r.ok) (hn : s.tr.length < 16777216) (x2 x3 x4 x5 x6 x7 x8 : Option U) :
    ∃ y7 y8, bodyB [some (.ref 0), some (.ref 3), x2, x3, x4, x5, some (encR r), x7, x8] (sto .non k s) = if k ≤ s.tr.length then some (.ret .non, [some (.ref 0), some (.ref 3), x2, x3, x4, x5, some (encR r), y7, y8], sto dryU k s) else match rowStep r s with
      | .off e => some (.ret .non, [some (.ref 0), some (.ref 3), x2, x3, x4, x5, some (encR r), y7, y8], sto e k s)
      | .on v s' => some (.nx, [some (.ref 0), some (.ref 3), x2, x3, x4, x5, some (encR r), y7, y8], sto .non k s') := by
  have e1 := may_go k s
  by_cases hk : k ≤ s.tr.length
  · rw [if_pos hk] at e1
    refine ⟨x7, x8, ?_⟩
    unfold bodyB
    simp [e1, hk]
  · rw [if_neg hk] at e1
    have e2 := held_row r .non k s
    have e3 := row_done k s r hs.hd hn
    have e4 := given_row r
    cases hm : rowMid r s with
    | off e =>
      obtain ⟨us, rfl⟩ := why_ne hm
      rw [hm] at e3
      refine ⟨some .non, some (optS r.gives), ?_⟩
      unfold bodyB
      cases hg : r.gives <;> simp [e1, hk, e2, e3, e4, rowStep, hm, hg, optS]
    | on v s' =>
      rw [hm] at e3
      obtain ⟨ws, _, _, _, _, hv, hgv, hs'⟩ := rowMid_on hm
      have hh : s.hd.length < 16777216 := Nat.lt_of_le_of_lt hs.ln hn
      refine ⟨some (optI v), some (optS r.gives), ?_⟩
      unfold bodyB
      have hh' : s'.hd.length < sizeLine := by rw [hs']; exact lt_size _ hh
      have hh2 : (hdU s'.hd).length < sizeLine := by unfold hdU; simpa using hh'
      cases hg : r.gives with
      | none => simp [e1, hk, e2, e3, e4, rowStep, hm, hg, optS]
      | some g =>
        obtain ⟨v, rfl⟩ := hgv g hg
        simp [e1, hk, e2, e3, e4, rowStep, hm, hg, optS, hh2, putK_hd]
theorem rows_ok (k : Int) (x2 x3 x4 x5 : Option U) : ∀ (rs : List Rw) (n : Nat) (s : Sx) (x6 x7 x8 : Option U), Sok s → (∀ r ∈ rs, r.ok) → k = s.tr.length + n → k < 16777216 →
    ∃ y6 y7 y8, loopF (.nm 6) bodyB (rs.map encR) [some (.ref 0), some (.ref 3), x2, x3, x4, x5, x6, x7, x8] (sto .non k s) = match rowsGo rs n s with
      | .over e s' => some (.ret .non, [some (.ref 0), some (.ref 3), x2, x3, x4, x5, y6, y7, y8], sto e k s')
      | .thru _ s' => some (.nx, [some (.ref 0), some (.ref 3), x2, x3, x4, x5, y6, y7, y8], sto .non k s')
  | [], n, s, x6, x7, x8, hs, hr, hk, hk2 => ⟨x6, x7, x8, by simp [rowsGo]⟩
  | r :: rs, n, s, x6, x7, x8, hs, hr, hk, hk2 => by
    obtain ⟨y7, y8, e⟩ := body_ok k s r hs (hr r (by simp)) (by omega) x2 x3 x4 x5 x6 x7 x8
    cases n with
    | zero =>
      refine ⟨some (encR r), y7, y8, ?_⟩
      rw [if_pos (by omega)] at e
      simp [e, rowsGo]
    | succ n =>
      rw [if_neg (by omega)] at e
      cases h : rowStep r s with
      | off e' =>
        rw [h] at e
        refine ⟨some (encR r), y7, y8, ?_⟩
        simp [e, rowsGo, h]
      | on v s' =>
        rw [h] at e
        obtain ⟨hs', hl, _⟩ := rowStep_on hs (hr r (by simp)) h
        obtain ⟨z6, z7, z8, e2⟩ := rows_ok k x2 x3 x4 x5 rs n s' (some (encR r)) y7 y8 hs' (fun r hm => hr r (by simp [hm])) (by omega) hk2
        refine ⟨z6, z7, z8, ?_⟩
        simp [e, rowsGo, h, e2]
theorem rowsGo_thru : ∀ (rs : List Rw) (n : Nat) (s : Sx) (n' : Nat) (s' : Sx), Sok s → (∀ r ∈ rs, r.ok) → rowsGo rs n s = .thru n' s' → Sok s' ∧ s'.tr.length + n' = s.tr.length + n
  | [], n, s, n', s', hs, hr, h => by simp [rowsGo] at h; obtain ⟨rfl, rfl⟩ := h; exact ⟨hs, rfl⟩
  | r :: rs, 0, s, n', s', hs, hr, h => by simp [rowsGo] at h
  | r :: rs, n + 1, s, n', s', hs, hr, h => by
    simp only [rowsGo] at h
    split at h
    · cases h
    · rename_i v s1 e
      obtain ⟨hs', hl, _⟩ := rowStep_on hs (hr r (by simp)) e
      have := rowsGo_thru rs n s1 n' s' hs' (fun r hm => hr r (by simp [hm])) h
      exact ⟨this.1, by omega⟩
theorem block_ok (k : Int) (s : Sx) (b : Bk) (n : Nat) (hs : Sok s) (hr : ∀ r ∈ b.rows, r.ok) (hk : k = s.tr.length + n) (hk2 : k < 16777216) :
    F_block_done [.ref 0, .ref 3, encB b] (sto .non k s) = match blockGo b n s with
      | .over e s' => some (.non, sto e k s')
      | .next g _ s' => some (.str g, sto .non k s') := by
  unfold F_block_done c_block_done
  obtain ⟨y6, y7, y8, e⟩ := rows_ok k (some (encB b)) (some (.str b.name)) (some (.tup (b.rows.map encR))) (some (encE b.en)) b.rows n s none none none hs hr hk hk2
  unfold bodyB at e
  unfold blockGo
  unfold encB at e ⊢
  cases h : rowsGo b.rows n s with
  | over e' s' =>
    rw [h] at e
    simp [e]
  | thru n' s' =>
    rw [h] at e
    obtain ⟨hs', hl⟩ := rowsGo_thru b.rows n s n' s' hs hr h
    have e1 := may_go k s'
    cases n' with
    | zero =>
      rw [if_pos (by omega)] at e1
      simp [e, e1]
    | succ n' =>
      rw [if_neg (by omega)] at e1
      have e2 := held_end b.en .non k s'
      have e3 := end_done k s' b.name b.en (by omega)
      cases hm : endMid b.name b.en s' with
      | off e' s2 => rw [hm] at e3; simp [e, e1, e2, e3, hm]
      | on g s2 => rw [hm] at e3; simp [e, e1, e2, e3, hm]
end K14
namespace K14
open PySem PySem.Spec PyProof.Rows L2 OF
def encP (p : List Bk) : U := .tup (p.map encB)
theorem norefs_rows (rs : List Rw) : norefs (rs.map encR) = true := norefs_all _ fun u hu => by
  obtain ⟨r, _, rfl⟩ := List.mem_map.mp hu
  exact noref_encR r
@[simp] theorem noref_encB (b : Bk) : noref (encB b) = true := by simp [encB, norefs_rows]
@[simp] theorem noref_encP (p : List Bk) : noref (encP p) = true := by
  simp only [encP, noref_tup]
  exact norefs_all _ fun u hu => by
    obtain ⟨r, _, rfl⟩ := List.mem_map.mp hu
    exact noref_encB r
def blk (p : List Bk) (b : Str) : Option Bk := p.find? fun x => decide (x.name = b)
theorem map_blk (g : Str) (u0 : Option U) (S : Sto) : ∀ (p : List Bk), mapC (.nm 2) (cTru (cBin (OF.eqU false) (cBin ixU (cVar 2) (cCst (.int 0))) (cVar 1))) (cVar 2) [u0, some (.str g), none] (p.map encB) S = some ((p.filter fun x => decide (x.name = g)).map encB, S)
  | [] => rfl
  | b :: p => by
    have ih := map_blk g u0 S p
    by_cases h : b.name = g
    · have e : (encB b) = .tup [.str b.name, .tup (b.rows.map encR), encE b.en] := rfl
      simp [e, h, ih]
    · have e : (encB b) = .tup [.str b.name, .tup (b.rows.map encR), encE b.en] := rfl
      simp [e, h, ih]
theorem block_of (p : List Bk) (g : Str) (b : Bk) (h : blk p g = some b) (hp : p.length < 16777216) : P_block_of [encP p, .str g] = some (encB b) := by
  unfold P_block_of c_block_of
  have e := map_blk g (some (encP p)) [] p
  have hl : (p.filter fun x => decide (x.name = g)).length ≤ sizeLine := le_size _ (by have := List.length_filter_le (fun x => decide (x.name = g)) p; omega)
  have h2 : (p.filter fun x => decide (x.name = g))[0]? = some b := by
    rw [← List.head?_eq_getElem?, List.head?_filter]
    exact h
  unfold encP at e ⊢
  simp [e, hl, h2, norefs_rows]
theorem map_rest (u0 u1 u2 : Option U) (S : Sto) : ∀ (xs : List Int), mapC (.nm 3) cYes (cArg (liftP P_rest_of) (cCons (cVar 3) cNil)) [u0, u1, u2, none] (xs.map .int) S = some ((xs.map (· % 1000003)).map .int, S)
  | [] => rfl
  | x :: xs => by
    have ih := map_rest u0 u1 u2 S xs
    simp [rest_ok, ih]
theorem init_ok (xs : List Int) (k : Int) (hx : xs.length < 16777216) : F_Story_init__ [.ref 0, .tup (xs.map .int), .int k] [.ins "Story" []] = some (.non, [.ins "Story" [("trace", .ref 1), ("ending", .non), ("waiting", .ref 2), ("steps", .int k)], .lst [], .lst ((xs.map (· % 1000003)).map .int)]) := by
  unfold F_Story_init__ c_Story_init__
  have e := fun S => map_rest (some (.ref 0)) (some (.tup (xs.map .int))) (some (.int k)) S xs
  have hl : xs.length ≤ sizeLine := le_size _ (by omega)
  simp [e, hl]
def run (p : List Bk) : Nat → Str → List Rw → En → Sx → List U × U
  | 0, _, _, _, s => (s.tr, dryU)
  | n + 1, nm, r :: rs, e, s => match rowStep r s with
    | .off x => (s.tr, x)
    | .on _ s' => run p n nm rs e s'
  | n + 1, nm, [], e, s => match endMid nm e s with
    | .off x s' => (s'.tr, x)
    | .on b s' => match blk p b with
      | some b' => run p n b'.name b'.rows b'.en s'
      | none => (s'.tr, dryU)
theorem run_rows (p : List Bk) (nm : Str) (e : En) : ∀ (rs : List Rw) (n : Nat) (s : Sx), run p n nm rs e s = match rowsGo rs n s with
      | .over x s' => (s'.tr, x)
      | .thru n' s' => run p n' nm [] e s'
  | [], n, s => rfl
  | r :: rs, 0, s => rfl
  | r :: rs, n + 1, s => by
    simp only [run, rowsGo]
    cases rowStep r s with
    | off x => rfl
    | on v s' => exact run_rows p nm e rs n s'
theorem run_block (p : List Bk) (b : Bk) (n : Nat) (s : Sx) : run p n b.name b.rows b.en s = match blockGo b n s with
      | .over x s' => (s'.tr, x)
      | .next g n' s' => match blk p g with
        | some b' => run p n' b'.name b'.rows b'.en s'
        | none => (s'.tr, dryU) := by
  rw [run_rows]
  unfold blockGo
  cases rowsGo b.rows n s with
  | over x s' => rfl
  | thru n' s' =>
    cases n' with
    | zero => rfl
    | succ n' =>
      simp only [run]
      cases endMid b.name b.en s' <;> rfl
def En.goals : En → List Str
  | .go b => [b] | .iff _ b c => [b, c] | .stop => []
structure Pok (p : List Bk) : Prop where
  rows : ∀ b ∈ p, ∀ r ∈ b.rows, r.ok
  goals : ∀ b ∈ p, ∀ g ∈ b.en.goals, ∃ b', blk p g = some b'
  len : p.length < 16777216
  nm : ∀ b ∈ p, PyData.strOk b.name = true
  ra : ∀ b ∈ p, ∀ r ∈ b.rows, ∀ a ∈ r.asks, PyData.strOk a = true
  ea : ∀ b ∈ p, ∀ a ∈ b.en.asks, PyData.strOk a = true
theorem endMid_on {nm : Str} {e : En} {s s' : Sx} {g : Str} (hs : Sok s) (h : endMid nm e s = .on g s') : g ∈ e.goals ∧ Sok s' ∧ s'.tr.length = s.tr.length + 1 ∧ ∃ u, s'.tr = s.tr ++ [u] := by
  have hl := hs.ln
  cases e with
  | go b =>
    simp only [endMid] at h
    cases h
    exact ⟨by simp [En.goals], ⟨hs.hd, hs.wt, by simp; omega⟩, by simp, _, rfl⟩
  | stop => cases h
  | iff a b c =>
    simp only [endMid] at h
    split at h
    · cases h
    · cases h
      exact ⟨by simp only [En.goals]; split <;> simp, ⟨hs.hd, hs.wt, by simp; omega⟩, by simp, _, rfl⟩
theorem blockGo_next {b : Bk} {n n' : Nat} {s s' : Sx} {g : Str} (hs : Sok s) (hr : ∀ r ∈ b.rows, r.ok) (h : blockGo b n s = .next g n' s') : g ∈ b.en.goals ∧ Sok s' ∧ s'.tr.length + n' = s.tr.length + n ∧ n' < n := by
  unfold blockGo at h
  split at h
  · cases h
  · cases h
  · rename_i n1 s1 e
    obtain ⟨hs1, hl⟩ := rowsGo_thru _ _ _ _ _ hs hr e
    have hle : n1 + 1 ≤ n := by
      have : ∀ (rs : List Rw) (n : Nat) (s : Sx) n' s', rowsGo rs n s = .thru n' s' → n' ≤ n := by
        intro rs
        induction rs with
        | nil => intro n s n' s' h; simp [rowsGo] at h; omega
        | cons r rs ih =>
          intro n s n' s' h
          cases n with
          | zero => simp [rowsGo] at h
          | succ n =>
            simp only [rowsGo] at h
            split at h
            · cases h
            · have := ih _ _ _ _ h; omega
      exact this _ _ _ _ _ e
    split at h
    · cases h
    · rename_i g' s2 e2
      cases h
      obtain ⟨h1, h2, h3, _⟩ := endMid_on hs1 e2
      exact ⟨h1, h2, by omega, by omega⟩
theorem blk_mem {p : List Bk} {g : Str} {b : Bk} (h : blk p g = some b) : b ∈ p := List.mem_of_find?_eq_some h
theorem blk_name {p : List Bk} {g : Str} {b : Bk} (h : blk p g = some b) : b.name = g := by
  have := List.find?_some h
  simpa using this
theorem loop_ok (p : List Bk) (hp : Pok p) (k : Int) (hk2 : k < 16777216) (x1 x2 : Option U) : ∀ (n : Nat) (f : Nat) (b : Bk) (g : Str) (s : Sx), n < f → blk p g = some b → Sok s → k = s.tr.length + n →
    ∃ s' e, loopW (cTru (cBin (isN true) (cVar 5) (cCst .non))) (sAsg (cArg F_block_done (cCons (cVar 3) (cCons (cVar 4) (cCons (cArg (liftP P_block_of) (cCons (cVar 0) (cCons (cVar 5) cNil))) cNil)))) (gmName 5)) (f + 1) [some (encP p), x1, x2, some (.ref 0), some (.ref 3), some (.str g)] (sto .non k s)
      = some (.nx, [some (encP p), x1, x2, some (.ref 0), some (.ref 3), some .non], sto e k s') ∧ (s'.tr, e) = run p n b.name b.rows b.en s := by
  intro n
  induction n using Nat.strongRecOn with
  | ind n ih =>
    intro f b g s hf hg hs hk
    obtain ⟨f, rfl⟩ : ∃ f', f = f' + 1 := ⟨f - 1, by omega⟩
    have e1 := block_of p g b hg hp.len
    have e2 := block_ok k s b n hs (hp.rows b (blk_mem hg)) hk hk2
    rw [run_block]
    cases h : blockGo b n s with
    | over x s' =>
      rw [h] at e2
      refine ⟨s', x, ?_, rfl⟩
      rw [loopW_succ]
      simp [e1, e2]
      rw [loopW_succ]
      simp
    | next g' n' s' =>
      rw [h] at e2
      obtain ⟨h1, h2, h3, h4⟩ := blockGo_next hs (hp.rows b (blk_mem hg)) h
      obtain ⟨b', hb'⟩ := hp.goals b (blk_mem hg) g' h1
      obtain ⟨s2, x, e3, e4⟩ := ih n' h4 f b' g' s' (by omega) hb' h2 (by omega)
      refine ⟨s2, x, ?_, ?_⟩
      · rw [loopW_succ]
        simp [e1, e2]
        exact e3
      · rw [e4]
        simp only [hb']
@[simp] theorem okUs_app (n : Nat) (us ws : List U) : okUs n (us ++ ws) = (okUs n us && okUs n ws) := by
  induction us with
  | nil => simp [okUs]
  | cons u us ih => simp [okUs, ih, Bool.and_assoc]
theorem okUs_ints (n : Nat) (xs : List Int) : okUs n (xs.map .int) = true := by
  induction xs with
  | nil => simp [okUs]
  | cons x xs ih => simp [okUs, okU, ih]
mutual
theorem okU_noref : ∀ (n : Nat) (u : U), okU n u = true → noref u = true
  | n, .non, h => by simp
  | n, .bl _, h => by simp
  | n, .int _, h => by simp
  | n, .str _, h => by simp
  | 0, .tup us, h => by simp [okU] at h
  | 0, .lst us, h => by simp [okU] at h
  | n + 1, .tup us, h => by simp only [noref_tup]; exact okUs_norefs n us (by simpa [okU] using h)
  | n + 1, .lst us, h => by simp only [noref_lst]; exact okUs_norefs n us (by simpa [okU] using h)
  | n, .scr us, h => by simp [okU] at h
  | n, .dct us, h => by simp [okU] at h
  | n, .fn us, h => by simp [okU] at h
  | n, .ref us, h => by simp [okU] at h
theorem okUs_norefs : ∀ (n : Nat) (us : List U), okUs n us = true → norefs us = true
  | n, [], _ => by simp
  | n, u :: us, h => by
    have h' : okU n u = true ∧ okUs n us = true := by simpa [okUs] using h
    simp [okU_noref n u h'.1, okUs_norefs n us h'.2]
end
mutual
theorem okU_mono : ∀ (n m : Nat) (u : U), n ≤ m → okU n u = true → okU m u = true
  | n, m, .non, _, h => by simp [okU]
  | n, m, .bl _, _, h => by simp [okU]
  | n, m, .int _, _, h => by simp [okU]
  | n, m, .str _, _, h => by simpa [okU] using h
  | 0, m, .tup us, _, h => by simp [okU] at h
  | 0, m, .lst us, _, h => by simp [okU] at h
  | n + 1, 0, .tup us, hl, h => by omega
  | n + 1, 0, .lst us, hl, h => by omega
  | n + 1, m + 1, .tup us, hl, h => by
    simp only [okU] at h ⊢
    exact okUs_mono n m us (by omega) h
  | n + 1, m + 1, .lst us, hl, h => by
    simp only [okU] at h ⊢
    exact okUs_mono n m us (by omega) h
  | n, m, .scr us, _, h => by simp [okU] at h
  | n, m, .dct us, _, h => by simp [okU] at h
  | n, m, .fn us, _, h => by simp [okU] at h
  | n, m, .ref us, _, h => by simp [okU] at h
theorem okUs_mono : ∀ (n m : Nat) (us : List U), n ≤ m → okUs n us = true → okUs m us = true
  | n, m, [], _, _ => by simp [okUs]
  | n, m, u :: us, hl, h => by
    have h' : okU n u = true ∧ okUs n us = true := by simpa [okUs] using h
    simp [okUs, okU_mono n m u hl h'.1, okUs_mono n m us hl h'.2]
end
theorem dry_ok : okU 3 dryU = true := by decide +kernel
theorem stop_ok : okU 3 stopU = true := by decide +kernel
theorem untold_ok {a : Str} (h : PyData.strOk a = true) : okU 3 (untoldU a) = true := by
  have : PyData.strOk "untold" = true := by decide +kernel
  simp [untoldU, okU, okUs, h, this]
theorem why_ok {r : Rw} {ws wt : List Int} {e : U} (h : why r ws wt = some e) : okU 3 e = true := by
  have h1 : PyData.strOk "nought" = true := by decide +kernel
  have h2 : PyData.strOk "bare" = true := by decide +kernel
  unfold why at h
  split at h
  · split at h
    · split at h
      · cases h; simp [okU, okUs, h1]
      · cases h
    · cases h
  · split at h
    · cases h; simp [okU, okUs, h2]
    · cases h
  · cases h
theorem rowStep_good {r : Rw} {s : Sx} (ha : ∀ a ∈ r.asks, PyData.strOk a = true) (hs : okUs 2 s.tr = true) : match rowStep r s with
    | .off e => okU 3 e = true
    | .on _ s' => okUs 2 s'.tr = true := by
  unfold rowStep
  cases h : rowMid r s with
  | off e =>
    simp only
    unfold rowMid at h
    split at h
    · rename_i a ha'
      cases h
      exact untold_ok (ha a (List.mem_of_find?_eq_some ha'))
    · split at h
      · rename_i hw
        cases h
        exact why_ok hw
      · cases h
  | on v s' =>
    simp only
    obtain ⟨ws, _, _, _, _, _, _, rfl⟩ := rowMid_on h
    simp [okU, okUs, hs, okUs_ints]
    cases v <;> simp [okU]
theorem endMid_good {nm : Str} {e : En} {s : Sx} (hn : PyData.strOk nm = true) (ha : ∀ a ∈ e.asks, PyData.strOk a = true) (hs : okUs 2 s.tr = true) : match endMid nm e s with
    | .off e s' => okU 3 e = true ∧ okUs 2 s'.tr = true
    | .on _ s' => okUs 2 s'.tr = true := by
  cases e with
  | go b => simp [endMid, okU, okUs, hs, hn]
  | stop => simp [endMid, okU, okUs, hs, hn, stop_ok]
  | iff a b c =>
    cases h : look s.hd a with
    | none => simp [endMid, h, hs, untold_ok (ha a (by simp [En.asks]))]
    | some x => simp [endMid, h, okU, okUs, hs, hn]
theorem run_good (p : List Bk) (hp : Pok p) : ∀ (n : Nat) (nm : Str) (rs : List Rw) (e : En) (s : Sx), PyData.strOk nm = true → (∀ r ∈ rs, ∀ a ∈ r.asks, PyData.strOk a = true) → (∀ a ∈ e.asks, PyData.strOk a = true) → okUs 2 s.tr = true →
    okUs 2 (run p n nm rs e s).1 = true ∧ okU 3 (run p n nm rs e s).2 = true
  | 0, nm, rs, e, s, h1, h2, h3, hs => ⟨hs, dry_ok⟩
  | n + 1, nm, r :: rs, e, s, h1, h2, h3, hs => by
    have g := rowStep_good (h2 r (by simp)) hs
    simp only [run]
    cases h : rowStep r s with
    | off x => rw [h] at g; exact ⟨hs, g⟩
    | on v s' => rw [h] at g; exact run_good p hp n nm rs e s' h1 (fun r hr => h2 r (by simp [hr])) h3 g
  | n + 1, nm, [], e, s, h1, h2, h3, hs => by
    have g := endMid_good h1 h3 hs
    simp only [run]
    cases h : endMid nm e s with
    | off x s' => rw [h] at g; exact ⟨g.2, g.1⟩
    | on b s' =>
      rw [h] at g
      simp only
      cases hb : blk p b with
      | none => exact ⟨g, dry_ok⟩
      | some b' => exact run_good p hp n b'.name b'.rows b'.en s' (hp.nm _ (blk_mem hb)) (hp.ra _ (blk_mem hb)) (hp.ea _ (blk_mem hb)) g
@[simp high] theorem ix_encP (b : Bk) (p : List Bk) (S : Sto) : ixU (encP (b :: p)) (.int 0) S = some (encB b, S) := by simp [encP]
@[simp high] theorem ix_encB (b : Bk) (S : Sto) : ixU (encB b) (.int 0) S = some (.str b.name, S) := by simp [encB]
theorem pair_ok (e : U) (k : Int) (s : Sx) : F_Story_pair [.ref 0] (sto e k s) = some (.tup [.tup s.tr, e], sto e k s) := by
  unfold F_Story_pair c_Story_pair
  simp
def runP (b : Bk) (p : List Bk) (n : Nat) (xs : List Int) : List U × U := run (b :: p) n b.name b.rows b.en ⟨[], xs.map (· % 1000003), []⟩
theorem runP_good (b : Bk) (p : List Bk) (hp : Pok (b :: p)) (n : Nat) (xs : List Int) : okUs 2 (runP b p n xs).1 = true ∧ okU 3 (runP b p n xs).2 = true :=
  run_good (b :: p) hp n _ _ _ _ (hp.nm b (by simp)) (hp.ra b (by simp)) (hp.ea b (by simp)) rfl
theorem run_ok (b : Bk) (p : List Bk) (hp : Pok (b :: p)) (xs : List Int) (hx : xs.length < 16777216) (n : Nat) (hn : n < 90000) :
    P_run_plain [encP (b :: p), .tup (xs.map .int), .int n] = some (.tup [.tup (runP b p n xs).1, (runP b p n xs).2]) := by
  have hs : Sok ⟨[], xs.map (· % 1000003), []⟩ := ⟨by intro p hp; simp at hp, by
    intro x hx
    obtain ⟨y, _, rfl⟩ := List.mem_map.mp hx
    exact ⟨Int.emod_nonneg _ (by decide), Int.emod_lt_of_pos _ (by decide)⟩, by simp⟩
  obtain ⟨s', e, e1, e2⟩ := loop_ok (b :: p) hp n (by omega) (some (.tup (xs.map .int))) (some (.int n)) n 99999 b b.name ⟨[], xs.map (· % 1000003), []⟩ (by omega) (by simp [blk]) hs (by simp)
  obtain ⟨g1, g2⟩ := runP_good b p hp n xs
  have e3 : (s'.tr, e) = runP b p n xs := e2
  rw [← e3] at g1 g2 ⊢
  unfold P_run_plain c_run_plain
  have ei := init_ok xs n hx
  have ep := pair_ok e n s'
  have hst : sto .non n ⟨[], xs.map (· % 1000003), []⟩ = [.ins "Story" [("trace", .ref 1), ("ending", .non), ("waiting", .ref 2), ("steps", .int n)], .lst [], .lst (xs.map (.int ∘ (· % 1000003))), .dct []] := by
    simp [sto, hdU]
  rw [hst] at e1
  simp only [Nat.reduceAdd] at e1
  simp [gu_Story_init___1_steps, ei, e1, ep, okUs_norefs 2 _ g1, okU_noref 3 _ g2]
end K14
namespace K14
open PySem PySem.Spec PyProof.Rows L2 OF
theorem rowStep_tr {r : Rw} {s s' : Sx} {v : Option Int} (h : rowStep r s = .on v s') : ∃ u, s'.tr = s.tr ++ [u] := by
  unfold rowStep at h
  split at h
  · cases h
  · rename_i v' s1 e
    cases h
    obtain ⟨ws, h1, h2, h3, h4, h5, _, rfl⟩ := rowMid_on e
    exact ⟨_, rfl⟩
theorem endMid_tr {nm : Str} {e : En} {s s' : Sx} {g : Str} (h : endMid nm e s = .on g s') : ∃ u, s'.tr = s.tr ++ [u] := by
  cases e with
  | go b => simp only [endMid] at h; cases h; exact ⟨_, rfl⟩
  | stop => cases h
  | iff a b c =>
    simp only [endMid] at h
    split at h
    · cases h
    · cases h; exact ⟨_, rfl⟩
theorem endMid_off {nm : Str} {e : En} {s s' : Sx} {x : U} (h : endMid nm e s = .off x s') : s'.tr = s.tr ∨ ∃ u, s'.tr = s.tr ++ [u] := by
  cases e with
  | go b => cases h
  | stop => simp only [endMid] at h; cases h; exact .inr ⟨_, rfl⟩
  | iff a b c =>
    simp only [endMid] at h
    split at h
    · cases h; exact .inl rfl
    · cases h
theorem run_pfx (p : List Bk) : ∀ (n : Nat) (nm : Str) (rs : List Rw) (e : En) (s : Sx), s.tr <+: (run p n nm rs e s).1 ∧ (run p n nm rs e s).1.length ≤ s.tr.length + n
  | 0, nm, rs, e, s => ⟨List.prefix_refl _, by simp [run]⟩
  | n + 1, nm, r :: rs, e, s => by
    simp only [run]
    cases h : rowStep r s with
    | off x => exact ⟨List.prefix_refl _, by simp⟩
    | on v s' =>
      obtain ⟨u, hu⟩ := rowStep_tr h
      have ih := run_pfx p n nm rs e s'
      refine ⟨List.IsPrefix.trans ?_ ih.1, ?_⟩
      · rw [hu]; exact List.prefix_append _ _
      · have := ih.2
        rw [hu] at this
        simp at this ⊢
        omega
  | n + 1, nm, [], e, s => by
    simp only [run]
    cases h : endMid nm e s with
    | off x s' =>
      rcases endMid_off h with hu | ⟨u, hu⟩
      · simp [hu]
      · simp [hu]
    | on b s' =>
      obtain ⟨u, hu⟩ := endMid_tr h
      simp only
      cases hb : blk p b with
      | none => simp [hu]
      | some b' =>
        have ih := run_pfx p n b'.name b'.rows b'.en s'
        refine ⟨List.IsPrefix.trans ?_ ih.1, ?_⟩
        · rw [hu]; exact List.prefix_append _ _
        · have := ih.2
          rw [hu] at this
          simp at this ⊢
          omega
theorem pfx_take {α : Type} {a b : List α} (h : a <+: b) : a = b.take a.length := (List.prefix_iff_eq_take.mp h)
theorem run_cut (p : List Bk) : ∀ (m n : Nat) (nm : Str) (rs : List Rw) (e : En) (s : Sx), m ≤ n → run p m nm rs e s = run p n nm rs e s ∨
    ((run p m nm rs e s).2 = dryU ∧ (run p m nm rs e s).1 = (run p n nm rs e s).1.take (s.tr.length + m) ∧ (run p m nm rs e s).1.length = s.tr.length + m)
  | 0, n, nm, rs, e, s, _ => .inr ⟨rfl, pfx_take (run_pfx p n nm rs e s).1, rfl⟩
  | m + 1, 0, nm, rs, e, s, h => by omega
  | m + 1, n + 1, nm, r :: rs, e, s, hl => by
    simp only [run]
    cases h : rowStep r s with
    | off x => exact .inl rfl
    | on v s' =>
      obtain ⟨u, hu⟩ := rowStep_tr h
      have ih := run_cut p m n nm rs e s' (by omega)
      have hlen : s'.tr.length + m = s.tr.length + (m + 1) := by rw [hu]; simp; omega
      rw [hlen] at ih
      exact ih
  | m + 1, n + 1, nm, [], e, s, hl => by
    simp only [run]
    cases h : endMid nm e s with
    | off x s' => exact .inl rfl
    | on b s' =>
      obtain ⟨u, hu⟩ := endMid_tr h
      simp only
      cases hb : blk p b with
      | none => exact .inl rfl
      | some b' =>
        have ih := run_cut p m n b'.name b'.rows b'.en s' (by omega)
        have hlen : s'.tr.length + m = s.tr.length + (m + 1) := by rw [hu]; simp; omega
        rw [hlen] at ih
        exact ih
end K14
namespace K14
open PySem PySem.Spec PyProof.Rows L2 OF
structure Gd (u : U) : Prop where
  sh : shU u = true
  bk : bkU u ≤ 40
theorem runP_len' (b : Bk) (p : List Bk) (n : Nat) (xs : List Int) : (runP b p n xs).1.length ≤ n := by
  have := (run_pfx (b :: p) n b.name b.rows b.en ⟨[], xs.map (· % 1000003), []⟩).2
  simpa [runP] using this
end K14
namespace K14
open PySem PySem.Spec PyProof.Rows L2 OF
structure Rin (ns : List Str) (r : Rw) : Prop where
  asks : ∀ a ∈ r.asks, a ∈ ns
  gives : ∀ a, r.gives = some a → a ∈ ns
theorem strs_mem {u : U} {ns : List Str} (h : u ∈ ns.map U.str) : ∃ x ∈ ns, u = .str x := by
  obtain ⟨x, hx, e⟩ := List.mem_map.mp h
  exact ⟨x, hx, e.symm⟩
theorem row_wp {S : Sto} {h j : Nat} {cs : List O} {g b : Int} {ns : List Str} {m : Int} {Q : U × Sto → Prop} (hh : h < S.length) (hk : Hok g b) (hj : ∀ o, (St S h o cs)[j]? = some (.lst (ns.map .str))) (n0 : ns ≠ []) (n1 : ns.length < 1000)
    (q : ∀ r g' b', r.num = m → r.ok → Rin ns r → Hok g' b' → Q (encR r, St S h (hnd g' b') cs)) : wp (F__law_row [.ref h, .int m, .ref j] (St S h (hnd g b) cs)) Q := by
  have z : (12 : Nat) ≤ sizeLine := le_size _ (by omega)
  unfold F__law_row c__law_row
  simp [z]
  refine pick_wp hh hk (by simp) (by simp) fun u g1 b1 hu k1 => ?_
  obtain ⟨w, rfl, hw⟩ : ∃ w : Str, u = .str w ∧ (w = "put" ∨ w = "plus" ∨ w = "copy" ∨ w = "say" ∨ w = "less" ∨ w = "times" ∨ w = "part" ∨ w = "same" ∨ w = "below" ∨ w = "ask") := by
    simp at hu
    rcases hu with rfl | rfl | rfl | rfl | rfl | rfl | rfl | rfl | rfl | rfl | rfl | rfl <;> exact ⟨_, rfl, by simp⟩
  clear hu
  simp
  refine pick_ref hh k1 hj (by simpa using n0) (by simp; omega) fun u g2 b2 hu k2 => ?_
  obtain ⟨x, hx, rfl⟩ := strs_mem hu
  simp
  refine pick_ref hh k2 hj (by simpa using n0) (by simp; omega) fun u g3 b3 hu k3 => ?_
  obtain ⟨a, ha, rfl⟩ := strs_mem hu
  simp
  refine pick_ref hh k3 hj (by simpa using n0) (by simp; omega) fun u g4 b4 hu k4 => ?_
  obtain ⟨c, hc, rfl⟩ := strs_mem hu
  have bin : ∀ v : Wd, Q (encR (.bin v m x a c), St S h (hnd g4 b4) cs) := fun v => q _ g4 b4 rfl trivial ⟨by intro y hy; simp [Rw.asks] at hy; rcases hy with rfl | rfl <;> assumption, by intro y hy; simp [Rw.gives] at hy; subst hy; exact hx⟩ k4
  simp
  rcases hw with rfl | rfl | rfl | rfl | rfl | rfl | rfl | rfl | rfl | rfl
  · simp
    refine take_wp hh k4 (by omega) (by omega) fun d g5 b5 d0 d1 k5 => ?_
    simp
    refine pick_wp hh k5 (by simp) (by simp) fun u g6 b6 hu k6 => ?_
    obtain ⟨v, rfl, hv⟩ : ∃ v : Int, u = .int v ∧ InW v := by
      simp at hu
      rcases hu with rfl | rfl | rfl | rfl | rfl | rfl
      · exact ⟨_, rfl, by unfold InW; omega⟩
      · exact ⟨_, rfl, by unfold InW; omega⟩
      · exact ⟨_, rfl, by unfold InW; omega⟩
      · exact ⟨_, rfl, by unfold InW; omega⟩
      · exact ⟨_, rfl, by unfold InW; omega⟩
      · exact ⟨_, rfl, by unfold InW; omega⟩
    simp
    exact q (.put m x v) g6 b6 rfl hv ⟨by simp [Rw.asks], by simp [Rw.gives, hx]⟩ k6
  · simp
    exact bin .plus
  · simp
    exact q (.copy m x a) g4 b4 rfl trivial ⟨by simp [Rw.asks, ha], by simp [Rw.gives, hx]⟩ k4
  · simp
    exact q (.say m x) g4 b4 rfl trivial ⟨by simp [Rw.asks, hx], by simp [Rw.gives]⟩ k4
  · simp
    exact bin .less
  · simp
    exact bin .times
  · simp
    exact bin .part
  · simp
    exact bin .same
  · simp
    exact bin .below
  · simp
    exact q (.ask m x) g4 b4 rfl trivial ⟨by simp [Rw.asks], by simp [Rw.gives, hx]⟩ k4
end K14
namespace K14
open PySem PySem.Spec PyProof.Rows L2 OF
def numf (f s b : Int) (i : Nat) : Int := 1 + (f + s * ((i : Int) * b % 101)) % 9999
theorem numf_lo (f s b : Int) (i : Nat) : 1 ≤ numf f s b i ∧ numf f s b i ≤ 9999 := by
  unfold numf
  generalize f + s * ((i : Int) * b % 101) = x
  omega
structure Nums (f s b : Int) : Prop where
  f0 : 0 ≤ f
  f1 : f < 9999
  s : s = 1 ∨ s = 2 ∨ s = 7 ∨ s = 10 ∨ s = 9998
  b : b = 1 ∨ b = 37 ∨ b = 64
theorem numf_inj {f s b : Int} (h : Nums f s b) {i j : Nat} (hi : i < 101) (hj : j < 101) (e : numf f s b i = numf f s b j) : i = j := by
  obtain ⟨f0, f1, hs, hb⟩ := h
  unfold numf at e
  have key : (i : Int) * b % 101 = (j : Int) * b % 101 := by
    have x0 : 0 ≤ (i : Int) * b % 101 := Int.emod_nonneg _ (by decide)
    have x1 : (i : Int) * b % 101 < 101 := Int.emod_lt_of_pos _ (by decide)
    have y0 : 0 ≤ (j : Int) * b % 101 := Int.emod_nonneg _ (by decide)
    have y1 : (j : Int) * b % 101 < 101 := Int.emod_lt_of_pos _ (by decide)
    generalize (i : Int) * b % 101 = x at *
    generalize (j : Int) * b % 101 = y at *
    rcases hs with rfl | rfl | rfl | rfl | rfl <;> omega
  rcases hb with rfl | rfl | rfl <;> omega
noncomputable def pB1 : Sm := (sSeq (sAsg (cBin (addU false) (cCst (.int 1)) (cBin (o2I modI) (cBin (addU false) (cVar 8) (cBin (o2I mulI) (cVar 9) (cBin (o2I modI) (cBin (o2I mulI) (cVar 13) (cVar 10)) (cCst (.int 101))))) (cCst (.int 9999)))) (gmName 17))
  (sSeq (sExpr (cMt "list" appU (cVar 15) (cCons (cArg F__law_row (cCons (cVar 0) (cCons (cVar 17) (cCons (cVar 7) cNil)))) cNil)))
  (sAsg (cBin (addU false) (cVar 13) (cCst (.int 1))) (gmName 13))))
section
variable {S : Sto} {h j : Nat} {D : List O} {ns : List Str} {f s t : Int} {z1 z2 z3 z4 z5 z6 z11 z12 z14 z18 z19 z20 : Option U}
def pEnv (S : Sto) (D : List O) (h j : Nat) (f s t : Int) (z1 z2 z3 z4 z5 z6 z11 z12 z14 z18 z19 z20 : Option U) (cnt : Nat) (y16 y17 : Option U) : Env' := [some (.ref h), z1, z2, z3, z4, z5, z6, some (.ref (S.length + j)), some (.int f), some (.int s), some (.int t), z11, z12, some (.int (cnt : Int)), z14, some (.ref (S.length + D.length)), y16, y17, z18, z19, z20]
structure Rok (ns : List Str) (r : Rw) : Prop where
  ok : r.ok
  rin : Rin ns r
theorem rows_wp {Q : Fl × Env' × Sto → Prop} (hh : h < S.length) (hj : D[j]? = some (.lst (ns.map .str))) (n0 : ns ≠ []) (n1 : ns.length < 1000) (hN : Nums f s t) : ∀ (us : List U) (cnt : Nat) (rs : List Rw) (g b : Int) (y16 y17 : Option U), Hok g b → cnt + us.length ≤ 100 → rs.length ≤ cnt →
    (∀ (rs' : List Rw) (g' b' : Int) (y16 y17 : Option U), Hok g' b' → (∀ r ∈ rs', Rok ns r) → rs'.map Rw.num = (List.range' cnt us.length).map (numf f s t) → Q (.nx, pEnv S D h j f s t z1 z2 z3 z4 z5 z6 z11 z12 z14 z18 z19 z20 (cnt + us.length) y16 y17, St S h (hnd g' b') (D ++ [.lst ((rs ++ rs').map encR)]))) →
    wp (loopF (.nm 16) pB1 us (pEnv S D h j f s t z1 z2 z3 z4 z5 z6 z11 z12 z14 z18 z19 z20 cnt y16 y17) (St S h (hnd g b) (D ++ [.lst (rs.map encR)]))) Q
  | [], cnt, rs, g, b, y16, y17, hk, hc, hl, q => by
    rw [wp_loop_nil]
    have := q [] g b y16 y17 hk (by simp) (by simp)
    simpa using this
  | u :: us, cnt, rs, g, b, y16, y17, hk, hc, hl, q => by
    have hc' : cnt + us.length + 1 ≤ 100 := by simpa [Nat.add_assoc] using hc
    have ih := fun (rs2 : List Rw) g b y16 y17 k l q => rows_wp (Q := Q) hh hj n0 n1 hN us (cnt + 1) rs2 g b y16 y17 k (by omega) l q
    have m1 : mulI (cnt : Int) t = some (.int ((cnt : Int) * t)) := by
      have := hN.b
      exact mulI_ok (sm (by omega)) (sm (by omega))
    have x0 : 0 ≤ (cnt : Int) * t % 101 := Int.emod_nonneg _ (by decide)
    have x1 : (cnt : Int) * t % 101 < 101 := Int.emod_lt_of_pos _ (by decide)
    have m2 : mulI s ((cnt : Int) * t % 101) = some (.int (s * ((cnt : Int) * t % 101))) := by
      have := hN.s
      exact mulI_ok (sm (by omega)) (sm (by omega))
    have d1 : ∀ i, modI i 101 = some (.int (i % 101)) := fun i => modI_ok (by decide)
    have d2 : ∀ i, modI i 9999 = some (.int (i % 9999)) := fun i => modI_ok (by decide)
    have hj' : ∀ o (l : List O), (St S h o (D ++ l))[S.length + j]? = some (.lst (ns.map .str)) := by
      intro o l
      rw [st_at, List.getElem?_append_left (List.getElem?_eq_some_iff.mp hj).1, hj]
    have rz : rs.length < sizeLine := by have := le_size 200 (by omega); omega
    unfold pB1 pEnv at ih ⊢
    simp [-loopF_cons, m1, m2, d1, d2]
    refine row_wp hh hk (fun o => hj' o _) n0 n1 fun r g1 b1 hr ok rin k1 => ?_
    simp [-loopF_cons, rz]
    have := ih (rs ++ [r]) g1 b1 (some u) (some (.int (numf f s t cnt))) k1 (by simp; omega) ?_
    · simpa [numf] using this
    · intro rs' g' b' y16 y17 k2 a1 a2
      have := q (r :: rs') g' b' y16 y17 k2 (by
        intro x hx
        rcases List.mem_cons.mp hx with rfl | hx
        · exact ⟨ok, rin⟩
        · exact a1 x hx) (by
        rw [List.map_cons, List.length_cons, List.range'_succ, List.map_cons, a2, hr]
        rfl)
      unfold pEnv at this
      rw [List.append_assoc, List.singleton_append, show cnt + 1 + us.length = cnt + (u :: us).length by rw [List.length_cons]; omega]
      exact this
end
end K14
namespace K14
open PySem PySem.Spec PyProof.Rows L2 OF
theorem ends_map {X : Sto} {r i1 : Nat} {us0 : List U} {bs : List Str} {env : Env'} (hr : X[r]? = some (.lst us0)) (hb : X[i1]? = some (.lst (bs.map .str))) (e6 : env[6]? = some (some (.ref i1))) (hl : env.length = 21) : ∀ l : List Nat, (∀ i ∈ l, i < bs.length) →
    mapG (.nm 20) cYes (cBin ixU (cVar 6) (cVar 20)) env (some r) us0 (l.map fun (i : Nat) => U.int (i : Int)) X = some (l.map (fun i => U.str (bs.getD i "")), X)
  | [], _ => by
    unfold mapG
    simp [hr]
  | i :: l, h => by
    have ih := ends_map hr hb e6 hl l fun k hk => h k (by simp [hk])
    have hi := h i (by simp)
    have g6 : (env.set 20 (some (.int (i : Int))))[6]? = some (some (.ref i1)) := by rw [List.getElem?_set_ne (by decide)]; exact e6
    have g20 : (env.set 20 (some (.int (i : Int))))[20]? = some (some (.int (i : Int))) := List.getElem?_set_self (by omega)
    have ha : atI (bs.map U.str) (i : Int) = some (.str (bs.getD i "")) := by
      rw [OF.atI_nat, List.getElem?_map, List.getElem?_eq_getElem hi, List.getD_eq_getElem?_getD, List.getElem?_eq_getElem hi]; rfl
    rw [List.map_cons, List.map_cons]
    unfold mapG
    simp only [gok_some, hr, if_true, bindP_nm]
    simp [g6, g20, hb, ha, ih]
structure Bok (bs ns : List Str) (b : Bk) : Prop where
  rows : ∀ r ∈ b.rows, Rok ns r
  goals : ∀ g ∈ b.en.goals, g ∈ bs
  asks : ∀ a ∈ b.en.asks, a ∈ ns
  few : b.rows.length ≤ 5
  gnd : b.en.goals.Nodup
end K14
namespace K14
open PySem PySem.Spec PyProof.Rows L2 OF
noncomputable def pB2 : Sm := (sSeq (sAsg (cArg oLstM cNil) (gmName 15))
  (sSeq (sFor (itR1 (cCons (cArg (on2 minU) (cCons (cArg F__law_take (cCons (cVar 0) (cCons (cBin (addU false) (cVar 3) (cCst (.int 1))) cNil))) (cCons (cBin oSub (cCst (.int 100)) (cVar 13)) cNil))) cNil)) (.nm 16)
  (sSeq (sAsg (cBin (addU false) (cCst (.int 1)) (cBin (o2I modI) (cBin (addU false) (cVar 8) (cBin (o2I mulI) (cVar 9) (cBin (o2I modI) (cBin (o2I mulI) (cVar 13) (cVar 10)) (cCst (.int 101))))) (cCst (.int 9999)))) (gmName 17))
  (sSeq (sExpr (cMt "list" appU (cVar 15) (cCons (cArg F__law_row (cCons (cVar 0) (cCons (cVar 17) (cCons (cVar 7) cNil)))) cNil)))
  (sAsg (cBin (addU false) (cVar 13) (cCst (.int 1))) (gmName 13)))))
  (sSeq (sAsg (cArg (on1 tupleU) (cCons (cLcG (itAny (cBin ixU (cVar 11) (cVar 14))) (.nm 20) cYes (cBin ixU (cVar 6) (cVar 20)) [20]) cNil)) (gmName 18))
  (sSeq (sAsg (cBin ixU (cArg oLst (cCons (cArg oTup (cCons (cCst (.str "stop")) cNil)) (cCons (cBin (addU false) (cArg oTup (cCons (cCst (.str "go")) cNil)) (cVar 18)) (cCons (cBin (addU false) (cArg oTup (cCons (cCst (.str "if")) (cCons (cArg F__law_pick (cCons (cVar 0) (cCons (cVar 7) cNil))) cNil))) (cVar 18)) cNil)))) (cArg (on1 lenU) (cCons (cVar 18) cNil))) (gmName 19))
  (sExpr (cMt "list" appU (cVar 12) (cCons (cArg oTup (cCons (cBin ixU (cVar 6) (cVar 14)) (cCons (cArg (on1 tupleU) (cCons (cVar 15) cNil)) (cCons (cVar 19) cNil)))) cNil)))))))
def oEnv (S : Sto) (h n i1 i2 c0 fd : Nat) (f s t : Int) (z1 z2 z5 : Option U) (cnt : Nat) (y14 y15 y16 y17 y18 y19 y20 : Option U) : Env' := [some (.ref h), z1, z2, some (.int 5), some (.int (n : Int)), z5, some (.ref (S.length + i1)), some (.ref (S.length + i2)), some (.int f), some (.int s), some (.int t), some (.lst ((List.range n).map fun i => U.ref (S.length + (c0 + i)))), some (.ref (S.length + fd)), some (.int (cnt : Int)), y14, y15, y16, y17, y18, y19, y20]
theorem block_wp {S : Sto} {h n i1 i2 c0 fd k : Nat} {D : List O} {bs ns : List Str} {bks : List Bk} {l : List Nat} {f s t : Int} {zz1 zz2 zz5 y15 y16 y17 y18 y19 y20 : Option U} {cnt : Nat} {g b : Int} {Q : Fl × Env' × Sto → Prop}
    (hh : h < S.length) (hk : Hok g b) (hN : Nums f s t) (d1 : D[i1]? = some (.lst (bs.map .str))) (d2 : D[i2]? = some (.lst (ns.map .str))) (d3 : D[c0 + k]? = some (gc l)) (d4 : D[fd]? = some (.lst (bks.map encB)))
    (kn : k < n) (bd : bs.Nodup) (ld : l.Nodup) (bn : bs.length = n) (n0 : ns ≠ []) (n1 : ns.length < 1000) (l2 : l.length ≤ 2) (ll : ∀ i ∈ l, i < n) (hc : cnt ≤ 100) (hb : bks.length < 1000)
    (q : ∀ (bk : Bk) (g' b' : Int) (cnt' : Nat) (y15 y16 y17 y18 y19 : Option U) (rc : O), bk.name = bs.getD k "" → Bok bs ns bk → cnt' = cnt + bk.rows.length → cnt' ≤ 100 → bk.rows.map Rw.num = (List.range' cnt bk.rows.length).map (numf f s t) → Hok g' b' →
      Q (.nx, oEnv S h n i1 i2 c0 fd f s t zz1 zz2 zz5 cnt' (some (.int (k : Int))) y15 y16 y17 y18 y19 y20, St S h (hnd g' b') ((D ++ [rc]).set fd (.lst ((bks ++ [bk]).map encB))))) :
    wp (pB2 (oEnv S h n i1 i2 c0 fd f s t zz1 zz2 zz5 cnt (some (.int (k : Int))) y15 y16 y17 y18 y19 y20) (St S h (hnd g b) D)) Q := by
  have ap : ∀ {i : Nat} {o : O} (x : List O), D[i]? = some o → (D ++ x)[i]? = some o := by
    intro i o x hi
    rw [List.getElem?_append_left (List.getElem?_eq_some_iff.mp hi).1, hi]
  unfold pB2 oEnv
  simp [-loopF_cons, -wq_loop]
  refine take_wp hh hk (by omega) (by omega) fun d g1 b1 d0 d1' k1 => ?_
  simp [-loopF_cons, -wq_loop]
  obtain ⟨m, em, m5, mc⟩ : ∃ m : Nat, (∀ X : Sto, minU (.int d) (.int (100 - (cnt : Int))) X = some (.int (m : Int), X)) ∧ m ≤ 5 ∧ cnt + m ≤ 100 := by
    refine ⟨(if 100 - (cnt : Int) < d then 100 - (cnt : Int) else d).toNat, fun X => ?_, ?_, ?_⟩
    · have : minU (.int d) (.int (100 - (cnt : Int))) X = some (.int (if 100 - (cnt : Int) < d then 100 - (cnt : Int) else d), X) := rfl
      rw [this, Int.toNat_of_nonneg (by split <;> omega)]
    · split <;> omega
    · split <;> omega
  have m2 : (m : Int) < 4611686018427387904 := by omega
  have m3 : (-4611686018427387904 : Int) ≤ m := by omega
  simp [-loopF_cons, -wq_loop, em, m2, m3]
  have rl : (rangeU 0 m).length = m := by simp [rangeU]
  refine rows_wp (S := S) (D := D) (ns := ns) (f := f) (s := s) (t := t) hh d2 n0 n1 hN (rangeU 0 m) cnt [] g1 b1 y16 y17 k1 (by rw [rl]; exact mc) (by simp) ?_
  intro rs g2 b2 y16 y17 k2 a1 a2
  rw [rl] at a2 ⊢
  rw [List.nil_append]
  have rsl : rs.length = m := by have := congrArg List.length a2; simpa using this
  unfold pEnv
  have ha : atI ((List.range n).map fun i => U.ref (S.length + (c0 + i))) (k : Int) = some (.ref (S.length + (c0 + k))) := by
    rw [OF.atI_nat]
    simp [kn]
  have e1 : ∀ o (x : List O), (St S h o (D ++ x))[S.length + i1]? = some (.lst (bs.map .str)) := fun o x => by rw [st_at]; exact ap x d1
  have e2 : ∀ o (x : List O), (St S h o (D ++ x))[S.length + i2]? = some (.lst (ns.map .str)) := fun o x => by rw [st_at]; exact ap x d2
  have e3 : ∀ o (x : List O), (St S h o (D ++ x))[S.length + (c0 + k)]? = some (.lst (l.map fun (i : Nat) => U.int (i : Int))) := fun o x => by rw [st_at]; exact ap x d3
  have em2 := fun env e6 el => ends_map (env := env) (e3 (hnd g2 b2) [.lst (rs.map encR)]) (e1 (hnd g2 b2) [.lst (rs.map encR)]) e6 el l (by rw [bn]; exact ll)
  have lc : ∀ env : Env', env[6]? = some (some (.ref (S.length + i1))) → env.length = 21 → env[11]? = some (some (.lst ((List.range n).map fun i => U.ref (S.length + (c0 + i))))) → env[14]? = some (some (.int (k : Int))) → cLcG (itAny (cBin ixU (cVar 11) (cVar 14))) (.nm 20) cYes (cBin ixU (cVar 6) (cVar 20)) [20] env (St S h (hnd g2 b2) (D ++ [.lst (rs.map encR)])) = some (.lst (l.map fun i => U.str (bs.getD i "")), St S h (hnd g2 b2) (D ++ [.lst (rs.map encR)])) := by
    intro env x6 xl x11 x14
    have w6 : (wipeE env [20])[6]? = some (some (.ref (S.length + i1))) := by
      simp [wipeE]; exact x6
    have wl : (wipeE env [20]).length = 21 := by simp [wipeE, xl]
    have w := em2 _ w6 wl
    have lz : l.length ≤ sizeLine := le_size _ (by omega)
    have i3 := e3 (hnd g2 b2) [.lst (rs.map encR)]
    generalize St S h (hnd g2 b2) (D ++ [.lst (rs.map encR)]) = X at w i3 ⊢
    generalize S.length + (c0 + k) = r at w i3 ha
    unfold cLcG cLcGL itAny
    simp only [cBin_ap, cVar_ap, x11, x14, ixU_ap]
    simp [wipeE, -List.getD_eq_getElem?_getD] at w
    simp [ha, i3, w, lz, -List.getD_eq_getElem?_getD]
  have z1 : 1 + l.length ≤ sizeLine := le_size _ (by omega)
  have z2 : 2 + l.length ≤ sizeLine := le_size _ (by omega)
  simp [-loopF_cons, -wq_loop, lc, z1, -List.getD_eq_getElem?_getD]
  refine pick_ref hh k2 (fun o => e2 o _) (by simpa using n0) (by simp; omega) fun u g3 b3 hu k3 => ?_
  obtain ⟨a, ha', rfl⟩ := strs_mem hu
  have hbk : atI (bs.map U.str) (k : Int) = some (.str (bs.getD k "")) := by
    have hi : k < bs.length := by omega
    rw [OF.atI_nat, List.getElem?_map, List.getElem?_eq_getElem hi, List.getD_eq_getElem?_getD, List.getElem?_eq_getElem hi]; rfl
  have f4 : ∀ o (x : List O), (St S h o (D ++ x))[S.length + fd]? = some (.lst (bks.map encB)) := fun o x => by rw [st_at]; exact ap x d4
  have fz : bks.length < sizeLine := by have := le_size 1000 (by omega); omega
  have gb : ∀ i ∈ l, bs.getD i "" ∈ bs := by
    intro i hi
    have hi : i < bs.length := by rw [bn]; exact ll i hi
    rw [List.getD_eq_getElem?_getD, List.getElem?_eq_getElem hi]
    exact List.getElem_mem hi
  have fin : ∀ (e : En) y15 y16 y17 y18, (∀ g ∈ e.goals, g ∈ bs) → (∀ a ∈ e.asks, a ∈ ns) → e.goals.Nodup → Q (.nx, oEnv S h n i1 i2 c0 fd f s t zz1 zz2 zz5 (cnt + m) (some (.int (k : Int))) y15 y16 y17 y18 (some (encE e)) y20, OF.St S h (hnd g3 b3) ((D ++ [O.lst (rs.map encR)]).set fd (O.lst (bks.map encB ++ [.tup [.str (bs.getD k ""), .tup (rs.map encR), encE e]])))) := by
    intro e y15 y16 y17 y18 h1 h2 h3
    have := q ⟨bs.getD k "", rs, e⟩ g3 b3 (cnt + m) y15 y16 y17 y18 (some (encE e)) (.lst (rs.map encR)) rfl ⟨a1, h1, h2, by simp only [rsl]; exact m5, h3⟩ (by simp only [rsl]) mc (by simp only [rsl]; exact a2) k3
    rw [List.map_append] at this
    exact this
  have p1 := fun x => ap x d1
  have p4 := fun x => ap x d4
  unfold oEnv at fin
  rcases l with _ | ⟨i, _ | ⟨j, _ | ⟨w, l⟩⟩⟩
  · simp [-loopF_cons, -wq_loop, p1, p4, fz, hbk, -List.getD_eq_getElem?_getD]
    exact fin .stop _ _ _ _ (by simp [En.goals]) (by simp [En.asks]) (by simp [En.goals])
  · simp [-loopF_cons, -wq_loop, z2, p1, p4, fz, hbk, -List.getD_eq_getElem?_getD]
    exact fin (.go _) _ _ _ _ (by simp only [En.goals]; intro x hx; rw [List.mem_singleton.mp hx]; exact gb _ (by simp)) (by simp [En.asks]) (by simp [En.goals])
  · simp [-loopF_cons, -wq_loop, z2, p1, p4, fz, hbk, -List.getD_eq_getElem?_getD]
    exact fin (.iff _ _ _) _ _ _ _ (by
      simp only [En.goals]
      intro x hx
      rcases List.mem_cons.mp hx with rfl | hx
      · exact gb _ (by simp)
      · rw [List.mem_singleton.mp hx]; exact gb _ (by simp)) (by simp only [En.asks]; intro x hx; rw [List.mem_singleton.mp hx]; exact ha') (by
      have hij : i ≠ j := by simpa using ld
      have hi : i < bs.length := by rw [bn]; exact ll i (by simp)
      have hj : j < bs.length := by rw [bn]; exact ll j (by simp)
      have : bs.getD i "" ≠ bs.getD j "" := by
        rw [List.getD_eq_getElem?_getD, List.getElem?_eq_getElem hi, List.getD_eq_getElem?_getD, List.getElem?_eq_getElem hj]
        exact fun e => hij ((List.getElem_inj bd).mp e)
      simpa [En.goals, -List.getD_eq_getElem?_getD] using this)
  · simp at l2
end K14
namespace K14
open PySem PySem.Spec PyProof.Rows L2 OF
structure Made (bs ns : List Str) (f s t : Int) (cnt : Nat) (p : List Bk) : Prop where
  names : p.map Bk.name = bs.take p.length
  ok : ∀ b ∈ p, Bok bs ns b
  nums : (p.flatMap Bk.rows).map Rw.num = (List.range cnt).map (numf f s t)
  few : cnt ≤ 100
def oI (S : Sto) (h n i1 i2 c0 : Nat) (C : List O) (bs ns : List Str) (f s t : Int) (z1 z2 z5 : Option U) (us : List U) (env : Env') (X : Sto) : Prop :=
  ∃ (p : List Bk) (tl : List O) (cnt : Nat) (g b : Int) (y14 y15 y16 y17 y18 y19 y20 : Option U), p.length ≤ n ∧ us = (List.range' p.length (n - p.length)).map (fun (i : Nat) => U.int (i : Int)) ∧ Made bs ns f s t cnt p ∧ Hok g b ∧ env = oEnv S h n i1 i2 c0 C.length f s t z1 z2 z5 cnt y14 y15 y16 y17 y18 y19 y20 ∧ X = St S h (hnd g b) (C ++ (.lst (p.map encB) :: tl))
theorem blocks_wp {S : Sto} {h n i1 i2 c0 : Nat} {C : List O} {bs ns : List Str} {gs : List (List Nat)} {f s t : Int} {z1 z2 z5 : Option U} {Q : Fl × Env' × Sto → Prop}
    (hh : h < S.length) (hN : Nums f s t) (d1 : C[i1]? = some (.lst (bs.map .str))) (d2 : C[i2]? = some (.lst (ns.map .str))) (d3 : ∀ k l, gs[k]? = some l → C[c0 + k]? = some (gc l)) (hg : Gk n gs)
    (bd : bs.Nodup) (bn : bs.length = n) (n24 : n ≤ 24) (n0 : ns ≠ []) (n1 : ns.length < 1000)
    (q : ∀ p tl cnt g b y14 y15 y16 y17 y18 y19 y20, p.length = n → Made bs ns f s t cnt p → Hok g b → Q (.nx, oEnv S h n i1 i2 c0 C.length f s t z1 z2 z5 cnt y14 y15 y16 y17 y18 y19 y20, St S h (hnd g b) (C ++ (.lst (p.map encB) :: tl)))) :
    ∀ us env X, oI S h n i1 i2 c0 C bs ns f s t z1 z2 z5 us env X → wp (loopF (.nm 14) pB2 us env X) Q := by
  refine wp_loop_inv (oI S h n i1 i2 c0 C bs ns f s t z1 z2 z5) ?_ ?_
  · rintro e X ⟨p, tl, cnt, g, b, y14, y15, y16, y17, y18, y19, y20, pn, hu, hm, hk, rfl, rfl⟩
    refine q p tl cnt g b _ _ _ _ _ _ _ ?_ hm hk
    have := congrArg List.length hu
    simp at this
    omega
  · rintro u us e X ⟨p, tl, cnt, g, b, y14, y15, y16, y17, y18, y19, y20, pn, hu, hm, hk, rfl, rfl⟩
    obtain ⟨m, hmm⟩ : ∃ m, n - p.length = m + 1 := by
      rcases hmm : n - p.length with _ | m
      · rw [hmm] at hu; simp at hu
      · exact ⟨m, rfl⟩
    rw [hmm, List.range'_succ, List.map_cons] at hu
    obtain ⟨rfl, rfl⟩ := List.cons.inj hu
    have kn : p.length < n := by omega
    have hgi : gs[p.length]? = some (gs.getD p.length []) := by
      rw [List.getD_eq_getElem?_getD, List.getElem?_eq_getElem (by rw [hg.len]; exact kn)]; rfl
    have hmem : gs.getD p.length [] ∈ gs := List.mem_of_getElem? hgi
    have ap : ∀ {i : Nat} {o : O} (x : List O), C[i]? = some o → (C ++ x)[i]? = some o := by
      intro i o x hi
      rw [List.getElem?_append_left (List.getElem?_eq_some_iff.mp hi).1, hi]
    rw [show bindP (.nm 14) (U.int (p.length : Int)) = some [(14, U.int (p.length : Int))] from rfl, wp_some]
    have es : setAll (oEnv S h n i1 i2 c0 C.length f s t z1 z2 z5 cnt y14 y15 y16 y17 y18 y19 y20) [(14, U.int (p.length : Int))] = oEnv S h n i1 i2 c0 C.length f s t z1 z2 z5 cnt (some (.int (p.length : Int))) y15 y16 y17 y18 y19 y20 := rfl
    rw [es]
    refine block_wp (D := C ++ (.lst (p.map encB) :: tl)) (bks := p) hh hk hN (ap _ d1) (ap _ d2) (ap _ (d3 _ _ hgi)) (by simp) kn bd (hg.nd _ hmem) bn n0 n1 (hg.two _ hmem) (hg.lt _ hmem) hm.few (by omega) ?_
    intro bk g' b' cnt' y15 y16 y17 y18 y19 rc nm ok hc c1 nums k'
    refine ⟨p ++ [bk], tl ++ [rc], cnt', g', b', _, _, _, _, _, _, _, by simp; omega, ?_, ⟨?_, ?_, ?_, c1⟩, k', rfl, ?_⟩
    · rw [List.length_append, List.length_singleton, show n - (p.length + 1) = m by omega]
    · have hi : p.length < bs.length := by omega
      rw [List.map_append, hm.names, List.length_append, List.length_singleton, List.take_succ, List.getElem?_eq_getElem hi, List.map_singleton, nm, List.getD_eq_getElem?_getD, List.getElem?_eq_getElem hi]
      rfl
    · intro x hx
      rcases List.mem_append.mp hx with hx | hx
      · exact hm.ok x hx
      · rw [List.mem_singleton.mp hx]; exact ok
    · rw [List.flatMap_append, List.map_append, hm.nums, hc]
      simp only [List.flatMap_cons, List.flatMap_nil, List.append_nil]
      rw [nums, List.range_eq_range', List.range_eq_range', ← List.map_append]
      congr 1
      have := List.range'_append (s := 0) (m := cnt) (n := bk.rows.length) (step := 1)
      simpa using this
    · rw [List.append_assoc, List.set_append_right _ _ (by omega)]
      simp
end K14
namespace K14
open PySem PySem.Spec PyProof.Rows L2 OF
noncomputable def pR3 : Sm := (sSeq (sIf (cTru (cBin (eqU false) (cArg F__law_take (cCons (cVar 0) (cCons (cCst (.int 3)) cNil))) (cCst (.int 0))))
  (sAsg (cBin (addU true) (cSl false (cVar 12) cNoPart (cPart (cCst (.int 1)))) (cUn (revU false) (cSl false (cVar 12) (cPart (cCst (.int 1))) cNoPart))) (gmName 12))
  sNil)
  (sRet (cArg (on1 tupleU) (cCons (cVar 12) cNil))))
noncomputable def pR2 : Sm := (sSeq (sFor (itR1 (cCons (cVar 4) cNil)) (.nm 14) pB2) pR3)
noncomputable def pR1 : Sm := (sSeq (sAsg (cArg oTup (cCons (cArg F__law_names (cCons (cVar 0) (cCons (cVar 4) cNil))) (cCons (cArg F__law_names (cCons (cVar 0) (cCons (cBin (addU false) (cCst (.int 1)) (cArg F__law_take (cCons (cVar 0) (cCons (cVar 5) cNil)))) cNil))) cNil))) (gmPat (.tp [(.nm 6), (.nm 7)])))
  (sSeq (sPar3 8 9 10 (cCons (cArg F__law_take (cCons (cVar 0) (cCons (cCst (.int 9999)) cNil))) (cCons (cArg F__law_pick (cCons (cVar 0) (cCons (cArg oLst (cCons (cCst (.int 1)) (cCons (cCst (.int 2)) (cCons (cCst (.int 7)) (cCons (cCst (.int 10)) (cCons (cCst (.int 9998)) cNil)))))) cNil))) (cCons (cArg F__law_pick (cCons (cVar 0) (cCons (cArg oLst (cCons (cCst (.int 1)) (cCons (cCst (.int 1)) (cCons (cCst (.int 37)) (cCons (cCst (.int 64)) cNil))))) cNil))) cNil))))
  (sSeq (sPar3 11 12 13 (cCons (cArg F__law_goals (cCons (cVar 0) (cCons (cVar 4) (cCons (cBin (eqU false) (cArg F__law_take (cCons (cVar 0) (cCons (cCst (.int 3)) cNil))) (cCst (.int 0))) cNil)))) (cCons (cArg oLstM cNil) (cCons (cCst (.int 0)) cNil)))) pR2)))
theorem prog_cut : c__law_program = (sSeq (sAsg (cBin (addU false) (cCst (.int 1)) (cArg F__law_take (cCons (cVar 0) (cCons (cVar 1) cNil)))) (gmName 4))
  (sSeq (sIf (cTru (cBin (eqU false) (cArg F__law_take (cCons (cVar 0) (cCons (cCst (.int 8)) cNil))) (cCst (.int 7))))
  (sAsg (cBin (addU false) (cCst (.int 1)) (cArg F__law_take (cCons (cVar 0) (cCons (cVar 2) cNil)))) (gmName 4))
  sNil)
  (sSeq (sAsg (cIf (cAndT (cTru (cBin oLt (cVar 4) (cCst (.int 8)))) (cTru (cBin (eqU false) (cArg F__law_take (cCons (cVar 0) (cCons (cCst (.int 4)) cNil))) (cCst (.int 0))))) (cCst (.int 12)) (cCst (.int 5))) (gmName 5)) pR1))) := rfl
structure Prog (p : List Bk) : Prop where
  ne : p ≠ []
  len : p.length ≤ 20
  nd : (p.map Bk.name).Nodup
  nm : ∀ b ∈ p, Nm b.name
  goals : ∀ b ∈ p, ∀ g ∈ b.en.goals, g ∈ p.map Bk.name
  ok : ∀ b ∈ p, ∀ r ∈ b.rows, r.ok
  ra : ∀ b ∈ p, ∀ r ∈ b.rows, ∀ a ∈ r.asks, Nm a
  rg : ∀ b ∈ p, ∀ r ∈ b.rows, ∀ a, r.gives = some a → Nm a
  rn : ∀ b ∈ p, ∀ r ∈ b.rows, 1 ≤ r.num ∧ r.num ≤ 9999
  ea : ∀ b ∈ p, ∀ a ∈ b.en.asks, Nm a
  few : ∀ b ∈ p, b.rows.length ≤ 5
  gnd : ∀ b ∈ p, b.en.goals.Nodup
  nums : ((p.flatMap Bk.rows).map Rw.num).Nodup
  nset : ∃ ns : List Str, ns.length ≤ 12 ∧ ∀ b ∈ p, (∀ r ∈ b.rows, (∀ a ∈ r.asks, a ∈ ns) ∧ ∀ a, r.gives = some a → a ∈ ns) ∧ ∀ a ∈ b.en.asks, a ∈ ns
theorem Prog.perm {p p' : List Bk} (h : Prog p) (e : p.Perm p') : Prog p' := by
  have m : ∀ {b}, b ∈ p' → b ∈ p := fun hb => e.mem_iff.mpr hb
  refine ⟨?_, ?_, ?_, fun b hb => h.nm b (m hb), fun b hb g hg => ?_, fun b hb => h.ok b (m hb), fun b hb => h.ra b (m hb), fun b hb => h.rg b (m hb), fun b hb => h.rn b (m hb), fun b hb => h.ea b (m hb), fun b hb => h.few b (m hb), fun b hb => h.gnd b (m hb), ?_, ?_⟩
  · rintro rfl
    exact h.ne (List.Perm.eq_nil e)
  · rw [← e.length_eq]; exact h.len
  · exact (e.map _).nodup_iff.mp h.nd
  · exact (e.map _).mem_iff.mp (h.goals b (m hb) g hg)
  · exact ((e.flatMap_right _).map _).nodup_iff.mp h.nums
  · obtain ⟨ns, h1, h2⟩ := h.nset
    exact ⟨ns, h1, fun b hb => h2 b (m hb)⟩
theorem nodup_nums {f s t : Int} (hN : Nums f s t) {cnt : Nat} (hc : cnt ≤ 100) : ((List.range cnt).map (numf f s t)).Nodup := by
  rw [List.Nodup, List.pairwise_map]
  refine List.Pairwise.imp_of_mem ?_ (List.nodup_range (n := cnt))
  intro a b ha hb hne e
  simp at ha hb
  exact hne (numf_inj hN (by omega) (by omega) e)
theorem made_prog {bs ns : List Str} {f s t : Int} {cnt : Nat} {p : List Bk} (hm : Made bs ns f s t cnt p) (hN : Nums f s t) (bl : p.length = bs.length) (b0 : 1 ≤ bs.length) (b1 : bs.length ≤ 20) (bd : bs.Nodup) (bm : ∀ x ∈ bs, Nm x) (nm : ∀ x ∈ ns, Nm x) (nl : ns.length ≤ 12) : Prog p := by
  have e : p.map Bk.name = bs := by rw [hm.names, bl, List.take_length]
  refine ⟨?_, by omega, by rw [e]; exact bd, ?_, ?_, ?_, ?_, ?_, ?_, ?_, ?_, fun b hb => (hm.ok b hb).gnd, ?_, ?_⟩
  · rintro rfl
    simp at bl
    omega
  · intro b hb
    exact bm _ (by rw [← e]; exact List.mem_map_of_mem hb)
  · intro b hb g hg
    rw [e]; exact (hm.ok b hb).goals g hg
  · intro b hb r hr
    exact ((hm.ok b hb).rows r hr).ok
  · intro b hb r hr a ha
    exact nm _ (((hm.ok b hb).rows r hr).rin.asks a ha)
  · intro b hb r hr a ha
    exact nm _ (((hm.ok b hb).rows r hr).rin.gives a ha)
  · intro b hb r hr
    have : r.num ∈ (p.flatMap Bk.rows).map Rw.num := List.mem_map_of_mem (List.mem_flatMap.mpr ⟨b, hb, hr⟩)
    rw [hm.nums] at this
    obtain ⟨i, _, e⟩ := List.mem_map.mp this
    have := numf_lo f s t i
    omega
  · intro b hb a ha
    exact nm _ ((hm.ok b hb).asks a ha)
  · intro b hb
    exact (hm.ok b hb).few
  · rw [hm.nums]; exact nodup_nums hN hm.few
  · exact ⟨ns, nl, fun b hb => ⟨fun r hr => ⟨((hm.ok b hb).rows r hr).rin.asks, ((hm.ok b hb).rows r hr).rin.gives⟩, (hm.ok b hb).asks⟩⟩
end K14
namespace K14
open PySem PySem.Spec PyProof.Rows L2 OF
theorem pR3_wp {S : Sto} {h n i1 i2 c0 : Nat} {C tl : List O} {p : List Bk} {f s t : Int} {z1 z2 z5 y14 y15 y16 y17 y18 y19 y20 : Option U} {cnt : Nat} {g b : Int} {Q : U × Sto → Prop}
    (hh : h < S.length) (hk : Hok g b) (hp : Prog p)
    (q : ∀ p' g' b' jk, Prog p' → Hok g' b' → Q (encP p', St S h (hnd g' b') (C ++ jk))) :
    wp (pR3 (oEnv S h n i1 i2 c0 C.length f s t z1 z2 z5 cnt y14 y15 y16 y17 y18 y19 y20) (St S h (hnd g b) (C ++ (.lst (p.map encB) :: tl)))) (retK Q) := by
  have pl := hp.len
  have pz : p.length ≤ sizeLine := le_size _ (by omega)
  unfold pR3 oEnv
  simp
  refine take_wp hh hk (by omega) (by omega) fun d g1 b1 d0 d1 k1 => ?_
  simp
  refine wiH_dec (fun hd => ?_) (fun hd => ?_)
  · obtain ⟨b0, ps, rfl⟩ : ∃ b0 ps, p = b0 :: ps := by
      cases p with
      | nil => exact absurd rfl hp.ne
      | cons b0 ps => exact ⟨b0, ps, rfl⟩
    have e1 : cutU (encB b0 :: ps.map encB) none (some 1) = [encB b0] := by
      unfold cutU
      rw [HT.sIx_none, show (some (1 : Int)) = some ((1 : Nat) : Int) from rfl, HT.sIx_nat]
      simp
    have e2 : cutU (encB b0 :: ps.map encB) (some 1) none = ps.map encB := by
      unfold cutU
      rw [HT.sIx_none, show (some (1 : Int)) = some ((1 : Nat) : Int) from rfl, HT.sIx_nat]
      simp
      rw [List.take_of_length_le (by simp)]
    have e3 : ∀ X, revU false (.lst (ps.map encB)) X = some (.lst (ps.reverse.map encB), X) := by
      intro X
      unfold revU
      simp
    have e4 : 1 + ps.length ≤ sizeLine := by simp at pz; omega
    have e5 : ps.length + 1 ≤ sizeLine := by simp at pz; omega
    simp [e1, e2, e3, e4, e5]
    have := q (b0 :: ps.reverse) g1 b1 (.lst (encB b0 :: ps.map encB) :: (tl ++ [.lst (encB b0 :: ps.reverse.map encB)])) (hp.perm ((List.reverse_perm ps).symm.cons b0)) k1
    simpa [retK, encP] using this
  · simp [pz]
    exact q p g1 b1 _ hp k1
end K14
namespace K14
open PySem PySem.Spec PyProof.Rows L2 OF
theorem pR1_wp {S : Sto} {h n mn : Nat} {cs : List O} {g b : Int} {Q : U × Sto → Prop}
    (hh : h < S.length) (hk : Hok g b) (n1 : 1 ≤ n) (n24 : n ≤ 20) (m1 : 1 ≤ mn) (m12 : mn ≤ 12)
    (q : ∀ p' g' b' jk, Prog p' → Hok g' b' → Q (encP p', St S h (hnd g' b') (cs ++ jk))) :
    wp (pR1 [some (.ref h), some (.int 7), some (.int 20), some (.int 5), some (.int (n : Int)), some (.int (mn : Int)), none, none, none, none, none, none, none, none, none, none, none, none, none, none, none] (St S h (hnd g b) cs)) (retK Q) := by
  unfold pR1
  simp
  refine names_wp hh hk (by omega) fun bs jk1 i1 g1 b1 bl bd bm bi k1 => ?_
  generalize hD1 : cs ++ jk1 = D1 at bi ⊢
  simp
  refine take_wp hh k1 (by omega) (by omega) fun d g2 b2 d0 d1 k2 => ?_
  obtain ⟨m, hm⟩ : ∃ m : Nat, 1 + d = m := ⟨(1 + d).toNat, by omega⟩
  simp [hm]
  refine names_wp hh k2 (by omega) fun ns jk2 i2 g3 b3 nl nd nm ni k3 => ?_
  have bi2 : (D1 ++ jk2)[i1]? = some (.lst (bs.map .str)) := by
    rw [List.getElem?_append_left (List.getElem?_eq_some_iff.mp bi).1, bi]
  generalize hD2 : D1 ++ jk2 = D2 at ni bi2 ⊢
  simp
  refine take_wp hh k3 (by omega) (by omega) fun f g4 b4 f0 f1 k4 => ?_
  simp
  refine pick_wp hh k4 (by simp) (by simp) fun u g5 b5 hu k5 => ?_
  obtain ⟨s, rfl, hs⟩ : ∃ s : Int, u = .int s ∧ (s = 1 ∨ s = 2 ∨ s = 7 ∨ s = 10 ∨ s = 9998) := by
    simp at hu
    rcases hu with rfl | rfl | rfl | rfl | rfl <;> exact ⟨_, rfl, by simp⟩
  simp
  refine pick_wp hh k5 (by simp) (by simp) fun u g6 b6 hu k6 => ?_
  obtain ⟨t, rfl, ht⟩ : ∃ t : Int, u = .int t ∧ (t = 1 ∨ t = 37 ∨ t = 64) := by
    simp at hu
    rcases hu with rfl | rfl | rfl <;> exact ⟨_, rfl, by simp⟩
  have hN : Nums f s t := ⟨f0, f1, hs, ht⟩
  simp
  refine take_wp hh k6 (by omega) (by omega) fun x g7 b7 x0 x1 k7 => ?_
  simp
  refine goals_wp hh k7 n1 (by omega) fun gs g8 b8 hg k8 => ?_
  simp
  have n2 : (n : Int) < 4611686018427387904 := by omega
  have n3 : (-4611686018427387904 : Int) ≤ n := by omega
  unfold pR2
  simp [-loopF_cons, -wq_loop, n2, n3]
  have hC : D2 ++ (gs.map gc ++ [O.lst (rangeU 0 n), O.lst []]) = (D2 ++ (gs.map gc ++ [O.lst (rangeU 0 n)])) ++ (.lst (([] : List Bk).map encB) :: []) := by simp
  have hL : (D2 ++ (gs.map gc ++ [O.lst (rangeU 0 n)])).length = D2.length + (gs.length + 1) := by simp
  have d1 : (D2 ++ (gs.map gc ++ [O.lst (rangeU 0 n)]))[i1]? = some (.lst (bs.map .str)) := by
    rw [List.getElem?_append_left (List.getElem?_eq_some_iff.mp bi2).1, bi2]
  have d2 : (D2 ++ (gs.map gc ++ [O.lst (rangeU 0 n)]))[i2]? = some (.lst (ns.map .str)) := by
    rw [List.getElem?_append_left (List.getElem?_eq_some_iff.mp ni).1, ni]
  have d3 : ∀ k l, gs[k]? = some l → (D2 ++ (gs.map gc ++ [O.lst (rangeU 0 n)]))[D2.length + k]? = some (gc l) := fun k l hk => goal_cell hk
  have hJ : ∃ jk, D2 ++ (gs.map gc ++ [O.lst (rangeU 0 n)]) = cs ++ jk := ⟨jk1 ++ (jk2 ++ (gs.map gc ++ [O.lst (rangeU 0 n)])), by rw [← hD2, ← hD1]; simp⟩
  rw [hC, ← hL]
  generalize D2 ++ (gs.map gc ++ [O.lst (rangeU 0 n)]) = C at d1 d2 d3 hJ ⊢
  obtain ⟨jk, rfl⟩ := hJ
  refine blocks_wp (S := S) (h := h) (n := n) (i1 := i1) (i2 := i2) (c0 := D2.length) (C := cs ++ jk) (bs := bs) (ns := ns) (gs := gs) (f := f) (s := s) (t := t) (z1 := some (.int 7)) (z2 := some (.int 20)) (z5 := some (.int (mn : Int))) hh hN d1 d2 d3 hg bd bl (by omega) (by rintro rfl; simp at nl; omega) (by omega) ?_ _ _ _ ?_
  · intro p tl cnt g b y14 y15 y16 y17 y18 y19 y20 pl hm hk
    have hp : Prog p := made_prog hm hN (by omega) (by omega) (by omega) bd bm nm (by omega)
    have := pR3_wp (S := S) (h := h) (n := n) (i1 := i1) (i2 := i2) (c0 := D2.length) (C := cs ++ jk) (tl := tl) (f := f) (s := s) (t := t) (z1 := some (.int 7)) (z2 := some (.int 20)) (z5 := some (.int (mn : Int))) (y14 := y14) (y15 := y15) (y16 := y16) (y17 := y17) (y18 := y18) (y19 := y19) (y20 := y20) (cnt := cnt) (Q := Q) hh hk hp fun p' g' b' jk' hp' k' => by
      rw [List.append_assoc]
      exact q p' g' b' _ hp' k'
    exact this
  · refine ⟨[], [], 0, g8, b8, none, none, none, none, none, none, none, by simp, ?_, ⟨by simp, by simp, by simp, by omega⟩, k8, rfl, rfl⟩
    rw [rangeU_eq, List.range_eq_range']
    rfl
theorem program_wp {S : Sto} {h : Nat} {cs : List O} {g b : Int} {Q : U × Sto → Prop} (hh : h < S.length) (hk : Hok g b)
    (q : ∀ p' g' b' jk, Prog p' → Hok g' b' → Q (encP p', St S h (hnd g' b') (cs ++ jk))) : wp (F__law_program [.ref h, .int 7, .int 20, .int 5] (St S h (hnd g b) cs)) Q := by
  have key : ∀ (x : Int) g b (u5 : Option U), 0 ≤ x → x < 20 → Hok g b → ∀ mn : Int, mn = 5 ∨ mn = 12 → wp (pR1 [some (.ref h), some (.int 7), some (.int 20), some (.int 5), some (.int (1 + x)), some (.int mn), none, none, none, none, none, none, none, none, none, none, none, none, none, none, none] (St S h (hnd g b) cs)) (retK Q) := by
    intro x g b _ x0 x1 k mn hm
    obtain ⟨n, hn⟩ : ∃ n : Nat, 1 + x = n := ⟨(1 + x).toNat, by omega⟩
    obtain ⟨m, rfl⟩ : ∃ m : Nat, mn = m := ⟨mn.toNat, by omega⟩
    rw [hn]
    exact pR1_wp hh k (by omega) (by omega) (by omega) (by omega) q
  unfold F__law_program
  rw [prog_cut]
  simp
  refine take_wp hh hk (by omega) (by omega) fun x g1 b1 x0 x1 k1 => ?_
  simp
  refine take_wp hh k1 (by omega) (by omega) fun y g2 b2 y0 y1 k2 => ?_
  simp
  refine wiH_dec (fun hy7 => ?_) (fun hy7 => ?_)
  · simp
    refine take_wp hh k2 (by omega) (by omega) fun w g3 b3 w0 w1 k3 => ?_
    simp
    refine wiH_dec (fun hy => ?_) (fun hy => ?_)
    · simp
      refine take_wp hh k3 (by omega) (by omega) fun z g4 b4 z0 z1 k4 => ?_
      simp
      refine wiH_dec (fun hz => ?_) (fun hz => ?_)
      · simp
        exact key w g4 b4 none (by omega) (by omega) k4 12 (.inr rfl)
      · simp
        exact key w g4 b4 none (by omega) (by omega) k4 5 (.inl rfl)
    · simp
      exact key w g3 b3 none (by omega) (by omega) k3 5 (.inl rfl)
  · simp
    refine wiH_dec (fun hy => ?_) (fun hy => ?_)
    · simp
      refine take_wp hh k2 (by omega) (by omega) fun z g4 b4 z0 z1 k4 => ?_
      simp
      refine wiH_dec (fun hz => ?_) (fun hz => ?_)
      · simp
        exact key x g4 b4 none (by omega) (by omega) k4 12 (.inr rfl)
      · simp
        exact key x g4 b4 none (by omega) (by omega) k4 5 (.inl rfl)
    · simp
      exact key x g2 b2 none (by omega) (by omega) k2 5 (.inl rfl)
end K14
namespace K14
open PySem PySem.Spec PyProof.Rows L2 OF
theorem put_new {α : Type} {kvs : List (Key × α)} {k : Key} {v : α} (h : ∀ q ∈ kvs, q.1 ≠ k) : putKU kvs k v = kvs ++ [(k, v)] := by
  unfold putKU
  rw [if_neg]
  intro hc
  obtain ⟨q, hq, e⟩ := List.any_eq_true.mp hc
  exact h q hq (by simpa using e)
def Rw.isSay : Rw → Bool
  | .say _ _ => true
  | _ => false
def saysR (rs : List Rw) : List Int := (rs.filter Rw.isSay).map Rw.num
def sayK (l : List Int) : List (Key × U) := l.map fun n => (.inl n, .bl true)
noncomputable def sayT : Cm Bool := (cTru (cBin (OF.eqU false) (cBin ixU (cVar 6) (cCst (.int 1))) (cCst (.str "say"))))
theorem sayT_ok (r : Rw) (env : Env') (S : Sto) (h : env[6]? = some (some (encR r))) : sayT env S = some (r.isSay, S) := by
  unfold sayT
  cases r with
  | bin w n g a b => cases w <;> simp [h, encR, Rw.isSay, Wd.s]
  | _ => simp [h, encR, Rw.isSay]
theorem sayA (env : Env') (S : Sto) (us0 : List U) (hl : env.length = 10) : ∀ (rs : List Rw) (acc : List (Key × U)), ((acc ++ sayK (saysR rs)).map (·.1)).Nodup → acc.length + rs.length ≤ 1000 →
    loopA (.nm 6) sayT env none us0 (outD (cBin ixU (cVar 6) (cCst (.int 0))) (cCst (.bl true))) (rs.map encR) acc S = some (acc ++ sayK (saysR rs), S)
  | [], acc, _, _ => by simp [loopA, saysR, sayK]
  | r :: rs, acc, hn, hc => by
    have g6 : (env.set 6 (some (encR r)))[6]? = some (some (encR r)) := List.getElem?_set_self (by omega)
    have ht := sayT_ok r (env.set 6 (some (encR r))) S g6
    simp at hc
    rw [List.map_cons, loopA]
    simp only [gok_none, if_true, bindP_nm]
    cases hr : r.isSay with
    | false =>
      have e : saysR (r :: rs) = saysR rs := by simp [saysR, hr]
      rw [e] at hn ⊢
      rw [hr] at ht
      have ih := sayA env S us0 hl rs acc hn (by omega)
      simp [ht, ih]
    | true =>
      have e : saysR (r :: rs) = r.num :: saysR rs := by simp [saysR, hr]
      rw [e] at hn ⊢
      rw [hr] at ht
      have e2 : acc ++ sayK (r.num :: saysR rs) = (acc ++ [(.inl r.num, .bl true)]) ++ sayK (saysR rs) := by simp [sayK]
      rw [e2] at hn ⊢
      have ih := sayA env S us0 hl rs (acc ++ [(.inl r.num, .bl true)]) hn (by simp; omega)
      have pn : putKU acc (.inl r.num) (.bl true) = acc ++ [(.inl r.num, .bl true)] := put_new (by
        intro q hq e
        rw [List.map_append, List.map_append, List.append_assoc, List.nodup_append] at hn
        exact hn.2.2 q.1 (List.mem_map_of_mem hq) (.inl r.num) (by simp) e)
      have az : acc.length < sizeLine := by have := le_size 2000 (by omega); omega
      have ou : outD (cBin ixU (cVar 6) (cCst (.int 0))) (cCst (.bl true)) (env.set 6 (some (encR r))) acc S = some (acc ++ [(.inl r.num, .bl true)], S) := by
        unfold outD
        simp [-ixU_ap, g6, az, pn]
      simp [ht, ou, ih]
def saysP (p : List Bk) : List Int := saysR (p.flatMap Bk.rows)
theorem saysP_cons (b : Bk) (p : List Bk) : saysP (b :: p) = saysR b.rows ++ saysP p := by simp [saysP, saysR]
theorem sayK_app (a b : List Int) : sayK (a ++ b) = sayK a ++ sayK b := by simp [sayK]
theorem says_len (rs : List Rw) : (saysR rs).length ≤ rs.length := by
  unfold saysR
  rw [List.length_map]
  exact List.length_filter_le _ _
theorem sayB (env : Env') (S : Sto) (us0 : List U) (hl : env.length = 10) : ∀ (p : List Bk) (acc : List (Key × U)), ((acc ++ sayK (saysP p)).map (·.1)).Nodup → acc.length + (p.flatMap Bk.rows).length ≤ 1000 →
    loopA (.tp [(.nm 3), (.nm 4), (.nm 5)]) cYes env none us0 (clauseA ⟨(itAny (cVar 4)), (.nm 6), sayT, [6]⟩ (outD (cBin ixU (cVar 6) (cCst (.int 0))) (cCst (.bl true)))) (p.map encB) acc S = some (acc ++ sayK (saysP p), S)
  | [], acc, _, _ => by simp [loopA, saysP, saysR, sayK]
  | b :: p, acc, hn, hc => by
    simp at hc
    rw [saysP_cons, sayK_app, ← List.append_assoc] at hn ⊢
    have hn1 : ((acc ++ sayK (saysR b.rows)).map (·.1)).Nodup := by
      rw [List.map_append] at hn
      exact (List.nodup_append.mp hn).1
    have ih := sayB env S us0 hl p (acc ++ sayK (saysR b.rows)) hn (by
      have := says_len b.rows
      simp [sayK] at this ⊢
      omega)
    rw [List.map_cons, loopA]
    simp only [gok_none, if_true]
    have eb : encB b = .tup [.str b.name, .tup (b.rows.map encR), encE b.en] := rfl
    rw [show bindP (.tp [(.nm 3), (.nm 4), (.nm 5)]) (encB b) = some [(3, .str b.name), (4, .tup (b.rows.map encR)), (5, encE b.en)] from rfl]
    obtain ⟨E, hE⟩ : ∃ E, setAll env [(3, .str b.name), (4, .tup (b.rows.map encR)), (5, encE b.en)] = E := ⟨_, rfl⟩
    have el : E.length = 10 := by rw [← hE]; simp [setAll, hl]
    have e4 : E[4]? = some (some (.tup (b.rows.map encR))) := by
      rw [← hE]
      simp [setAll, hl]
    have it : itAny (cVar 4) E S = some ((b.rows.map encR, none), S) := by
      unfold itAny
      simp [e4]
    have sa := sayA (wipeE E [6]) S (b.rows.map encR) (by simp [wipeE, el]) b.rows acc hn1 (by omega)
    simp only [hE]
    have ca : clauseA ⟨(itAny (cVar 4)), (.nm 6), sayT, [6]⟩ (outD (cBin ixU (cVar 6) (cCst (.int 0))) (cCst (.bl true))) E acc S = some (acc ++ sayK (saysR b.rows), S) := by
      unfold clauseA
      simp only [it, sa]
    simp [ca, ih]
def toldOne (says : List Int) : U → Option U
  | .tup [.int n, .tup (w :: _), _] => if n ∈ says then some w else none
  | _ => none
structure Te (says : List Int) (u : U) : Prop where
  sh : (∃ nm ws v, u = .tup [.str nm, .tup ws, v]) ∨ ∃ n ws v, u = .tup [.int n, .tup ws, v] ∧ (n ∈ says → ws ≠ [])
theorem told_map {says : List Int} {S : Sto} {X : U} {x0 x1 x3 x4 x5 x6 x7 x8 x9 : Option U} (h1 : ∀ n : Int, inB S (.int n) X = some (decide (n ∈ says))) (h2 : ∀ a, inB S (.str a) X = some false) : ∀ tr : List U, (∀ u ∈ tr, Te says u) →
    mapC (.tp [(.nm 7), (.nm 8), (.nm 9)]) (cTru (cBin (inU false) (cVar 7) (cVar 2))) (cBin ixU (cVar 8) (cCst (.int 0))) [x0, x1, some X, x3, x4, x5, x6, x7, x8, x9] tr S = some (tr.filterMap (toldOne says), S)
  | [], _ => rfl
  | u :: tr, h => by
    have ih := told_map (x0 := x0) (x1 := x1) (x3 := x3) (x4 := x4) (x5 := x5) (x6 := x6) (x7 := x7) (x8 := x8) (x9 := x9) h1 h2 tr fun x hx => h x (by simp [hx])
    rcases (h u (by simp)).sh with ⟨nm, ws, v, rfl⟩ | ⟨n, ws, v, rfl, hw⟩
    · have : toldOne says (.tup [.str nm, .tup ws, v]) = none := rfl
      simp [h2, ih, this]
    · by_cases hs : n ∈ says
      · obtain ⟨w, t, rfl⟩ : ∃ w t, ws = w :: t := by
          cases ws with
          | nil => exact absurd rfl (hw hs)
          | cons w t => exact ⟨w, t, rfl⟩
        simp [h1, ih, toldOne, hs]
      · have : toldOne says (.tup [.int n, .tup ws, v]) = none := by
          cases ws <;> simp [toldOne, hs]
        simp [h1, ih, hs, this]
theorem sayK_get (says : List Int) (n : Int) : (getK (sayK says) (.inl n)).isSome = decide (n ∈ says) := by
  induction says with
  | nil => rfl
  | cons m l ih =>
    unfold sayK at ih ⊢
    rw [List.map_cons, getK_cons]
    by_cases e : m = n
    · subst e; simp
    · have e' : ¬ n = m := fun z => e z.symm
      simp [e, e', ih]
theorem sayK_str (says : List Int) (a : Str) : (getK (sayK says) (.inr a)).isSome = false := by
  induction says with
  | nil => rfl
  | cons m l ih =>
    unfold sayK at ih ⊢
    rw [List.map_cons, getK_cons]
    simp [ih]
def told (p : List Bk) (tr : List U) : List U := tr.filterMap (toldOne (saysP p))
theorem said_in_ok {p : List Bk} {tr : List U} (hn : ((sayK (saysP p)).map (·.1)).Nodup) (hc : (p.flatMap Bk.rows).length ≤ 1000) (ht : ∀ u ∈ tr, Te (saysP p) u) (tz : tr.length ≤ 100000) (tn : norefs (told p tr) = true) :
    P_said_in [encP p, .tup tr] = some (.tup (told p tr)) := by
  have tl : (told p tr).length ≤ sizeLine := le_size _ (by have := List.length_filterMap_le (toldOne (saysP p)) tr; unfold told; omega)
  have sb := sayB [some (encP p), some (.tup tr), none, none, none, none, none, none, none, none] [] (p.map encB) rfl p [] (by simpa using hn) (by simpa using hc)
  rw [List.nil_append] at sb
  have tm := told_map (says := saysP p) (S := []) (X := .dct (sayK (saysP p))) (x0 := some (encP p)) (x1 := some (.tup tr)) (x3 := none) (x4 := none) (x5 := none) (x6 := none) (x7 := none) (x8 := none) (x9 := none) (by
    intro n
    rw [inB_dct]
    show some (getK (sayK (saysP p)) (.inl n)).isSome = _
    rw [sayK_get]) (by
    intro a
    rw [inB_dct]
    show some (getK (sayK (saysP p)) (.inr a)).isSome = _
    rw [sayK_str]) tr ht
  have ca : cDcN false ⟨(itAny (cVar 0)), (.tp [(.nm 3), (.nm 4), (.nm 5)]), cYes, [3, 4, 5, 6]⟩ (clauseA ⟨(itAny (cVar 4)), (.nm 6), (cTru (cBin (OF.eqU false) (cBin ixU (cVar 6) (cCst (.int 1))) (cCst (.str "say")))), [6]⟩ (outD (cBin ixU (cVar 6) (cCst (.int 0))) (cCst (.bl true)))) [some (encP p), some (.tup tr), none, none, none, none, none, none, none, none] [] = some (.dct (sayK (saysP p)), []) := by
    unfold sayT at sb
    have it : itAny (cVar 0) [some (encP p), some (.tup tr), none, none, none, none, none, none, none, none] [] = some ((p.map encB, none), []) := rfl
    unfold cDcN
    rw [clauseA]
    simp only [it]
    rw [show wipeE [some (encP p), some (.tup tr), none, none, none, none, none, none, none, none] [3, 4, 5, 6] = [some (encP p), some (.tup tr), none, none, none, none, none, none, none, none] from rfl, sb]
    rfl
  unfold P_said_in c_said_in
  unfold told at tl tn
  unfold told
  simp [-loopF_cons, -mapC_cons, ca, tm, tl, tn]
structure Tq (R : List Rw) (u : U) : Prop where
  sh : (∃ nm ws v, u = .tup [.str nm, .tup ws, v]) ∨ ∃ r ∈ R, ∃ (ws : List Int) (v : U), u = .tup [.int r.num, .tup (ws.map .int), v] ∧ (r.isSay = true → ws ≠ []) ∧ ∀ x ∈ ws, InW x
theorem rowStep_tq {r : Rw} {s s' : Sx} {v : Option Int} (hs : Sok s) (h : rowStep r s = .on v s') : ∃ (ws : List Int) (v : U), s'.tr = s.tr ++ [.tup [.int r.num, .tup (ws.map .int), v]] ∧ (r.isSay = true → ws ≠ []) ∧ ∀ x ∈ ws, InW x := by
  unfold rowStep at h
  cases hm : rowMid r s with
  | off e => rw [hm] at h; cases h
  | on v2 s2 =>
    rw [hm] at h
    obtain ⟨ws, wl, _, we, _, _, _, e⟩ := rowMid_on hm
    cases h
    refine ⟨ws, optI v, by rw [e], ?_, ?_⟩
    · intro hr
      cases r with
      | say n a =>
        subst we
        simp only [rowMid, Rw.asks] at hm
        cases hl : look s.hd a with
        | none => simp [hl] at hm
        | some x => simp [Rw.asks, hl]
      | _ => simp [Rw.isSay] at hr
    · intro x hx
      obtain ⟨a, ha⟩ := wl x hx
      exact look_in hs.hd ha
theorem endMid_tq {nm : Str} {e : En} {s s' : Sx} {g : Str} (h : endMid nm e s = .on g s') : ∃ ws v, s'.tr = s.tr ++ [.tup [.str nm, .tup ws, v]] := by
  cases e with
  | go b => cases h; exact ⟨_, _, rfl⟩
  | stop => cases h
  | iff a b c =>
    simp only [endMid] at h
    split at h
    · cases h
    · cases h; exact ⟨_, _, rfl⟩
theorem endMid_tq' {nm : Str} {e : En} {s s' : Sx} {x : U} (h : endMid nm e s = .off x s') : s'.tr = s.tr ∨ ∃ ws v, s'.tr = s.tr ++ [.tup [.str nm, .tup ws, v]] := by
  cases e with
  | go b => cases h
  | stop => cases h; exact .inr ⟨_, _, rfl⟩
  | iff a b c =>
    simp only [endMid] at h
    split at h
    · cases h; exact .inl rfl
    · cases h
theorem mem_snoc {u v : U} {l : List U} (h : u ∈ l ++ [v]) : u ∈ l ∨ u = v := by
  rcases List.mem_append.mp h with h | h
  · exact .inl h
  · exact .inr (List.mem_singleton.mp h)
theorem run_tq (p : List Bk) (hp : Pok p) : ∀ (n : Nat) (nm : Str) (rs : List Rw) (e : En) (s : Sx), (∀ r ∈ rs, r ∈ p.flatMap Bk.rows) → (∀ r ∈ rs, r.ok) → Sok s → (∀ u ∈ s.tr, Tq (p.flatMap Bk.rows) u) → ∀ u ∈ (run p n nm rs e s).1, Tq (p.flatMap Bk.rows) u
  | 0, nm, rs, e, s, _, _, _, ht => by simpa [run] using ht
  | n + 1, nm, r :: rs, e, s, h1, h2, hs, ht => by
    simp only [run]
    cases hr : rowStep r s with
    | off x => exact ht
    | on v s' =>
      obtain ⟨so, _⟩ := rowStep_on hs (h2 r (by simp)) hr
      obtain ⟨ws, v', et, w0, w1⟩ := rowStep_tq hs hr
      refine run_tq p hp n nm rs e s' (fun x hx => h1 x (by simp [hx])) (fun x hx => h2 x (by simp [hx])) so ?_
      intro u hu
      rw [et] at hu
      rcases mem_snoc hu with hu | rfl
      · exact ht u hu
      · exact ⟨.inr ⟨r, h1 r (by simp), ws, v', rfl, w0, w1⟩⟩
  | n + 1, nm, [], e, s, h1, h2, hs, ht => by
    simp only [run]
    cases hr : endMid nm e s with
    | off x s' =>
      rcases endMid_tq' hr with et | ⟨ws, v, et⟩
      · simp only [et]; exact ht
      · simp only [et]
        intro u hu
        rcases mem_snoc hu with hu | rfl
        · exact ht u hu
        · exact ⟨.inl ⟨_, _, _, rfl⟩⟩
    | on g s' =>
      obtain ⟨_, so, _⟩ := endMid_on hs hr
      obtain ⟨ws, v, et⟩ := endMid_tq hr
      have ht' : ∀ u ∈ s'.tr, Tq (p.flatMap Bk.rows) u := by
        intro u hu
        rw [et] at hu
        rcases mem_snoc hu with hu | rfl
        · exact ht u hu
        · exact ⟨.inl ⟨_, _, _, rfl⟩⟩
      cases hb : blk p g with
      | none => simpa [hb] using ht'
      | some b' =>
        simp only [hb]
        have bm := blk_mem hb
        exact run_tq p hp n b'.name b'.rows b'.en s' (fun r hr => List.mem_flatMap.mpr ⟨b', bm, hr⟩) (hp.rows b' bm) so ht'
theorem says_mem {p : List Bk} {n : Int} (h : n ∈ saysP p) : ∃ r ∈ p.flatMap Bk.rows, r.isSay = true ∧ r.num = n := by
  unfold saysP saysR at h
  obtain ⟨r, hr, e⟩ := List.mem_map.mp h
  obtain ⟨h1, h2⟩ := List.mem_filter.mp hr
  exact ⟨r, h1, h2, e⟩
theorem inj_nums : ∀ {R : List Rw}, (R.map Rw.num).Nodup → ∀ {a b : Rw}, a ∈ R → b ∈ R → a.num = b.num → a = b
  | [], _, _, _, h, _, _ => by cases h
  | x :: R, hn, a, b, ha, hb, e => by
    rw [List.map_cons, List.nodup_cons] at hn
    rcases List.mem_cons.mp ha with ea | ha1
    · rcases List.mem_cons.mp hb with eb | hb1
      · rw [ea, eb]
      · exact absurd (by rw [← ea, e]; exact List.mem_map_of_mem hb1) hn.1
    · rcases List.mem_cons.mp hb with eb | hb1
      · exact absurd (by rw [← eb, ← e]; exact List.mem_map_of_mem ha1) hn.1
      · exact inj_nums hn.2 ha1 hb1 e
theorem tq_te {p : List Bk} (hn : ((p.flatMap Bk.rows).map Rw.num).Nodup) {u : U} (h : Tq (p.flatMap Bk.rows) u) : Te (saysP p) u := by
  rcases h.sh with h | ⟨r, hr, ws, v, rfl, h1, _⟩
  · exact ⟨.inl h⟩
  · refine ⟨.inr ⟨_, _, _, rfl, fun hs => ?_⟩⟩
    obtain ⟨r', hr', s', e⟩ := says_mem hs
    have := inj_nums hn hr' hr e
    subst this
    have := h1 s'
    simpa using this
theorem told_int {p : List Bk} {tr : List U} (h : ∀ u ∈ tr, Tq (p.flatMap Bk.rows) u) : ∀ w ∈ told p tr, ∃ x, w = .int x ∧ InW x := by
  intro w hw
  obtain ⟨u, hu, e⟩ := List.mem_filterMap.mp hw
  rcases (h u hu).sh with ⟨nm, ws, v, rfl⟩ | ⟨r, hr, ws, v, rfl, h1, h2⟩
  · cases e
  · cases ws with
    | nil => cases e
    | cons x ws =>
      simp only [List.map_cons, toldOne] at e
      split at e
      · cases e; exact ⟨x, rfl, h2 x (by simp)⟩
      · cases e
theorem says_nodup {p : List Bk} (hn : ((p.flatMap Bk.rows).map Rw.num).Nodup) : ((sayK (saysP p)).map (·.1)).Nodup := by
  unfold sayK saysP saysR
  rw [List.map_map, List.Nodup, List.pairwise_map]
  have h1 : ((p.flatMap Bk.rows).filter Rw.isSay).map Rw.num |>.Nodup := hn.sublist (List.Sublist.map _ List.filter_sublist)
  exact List.Pairwise.imp (fun h e => h (Sum.inl.inj e)) h1
end K14
namespace OF
open PySem PySem.Spec PyProof.Rows L2
def addS (acc l : List Str) : List Str := l.foldl (fun a k => if k ∈ a then a else a ++ [k]) acc
def trK (l : List Str) : List (Key × U) := l.map fun k => (.inr k, .bl true)
@[simp] theorem addS_nil (acc : List Str) : addS acc [] = acc := rfl
theorem addS_cons (acc : List Str) (k : Str) (l : List Str) : addS acc (k :: l) = addS (if k ∈ acc then acc else acc ++ [k]) l := rfl
theorem addS_mem {x : Str} : ∀ (l acc : List Str), x ∈ addS acc l ↔ x ∈ acc ∨ x ∈ l
  | [], acc => by simp
  | k :: l, acc => by
    rw [addS_cons, addS_mem l]
    by_cases h : k ∈ acc
    · rw [if_pos h]
      constructor
      · rintro (h1 | h1)
        · exact .inl h1
        · exact .inr (by simp [h1])
      · rintro (h1 | h1)
        · exact .inl h1
        · rcases List.mem_cons.mp h1 with rfl | h1
          · exact .inl h
          · exact .inr h1
    · rw [if_neg h]
      simp [or_assoc]
theorem addS_nodup : ∀ (l acc : List Str), acc.Nodup → (addS acc l).Nodup
  | [], acc, h => h
  | k :: l, acc, h => by
    rw [addS_cons]
    apply addS_nodup l
    split
    · exact h
    · rename_i hk
      refine List.nodup_append.mpr ⟨h, by simp, ?_⟩
      intro a ha b hb e
      rw [List.mem_singleton.mp hb] at e
      exact hk (e ▸ ha)
theorem put_trK (acc : List Str) (k : Str) : putKU (trK acc) (.inr k) (.bl true) = trK (if k ∈ acc then acc else acc ++ [k]) := by
  have ha : ((trK acc).any fun kv => decide (kv.1 = .inr k)) = decide (k ∈ acc) := by
    induction acc with
    | nil => rfl
    | cons x acc ih =>
      unfold trK at ih ⊢
      rw [List.map_cons, List.any_cons, ih]
      by_cases h : x = k
      · subst h; simp
      · have h' : ¬ k = x := fun z => h z.symm
        simp [h, h']
  unfold putKU
  rw [ha]
  by_cases h : k ∈ acc
  · rw [decide_eq_true h, if_pos rfl, if_pos h]
    unfold trK
    rw [List.map_map]
    apply List.map_congr_left
    intro x _
    by_cases e : x = k <;> simp [e]
  · rw [decide_eq_false h, if_neg (by simp), if_neg h]
    simp [trK]
theorem merge_trK : ∀ (l acc : List Str), mergeU (trK acc) (trK l) = trK (addS acc l)
  | [], acc => rfl
  | k :: l, acc => by
    rw [addS_cons, ← merge_trK l, ← put_trK]
    rfl
@[simp] theorem trK_len (l : List Str) : (trK l).length = l.length := by simp [trK]
theorem nodup_len : ∀ {a b : List Str}, a.Nodup → (∀ x ∈ a, x ∈ b) → a.length ≤ b.length
  | [], b, _, _ => Nat.zero_le _
  | x :: a, b, hn, h => by
    have hx := h x (by simp)
    have hn' := List.nodup_cons.mp hn
    have := nodup_len (a := a) (b := b.erase x) hn'.2 (fun y hy => by
      have hne : y ≠ x := fun e => hn'.1 (e ▸ hy)
      exact (List.mem_erase_of_ne hne).mpr (h y (by simp [hy])))
    rw [List.length_erase_of_mem hx] at this
    have hpos : 0 < b.length := List.length_pos_of_mem hx
    simp
    omega
end OF
namespace OF
open PySem PySem.Spec PyProof.Rows L2
@[simp] theorem kit_int_str : kitB "int" "str" = some false := by kernel_rfl
@[simp] theorem kit_str_str : kitB "str" "str" = some true := by kernel_rfl
@[simp] theorem tyU_non (S : Sto) : tyU S .non = some "NoneType" := rfl
@[simp] theorem tyU_bl (S : Sto) (b : Bool) : tyU S (.bl b) = some "bool" := rfl
@[simp] theorem tyU_int (S : Sto) (i : Int) : tyU S (.int i) = some "int" := rfl
@[simp] theorem tyU_str (S : Sto) (x : Str) : tyU S (.str x) = some "str" := rfl
@[simp] theorem tyU_tup (S : Sto) (us : List U) : tyU S (.tup us) = some "tuple" := rfl
@[simp] theorem tyU_lst (S : Sto) (us : List U) : tyU S (.lst us) = some "list" := rfl
@[simp] theorem tyU_dct (S : Sto) (us : List (Key × U)) : tyU S (.dct us) = some "dict" := rfl
@[simp] theorem seqU_str (x : Str) : seqU (.str x) = some (signsU x) := rfl
theorem cutU_lo (T : List U) (m : Nat) : cutU T none (some (m : Int)) = T.take m := by
  unfold cutU
  rw [HT.sIx_nat, HT.sIx_none]
  simp
theorem cutU_hi (T : List U) (m : Nat) : cutU T (some (m : Int)) none = T.drop m := by
  unfold cutU
  rw [HT.sIx_nat, HT.sIx_none]
  by_cases h : m ≤ T.length
  · rw [Nat.min_eq_left h]
    exact List.take_of_length_le (by simp)
  · rw [Nat.min_eq_right (by omega), List.drop_eq_nil_of_le (by omega : T.length ≤ m)]
    simp
theorem cutU_mid (T : List U) (i j : Nat) : cutU T (some (i : Int)) (some (j : Int)) = (T.take j).drop i := by
  unfold cutU
  rw [HT.sIx_nat, HT.sIx_nat]
  apply List.ext_getElem?
  intro k
  simp only [List.getElem?_take, List.getElem?_drop]
  by_cases h : T.length ≤ i
  · have : T[i + k]? = none := List.getElem?_eq_none (by omega)
    have e : T[min i T.length + k]? = none := List.getElem?_eq_none (by omega)
    simp [this, e]
  · have e : min i T.length = i := by omega
    rw [e]
    by_cases h2 : i + k < T.length
    · have q1 : (k < min j T.length - i) ↔ (i + k < j) := by omega
      simp only [q1]
    · have : T[i + k]? = none := List.getElem?_eq_none (by omega)
      simp [this]
@[simp] theorem cutU_2 (T : List U) : cutU T (some 2) none = T.drop 2 := cutU_hi T 2
@[simp] theorem cutU_t1 (T : List U) : cutU T none (some 1) = T.take 1 := cutU_lo T 1
@[simp] theorem cutU_last (T : List U) : cutU T none (some (-1)) = T.take (T.length - 1) := by
  unfold cutU
  rw [HT.sIx_none]
  have : HT.sIx T.length T.length (some (-1)) = T.length - 1 := by
    simp only [HT.sIx]
    rw [if_pos (by decide)]
    omega
  rw [this]
  simp
def asc (x : Str) : Bool := x.cps.toList.all fun c => decide (c < 128)
def okK (b : Nat) : Key → Bool
  | .inl i => decide (i.natAbs ≤ b)
  | .inr x => asc x
mutual
def dat (b : Nat) : U → Bool
  | .non => true
  | .bl _ => true
  | .int i => decide (i.natAbs ≤ b)
  | .str x => asc x
  | .tup us => dats b us
  | .lst us => dats b us
  | .dct kvs => datk b kvs
  | _ => false
def dats (b : Nat) : List U → Bool
  | [] => true
  | u :: us => dat b u && dats b us
def datk (b : Nat) : List (Key × U) → Bool
  | [] => true
  | (k, u) :: us => (okK b k && dat b u) && datk b us
end
mutual
def wt : U → Nat
  | .str x => x.cps.size
  | .tup us => wts us
  | .lst us => wts us
  | .dct us => wtk us
  | _ => 0
def wts : List U → Nat
  | [] => 0
  | u :: us => wt u + 1 + wts us
def wtk : List (Key × U) → Nat
  | [] => 0
  | (k, u) :: us => (match k with | .inl _ => 0 | .inr x => x.cps.size) + wt u + 2 + wtk us
end
end OF
namespace OF
open PySem PySem.Spec PyProof.Rows L2
section
variable {α : Type} {pt : Pat} {t : Cm Bool} {c : Cm U} {env : Env'} {S : Sto} {enc : α → U} {p : α → Bool} {f : α → U}
def Turn (pt : Pat) (t : Cm Bool) (c : Cm U) (env : Env') (S : Sto) (u : U) (k : Bool) (v : U) : Prop := ∃ bs, bindP pt u = some bs ∧ t (setAll env bs) S = some (k, S) ∧ (k = true → c (setAll env bs) S = some (v, S))
theorem turn_nm {i : Nat} {u v : U} {k : Bool} (h1 : t (env.set i (some u)) S = some (k, S)) (h2 : k = true → c (env.set i (some u)) S = some (v, S)) : Turn (.nm i) t c env S u k v := ⟨[(i, u)], rfl, h1, h2⟩
theorem mapC_tn : ∀ (xs : List α), (∀ x ∈ xs, Turn pt t c env S (enc x) (p x) (f x)) → mapC pt t c env (xs.map enc) S = some ((xs.filter p).map f, S)
  | [], _ => rfl
  | x :: xs, h => by
    have ih := mapC_tn xs fun y hy => h y (by simp [hy])
    obtain ⟨bs, e1, e2, e3⟩ := h x (by simp)
    rw [List.map_cons, mapC_cons, e1]
    simp only [e2]
    cases hp : p x with
    | false =>
      simp only [ih]
      rw [List.filter_cons, if_neg (by rw [hp]; decide)]
    | true =>
      simp only [e3 hp, ih]
      rw [List.filter_cons, if_pos hp]
      rfl
theorem mapC_all {i : Nat} (xs : List α) (h : ∀ x ∈ xs, c (env.set i (some (enc x))) S = some (f x, S)) : mapC (.nm i) cYes c env (xs.map enc) S = some (xs.map f, S) := by
  have := mapC_tn (pt := .nm i) (t := cYes) (c := c) (env := env) (S := S) (enc := enc) (p := fun _ => true) (f := f) xs fun x hx => turn_nm rfl fun _ => h x hx
  rwa [List.filter_eq_self.mpr fun _ _ => rfl] at this
theorem mapG_tn {g : Option Nat} {us0 : List U} (hk : gok g us0 S) : ∀ (xs : List α), (∀ x ∈ xs, Turn pt t c env S (enc x) (p x) (f x)) → mapG pt t c env g us0 (xs.map enc) S = some ((xs.filter p).map f, S)
  | [], _ => by
    unfold mapG
    rw [List.map_nil]
    simp only [hk, if_true]
    rfl
  | x :: xs, h => by
    have ih := mapG_tn hk xs fun y hy => h y (by simp [hy])
    obtain ⟨bs, e1, e2, e3⟩ := h x (by simp)
    rw [List.map_cons]
    unfold mapG
    rw [if_pos hk, e1]
    simp only [e2]
    cases hp : p x with
    | false =>
      simp only [ih]
      rw [List.filter_cons, if_neg (by rw [hp]; decide)]
    | true =>
      simp only [e3 hp, ih]
      rw [List.filter_cons, if_pos hp]
      rfl
end
end OF
namespace OF
open PySem PySem.Spec PyProof.Rows L2
def r1G (p : Option (List U × Sto)) : Option (List U × Sto) := match p with
  | some (us, S) => r1K S us
  | none => none
theorem itR1_k (c : Cm (List U)) (env : Env') (S : Sto) : itR1 c env S = r1G (c env S) := by
  unfold itR1 r1G
  rcases c env S with _ | ⟨us, S1⟩
  · rfl
  · rcases us with _ | ⟨u, us⟩
    · rfl
    · cases us <;> cases u <;> rfl
theorem r1K_nat {n : Nat} (h : n ≤ 1000000) (S : Sto) : r1K S [.int (n : Int)] = some (rangeU 0 n, S) := by
  have b : (-(2 ^ 62) : Int) ≤ (n : Int) ∧ (n : Int) < 2 ^ 62 := ⟨by omega, by omega⟩
  have e : ∀ j : Int, r1K S [.int j] = if -(2 ^ 62) ≤ j ∧ j < 2 ^ 62 then some (rangeU 0 j.toNat, S) else none := fun _ => rfl
  rw [e, if_pos b, Int.toNat_natCast]
theorem sqn {a b : Sm} {env e : Env'} {S T : Sto} (h : a env S = some (.nx, e, T)) : sSeq a b env S = b e T := by
  unfold sSeq
  rw [h]
theorem sFor_of {it : Cm (List U)} {pt : Pat} {b : Sm} {env : Env'} {S S1 : Sto} {us : List U} (h : it env S = some (us, S1)) : sFor it pt b env S = loopF pt b us env S1 := by
  unfold sFor
  rw [h]
theorem cLc_of {it : Cm (List U)} {pt : Pat} {t : Cm Bool} {c : Cm U} {vs : List Nat} {env : Env'} {S S1 S2 : Sto} {us ys : List U} (h : it env S = some (us, S1)) (h2 : mapC pt t c (wipeE env vs) us S1 = some (ys, S2)) (hz : ys.length ≤ sizeLine) : cLc it pt t c vs env S = some (.lst ys, S2) := by
  unfold cLc cLcL
  rw [h]
  simp only [h2, hz, if_true]
theorem sRet_of {c : Cm U} {env : Env'} {S S1 : Sto} {u : U} (h : c env S = some (u, S1)) : sRet c env S = some (.ret u, env, S1) := by
  unfold sRet
  rw [h]
theorem runF_of {s : Sm} {np n : Nat} {us : List U} {S S1 : Sto} {e e0 : Env'} {u : U} (h0 : startE n us = e0) (hl : us.length = np) (h : s e0 S = some (.ret u, e, S1)) : runF s np n us S = some (u, S1) := by
  unfold runF
  rw [if_pos hl, h0, h]
theorem pureF_of {f : OpN} {us : List U} {S1 : Sto} {u : U} (h : f us [] = some (u, S1)) (hn : noref u = true) : pureF f us = some u := by
  unfold pureF
  rw [h]
  simp only [hn, if_true]
theorem liftP_of {p : Pf} {us : List U} {S : Sto} {u : U} (h : p us = some u) (hn : norefs us = true) : liftP p us S = some (u, S) := by
  unfold liftP
  rw [if_pos hn, h]
end OF
namespace OF
open PySem PySem.Spec PyProof.Rows L2
structure Kz (S S' : Sto) : Prop where
  le : S.length ≤ S'.length
  eq : ∀ i, i < S.length → S'[i]? = S[i]?
end OF
namespace OF
open PySem PySem.Spec PyProof.Rows L2
theorem cVar_of {i : Nat} {u : U} {env : Env'} {S : Sto} (h : env[i]? = some (some u)) : cVar i env S = some (u, S) := by
  unfold cVar
  rw [h]
theorem keys_trK (l : List Str) : (trK l).map fKey = l.map .str := by
  unfold trK
  rw [List.map_map]
  rfl
end OF
namespace OF
open PySem PySem.Spec PyProof.Rows L2
theorem if_len (k : Str) (acc : List Str) : (if k ∈ acc then acc else acc ++ [k]).length ≤ acc.length + 1 := by
  split
  · omega
  · simp
theorem addS_len : ∀ (l acc : List Str), (addS acc l).length ≤ acc.length + l.length
  | [], acc => by simp
  | k :: l, acc => by
    rw [addS_cons]
    have := addS_len l (if k ∈ acc then acc else acc ++ [k])
    have := if_len k acc
    simp only [List.length_cons]
    omega
end OF
namespace OF
open PySem PySem.Spec PyProof.Rows L2
theorem norefk_all : ∀ {kvs : List (Key × U)}, (∀ kv ∈ kvs, noref kv.2 = true) → norefk kvs = true
  | [], _ => rfl
  | (k, u) :: kvs, h => by
    show (noref u && norefk kvs) = true
    rw [h (k, u) (by simp), norefk_all fun kv hkv => h kv (by simp [hkv])]
    rfl
theorem sIf_no {c : Cm Bool} {a : Sm} {env : Env'} {S S1 : Sto} (h : c env S = some (false, S1)) : sIf c a sNil env S = some (.nx, env, S1) := by
  unfold sIf
  rw [h]
  rfl
theorem orT_no {a b : Cm Bool} {env : Env'} {S S1 S2 : Sto} (h : a env S = some (false, S1)) (h2 : b env S1 = some (false, S2)) : cOrT a b env S = some (false, S2) := by
  unfold cOrT
  rw [h]
  exact h2
theorem cons_of {a : Cm U} {r : Cm (List U)} {env : Env'} {S S1 S2 : Sto} {u : U} {us : List U} (h : a env S = some (u, S1)) (h2 : r env S1 = some (us, S2)) : cCons a r env S = some (u :: us, S2) := by
  unfold cCons
  rw [h]
  dsimp only
  rw [h2]
theorem nil_of (env : Env') (S : Sto) : cNil env S = some ([], S) := rfl
theorem arg_of {f : OpN} {a : Cm (List U)} {env : Env'} {S S1 S2 : Sto} {us : List U} {u : U} (h : a env S = some (us, S1)) (h2 : f us S1 = some (u, S2)) : cArg f a env S = some (u, S2) := by
  unfold cArg
  rw [h]
  exact h2
theorem par2_of {i j : Nat} {a b : Cm U} {env : Env'} {S S1 S2 : Sto} {u w : U} (h : a env S = some (u, S1)) (h2 : b env S1 = some (w, S2)) : sPar2 i j (cCons a (cCons b cNil)) env S = some (.nx, (env.set i (some u)).set j (some w), S2) := by
  unfold sPar2
  rw [cons_of h (cons_of h2 (nil_of env S2))]
theorem asg_of {i : Nat} {a : Cm U} {env : Env'} {S S1 : Sto} {u : U} (h : a env S = some (u, S1)) : sAsg a (gmName i) env S = some (.nx, env.set i (some u), S1) := by
  unfold sAsg
  rw [h]
  rfl
end OF
namespace OF
open PySem PySem.Spec PyProof.Rows L2
def clm (pa : Str → Str) (u : Str) : Nat → Str → List Str
  | 0, _ => []
  | k + 1, s => if s = u then [] else s :: clm pa u k (pa s)
def Ends (B : List Str) (pa : Str → Str) (u : Str) : Nat → Str → Prop
  | 0, s => s = u
  | k + 1, s => s = u ∨ s ≠ u ∧ s ∈ B ∧ Ends B pa u k (pa s)
end OF
namespace OF
open PySem PySem.Spec PyProof.Rows L2
theorem tupL_of {c : Cm U} {env : Env'} {S S1 : Sto} {us : List U} (h : c env S = some (.lst us, S1)) : cArg (on1 tupleU) (cCons c cNil) env S = some (.tup us, S1) := by
  simp [h]
end OF
namespace K14
open PySem PySem.Spec PyProof.Rows L2 OF
theorem cell_lt {S : Sto} {n : Nat} {o : O} (h : S[n]? = some o) : n < S.length := (List.getElem?_eq_some_iff.mp h).1
def Hn (S : Sto) (h : Nat) : Prop := ∃ g b, S[h]? = some (hnd g b) ∧ Hok g b
structure Kh (h : Nat) (S S' : Sto) : Prop where
  le : S.length ≤ S'.length
  eq : ∀ i, i < S.length → i ≠ h → S'[i]? = S[i]?
theorem Kh.refl (h : Nat) (S : Sto) : Kh h S S := ⟨Nat.le_refl _, fun _ _ _ => rfl⟩
theorem Kh.trans {h : Nat} {S S1 S2 : Sto} (a : Kh h S S1) (b : Kh h S1 S2) : Kh h S S2 := ⟨Nat.le_trans a.le b.le, fun i hi hn => by rw [b.eq i (Nat.lt_of_lt_of_le hi a.le) hn, a.eq i hi hn]⟩
theorem Kh.get {h : Nat} {S S' : Sto} (a : Kh h S S') {i : Nat} {o : O} (hi : S[i]? = some o) (hn : i ≠ h) : S'[i]? = some o := by
  rw [a.eq i (cell_lt hi) hn, hi]
theorem take_ex {S : Sto} {h : Nat} {m : Int} (hh : Hn S h) (m0 : 0 < m) (m1 : m < 1000000000000) : ∃ d S', F__law_take [.ref h, .int m] S = some (.int d, S') ∧ 0 ≤ d ∧ d < m ∧ Hn S' h ∧ Kh h S S' := by
  obtain ⟨g, b, e, k⟩ := hh
  have sS : S = St S h (hnd g b) [] := st_of e
  obtain ⟨r, e1, d, g', b', d0, d1, k', rfl⟩ := take_wp (Q := fun r => ∃ (d g' b' : Int), 0 ≤ d ∧ d < m ∧ Hok g' b' ∧ r = (.int d, St S h (hnd g' b') [])) (cell_lt e) k m0 m1 fun d g' b' d0 d1 k' => ⟨d, g', b', d0, d1, k', rfl⟩
  rw [← sS] at e1
  exact ⟨d, _, e1, d0, d1, ⟨g', b', st_get (cell_lt e), k'⟩, ⟨by simp, fun i hi hn => by rw [st_old hi hn]⟩⟩
theorem pick_ex {S : Sto} {h : Nat} {us : List U} (hh : Hn S h) (n0 : us ≠ []) (n1 : us.length < 1000000) : ∃ u S', F__law_pick [.ref h, .lst us] S = some (u, S') ∧ u ∈ us ∧ Hn S' h ∧ Kh h S S' := by
  obtain ⟨g, b, e, k⟩ := hh
  have sS : S = St S h (hnd g b) [] := st_of e
  obtain ⟨r, e1, u, g', b', d0, k', rfl⟩ := pick_wp (Q := fun r => ∃ (u : U) (g' b' : Int), u ∈ us ∧ Hok g' b' ∧ r = (u, St S h (hnd g' b') [])) (cell_lt e) k n0 n1 fun u g' b' d0 k' => ⟨u, g', b', d0, k', rfl⟩
  rw [← sS] at e1
  exact ⟨u, _, e1, d0, ⟨g', b', st_get (cell_lt e), k'⟩, ⟨by simp, fun i hi hn => by rw [st_old hi hn]⟩⟩
theorem program_ex {S : Sto} {h : Nat} (hh : Hn S h) : ∃ p S', F__law_program [.ref h, .int 7, .int 20, .int 5] S = some (encP p, S') ∧ Prog p ∧ Hn S' h ∧ Kh h S S' := by
  obtain ⟨g, b, e, k⟩ := hh
  have sS : S = St S h (hnd g b) [] := st_of e
  obtain ⟨r, e1, p, g', b', jk, hp, k', rfl⟩ := program_wp (S := S) (h := h) (cs := []) (Q := fun r => ∃ (p : List Bk) (g' b' : Int) (jk : List O), Prog p ∧ Hok g' b' ∧ r = (encP p, St S h (hnd g' b') ([] ++ jk))) (cell_lt e) k fun p g' b' jk hp k' => ⟨p, g', b', jk, hp, k', rfl⟩
  rw [← sS] at e1
  exact ⟨p, _, e1, hp, ⟨g', b', st_get (cell_lt e), k'⟩, ⟨by simp, fun i hi hn => by rw [st_old hi hn]⟩⟩
theorem names_ex {S : Sto} {h : Nat} (hh : Hn S h) {n : Nat} (hn : n ≤ 24) : ∃ (xs : List Str) (j : Nat) (S' : Sto), F__law_names [.ref h, .int n] S = some (.ref j, S') ∧ xs.length = n ∧ xs.Nodup ∧ (∀ x ∈ xs, Nm x) ∧ S'[j]? = some (.lst (xs.map .str)) ∧ j ≠ h ∧ Hn S' h ∧ Kh h S S' := by
  obtain ⟨g, b, e, k⟩ := hh
  have lh := cell_lt e
  have sS : S = St S h (hnd g b) [] := st_of e
  obtain ⟨r, e1, xs, jk, i, g', b', l1, nd, nm, c, k', rfl⟩ := names_wp (S := S) (h := h) (cs := []) (Q := fun r => ∃ (xs : List Str) (jk : List O) (i : Nat) (g' b' : Int), xs.length = n ∧ xs.Nodup ∧ (∀ x ∈ xs, Nm x) ∧ ([] ++ jk)[i]? = some (.lst (xs.map .str)) ∧ Hok g' b' ∧ r = (.ref (S.length + i), St S h (hnd g' b') ([] ++ jk))) lh k hn fun xs jk i g' b' l1 nd nm c k' => ⟨xs, jk, i, g', b', l1, nd, nm, c, k', rfl⟩
  rw [← sS] at e1
  refine ⟨xs, S.length + i, _, e1, l1, nd, nm, ?_, by omega, ⟨g', b', st_get lh, k'⟩, ⟨by simp, fun i hi hn => by rw [st_old hi hn]⟩⟩
  have := c
  simp only [List.nil_append] at this ⊢
  unfold OF.St
  rw [List.getElem?_append_right (by simp)]
  simpa using this
end K14
namespace K14
open PySem PySem.Spec PyProof.Rows L2 OF
theorem getK_put {α : Type} (v : α) (k k' : Key) (l : List (Key × α)) : getK (putKU l k v) k' = if k' = k then some v else getK l k' := by
  have hm : ∀ l : List (Key × α), ¬ k' = k → getK (l.map fun kv => if kv.1 = k then (kv.1, v) else kv) k' = getK l k' := fun l e => by
    induction l with
    | nil => rfl
    | cons d l ih =>
      rw [List.map_cons, getK_cons, getK_cons, ih]
      by_cases ed : d.1 = k
      · have : ¬ k = k' := fun h => e h.symm
        simp [ed, this]
      · simp [ed]
  unfold putKU
  by_cases ha : (l.any fun kv => decide (kv.1 = k)) = true
  · rw [if_pos ha]
    by_cases e : k' = k
    · subst e
      rw [if_pos rfl]
      induction l with
      | nil => simp at ha
      | cons c l ih =>
        rw [List.map_cons, getK_cons]
        by_cases ec : c.1 = k'
        · simp [ec]
        · have ha' : (l.any fun kv => decide (kv.1 = k')) = true := by simpa [ec] using ha
          rw [if_neg ec, if_neg ec]
          exact ih ha'
    · rw [hm l e, if_neg e]
  · rw [if_neg ha]
    have hn : ∀ kv ∈ l, kv.1 ≠ k := fun kv hkv e => ha (List.any_eq_true.mpr ⟨kv, hkv, by simp [e]⟩)
    clear ha
    induction l with
    | nil =>
      rw [List.nil_append, getK_cons]
      by_cases e : k' = k
      · subst e; simp
      · have : ¬ k = k' := fun h => e h.symm
        rw [if_neg this, if_neg e]
    | cons c l ih =>
      have ih := ih fun kv hkv => hn kv (by simp [hkv])
      have hc := hn c (by simp)
      rw [List.cons_append, getK_cons, getK_cons, ih]
      by_cases ed : c.1 = k'
      · have : ¬ k' = k := fun h => hc (ed.trans h)
        simp [ed, this]
      · simp [ed]
theorem look_put (hd : List (Str × Int)) (g : Str) (v : Int) (n : Str) : look (put hd g v) n = if g = n then some v else look hd n := by
  have h1 := getK_hd (put hd g v) n
  rw [← putK_hd, getK_put] at h1
  by_cases e : n = g
  · subst e
    simp only [if_true, Option.some.injEq] at h1
    rw [if_pos rfl]
    cases hl : look (put hd n v) n with
    | none => rw [hl] at h1; cases h1
    | some x => rw [hl] at h1; simp at h1; rw [h1]
  · have e' : ¬ g = n := fun z => e z.symm
    have e2 : ¬ ((.inr n : Key) = .inr g) := fun z => e (Sum.inr.inj z)
    rw [if_neg e2, getK_hd] at h1
    rw [if_neg e']
    cases hl : look (put hd g v) n with
    | none =>
      rw [hl] at h1
      cases hl2 : look hd n with
      | none => rfl
      | some x => rw [hl2] at h1; simp at h1
    | some x =>
      rw [hl] at h1
      cases hl2 : look hd n with
      | none => rw [hl2] at h1; simp at h1
      | some y => rw [hl2] at h1; simp at h1; rw [h1]
def rnR (ν : Str → Str) (κ : Int → Int) : Rw → Rw
  | .put n g v => .put (κ n) (ν g) v
  | .copy n g a => .copy (κ n) (ν g) (ν a)
  | .bin w n g a b => .bin w (κ n) (ν g) (ν a) (ν b)
  | .ask n g => .ask (κ n) (ν g)
  | .say n a => .say (κ n) (ν a)
def rnE (β ν : Str → Str) : En → En
  | .go b => .go (β b)
  | .iff a b c => .iff (ν a) (β b) (β c)
  | .stop => .stop
def rnB (β ν : Str → Str) (κ : Int → Int) (b : Bk) : Bk := ⟨β b.name, b.rows.map (rnR ν κ), rnE β ν b.en⟩
def calU (β : Str → Str) (κ : Int → Int) : U → U
  | .tup [.int n, a, g] => .tup [.int (κ n), a, g]
  | .tup [.str b, a, g] => .tup [.str (β b), a, g]
  | u => u
def eclU (ν : Str → Str) (κ : Int → Int) : U → U
  | .tup [.str h, .str a] => .tup [.str h, .str (ν a)]
  | .tup [.str h, .int n] => .tup [.str h, .int (κ n)]
  | u => u
variable {β ν : Str → Str} {κ : Int → Int} {N : List Str}
theorem rn_asks (r : Rw) : (rnR ν κ r).asks = r.asks.map ν := by cases r <;> rfl
theorem rn_gives (r : Rw) : (rnR ν κ r).gives = r.gives.map ν := by cases r <;> rfl
theorem rn_num (r : Rw) : (rnR ν κ r).num = κ r.num := by cases r <;> rfl
theorem rn_say (r : Rw) : (rnR ν κ r).isSay = r.isSay := by cases r <;> rfl
theorem rn_ok (r : Rw) (h : r.ok) : (rnR ν κ r).ok := by cases r <;> first | exact h | trivial
theorem rn_left (r : Rw) (wt : List Int) : (rnR ν κ r).left wt = r.left wt := by cases r <;> rfl
theorem rn_worth (r : Rw) (ws wt : List Int) : (rnR ν κ r).worth ws wt = r.worth ws wt := by cases r <;> rfl
theorem rn_why (r : Rw) (ws wt : List Int) : why (rnR ν κ r) ws wt = (why r ws wt).map (eclU ν κ) := by
  cases r with
  | bin w n g a b =>
    cases w <;> try rfl
    simp only [rnR, why]
    split
    · split <;> rfl
    · rfl
  | ask n g =>
    simp only [rnR, why]
    split <;> rfl
  | _ => rfl
theorem rnE_asks (e : En) : (rnE β ν e).asks = e.asks.map ν := by cases e <;> rfl
theorem rnE_goals (e : En) : (rnE β ν e).goals = e.goals.map β := by cases e <;> rfl
def Inj (N : List Str) (ν : Str → Str) : Prop := ∀ a ∈ N, ∀ b ∈ N, ν a = ν b → a = b
structure Sim (β ν : Str → Str) (κ : Int → Int) (N : List Str) (s s' : Sx) : Prop where
  tr : s'.tr = s.tr.map (calU β κ)
  wt : s'.wt = s.wt
  hd : ∀ a ∈ N, look s'.hd (ν a) = look s.hd a
theorem find_congr {α : Type} {p q : α → Bool} : ∀ {l : List α}, (∀ a ∈ l, p a = q a) → l.find? p = l.find? q
  | [], _ => rfl
  | a :: l, h => by
    rw [List.find?_cons, List.find?_cons, h a (by simp), find_congr fun b hb => h b (by simp [hb])]
theorem fm_congr {α γ : Type} {f g : α → Option γ} : ∀ {l : List α}, (∀ a ∈ l, f a = g a) → l.filterMap f = l.filterMap g
  | [], _ => rfl
  | a :: l, h => by
    rw [List.filterMap_cons, List.filterMap_cons, h a (by simp), fm_congr fun b hb => h b (by simp [hb])]
theorem cal_row (n : Int) (a g : U) : calU β κ (.tup [.int n, a, g]) = .tup [.int (κ n), a, g] := rfl
theorem cal_end (n : Str) (a g : U) : calU β κ (.tup [.str n, a, g]) = .tup [.str (β n), a, g] := rfl
def rnS (ν : Str → Str) (κ : Int → Int) (β : Str → Str) (hd : List (Str × Int)) : Rs → Rs
  | .off e => .off (eclU ν κ e)
  | .on v t => .on v ⟨t.tr.map (calU β κ), t.wt, hd⟩
theorem rowMid_ren {r : Rw} {s s' : Sx} (h : Sim β ν κ N s s') (ha : ∀ a ∈ r.asks, a ∈ N) : rowMid (rnR ν κ r) s' = rnS ν κ β s'.hd (rowMid r s) := by
  have e1 : (r.asks.map ν).find? (fun a => (look s'.hd a).isNone) = (r.asks.find? fun a => (look s.hd a).isNone).map ν := by
    rw [List.find?_map]
    congr 1
    exact find_congr fun a hm => by simp only [Function.comp]; rw [h.hd a (ha a hm)]
  have e2 : (r.asks.map ν).filterMap (look s'.hd) = r.asks.filterMap (look s.hd) := by
    rw [List.filterMap_map]
    exact fm_congr fun a hm => h.hd a (ha a hm)
  unfold rowMid
  rw [rn_asks, e1, e2, rn_why, rn_worth, rn_left, rn_num, h.wt, h.tr]
  cases r.asks.find? fun a => (look s.hd a).isNone with
  | some a => rfl
  | none =>
    simp only [Option.map_none]
    cases why r (r.asks.filterMap (look s.hd)) s.wt with
    | some e => rfl
    | none =>
      simp only [Option.map_none, rnS, List.map_append, List.map_cons, List.map_nil, cal_row]
theorem rowStep_ren (hi : Inj N ν) {r : Rw} {s s' : Sx} (h : Sim β ν κ N s s') (ha : ∀ a ∈ r.asks, a ∈ N) (hg : ∀ g, r.gives = some g → g ∈ N) :
    match rowStep r s with
    | .off e => rowStep (rnR ν κ r) s' = .off (eclU ν κ e)
    | .on v t => ∃ t', rowStep (rnR ν κ r) s' = .on v t' ∧ Sim β ν κ N t t' := by
  have e := rowMid_ren h ha
  unfold rowStep
  rw [e, rn_gives]
  cases hm : rowMid r s with
  | off x => rfl
  | on v t =>
    have ht : t.hd = s.hd := by
      obtain ⟨ws, _, _, _, _, _, _, rfl⟩ := rowMid_on hm
      rfl
    refine ⟨_, rfl, rfl, rfl, fun a hN => ?_⟩
    simp only [ht]
    cases hg' : r.gives with
    | none => exact h.hd a hN
    | some g =>
      cases v with
      | none => exact h.hd a hN
      | some v =>
        simp only [Option.map_some]
        rw [look_put, look_put, h.hd a hN]
        by_cases hga : g = a
        · rw [if_pos hga, if_pos (by rw [hga])]
        · rw [if_neg hga, if_neg fun q => hga (hi g (hg g hg') a hN q)]
theorem endMid_ren {nm : Str} {e : En} {s s' : Sx} (h : Sim β ν κ N s s') (ha : ∀ a ∈ e.asks, a ∈ N) :
    match endMid nm e s with
    | .off x t => ∃ t', endMid (β nm) (rnE β ν e) s' = .off (eclU ν κ x) t' ∧ Sim β ν κ N t t'
    | .on b t => ∃ t', endMid (β nm) (rnE β ν e) s' = .on (β b) t' ∧ Sim β ν κ N t t' := by
  cases e with
  | go b => exact ⟨_, rfl, by simp [h.tr, cal_end], h.wt, h.hd⟩
  | stop => exact ⟨_, rfl, by simp [h.tr, cal_end], h.wt, h.hd⟩
  | iff a b c =>
    have hl := h.hd a (ha a (by simp [En.asks]))
    simp only [endMid, rnE, hl]
    cases look s.hd a with
    | none => exact ⟨_, rfl, h⟩
    | some x =>
      refine ⟨⟨s'.tr ++ [.tup [.str (β nm), .tup [.int x], .non]], s'.wt, s'.hd⟩, ?_, by simp [h.tr, cal_end], h.wt, h.hd⟩
      show Es.on (if x ≠ 0 then β b else β c) _ = Es.on (β (if x ≠ 0 then b else c)) _
      have : (if x ≠ 0 then β b else β c) = β (if x ≠ 0 then b else c) := by split <;> rfl
      rw [this]
theorem ecl_dry : eclU ν κ dryU = dryU := rfl
theorem run_ren {p q : List Bk} (hi : Inj N ν) (hB : ∀ b ∈ p, blk q (β b.name) = some (rnB β ν κ b)) (hr : ∀ b ∈ p, ∀ r ∈ b.rows, (∀ a ∈ r.asks, a ∈ N) ∧ ∀ g, r.gives = some g → g ∈ N) (he : ∀ b ∈ p, (∀ a ∈ b.en.asks, a ∈ N) ∧ ∀ g ∈ b.en.goals, ∃ b', blk p g = some b') :
    ∀ (n : Nat) (nm : Str) (rs : List Rw) (e : En) (s s' : Sx), Sim β ν κ N s s' → Sok s → (∀ r ∈ rs, (∀ a ∈ r.asks, a ∈ N) ∧ (∀ g, r.gives = some g → g ∈ N) ∧ r.ok) → (∀ b ∈ p, ∀ r ∈ b.rows, r.ok) → (∀ a ∈ e.asks, a ∈ N) → (∀ g ∈ e.goals, ∃ b', blk p g = some b') →
      run q n (β nm) (rs.map (rnR ν κ)) (rnE β ν e) s' = ((run p n nm rs e s).1.map (calU β κ), eclU ν κ (run p n nm rs e s).2)
  | 0, nm, rs, e, s, s', h, _, _, _, _, _ => by
    unfold run
    rw [h.tr, ecl_dry]
  | n + 1, nm, r :: rs, e, s, s', h, hs, hrs, hok, ha, hg => by
    have st := rowStep_ren hi h (hrs r (by simp)).1 (hrs r (by simp)).2.1
    rw [List.map_cons]
    unfold run
    cases hm : rowStep r s with
    | off x =>
      rw [hm] at st
      simp only at st
      rw [st]
      simp only
      rw [h.tr]
    | on v t =>
      rw [hm] at st
      obtain ⟨t', e1, ht⟩ := st
      rw [e1]
      exact run_ren hi hB hr he n nm rs e t t' ht (rowStep_on hs (hrs r (by simp)).2.2 hm).1 (fun r' h' => hrs r' (by simp [h'])) hok ha hg
  | n + 1, nm, [], e, s, s', h, hs, hrs, hok, ha, hg => by
    have st := endMid_ren (nm := nm) h ha
    rw [List.map_nil]
    unfold run
    cases hm : endMid nm e s with
    | off x t =>
      rw [hm] at st
      obtain ⟨t', e1, ht⟩ := st
      rw [e1]
      simp only
      rw [ht.tr]
    | on b t =>
      rw [hm] at st
      obtain ⟨t', e1, ht⟩ := st
      rw [e1]
      simp only
      obtain ⟨hgb, hst, _⟩ := endMid_on hs hm
      obtain ⟨b', hb'⟩ := hg b hgb
      have hbp := blk_mem hb'
      have hbn := blk_name hb'
      have hq := hB b' hbp
      rw [hbn] at hq
      rw [hb', hq]
      simp only
      exact run_ren hi hB hr he n b'.name b'.rows b'.en t t' ht hst (fun r' h' => ⟨(hr b' hbp r' h').1, (hr b' hbp r' h').2, hok b' hbp r' h'⟩) hok (he b' hbp).1 (he b' hbp).2
def isBare (u : U) : Prop := ∃ n, u = .tup [.str "bare", .int n]
theorem why_wt {r : Rw} {ws wt ys : List Int} : why r ws (wt ++ ys) = why r ws wt ∨ ∃ n g, r = .ask n g ∧ wt = [] := by
  cases r with
  | ask n g =>
    cases wt with
    | nil => exact .inr ⟨n, g, rfl, rfl⟩
    | cons x wt => exact .inl rfl
  | bin w n g a b => cases w <;> exact .inl rfl
  | _ => exact .inl rfl
theorem worth_wt {r : Rw} {ws wt ys : List Int} (h : ¬ ∃ n g, r = .ask n g ∧ wt = []) : r.worth ws (wt ++ ys) = r.worth ws wt ∧ r.left (wt ++ ys) = r.left wt ++ ys := by
  cases r with
  | ask n g =>
    cases wt with
    | nil => exact absurd ⟨n, g, rfl, rfl⟩ h
    | cons x wt => exact ⟨rfl, rfl⟩
  | _ => exact ⟨rfl, rfl⟩
theorem rowStep_more {r : Rw} {s : Sx} (ys : List Int) : (∃ n, rowStep r s = .off (.tup [.str "bare", .int n])) ∨ match rowStep r s with
    | .off e => rowStep r ⟨s.tr, s.wt ++ ys, s.hd⟩ = .off e
    | .on v t => rowStep r ⟨s.tr, s.wt ++ ys, s.hd⟩ = .on v ⟨t.tr, t.wt ++ ys, t.hd⟩ := by
  by_cases hb : ∃ n g, r = .ask n g ∧ s.wt = []
  · obtain ⟨n, g, rfl, hw⟩ := hb
    refine .inl ⟨n, ?_⟩
    unfold rowStep rowMid
    simp [Rw.asks, why, hw]
  · refine .inr ?_
    have e1 : why r (r.asks.filterMap (look s.hd)) (s.wt ++ ys) = why r (r.asks.filterMap (look s.hd)) s.wt := why_wt.resolve_right hb
    obtain ⟨e2, e3⟩ := worth_wt (ws := r.asks.filterMap (look s.hd)) (ys := ys) hb
    unfold rowStep rowMid
    simp only [e1, e2, e3]
    cases r.asks.find? fun a => (look s.hd a).isNone with
    | some a => rfl
    | none =>
      simp only
      cases why r (r.asks.filterMap (look s.hd)) s.wt <;> rfl
theorem endMid_more {nm : Str} {e : En} {s : Sx} (ys : List Int) : match endMid nm e s with
    | .off x t => endMid nm e ⟨s.tr, s.wt ++ ys, s.hd⟩ = .off x ⟨t.tr, t.wt ++ ys, t.hd⟩
    | .on b t => endMid nm e ⟨s.tr, s.wt ++ ys, s.hd⟩ = .on b ⟨t.tr, t.wt ++ ys, t.hd⟩ := by
  cases e with
  | iff a b c =>
    simp only [endMid]
    cases look s.hd a <;> rfl
  | _ => rfl
theorem run_more (p : List Bk) (ys : List Int) : ∀ (n : Nat) (nm : Str) (rs : List Rw) (e : En) (s : Sx),
    (run p n nm rs e ⟨s.tr, s.wt ++ ys, s.hd⟩ = run p n nm rs e s) ∨ (isBare (run p n nm rs e s).2 ∧ (run p n nm rs e s).1 <+: (run p n nm rs e ⟨s.tr, s.wt ++ ys, s.hd⟩).1)
  | 0, nm, rs, e, s => .inl (by simp [run])
  | n + 1, nm, r :: rs, e, s => by
    have pf := run_pfx p (n + 1) nm (r :: rs) e ⟨s.tr, s.wt ++ ys, s.hd⟩
    rcases rowStep_more (r := r) (s := s) ys with ⟨m, hb⟩ | st
    · refine .inr ?_
      have e1 : run p (n + 1) nm (r :: rs) e s = (s.tr, .tup [.str "bare", .int m]) := by
        rw [run, hb]
      rw [e1]
      exact ⟨⟨m, rfl⟩, pf.1⟩
    · cases hm : rowStep r s with
      | off x =>
        rw [hm] at st
        refine .inl ?_
        rw [run, run, hm]
        simp only at st
        rw [st]
      | on v t =>
        rw [hm] at st
        simp only at st
        rw [run, run, hm, st]
        exact run_more p ys n nm rs e t
  | n + 1, nm, [], e, s => by
    have st := endMid_more (nm := nm) (e := e) (s := s) ys
    cases hm : endMid nm e s with
    | off x t =>
      rw [hm] at st
      simp only at st
      refine .inl ?_
      rw [run, run, hm, st]
    | on b t =>
      rw [hm] at st
      simp only at st
      rw [run, run, hm, st]
      simp only
      cases blk p b with
      | none => exact .inl rfl
      | some b' => exact run_more p ys n b'.name b'.rows b'.en t
end K14
namespace K14
open PySem PySem.Spec PyProof.Rows L2 OF
def nD (B : List Str) (F : Str → U) : List (Key × U) := B.map fun x => (.inr x, F x)
theorem get_nD (F : Str → U) : ∀ {B : List Str} {x : Str}, x ∈ B → getK (nD B F) (.inr x) = some (F x)
  | [], x, h => by simp at h
  | y :: B, x, h => by
    show getK ((.inr y, F y) :: nD B F) (.inr x) = _
    by_cases e : y = x
    · subst e; simp [getK]
    · have hx : x ∈ B := by
        rcases List.mem_cons.mp h with rfl | h
        · exact absurd rfl e
        · exact h
      have := get_nD F hx
      simpa [getK, e] using this
theorem lay_names : ∀ {cm fr : List Str}, cm.Nodup → fr.length = cm.length → ∃ f : Str → Str, cm.map f = fr
  | [], fr, _, h => ⟨id, by simp at h; simp [h]⟩
  | x :: cm, [], _, h => by simp at h
  | x :: cm, y :: fr, n, h => by
    obtain ⟨n1, n2⟩ := List.nodup_cons.mp n
    obtain ⟨f, e⟩ := lay_names (fr := fr) n2 (by simpa using h)
    refine ⟨fun z => if z = x then y else f z, ?_⟩
    rw [List.map_cons, if_pos rfl, ← e]
    congr 1
    apply List.map_congr_left
    intro z hz
    have hzx : ¬ z = x := fun e => n1 (by rw [← e]; exact hz)
    rw [if_neg hzx]
theorem pairs_trK : ∀ l : List Str, pairsU (l.map fun a => U.tup [.str a, .bl true]) = some (trK l)
  | [] => rfl
  | a :: l => by
    have ih := pairs_trK l
    show pairsU (.tup [.str a, .bl true] :: l.map fun a => U.tup [.str a, .bl true]) = _
    simp [pairsU, keyU, ih, trK]
theorem cst_of {u : U} {env : Env'} {S : Sto} : cCst u env S = some (u, S) := rfl
def Rw.nms : Rw → List Str
  | .put _ x _ => [x]
  | .copy _ x a => [x, a]
  | .ask _ x => [x]
  | .say _ a => [a]
  | .bin _ _ x a b => [x, a, b]
theorem nms_mem (r : Rw) (x : Str) : x ∈ r.nms ↔ x ∈ r.asks ∨ r.gives = some x := by
  cases r <;> simp [Rw.nms, Rw.asks, Rw.gives] <;> constructor <;> intro h <;> (try (rcases h with h | h | h)) <;> (try (rcases h with h | h)) <;> simp_all
theorem nms_len (r : Rw) : r.nms.length ≤ 3 := by cases r <;> simp [Rw.nms]
noncomputable def ptL : Cm U := (cLc (itSeq (cSl false (cVar 7) (cPart (cCst (.int 2))) cNoPart)) (.nm 8) (cTru (cIsi "str" (cVar 8))) (cArg oTup (cCons (cVar 8) (cCons (cCst (.bl true)) cNil))) [8])
noncomputable def ptA : Sm := (sExpr (cMt "list" appU (cVar 3) (cCons (cBin ixU (cVar 7) (cCst (.int 0))) cNil)))
noncomputable def ptU : Sm := (sExpr (cMt "dict" updU (cVar 2) (cCons (cArg (on1 (dictU false)) (cCons ptL cNil)) cNil)))
noncomputable def ptE : Sm := (sIf (cTru (cBin (eqU false) (cBin ixU (cVar 6) (cCst (.int 0))) (cCst (.str "if"))))
  (sSetI setD (cVar 2) (cBin ixU (cVar 6) (cCst (.int 1))) (cCst (.bl true)))
  sNil)
noncomputable def ptR : Sm := (sFor (itSeq (cVar 5)) (.nm 7) (sSeq ptA ptU))
noncomputable def pt1 : Sm := (sPar3 1 2 3 (cCons (cLc (itSeq (cVar 0)) (.nm 4) cYes (cBin ixU (cVar 4) (cCst (.int 0))) [4]) (cCons cDNew (cCons (cArg oLstM cNil) cNil))))
theorem parts_cut : c__law_parts_of = sSeq pt1 (sSeq (sFor (itSeq (cVar 0)) (.tp [(.nm 4), (.nm 5), (.nm 6)]) (sSeq ptR ptE)) (sRet (cArg oTup (cCons (cVar 1) (cCons (cArg (on1 (listDU false)) (cCons (cVar 2) cNil)) (cCons (cVar 3) cNil)))))) := rfl
theorem ptL_ok (r : Rw) (env : Env') (S : Sto) (h7 : env[7]? = some (some (encR r))) (h9 : env.length = 9) : ptL env S = some (.lst (r.nms.map fun a => U.tup [.str a, .bl true]), S) := by
  have z2 : (2 : Nat) ≤ sizeLine := le_size _ (by omega)
  have z0 : (0 : Nat) ≤ sizeLine := le_size _ (by omega)
  have z1 : (1 : Nat) ≤ sizeLine := le_size _ (by omega)
  have z3 : (3 : Nat) ≤ sizeLine := le_size _ (by omega)
  obtain ⟨x0, x1, x2, x3, x4, x5, x6, x7, x8, rfl⟩ : ∃ x0 x1 x2 x3 x4 x5 x6 x7 x8, env = [x0, x1, x2, x3, x4, x5, x6, x7, x8] := by
    match env, h9 with
    | [x0, x1, x2, x3, x4, x5, x6, x7, x8], _ => exact ⟨x0, x1, x2, x3, x4, x5, x6, x7, x8, rfl⟩
  simp at h7
  subst h7
  unfold ptL
  cases r with
  | bin w n g a b => cases w <;> simp [encR, Wd.s, wipeE, Rw.nms, z0, z1, z2, z3]
  | _ => simp [encR, wipeE, Rw.nms, z0, z1, z2, z3]
def addR (acc : List Str) (r : Rw) : List Str := addS acc (addS [] r.nms)
theorem addR_len (acc : List Str) (r : Rw) : (addR acc r).length ≤ acc.length + 3 := by
  have h1 := addS_len (addS [] r.nms) acc
  have h2 := addS_len r.nms []
  have h3 := nms_len r
  simp only [List.length_nil, Nat.zero_add] at h2
  unfold addR
  omega
theorem ptB_ok (r : Rw) {acc : List Str} {ns : List Int} {S : Sto} {d k : Nat} (hdk : d ≠ k) (hd : S[d]? = some (.dct (trK acc))) (hk : S[k]? = some (.lst (ns.map .int))) (al : acc.length ≤ 10000) (nl : ns.length ≤ 10000) (x0 x1 x4 x5 x6 x8 : Option U) :
    sSeq ptA ptU [x0, x1, some (.ref d), some (.ref k), x4, x5, x6, some (encR r), x8] S = some (.nx, [x0, x1, some (.ref d), some (.ref k), x4, x5, x6, some (encR r), x8], (S.set k (.lst ((ns ++ [r.num]).map .int))).set d (.dct (trK (addR acc r)))) := by
  have i0 := ix_encR r
  have zl : (ns.map U.int).length < sizeLine := lt_size _ (by simp; omega)
  have eA : ptA [x0, x1, some (.ref d), some (.ref k), x4, x5, x6, some (encR r), x8] S = some (.nx, [x0, x1, some (.ref d), some (.ref k), x4, x5, x6, some (encR r), x8], S.set k (.lst ((ns ++ [r.num]).map .int))) := by
    have em : (ns ++ [r.num]).map U.int = ns.map .int ++ [.int r.num] := by simp
    rw [em]
    generalize encR r = w at *
    generalize ns.map U.int = L at *
    unfold ptA
    simp [-ixU_ap, i0, hk, zl, appU]
  refine (sqn eA).trans ?_
  have hd' : (S.set k (.lst ((ns ++ [r.num]).map .int)))[d]? = some (.dct (trK acc)) := by
    rw [List.getElem?_set_ne (Ne.symm hdk)]; exact hd
  generalize S.set k (.lst ((ns ++ [r.num]).map .int)) = T at *
  have eL := ptL_ok r [x0, x1, some (.ref d), some (.ref k), x4, x5, x6, some (encR r), x8] T rfl rfl
  have eD : cArg (on1 (dictU false)) (cCons ptL cNil) [x0, x1, some (.ref d), some (.ref k), x4, x5, x6, some (encR r), x8] T = some (.dct (trK (addS [] r.nms)), T) := by
    refine arg_of (cons_of eL (nil_of _ _)) ?_
    have pr := pairs_trK r.nms
    have me := merge_trK r.nms []
    have e0 : trK [] = ([] : List (Key × U)) := rfl
    rw [e0] at me
    generalize (r.nms.map fun a => U.tup [.str a, .bl true]) = L at *
    simp [dictU, pr, me]
  have zu : (trK acc).length + (trK (addS [] r.nms)).length ≤ sizeLine := le_size _ (by
    have h2 := addS_len r.nms []
    have h3 := nms_len r
    simp only [List.length_nil, Nat.zero_add] at h2
    rw [trK_len, trK_len]; omega)
  have me := merge_trK (addS [] r.nms) acc
  unfold addR
  rw [← me]
  unfold ptU
  generalize cArg (on1 (dictU false)) (cCons ptL cNil) = f at *
  generalize trK (addS [] r.nms) = D2 at *
  generalize trK acc = D at *
  generalize encR r = w at *
  simp [eD, updU, dctU, zu, hd']
theorem pt_loop {d k : Nat} (hdk : d ≠ k) (x0 x1 x4 x5 x6 x8 : Option U) : ∀ (rs : List Rw) (acc : List Str) (ns : List Int) (S : Sto) (x7 : Option U), S[d]? = some (.dct (trK acc)) → S[k]? = some (.lst (ns.map .int)) → acc.length + 3 * rs.length ≤ 10000 → ns.length + rs.length ≤ 10000 →
    ∃ y7 S', loopF (.nm 7) (sSeq ptA ptU) (rs.map encR) [x0, x1, some (.ref d), some (.ref k), x4, x5, x6, x7, x8] S = some (.nx, [x0, x1, some (.ref d), some (.ref k), x4, x5, x6, y7, x8], S') ∧ S'[d]? = some (.dct (trK (rs.foldl addR acc))) ∧ S'[k]? = some (.lst ((ns ++ rs.map Rw.num).map .int)) ∧ S'.length = S.length ∧ ∀ i, i ≠ d → i ≠ k → S'[i]? = S[i]?
  | [], acc, ns, S, x7, hd, hk, _, _ => ⟨x7, S, by rw [List.map_nil]; exact loopF_nil _ _ _ _, hd, by simpa using hk, rfl, fun _ _ _ => rfl⟩
  | r :: rs, acc, ns, S, x7, hd, hk, al, nl => by
    simp only [List.length_cons] at al nl
    have e1 := ptB_ok r hdk hd hk (by omega) (by omega) x0 x1 x4 x5 x6 x8
    have ar := addR_len acc r
    obtain ⟨y7, S', e2, d2, k2, l2, o2⟩ := pt_loop hdk x0 x1 x4 x5 x6 x8 rs (addR acc r) (ns ++ [r.num]) ((S.set k (.lst ((ns ++ [r.num]).map .int))).set d (.dct (trK (addR acc r)))) (some (encR r)) (List.getElem?_set_self (by rw [List.length_set]; exact cell_lt hd)) (by rw [List.getElem?_set_ne hdk]; exact List.getElem?_set_self (cell_lt hk)) (by omega) (by simp; omega)
    refine ⟨y7, S', ?_, d2, by rw [k2]; simp, by rw [l2]; simp, fun i hi hk' => ?_⟩
    · rw [List.map_cons, loopF_cons]
      simp only [bindP_nm, setAll_cons, setAll_nil, List.set_cons_succ, List.set_cons_zero, e1]
      exact e2
    · rw [o2 i hi hk', List.getElem?_set_ne (Ne.symm hi), List.getElem?_set_ne (Ne.symm hk')]
def addB (acc : List Str) (b : Bk) : List Str := match b.en with
  | .iff a _ _ => if a ∈ b.rows.foldl addR acc then b.rows.foldl addR acc else b.rows.foldl addR acc ++ [a]
  | _ => b.rows.foldl addR acc
theorem addRs_len : ∀ (rs : List Rw) (acc : List Str), (rs.foldl addR acc).length ≤ acc.length + 3 * rs.length
  | [], acc => by simp
  | r :: rs, acc => by
    have h1 := addRs_len rs (addR acc r)
    have h2 := addR_len acc r
    simp only [List.foldl_cons, List.length_cons]
    omega
theorem addB_len (acc : List Str) (b : Bk) : (addB acc b).length ≤ acc.length + 3 * b.rows.length + 1 := by
  have h := addRs_len b.rows acc
  unfold addB
  cases b.en with
  | iff a _ _ => simp only; split <;> simp <;> omega
  | _ => simp only; omega
theorem ptE_ok (e : En) {acc : List Str} {S : Sto} {d : Nat} (hd : S[d]? = some (.dct (trK acc))) (al : acc.length ≤ 10000) (x0 x1 x3 x4 x5 x7 x8 : Option U) :
    ptE [x0, x1, some (.ref d), x3, x4, x5, some (encE e), x7, x8] S = some (.nx, [x0, x1, some (.ref d), x3, x4, x5, some (encE e), x7, x8], match e with
      | .iff a _ _ => S.set d (.dct (trK (if a ∈ acc then acc else acc ++ [a])))
      | _ => S) := by
  have zl : (trK acc).length < sizeLine := lt_size _ (by rw [trK_len]; omega)
  unfold ptE
  cases e with
  | go b => simp [encE]
  | stop => simp [encE]
  | iff a b c =>
    simp only
    rw [← put_trK]
    generalize trK acc = D at *
    simp [encE, hd, zl]
theorem pe_loop {d k : Nat} (hdk : d ≠ k) (x0 x1 x8 : Option U) : ∀ (bs : List Bk) (acc : List Str) (ns : List Int) (S : Sto) (x4 x5 x6 x7 : Option U), S[d]? = some (.dct (trK acc)) → S[k]? = some (.lst (ns.map .int)) → (∀ b ∈ bs, b.rows.length ≤ 5) → acc.length + 16 * bs.length ≤ 5000 → ns.length + 5 * bs.length ≤ 5000 →
    ∃ y4 y5 y6 y7 S', loopF (.tp [(.nm 4), (.nm 5), (.nm 6)]) (sSeq ptR ptE) (bs.map encB) [x0, x1, some (.ref d), some (.ref k), x4, x5, x6, x7, x8] S = some (.nx, [x0, x1, some (.ref d), some (.ref k), y4, y5, y6, y7, x8], S') ∧ S'[d]? = some (.dct (trK (bs.foldl addB acc))) ∧ S'[k]? = some (.lst ((ns ++ (bs.flatMap Bk.rows).map Rw.num).map .int)) ∧ S'.length = S.length ∧ ∀ i, i ≠ d → i ≠ k → S'[i]? = S[i]?
  | [], acc, ns, S, x4, x5, x6, x7, hd, hk, _, _, _ => ⟨x4, x5, x6, x7, S, by rw [List.map_nil]; exact loopF_nil _ _ _ _, hd, by simpa using hk, rfl, fun _ _ _ => rfl⟩
  | b :: bs, acc, ns, S, x4, x5, x6, x7, hd, hk, hr, al, nl => by
    simp only [List.length_cons] at al nl
    have hb := hr b (by simp)
    obtain ⟨y7, S1, e1, d1, k1, l1, o1⟩ := pt_loop hdk x0 x1 (some (.str b.name)) (some (.tup (b.rows.map encR))) (some (encE b.en)) x8 b.rows acc ns S x7 hd hk (by omega) (by omega)
    have rl := addRs_len b.rows acc
    have e2 := ptE_ok b.en d1 (by omega) x0 x1 (some (.ref k)) (some (.str b.name)) (some (.tup (b.rows.map encR))) y7 x8
    have bl := addB_len acc b
    obtain ⟨S2, hS2, d2, k2, l2, o2⟩ : ∃ S2, (match b.en with | .iff a _ _ => S1.set d (.dct (trK (if a ∈ b.rows.foldl addR acc then b.rows.foldl addR acc else b.rows.foldl addR acc ++ [a]))) | _ => S1) = S2 ∧ S2[d]? = some (.dct (trK (addB acc b))) ∧ S2[k]? = some (.lst ((ns ++ b.rows.map Rw.num).map .int)) ∧ S2.length = S1.length ∧ ∀ i, i ≠ d → S2[i]? = S1[i]? := by
      refine ⟨_, rfl, ?_⟩
      unfold addB
      cases b.en with
      | iff a _ _ => exact ⟨List.getElem?_set_self (cell_lt d1), by rw [List.getElem?_set_ne hdk]; exact k1, by simp, fun i hi => List.getElem?_set_ne (Ne.symm hi)⟩
      | _ => exact ⟨d1, k1, rfl, fun _ _ => rfl⟩
    obtain ⟨z4, z5, z6, z7, S', e3, d3, k3, l3, o3⟩ := pe_loop hdk x0 x1 x8 bs (addB acc b) (ns ++ b.rows.map Rw.num) S2 (some (.str b.name)) (some (.tup (b.rows.map encR))) (some (encE b.en)) y7 d2 k2 (fun c hc => hr c (by simp [hc])) (by omega) (by simp; omega)
    refine ⟨z4, z5, z6, z7, S', ?_, d3, by rw [k3]; simp, by rw [l3, l2, l1], fun i hi hk' => by rw [o3 i hi hk', o2 i hi, o1 i hi hk']⟩
    rw [List.map_cons, loopF_cons]
    have bp : bindP (.tp [(.nm 4), (.nm 5), (.nm 6)]) (encB b) = some [(4, .str b.name), (5, .tup (b.rows.map encR)), (6, encE b.en)] := rfl
    have it : itSeq (cVar 5) [x0, x1, some (.ref d), some (.ref k), some (.str b.name), some (.tup (b.rows.map encR)), some (encE b.en), x7, x8] S = some (b.rows.map encR, S) := by simp
    have eR : ptR [x0, x1, some (.ref d), some (.ref k), some (.str b.name), some (.tup (b.rows.map encR)), some (encE b.en), x7, x8] S = some (.nx, [x0, x1, some (.ref d), some (.ref k), some (.str b.name), some (.tup (b.rows.map encR)), some (encE b.en), y7, x8], S1) := (sFor_of it).trans e1
    rw [hS2] at e2
    have eB := (sqn eR).trans e2
    simp only [bp, setAll_cons, setAll_nil, List.set_cons_succ, List.set_cons_zero, eB]
    exact e3
theorem addRs_mem {x : Str} : ∀ (rs : List Rw) (acc : List Str), x ∈ rs.foldl addR acc ↔ x ∈ acc ∨ ∃ r ∈ rs, x ∈ r.nms
  | [], acc => by simp
  | r :: rs, acc => by
    rw [List.foldl_cons, addRs_mem rs]
    unfold addR
    rw [addS_mem, addS_mem]
    simp [or_assoc]
theorem addB_mem {x : Str} (acc : List Str) (b : Bk) : x ∈ addB acc b ↔ x ∈ acc ∨ (∃ r ∈ b.rows, x ∈ r.nms) ∨ x ∈ b.en.asks := by
  unfold addB
  cases b.en with
  | iff a _ _ =>
    simp only [En.asks, List.mem_singleton]
    by_cases h : a ∈ b.rows.foldl addR acc
    · rw [if_pos h, addRs_mem]
      rw [addRs_mem] at h
      constructor
      · rintro (h | h)
        · exact .inl h
        · exact .inr (.inl h)
      · rintro (h1 | h1 | rfl)
        · exact .inl h1
        · exact .inr h1
        · exact h
    · rw [if_neg h, List.mem_append, List.mem_singleton, addRs_mem, or_assoc]
  | _ => simp [En.asks, addRs_mem]
theorem addBs_mem {x : Str} : ∀ (bs : List Bk) (acc : List Str), x ∈ bs.foldl addB acc ↔ x ∈ acc ∨ ∃ b ∈ bs, (∃ r ∈ b.rows, x ∈ r.nms) ∨ x ∈ b.en.asks
  | [], acc => by simp
  | b :: bs, acc => by
    rw [List.foldl_cons, addBs_mem bs, addB_mem]
    simp [or_assoc]
theorem addR_nd {acc : List Str} (h : acc.Nodup) (r : Rw) : (addR acc r).Nodup := addS_nodup _ _ h
theorem addRs_nd : ∀ (rs : List Rw) {acc : List Str}, acc.Nodup → (rs.foldl addR acc).Nodup
  | [], _, h => h
  | r :: rs, _, h => addRs_nd rs (addR_nd h r)
theorem addB_nd {acc : List Str} (h : acc.Nodup) (b : Bk) : (addB acc b).Nodup := by
  have n := addRs_nd b.rows h
  unfold addB
  cases b.en with
  | iff a _ _ =>
    simp only
    by_cases hg : a ∈ b.rows.foldl addR acc
    · rw [if_pos hg]; exact n
    · rw [if_neg hg]
      exact List.nodup_append.mpr ⟨n, by simp, fun x hx y hy e => hg (by rw [List.mem_singleton.mp hy] at e; exact e ▸ hx)⟩
  | _ => exact n
theorem addBs_nd : ∀ (bs : List Bk) {acc : List Str}, acc.Nodup → (bs.foldl addB acc).Nodup
  | [], _, h => h
  | b :: bs, _, h => addBs_nd bs (addB_nd h b)
theorem parts_ok {p : List Bk} (hr : ∀ b ∈ p, b.rows.length ≤ 5) (pl : p.length ≤ 24) (S : Sto) : ∃ (k : Nat) (S' : Sto), F__law_parts_of [encP p] S = some (.tup [.lst ((p.map Bk.name).map .str), .lst ((p.foldl addB []).map .str), .ref k], S') ∧ S'[k]? = some (.lst (((p.flatMap Bk.rows).map Rw.num).map .int)) ∧ S.length ≤ k ∧ Kz S S' := by
  have z2 : (3 : Nat) ≤ sizeLine := le_size _ (by omega)
  have zp : ((p.map Bk.name).map U.str).length ≤ sizeLine := le_size _ (by simp; omega)
  have m := mapC_all (i := 4) (c := cBin ixU (cVar 4) (cCst (.int 0))) (env := [some (encP p), none, none, none, none, none, none, none, none]) (S := S) (enc := encB) (f := fun b => U.str b.name) p fun b _ => by simp
  have e1 : pt1 [some (encP p), none, none, none, none, none, none, none, none] S = some (.nx, [some (encP p), some (.lst ((p.map Bk.name).map .str)), some (.ref S.length), some (.ref (S.length + 1)), none, none, none, none, none], S ++ [.dct [], .lst []]) := by
    have em : p.map (fun b => U.str b.name) = (p.map Bk.name).map .str := by simp
    rw [em] at m
    have it : itSeq (cVar 0) [some (encP p), none, none, none, none, none, none, none, none] S = some (p.map encB, S) := by unfold encP; simp
    have eL := cLc_of (vs := [4]) it m zp
    have w0 : wipeE [some (encP p), none, none, none, none, none, none, none, none] [4] = [some (encP p), none, none, none, none, none, none, none, none] := rfl
    unfold pt1
    generalize cLc (itSeq (cVar 0)) (.nm 4) cYes (cBin ixU (cVar 4) (cCst (.int 0))) [4] = f at *
    generalize (p.map Bk.name).map U.str = L at *
    generalize encP p = P at *
    simp [eL]
  obtain ⟨y4, y5, y6, y7, S', e2, d2, k2, l2, o2⟩ := pe_loop (d := S.length) (k := S.length + 1) (by omega) (some (encP p)) (some (.lst ((p.map Bk.name).map .str))) none p [] [] (S ++ [O.dct [], O.lst []]) none none none none (by simp [trK]) (by simp) hr (by simp; omega) (by simp; omega)
  have it : itSeq (cVar 0) [some (encP p), some (.lst ((p.map Bk.name).map .str)), some (.ref S.length), some (.ref (S.length + 1)), none, none, none, none, none] (S ++ [O.dct [], O.lst []]) = some (p.map encB, S ++ [.dct [], .lst []]) := by
    unfold encP
    generalize (p.map Bk.name).map U.str = L at *
    simp
  have e3 := (sFor_of it).trans e2
  refine ⟨S.length + 1, S', ?_, by simpa using k2, by omega, ?_⟩
  · refine runF_of rfl rfl (parts_cut ▸ (sqn e1).trans ((sqn e3).trans (sRet_of ?_)))
    have kt := keys_trK (p.foldl addB [])
    generalize encP p = P at *
    generalize (p.map Bk.name).map U.str = L at *
    generalize hK : trK (p.foldl addB []) = D at *
    have hc : cArg (on1 (listDU false)) (cCons (cVar 2) cNil) [some P, some (.lst L), some (.ref S.length), some (.ref (S.length + 1)), y4, y5, y6, y7, none] S' = some (.lst ((p.foldl addB []).map .str), S') := by
      generalize (p.foldl addB []).map U.str = L2 at *
      simp [listDU, dctU, d2, outU, kt]
    exact arg_of (cons_of (cVar_of rfl) (cons_of hc (cons_of (cVar_of rfl) (nil_of _ S')))) (by unfold oTup; simp only [List.length_cons, List.length_nil, z2, if_true])
  · exact ⟨by rw [l2]; simp, fun i hi => by rw [o2 i (by omega) (by omega), List.getElem?_append_left hi]⟩
end K14
namespace K14
open PySem PySem.Spec PyProof.Rows L2 OF
def nI (ns : List Int) (κ : Int → Int) : List (Key × U) := ns.map fun n => (.inl n, .int (κ n))
theorem get_nI (κ : Int → Int) : ∀ {ns : List Int} {n : Int}, n ∈ ns → getK (nI ns κ) (.inl n) = some (.int (κ n))
  | m :: ns, n, h => by
    unfold nI at *
    rw [List.map_cons, getK_cons]
    by_cases e : m = n
    · subst e
      simp
    · have : ¬ ((.inl m : Key) = .inl n) := fun q => e (Sum.inl.inj q)
      rw [if_neg this]
      exact get_nI κ ((List.mem_cons.mp h).resolve_left (Ne.symm e))
def DS (l : List Str) (f : Str → Str) : U := .dct (nD l fun x => .str (f x))
def DI (l : List Int) (f : Int → Int) : U := .dct (nI l f)
theorem dix_DS {l : List Str} {f : Str → Str} {x : Str} (h : x ∈ l) (S : Sto) : dixU (DS l f) (.str x) S = some (.str (f x), S) := by
  have := get_nD (fun x => .str (f x)) h
  unfold DS
  simp [dixU, dctU, keyU, this]
theorem dix_DI {l : List Int} {f : Int → Int} {x : Int} (h : x ∈ l) (S : Sto) : dixU (DI l f) (.int x) S = some (.int (f x), S) := by
  have := get_nI f h
  unfold DI
  simp [dixU, dctU, keyU, this]
noncomputable def otP : Sm := (sAsg (cArg (on1 tupleU) (cCons (cLc (itSeq (cSl false (cVar 9) (cPart (cCst (.int 2))) cNoPart)) (.nm 11) cYes (cIf (cTru (cIsi "str" (cVar 11))) (cBin dixU (cVar 2) (cVar 11)) (cVar 11)) [11]) cNil)) (gmName 10))
noncomputable def otA : Sm := (sExpr (cMt "list" appU (cVar 8) (cCons (cBin (addU false) (cArg oTup (cCons (cBin dixU (cVar 3) (cBin ixU (cVar 9) (cCst (.int 0)))) (cCons (cBin ixU (cVar 9) (cCst (.int 1))) cNil))) (cVar 10)) cNil)))
noncomputable def otR : Sm := (sFor (itSeq (cVar 6)) (.nm 9) (sSeq otP otA))
noncomputable def otE : Sm := (sIf (cTru (cBin (eqU false) (cBin ixU (cVar 7) (cCst (.int 0))) (cCst (.str "if"))))
  (sAsg (cArg oTup (cCons (cCst (.str "if")) (cCons (cBin dixU (cVar 2) (cBin ixU (cVar 7) (cCst (.int 1)))) (cCons (cBin dixU (cVar 1) (cBin ixU (cVar 7) (cCst (.int 2)))) (cCons (cBin dixU (cVar 1) (cBin ixU (cVar 7) (cCst (.int 3)))) cNil))))) (gmName 7))
  (sIf (cTru (cBin (eqU false) (cBin ixU (cVar 7) (cCst (.int 0))) (cCst (.str "go"))))
  (sAsg (cArg oTup (cCons (cCst (.str "go")) (cCons (cBin dixU (cVar 1) (cBin ixU (cVar 7) (cCst (.int 1)))) cNil))) (gmName 7))
  sNil))
noncomputable def otX : Sm := (sExpr (cMt "list" appU (cVar 4) (cCons (cArg oTup (cCons (cBin dixU (cVar 1) (cVar 5)) (cCons (cArg (on1 tupleU) (cCons (cVar 8) cNil)) (cCons (cVar 7) cNil)))) cNil)))
noncomputable def otB : Sm := sSeq (sAsg (cArg oLstM cNil) (gmName 8)) (sSeq otR (sSeq otE otX))
theorem other_cut : c__law_otherwise = sSeq (sAsg (cArg oLstM cNil) (gmName 4)) (sSeq (sFor (itSeq (cVar 0)) (.tp [(.nm 5), (.nm 6), (.nm 7)]) otB) (sRet (cVar 4))) := rfl
variable {β ν : Str → Str} {κ : Int → Int} {bs ws : List Str} {ns : List Int}
theorem otPA_ok (r : Rw) (hw : ∀ x ∈ r.nms, x ∈ ws) (hn : r.num ∈ ns) {S : Sto} {m : Nat} {ac : List U} (hm : S[m]? = some (.lst ac)) (al : ac.length ≤ 10000) (x0 x1 x4 x5 x6 x7 x10 x11 : Option U) :
    ∃ y10, sSeq otP otA [x0, x1, some (DS ws ν), some (DI ns κ), x4, x5, x6, x7, some (.ref m), some (encR r), x10, x11] S = some (.nx, [x0, x1, some (DS ws ν), some (DI ns κ), x4, x5, x6, x7, some (.ref m), some (encR r), y10, x11], S.set m (.lst (ac ++ [encR (rnR ν κ r)]))) := by
  have z0 : (0 : Nat) ≤ sizeLine := le_size _ (by omega)
  have z1 : (1 : Nat) ≤ sizeLine := le_size _ (by omega)
  have z2 : (2 : Nat) ≤ sizeLine := le_size _ (by omega)
  have z3 : (3 : Nat) ≤ sizeLine := le_size _ (by omega)
  have z4 : (4 : Nat) ≤ sizeLine := le_size _ (by omega)
  have z5 : (5 : Nat) ≤ sizeLine := le_size _ (by omega)
  have zl : ac.length < sizeLine := lt_size _ (by omega)
  have dw : ∀ x, x ∈ ws → ∀ S, dixU (DS ws ν) (.str x) S = some (.str (ν x), S) := fun x hx S => dix_DS hx S
  have dn := fun S => dix_DI (f := κ) hn S
  generalize DS ws ν = DW at *
  generalize DI ns κ = DN at *
  cases r with
  | bin w n g a b =>
    have h1 := dw g (hw g (by simp [Rw.nms]))
    have h2 := dw a (hw a (by simp [Rw.nms]))
    have h3 := dw b (hw b (by simp [Rw.nms]))
    refine ⟨some (.tup [.str (ν g), .str (ν a), .str (ν b)]), ?_⟩
    simp only [Rw.num] at dn
    unfold otP otA
    cases w <;> simp [-dixU_ap, encR, Wd.s, wipeE, z0, z1, z2, z3, z4, z5, h1, h2, h3, dn, hm, zl, appU, Rw.num, rnR] <;> rfl
  | put n g v =>
    have h1 := dw g (hw g (by simp [Rw.nms]))
    refine ⟨some (.tup [.str (ν g), .int v]), ?_⟩
    simp only [Rw.num] at dn
    unfold otP otA
    simp [-dixU_ap, encR, wipeE, z0, z1, z2, z3, z4, z5, h1, dn, hm, zl, appU, Rw.num, rnR] <;> rfl
  | copy n g a =>
    have h1 := dw g (hw g (by simp [Rw.nms]))
    have h2 := dw a (hw a (by simp [Rw.nms]))
    refine ⟨some (.tup [.str (ν g), .str (ν a)]), ?_⟩
    simp only [Rw.num] at dn
    unfold otP otA
    simp [-dixU_ap, encR, wipeE, z0, z1, z2, z3, z4, z5, h1, h2, dn, hm, zl, appU, Rw.num, rnR] <;> rfl
  | ask n g =>
    have h1 := dw g (hw g (by simp [Rw.nms]))
    refine ⟨some (.tup [.str (ν g)]), ?_⟩
    simp only [Rw.num] at dn
    unfold otP otA
    simp [-dixU_ap, encR, wipeE, z0, z1, z2, z3, z4, z5, h1, dn, hm, zl, appU, Rw.num, rnR] <;> rfl
  | say n a =>
    have h1 := dw a (hw a (by simp [Rw.nms]))
    refine ⟨some (.tup [.str (ν a)]), ?_⟩
    simp only [Rw.num] at dn
    unfold otP otA
    simp [-dixU_ap, encR, wipeE, z0, z1, z2, z3, z4, z5, h1, dn, hm, zl, appU, Rw.num, rnR] <;> rfl
theorem ot_rows {m : Nat} (x0 x1 x4 x5 x6 x7 x11 : Option U) : ∀ (rs : List Rw) (ac : List Rw) (S : Sto) (x9 x10 : Option U), (∀ r ∈ rs, (∀ x ∈ r.nms, x ∈ ws) ∧ r.num ∈ ns) → S[m]? = some (.lst (ac.map encR)) → ac.length + rs.length ≤ 10000 →
    ∃ y9 y10, loopF (.nm 9) (sSeq otP otA) (rs.map encR) [x0, x1, some (DS ws ν), some (DI ns κ), x4, x5, x6, x7, some (.ref m), x9, x10, x11] S = some (.nx, [x0, x1, some (DS ws ν), some (DI ns κ), x4, x5, x6, x7, some (.ref m), y9, y10, x11], S.set m (.lst ((ac ++ rs.map (rnR ν κ)).map encR)))
  | [], ac, S, x9, x10, _, hm, _ => ⟨x9, x10, by
    have : S.set m (.lst ((ac ++ [].map (rnR ν κ)).map encR)) = S := by
      obtain ⟨h0, e0⟩ := List.getElem?_eq_some_iff.mp hm
      simp only [List.map_nil, List.append_nil]
      rw [← e0, List.set_getElem_self]
    rw [this, List.map_nil]
    exact loopF_nil _ _ _ _⟩
  | r :: rs, ac, S, x9, x10, h, hm, al => by
    simp only [List.length_cons] at al
    obtain ⟨w10, e1⟩ := otPA_ok (ν := ν) (κ := κ) r (h r (by simp)).1 (h r (by simp)).2 hm (by simp; omega) x0 x1 x4 x5 x6 x7 x10 x11
    have em : ac.map encR ++ [encR (rnR ν κ r)] = (ac ++ [rnR ν κ r]).map encR := by simp
    rw [em] at e1
    obtain ⟨y9, y10, e2⟩ := ot_rows x0 x1 x4 x5 x6 x7 x11 rs (ac ++ [rnR ν κ r]) (S.set m (.lst ((ac ++ [rnR ν κ r]).map encR))) (some (encR r)) w10 (fun r' h' => h r' (by simp [h'])) (List.getElem?_set_self (cell_lt hm)) (by simp; omega)
    refine ⟨y9, y10, ?_⟩
    rw [List.set_set] at e2
    rw [List.map_cons, loopF_cons]
    simp only [bindP_nm, setAll_cons, setAll_nil, List.set_cons_succ, List.set_cons_zero, e1]
    rw [e2]
    simp
theorem otE_ok (e : En) (he : ∀ x ∈ e.asks, x ∈ ws) (hg : ∀ x ∈ e.goals, x ∈ bs) (S : Sto) (x0 x3 x4 x5 x6 x8 x9 x10 x11 : Option U) :
    otE [x0, some (DS bs β), some (DS ws ν), x3, x4, x5, x6, some (encE e), x8, x9, x10, x11] S = some (.nx, [x0, some (DS bs β), some (DS ws ν), x3, x4, x5, x6, some (encE (rnE β ν e)), x8, x9, x10, x11], S) := by
  have z2 : (2 : Nat) ≤ sizeLine := le_size _ (by omega)
  have z4 : (4 : Nat) ≤ sizeLine := le_size _ (by omega)
  have dw : ∀ x, x ∈ ws → ∀ S, dixU (DS ws ν) (.str x) S = some (.str (ν x), S) := fun x hx S => dix_DS hx S
  have db : ∀ x, x ∈ bs → ∀ S, dixU (DS bs β) (.str x) S = some (.str (β x), S) := fun x hx S => dix_DS hx S
  generalize DS ws ν = DW at *
  generalize DS bs β = DB at *
  unfold otE
  cases e with
  | go b =>
    have h1 := db b (hg b (by simp [En.goals]))
    simp [-dixU_ap, encE, rnE, h1, z2]
  | iff a b c =>
    have h1 := dw a (he a (by simp [En.asks]))
    have h2 := db b (hg b (by simp [En.goals]))
    have h3 := db c (hg c (by simp [En.goals]))
    simp [-dixU_ap, encE, rnE, h1, h2, h3, z4]
  | stop => simp [encE, rnE]
theorem otB_ok (b : Bk) (hb : b.name ∈ bs) (hr : ∀ r ∈ b.rows, (∀ x ∈ r.nms, x ∈ ws) ∧ r.num ∈ ns) (he : ∀ x ∈ b.en.asks, x ∈ ws) (hg : ∀ x ∈ b.en.goals, x ∈ bs) (rl : b.rows.length ≤ 1000) {S : Sto} {m : Nat} {ac : List Bk} (hm : S[m]? = some (.lst (ac.map encB))) (al : ac.length ≤ 1000) (x0 x8 x9 x10 x11 : Option U) :
    ∃ y7 y8 y9 y10 S', otB [x0, some (DS bs β), some (DS ws ν), some (DI ns κ), some (.ref m), some (.str b.name), some (.tup (b.rows.map encR)), some (encE b.en), x8, x9, x10, x11] S = some (.nx, [x0, some (DS bs β), some (DS ws ν), some (DI ns κ), some (.ref m), some (.str b.name), some (.tup (b.rows.map encR)), y7, y8, y9, y10, x11], S') ∧ S'[m]? = some (.lst ((ac ++ [rnB β ν κ b]).map encB)) ∧ S.length ≤ S'.length ∧ ∀ i, i < S.length → i ≠ m → S'[i]? = S[i]? := by
  have ml := cell_lt hm
  have e1 : sAsg (cArg oLstM cNil) (gmName 8) [x0, some (DS bs β), some (DS ws ν), some (DI ns κ), some (.ref m), some (.str b.name), some (.tup (b.rows.map encR)), some (encE b.en), x8, x9, x10, x11] S = some (.nx, [x0, some (DS bs β), some (DS ws ν), some (DI ns κ), some (.ref m), some (.str b.name), some (.tup (b.rows.map encR)), some (encE b.en), some (.ref S.length), x9, x10, x11], S ++ [.lst []]) := asg_of rfl
  have it : itSeq (cVar 6) [x0, some (DS bs β), some (DS ws ν), some (DI ns κ), some (.ref m), some (.str b.name), some (.tup (b.rows.map encR)), some (encE b.en), some (.ref S.length), x9, x10, x11] (S ++ [O.lst []]) = some (b.rows.map encR, S ++ [.lst []]) := by
    generalize b.rows.map encR = L at *
    generalize DS ws ν = DW at *
    generalize DS bs β = DB at *
    generalize DI ns κ = DN at *
    generalize encE b.en = w at *
    simp
  obtain ⟨y9, y10, e2⟩ := ot_rows (ν := ν) (κ := κ) (m := S.length) x0 (some (DS bs β)) (some (.ref m)) (some (.str b.name)) (some (.tup (b.rows.map encR))) (some (encE b.en)) x11 b.rows [] (S ++ [O.lst []]) x9 x10 hr (by simp) (by simp; omega)
  have e2' := (sFor_of it).trans e2
  rw [List.nil_append] at e2'
  have hT : ((S ++ [O.lst []]).set S.length (.lst ((b.rows.map (rnR ν κ)).map encR)))[m]? = some (.lst (ac.map encB)) := by
    rw [List.getElem?_set_ne (by omega), List.getElem?_append_left ml]; exact hm
  have hL : ((S ++ [O.lst []]).set S.length (.lst ((b.rows.map (rnR ν κ)).map encR)))[S.length]? = some (.lst ((b.rows.map (rnR ν κ)).map encR)) := List.getElem?_set_self (by simp)
  have lT : ((S ++ [O.lst []]).set S.length (.lst ((b.rows.map (rnR ν κ)).map encR))).length = S.length + 1 := by simp
  have oT : ∀ i, i < S.length → ((S ++ [O.lst []]).set S.length (.lst ((b.rows.map (rnR ν κ)).map encR)))[i]? = S[i]? := fun i hi => by rw [List.getElem?_set_ne (by omega), List.getElem?_append_left hi]
  generalize (S ++ [O.lst []]).set S.length (.lst ((b.rows.map (rnR ν κ)).map encR)) = T at *
  have e3 := otE_ok (β := β) (ν := ν) (bs := bs) (ws := ws) b.en he hg T x0 (some (DI ns κ)) (some (.ref m)) (some (.str b.name)) (some (.tup (b.rows.map encR))) (some (.ref S.length)) y9 y10 x11
  have db := fun S => dix_DS (f := β) hb S
  have z3 : (3 : Nat) ≤ sizeLine := le_size _ (by omega)
  have zr : ((b.rows.map (rnR ν κ)).map encR).length ≤ sizeLine := le_size _ (by simp; omega)
  have za : (ac.map encB).length < sizeLine := lt_size _ (by simp; omega)
  have eB : encB (rnB β ν κ b) = .tup [.str (β b.name), .tup ((b.rows.map (rnR ν κ)).map encR), encE (rnE β ν b.en)] := rfl
  have em : (ac ++ [rnB β ν κ b]).map encB = ac.map encB ++ [encB (rnB β ν κ b)] := by simp
  have e4 : otX [x0, some (DS bs β), some (DS ws ν), some (DI ns κ), some (.ref m), some (.str b.name), some (.tup (b.rows.map encR)), some (encE (rnE β ν b.en)), some (.ref S.length), y9, y10, x11] T = some (.nx, [x0, some (DS bs β), some (DS ws ν), some (DI ns κ), some (.ref m), some (.str b.name), some (.tup (b.rows.map encR)), some (encE (rnE β ν b.en)), some (.ref S.length), y9, y10, x11], T.set m (.lst ((ac ++ [rnB β ν κ b]).map encB))) := by
    rw [em, eB]
    generalize DS ws ν = DW at *
    generalize DS bs β = DB at *
    generalize DI ns κ = DN at *
    generalize encE (rnE β ν b.en) = w at *
    generalize (b.rows.map (rnR ν κ)).map encR = L at *
    generalize b.rows.map encR = L2 at *
    generalize ac.map encB = L3 at *
    unfold otX
    simp [-dixU_ap, db, hL, hT, zr, za, z3, appU]
  exact ⟨_, _, y9, y10, T.set m (.lst ((ac ++ [rnB β ν κ b]).map encB)), (sqn e1).trans ((sqn e2').trans ((sqn e3).trans e4)), List.getElem?_set_self (by omega), by rw [List.length_set]; omega, fun i hi hn => by rw [List.getElem?_set_ne (Ne.symm hn)]; exact oT i hi⟩
theorem ot_loop (x0 x11 : Option U) {m : Nat} : ∀ (q ac : List Bk) (S : Sto) (x5 x6 x7 x8 x9 x10 : Option U), (∀ b ∈ q, b.name ∈ bs ∧ (∀ r ∈ b.rows, (∀ x ∈ r.nms, x ∈ ws) ∧ r.num ∈ ns) ∧ (∀ x ∈ b.en.asks, x ∈ ws) ∧ (∀ x ∈ b.en.goals, x ∈ bs) ∧ b.rows.length ≤ 1000) → S[m]? = some (.lst (ac.map encB)) → ac.length + q.length ≤ 1000 →
    ∃ y5 y6 y7 y8 y9 y10 S', loopF (.tp [(.nm 5), (.nm 6), (.nm 7)]) otB (q.map encB) [x0, some (DS bs β), some (DS ws ν), some (DI ns κ), some (.ref m), x5, x6, x7, x8, x9, x10, x11] S = some (.nx, [x0, some (DS bs β), some (DS ws ν), some (DI ns κ), some (.ref m), y5, y6, y7, y8, y9, y10, x11], S') ∧ S'[m]? = some (.lst ((ac ++ q.map (rnB β ν κ)).map encB)) ∧ S.length ≤ S'.length ∧ ∀ i, i < S.length → i ≠ m → S'[i]? = S[i]?
  | [], ac, S, x5, x6, x7, x8, x9, x10, _, hm, _ => ⟨x5, x6, x7, x8, x9, x10, S, by rw [List.map_nil]; exact loopF_nil _ _ _ _, by simpa using hm, Nat.le_refl _, fun _ _ _ => rfl⟩
  | b :: q, ac, S, x5, x6, x7, x8, x9, x10, h, hm, al => by
    simp only [List.length_cons] at al
    obtain ⟨h1, h2, h3, h4, h5⟩ := h b (by simp)
    obtain ⟨w7, w8, w9, w10, S1, e1, m1, l1, o1⟩ := otB_ok (β := β) (ν := ν) (κ := κ) b h1 h2 h3 h4 h5 hm (by omega) x0 x8 x9 x10 x11
    obtain ⟨y5, y6, y7, y8, y9, y10, S2, e2, m2, l2, o2⟩ := ot_loop x0 x11 q (ac ++ [rnB β ν κ b]) S1 (some (.str b.name)) (some (.tup (b.rows.map encR))) w7 w8 w9 w10 (fun c hc => h c (by simp [hc])) m1 (by simp; omega)
    refine ⟨y5, y6, y7, y8, y9, y10, S2, ?_, by rw [m2]; simp, by omega, fun i hi hn => by rw [o2 i (by omega) hn, o1 i hi hn]⟩
    rw [List.map_cons, loopF_cons]
    have bp : bindP (.tp [(.nm 5), (.nm 6), (.nm 7)]) (encB b) = some [(5, .str b.name), (6, .tup (b.rows.map encR)), (7, encE b.en)] := rfl
    simp only [bp, setAll_cons, setAll_nil, List.set_cons_succ, List.set_cons_zero, e1]
    exact e2
theorem other_ok {p : List Bk} (pl : p.length ≤ 24) (h : ∀ b ∈ p, b.name ∈ bs ∧ (∀ r ∈ b.rows, (∀ x ∈ r.nms, x ∈ ws) ∧ r.num ∈ ns) ∧ (∀ x ∈ b.en.asks, x ∈ ws) ∧ (∀ x ∈ b.en.goals, x ∈ bs) ∧ b.rows.length ≤ 1000) (S : Sto) : ∃ (S' : Sto), F__law_otherwise [encP p, DS bs β, DS ws ν, DI ns κ] S = some (.ref S.length, S') ∧ S'[S.length]? = some (.lst ((p.map (rnB β ν κ)).map encB)) ∧ Kz S S' := by
  have e1 : sAsg (cArg oLstM cNil) (gmName 4) [some (encP p), some (DS bs β), some (DS ws ν), some (DI ns κ), none, none, none, none, none, none, none, none] S = some (.nx, [some (encP p), some (DS bs β), some (DS ws ν), some (DI ns κ), some (.ref S.length), none, none, none, none, none, none, none], S ++ [.lst []]) := asg_of rfl
  have it : itSeq (cVar 0) [some (encP p), some (DS bs β), some (DS ws ν), some (DI ns κ), some (.ref S.length), none, none, none, none, none, none, none] (S ++ [O.lst []]) = some (p.map encB, S ++ [.lst []]) := by
    unfold encP
    generalize p.map encB = L at *
    generalize DS ws ν = DW at *
    generalize DS bs β = DB at *
    generalize DI ns κ = DN at *
    simp
  obtain ⟨y5, y6, y7, y8, y9, y10, S', e2, m2, l2, o2⟩ := ot_loop (β := β) (ν := ν) (κ := κ) (some (encP p)) none (m := S.length) p [] (S ++ [O.lst []]) none none none none none none h (by simp) (by simp; omega)
  refine ⟨S', runF_of rfl rfl (other_cut ▸ (sqn e1).trans ((sqn ((sFor_of it).trans e2)).trans (sRet_of (cVar_of rfl)))), by simpa using m2, by simp at l2; omega, fun i hi => ?_⟩
  rw [o2 i (by simp; omega) (by omega), List.getElem?_append_left hi]
noncomputable def tcA : Sm := (sExpr (cMt "list" appU (cVar 3) (cCons (cArg oTup (cCons (cIf (cTru (cIsi "str" (cVar 4))) (cBin dixU (cVar 1) (cVar 4)) (cBin dixU (cVar 2) (cVar 4))) (cCons (cVar 5) (cCons (cVar 6) cNil)))) cNil)))
theorem trace_cut : c__law_trace_called = sSeq (sAsg (cArg oLstM cNil) (gmName 3)) (sSeq (sFor (itSeq (cVar 0)) (.tp [(.nm 4), (.nm 5), (.nm 6)]) tcA) (sRet (cArg (on1 tupleU) (cCons (cVar 3) cNil)))) := rfl
def Stp (bs : List Str) (ns : List Int) (u : U) : Prop := (∃ x a g, u = .tup [.str x, a, g] ∧ x ∈ bs) ∨ ∃ n a g, u = .tup [.int n, a, g] ∧ n ∈ ns
theorem tcA_ok {u : U} (hu : Stp bs ns u) {S : Sto} {m : Nat} {ac : List U} (hm : S[m]? = some (.lst ac)) (al : ac.length ≤ 100000) (x0 x4 x5 x6 : Option U) : ∃ y4 y5 y6, ∀ us, loopF (.tp [(.nm 4), (.nm 5), (.nm 6)]) tcA (u :: us) [x0, some (DS bs β), some (DI ns κ), some (.ref m), x4, x5, x6] S = loopF (.tp [(.nm 4), (.nm 5), (.nm 6)]) tcA us [x0, some (DS bs β), some (DI ns κ), some (.ref m), y4, y5, y6] (S.set m (.lst (ac ++ [calU β κ u]))) := by
  have z3 : (3 : Nat) ≤ sizeLine := le_size _ (by omega)
  have zl : ac.length < sizeLine := lt_size _ (by omega)
  have bp : ∀ a b c : U, bindP (.tp [(.nm 4), (.nm 5), (.nm 6)]) (.tup [a, b, c]) = some [(4, a), (5, b), (6, c)] := fun _ _ _ => rfl
  rcases hu with ⟨x, a, g, rfl, hx⟩ | ⟨n, a, g, rfl, hn⟩
  · have d := fun S => dix_DS (f := β) hx S
    refine ⟨some (.str x), some a, some g, fun us => ?_⟩
    rw [loopF_cons, bp, cal_end]
    generalize DS bs β = DB at *
    generalize DI ns κ = DN at *
    unfold tcA
    simp [-dixU_ap, d, hm, zl, z3, appU]
  · have d := fun S => dix_DI (f := κ) hn S
    refine ⟨some (.int n), some a, some g, fun us => ?_⟩
    rw [loopF_cons, bp, cal_row]
    generalize DS bs β = DB at *
    generalize DI ns κ = DN at *
    unfold tcA
    simp [-dixU_ap, d, hm, zl, z3, appU]
theorem tc_loop {m : Nat} (x0 : Option U) : ∀ (tr ac : List U) (S : Sto) (x4 x5 x6 : Option U), (∀ u ∈ tr, Stp bs ns u) → S[m]? = some (.lst ac) → ac.length + tr.length ≤ 100000 → ∃ y4 y5 y6, loopF (.tp [(.nm 4), (.nm 5), (.nm 6)]) tcA tr [x0, some (DS bs β), some (DI ns κ), some (.ref m), x4, x5, x6] S = some (.nx, [x0, some (DS bs β), some (DI ns κ), some (.ref m), y4, y5, y6], S.set m (.lst (ac ++ tr.map (calU β κ))))
  | [], ac, S, x4, x5, x6, _, hm, _ => ⟨x4, x5, x6, by
    have : S.set m (.lst (ac ++ [].map (calU β κ))) = S := by
      obtain ⟨h0, e0⟩ := List.getElem?_eq_some_iff.mp hm
      simp only [List.map_nil, List.append_nil]
      rw [← e0, List.set_getElem_self]
    rw [this]
    exact loopF_nil _ _ _ _⟩
  | u :: tr, ac, S, x4, x5, x6, h, hm, al => by
    simp only [List.length_cons] at al
    obtain ⟨w4, w5, w6, e1⟩ := tcA_ok (β := β) (κ := κ) (h u (by simp)) hm (by omega) x0 x4 x5 x6
    obtain ⟨y4, y5, y6, e2⟩ := tc_loop x0 tr (ac ++ [calU β κ u]) (S.set m (.lst (ac ++ [calU β κ u]))) w4 w5 w6 (fun v hv => h v (by simp [hv])) (List.getElem?_set_self (cell_lt hm)) (by simp; omega)
    refine ⟨y4, y5, y6, ?_⟩
    rw [List.set_set] at e2
    rw [e1, e2]
    simp
theorem trace_ok {tr : List U} (h : ∀ u ∈ tr, Stp bs ns u) (tl : tr.length ≤ 10000) (nr : norefs (tr.map (calU β κ)) = true) : P__law_trace_called [.tup tr, DS bs β, DI ns κ] = some (.tup (tr.map (calU β κ))) := by
  obtain ⟨y4, y5, y6, e2⟩ := tc_loop (β := β) (κ := κ) (m := 0) (some (.tup tr)) tr [] [O.lst []] none none none h (by simp) (by simp; omega)
  have e1 : sAsg (cArg oLstM cNil) (gmName 3) [some (.tup tr), some (DS bs β), some (DI ns κ), none, none, none, none] [] = some (.nx, [some (.tup tr), some (DS bs β), some (DI ns κ), some (.ref 0), none, none, none], [.lst []]) := asg_of rfl
  have zt : (tr.map (calU β κ)).length ≤ sizeLine := le_size _ (by simp; omega)
  have it : itSeq (cVar 0) [some (.tup tr), some (DS bs β), some (DI ns κ), some (.ref 0), none, none, none] [O.lst []] = some (tr, [.lst []]) := by
    generalize DS bs β = DB at *
    generalize DI ns κ = DN at *
    simp
  refine pureF_of (S1 := [O.lst (tr.map (calU β κ))]) ?_ (by simpa [noref] using nr)
  refine runF_of rfl rfl (trace_cut ▸ (sqn e1).trans ((sqn ((sFor_of it).trans e2)).trans (sRet_of ?_)))
  rw [List.nil_append]
  generalize tr.map (calU β κ) = L at *
  simp [zt]
inductive Edg (ws : List Str) (ns : List Int) : U → Prop
  | dry : Edg ws ns dryU
  | stop : Edg ws ns stopU
  | unt {a : Str} : a ∈ ws → Edg ws ns (untoldU a)
  | nou {n : Int} : n ∈ ns → Edg ws ns (.tup [.str "nought", .int n])
  | bar {n : Int} : n ∈ ns → Edg ws ns (.tup [.str "bare", .int n])
theorem Edg.noref {u : U} (h : Edg ws ns u) : noref (eclU ν κ u) = true := by cases h <;> rfl
theorem ending_ok {u : U} (h : Edg ws ns u) : P__law_ending_called [u, DS ws ν, DI ns κ] = some (eclU ν κ u) := by
  have z2 : (2 : Nat) ≤ sizeLine := le_size _ (by omega)
  have z1 : (1 : Nat) ≤ sizeLine := le_size _ (by omega)
  refine pureF_of (S1 := []) ?_ h.noref
  have dw : ∀ x, x ∈ ws → ∀ S, dixU (DS ws ν) (.str x) S = some (.str (ν x), S) := fun x hx S => dix_DS hx S
  have dn : ∀ x, x ∈ ns → ∀ S, dixU (DI ns κ) (.int x) S = some (.int (κ x), S) := fun x hx S => dix_DI hx S
  generalize DS ws ν = DW at *
  generalize DI ns κ = DN at *
  unfold c__law_ending_called
  cases h with
  | dry => simp [runF, startE, dryU, eclU]
  | stop => simp [runF, startE, stopU, eclU]
  | unt ha => simp [-dixU_ap, runF, startE, untoldU, eclU, dw _ ha, z2]
  | nou hn => simp [-dixU_ap, runF, startE, eclU, dn _ hn, z2]
  | bar hn => simp [-dixU_ap, runF, startE, eclU, dn _ hn, z2]
end K14
namespace K14
open PySem PySem.Spec PyProof.Rows L2 OF
theorem blk_some {p : List Bk} {g : Str} (h : g ∈ p.map Bk.name) : ∃ b, blk p g = some b := by
  obtain ⟨b, hb, e⟩ := List.mem_map.mp h
  unfold blk
  cases hf : p.find? fun x => decide (x.name = g) with
  | some b' => exact ⟨b', rfl⟩
  | none =>
    have := List.find?_eq_none.mp hf b hb
    simp [e] at this
theorem Prog.pok {p : List Bk} (h : Prog p) : Pok p := ⟨h.ok, fun b hb g hg => blk_some (h.goals b hb g hg), by have := h.len; omega, fun b hb => (h.nm b hb).ok, fun b hb r hr a ha => (h.ra b hb r hr a ha).ok, fun b hb a ha => (h.ea b hb a ha).ok⟩
theorem blk_of {q : List Bk} {c : Bk} (hn : (q.map Bk.name).Nodup) (hc : c ∈ q) : blk q c.name = some c := by
  unfold blk
  induction q with
  | nil => simp at hc
  | cons d q ih =>
    rw [List.find?_cons]
    rcases List.mem_cons.mp hc with rfl | hc
    · simp
    · have hne : d.name ≠ c.name := fun e => by
        simp only [List.map_cons, List.nodup_cons] at hn
        exact hn.1 (e ▸ List.mem_map_of_mem hc)
      rw [show decide (d.name = c.name) = false from decide_eq_false hne]
      exact ih (List.nodup_cons.mp hn).2 hc
def numsP (p : List Bk) : List Int := (p.flatMap Bk.rows).map Rw.num
def namesP (p : List Bk) : List Str := p.foldl addB []
theorem namesP_row {p : List Bk} {b : Bk} (hb : b ∈ p) {r : Rw} (hr : r ∈ b.rows) {x : Str} (hx : x ∈ r.nms) : x ∈ namesP p := (addBs_mem p []).mpr (.inr ⟨b, hb, .inl ⟨r, hr, hx⟩⟩)
theorem namesP_end {p : List Bk} {b : Bk} (hb : b ∈ p) {x : Str} (hx : x ∈ b.en.asks) : x ∈ namesP p := (addBs_mem p []).mpr (.inr ⟨b, hb, .inr hx⟩)
theorem namesP_nd (p : List Bk) : (namesP p).Nodup := addBs_nd p List.nodup_nil
theorem Prog.names {p : List Bk} (h : Prog p) : (namesP p).length ≤ 12 ∧ ∀ x ∈ namesP p, Nm x := by
  obtain ⟨ns, nl, hn⟩ := h.nset
  constructor
  · refine Nat.le_trans (nodup_len (b := ns) (namesP_nd p) fun x hx => ?_) nl
    rcases (addBs_mem p []).mp hx with hx | ⟨b, hb, hx⟩
    · cases hx
    rcases hx with ⟨r, hr, hx⟩ | hx
    · rcases (nms_mem r x).mp hx with hx | hx
      · exact ((hn b hb).1 r hr).1 x hx
      · exact ((hn b hb).1 r hr).2 x hx
    · exact (hn b hb).2 x hx
  · intro x hx
    rcases (addBs_mem p []).mp hx with hx | ⟨b, hb, hx⟩
    · cases hx
    rcases hx with ⟨r, hr, hx⟩ | hx
    · rcases (nms_mem r x).mp hx with hx | hx
      · exact h.ra b hb r hr x hx
      · exact h.rg b hb r hr x hx
    · exact h.ea b hb x hx
theorem Prog.numl {p : List Bk} (h : Prog p) : (numsP p).length ≤ 100 := by
  have key : ∀ q : List Bk, (∀ b ∈ q, b.rows.length ≤ 5) → (q.flatMap Bk.rows).length ≤ 5 * q.length := by
    intro q
    induction q with
    | nil => intro _; simp
    | cons b q ih =>
      intro hq
      have h1 := hq b (by simp)
      have h2 := ih fun c hc => hq c (by simp [hc])
      simp only [List.flatMap_cons, List.length_append, List.length_cons]
      omega
  have := key p h.few
  have := h.len
  unfold numsP
  rw [List.length_map]
  omega
theorem num_mem {p : List Bk} {b : Bk} (hb : b ∈ p) {r : Rw} (hr : r ∈ b.rows) : r.num ∈ numsP p := List.mem_map_of_mem (List.mem_flatMap.mpr ⟨b, hb, hr⟩)
theorem run_stp {p : List Bk} {bs ws : List Str} {ns : List Int} (hp : ∀ b ∈ p, b.name ∈ bs ∧ (∀ r ∈ b.rows, r.num ∈ ns ∧ ∀ a ∈ r.asks, a ∈ ws) ∧ ∀ a ∈ b.en.asks, a ∈ ws) :
    ∀ (n : Nat) (nm : Str) (rs : List Rw) (e : En) (s : Sx), nm ∈ bs → (∀ r ∈ rs, r.num ∈ ns ∧ ∀ a ∈ r.asks, a ∈ ws) → (∀ a ∈ e.asks, a ∈ ws) → (∀ u ∈ s.tr, Stp bs ns u) → (∀ u ∈ (run p n nm rs e s).1, Stp bs ns u) ∧ Edg ws ns (run p n nm rs e s).2
  | 0, nm, rs, e, s, _, _, _, ht => by
    unfold run
    exact ⟨ht, .dry⟩
  | n + 1, nm, r :: rs, e, s, hnm, hr, he, ht => by
    obtain ⟨h1, h2⟩ := hr r (by simp)
    unfold run
    cases hm : rowStep r s with
    | off x =>
      refine ⟨ht, ?_⟩
      unfold rowStep at hm
      cases hq : rowMid r s with
      | on v t => rw [hq] at hm; cases hm
      | off y =>
        rw [hq] at hm
        cases hm
        unfold rowMid at hq
        cases hf : r.asks.find? fun a => (look s.hd a).isNone with
        | some a =>
          rw [hf] at hq
          cases hq
          exact .unt (h2 a (List.mem_of_find?_eq_some hf))
        | none =>
          rw [hf] at hq
          simp only at hq
          cases hw : why r (r.asks.filterMap (look s.hd)) s.wt with
          | none => rw [hw] at hq; cases hq
          | some z =>
            rw [hw] at hq
            cases hq
            cases r with
            | bin w m g a b =>
              cases w <;> simp only [why] at hw <;> (try cases hw)
              split at hw
              · split at hw
                · cases hw; exact .nou h1
                · cases hw
              · cases hw
            | ask m g =>
              simp only [why] at hw
              split at hw
              · cases hw; exact .bar h1
              · cases hw
            | _ => cases hw
    | on v t =>
      have ht' : ∀ u ∈ t.tr, Stp bs ns u := by
        unfold rowStep at hm
        cases hq : rowMid r s with
        | off y => rw [hq] at hm; cases hm
        | on v' t' =>
          rw [hq] at hm
          cases hm
          obtain ⟨wsx, _, _, _, _, _, _, rfl⟩ := rowMid_on hq
          intro u hu
          rcases List.mem_append.mp hu with hu | hu
          · exact ht u hu
          · rw [List.mem_singleton.mp hu]
            exact .inr ⟨_, _, _, rfl, h1⟩
      exact run_stp hp n nm rs e t hnm (fun r' h' => hr r' (by simp [h'])) he ht'
  | n + 1, nm, [], e, s, hnm, hr, he, ht => by
    have hx : ∀ (a g : U), ∀ u ∈ s.tr ++ [.tup [.str nm, a, g]], Stp bs ns u := fun a g u hu => by
      rcases List.mem_append.mp hu with hu | hu
      · exact ht u hu
      · rw [List.mem_singleton.mp hu]
        exact .inl ⟨_, _, _, rfl, hnm⟩
    unfold run
    cases hm : endMid nm e s with
    | off x t =>
      cases e with
      | go b => cases hm
      | stop => cases hm; exact ⟨hx _ _, .stop⟩
      | iff a b c =>
        simp only [endMid] at hm
        cases hl : look s.hd a with
        | none => rw [hl] at hm; cases hm; exact ⟨ht, .unt (he a (by simp [En.asks]))⟩
        | some v => rw [hl] at hm; cases hm
    | on g t =>
      have ht' : ∀ u ∈ t.tr, Stp bs ns u := by
        cases e with
        | go b => cases hm; exact hx _ _
        | stop => cases hm
        | iff a b c =>
          simp only [endMid] at hm
          cases hl : look s.hd a with
          | none => rw [hl] at hm; cases hm
          | some v => rw [hl] at hm; cases hm; exact hx _ _
      simp only
      cases hb : blk p g with
      | none => exact ⟨ht', .dry⟩
      | some b' =>
        obtain ⟨g1, g2, g3⟩ := hp b' (blk_mem hb)
        exact run_stp hp n b'.name b'.rows b'.en t g1 g2 g3 ht'
def stray (x : Str) : Bk := ⟨"straying", [], .go x⟩
structure Oth (p q : List Bk) (β ν : Str → Str) (κ : Int → Int) : Prop where
  hd : ∃ b0 p' q', p = b0 :: p' ∧ q = rnB β ν κ b0 :: q'
  sub : ∀ b ∈ p, rnB β ν κ b ∈ q
  nd : (q.map Bk.name).Nodup
  els : ∀ c ∈ q, (∃ b ∈ p, c = rnB β ν κ b) ∨ ∃ b0 ∈ p, c = stray (β b0.name)
  rows : (q.flatMap Bk.rows).Perm ((p.map (rnB β ν κ)).flatMap Bk.rows)
  len : q.length ≤ p.length + 1
variable {β ν : Str → Str} {κ : Int → Int}
structure Nmg (p : List Bk) (β ν : Str → Str) (κ : Int → Int) : Prop where
  bi : ∀ x ∈ p.map Bk.name, ∀ y ∈ p.map Bk.name, β x = β y → x = y
  bn : ∀ x ∈ p.map Bk.name, Nm (β x)
  ni : Inj (namesP p) ν
  nn : ∀ x ∈ namesP p, Nm (ν x)
  ki : ∀ x ∈ numsP p, ∀ y ∈ numsP p, κ x = κ y → x = y
  kn : ∀ x ∈ numsP p, 1 ≤ κ x ∧ κ x ≤ 9999
theorem perm_cut {α : Type} (l : List α) {m : Nat} (h1 : 1 ≤ m) : (l.take 1 ++ l.drop m ++ (l.take m).drop 1).Perm l := by
  have e : l.take 1 ++ ((l.take m).drop 1 ++ l.drop m) = l := by
    have e2 : (l.take m).take 1 = l.take 1 := by rw [List.take_take]; congr 1; omega
    rw [← List.append_assoc, ← e2, List.take_append_drop, List.take_append_drop]
  have h2 : (l.take 1 ++ (l.drop m ++ (l.take m).drop 1)).Perm (l.take 1 ++ ((l.take m).drop 1 ++ l.drop m)) := List.Perm.append_left _ List.perm_append_comm
  rw [List.append_assoc]
  exact h2.trans (by rw [e])
def othL (P : List Bk) (m : Nat) (s : Option Str) : List Bk := P.take 1 ++ P.drop m ++ (P.take m).drop 1 ++ (match s with | some x => [stray x] | none => [])
theorem nodup_map' {f : Str → Str} {l : List Str} (hn : l.Nodup) (h : ∀ x ∈ l, ∀ y ∈ l, f x = f y → x = y) : (l.map f).Nodup := by
  induction l with
  | nil => simp
  | cons x l ih =>
    obtain ⟨n1, n2⟩ := List.nodup_cons.mp hn
    rw [List.map_cons, List.nodup_cons]
    refine ⟨fun hm => ?_, ih n2 fun a ha b hb => h a (by simp [ha]) b (by simp [hb])⟩
    obtain ⟨y, hy, e⟩ := List.mem_map.mp hm
    exact n1 (h y (by simp [hy]) x (by simp) e ▸ hy)
theorem oth_made {b0 : Bk} {p' : List Bk} (h : Prog (b0 :: p')) (g : Nmg (b0 :: p') β ν κ) {m : Nat} (h1 : 1 ≤ m) {s : Option Str} (hs : s = none ∨ s = some (β b0.name) ∧ ("straying" : Str) ∉ (b0 :: p').map fun b => β b.name) :
    Oth (b0 :: p') (othL ((b0 :: p').map (rnB β ν κ)) m s) β ν κ := by
  have pm := perm_cut ((b0 :: p').map (rnB β ν κ)) h1
  have nd0 : (((b0 :: p').map (rnB β ν κ)).map Bk.name).Nodup := by
    have e : ((b0 :: p').map (rnB β ν κ)).map Bk.name = ((b0 :: p').map Bk.name).map β := by simp [rnB]
    rw [e]
    exact nodup_map' h.nd g.bi
  have els0 : ∀ c ∈ ((b0 :: p').map (rnB β ν κ)).take 1 ++ ((b0 :: p').map (rnB β ν κ)).drop m ++ (((b0 :: p').map (rnB β ν κ)).take m).drop 1, ∃ b ∈ b0 :: p', c = rnB β ν κ b := fun c hc => by
    obtain ⟨b, hb, e⟩ := List.mem_map.mp (pm.mem_iff.mp hc)
    exact ⟨b, hb, e.symm⟩
  have sub0 : ∀ b ∈ b0 :: p', rnB β ν κ b ∈ ((b0 :: p').map (rnB β ν κ)).take 1 ++ ((b0 :: p').map (rnB β ν κ)).drop m ++ (((b0 :: p').map (rnB β ν κ)).take m).drop 1 := fun b hb => pm.mem_iff.mpr (List.mem_map_of_mem hb)
  have hd0 : ∃ q', ((b0 :: p').map (rnB β ν κ)).take 1 ++ ((b0 :: p').map (rnB β ν κ)).drop m ++ (((b0 :: p').map (rnB β ν κ)).take m).drop 1 = rnB β ν κ b0 :: q' := ⟨((b0 :: p').map (rnB β ν κ)).drop m ++ (((b0 :: p').map (rnB β ν κ)).take m).drop 1, by simp⟩
  have len0 := pm.length_eq
  have rows0 := pm.flatMap_right Bk.rows
  have ndq := (pm.map Bk.name).nodup_iff.mpr nd0
  unfold othL
  generalize ((b0 :: p').map (rnB β ν κ)).take 1 ++ ((b0 :: p').map (rnB β ν κ)).drop m ++ (((b0 :: p').map (rnB β ν κ)).take m).drop 1 = q0 at *
  obtain ⟨q', rfl⟩ := hd0
  rcases hs with rfl | ⟨rfl, hs⟩
  · simp only [List.append_nil]
    exact ⟨⟨b0, p', q', rfl, rfl⟩, sub0, ndq, fun c hc => .inl (els0 c hc), rows0, by rw [len0]; simp⟩
  · refine ⟨⟨b0, p', q' ++ [stray (β b0.name)], rfl, rfl⟩, fun b hb => List.mem_append_left _ (sub0 b hb), ?_, fun c hc => ?_, ?_, ?_⟩
    · rw [List.map_append]
      refine List.nodup_append.mpr ⟨ndq, by simp, fun x hx y hy e => ?_⟩
      rw [List.map_cons, List.map_nil, List.mem_singleton] at hy
      subst e
      obtain ⟨c, hc, rfl⟩ := List.mem_map.mp hx
      obtain ⟨b, hb, rfl⟩ := els0 c hc
      exact hs (by rw [← show (rnB β ν κ b).name = "straying" from hy]; exact List.mem_map_of_mem (f := fun b => β b.name) hb)
    · rcases List.mem_append.mp hc with hc | hc
      · exact .inl (els0 c hc)
      · exact .inr ⟨b0, by simp, List.mem_singleton.mp hc⟩
    · rw [List.flatMap_append]
      simpa [stray] using rows0
    · rw [List.length_append, len0]
      simp
theorem stray_ok : PyData.strOk "straying" = true := by decide +kernel
theorem Oth.pok {p q : List Bk} (h : Prog p) (g : Nmg p β ν κ) (o : Oth p q β ν κ) : Pok q := by
  refine ⟨fun c hc r hr => ?_, fun c hc x hx => ?_, by have := o.len; have := h.len; omega, fun c hc => ?_, fun c hc r hr a ha => ?_, fun c hc a ha => ?_⟩
  · rcases o.els c hc with ⟨b, hb, rfl⟩ | ⟨b0, hb, rfl⟩
    · obtain ⟨r', hr', rfl⟩ := List.mem_map.mp hr
      exact rn_ok r' (h.ok b hb r' hr')
    · cases hr
  · have key : ∃ b ∈ p, x = β b.name := by
      rcases o.els c hc with ⟨b, hb, rfl⟩ | ⟨b0, hb, rfl⟩
      · have hx' : x ∈ (rnE β ν b.en).goals := hx
        rw [rnE_goals] at hx'
        obtain ⟨y, hy, rfl⟩ := List.mem_map.mp hx'
        obtain ⟨b', hb', e⟩ := List.mem_map.mp (h.goals b hb y hy)
        exact ⟨b', hb', by rw [e]⟩
      · have hx' : x ∈ [β b0.name] := hx
        exact ⟨b0, hb, List.mem_singleton.mp hx'⟩
    obtain ⟨b, hb, rfl⟩ := key
    exact ⟨_, blk_of o.nd (o.sub b hb)⟩
  · rcases o.els c hc with ⟨b, hb, rfl⟩ | ⟨b0, hb, rfl⟩
    · exact (g.bn _ (List.mem_map_of_mem hb)).ok
    · exact stray_ok
  · rcases o.els c hc with ⟨b, hb, rfl⟩ | ⟨b0, hb, rfl⟩
    · obtain ⟨r', hr', rfl⟩ := List.mem_map.mp hr
      rw [rn_asks] at ha
      obtain ⟨y, hy, rfl⟩ := List.mem_map.mp ha
      exact (g.nn _ (namesP_row hb hr' ((nms_mem r' y).mpr (.inl hy)))).ok
    · cases hr
  · rcases o.els c hc with ⟨b, hb, rfl⟩ | ⟨b0, hb, rfl⟩
    · have ha' : a ∈ (rnE β ν b.en).asks := ha
      rw [rnE_asks] at ha'
      obtain ⟨y, hy, rfl⟩ := List.mem_map.mp ha'
      exact (g.nn _ (namesP_end hb hy)).ok
    · cases ha
theorem Oth.run {b0 : Bk} {p' : List Bk} (h : Prog (b0 :: p')) (g : Nmg (b0 :: p') β ν κ) {c0 : Bk} {q' : List Bk} (o : Oth (b0 :: p') (c0 :: q') β ν κ) (n : Nat) {xs ys : List Int} (hx : ys.map (· % 1000003) = xs.map (· % 1000003)) :
    runP c0 q' n ys = ((runP b0 p' n xs).1.map (calU β κ), eclU ν κ (runP b0 p' n xs).2) := by
  obtain ⟨b1, p1, q1, e1, e2⟩ := o.hd
  cases e1
  cases e2
  unfold runP
  rw [hx]
  refine run_ren (N := namesP (b0 :: p')) g.ni (fun b hb => blk_of (c := rnB β ν κ b) o.nd (o.sub b hb)) (fun b hb r hr => ⟨fun a ha => namesP_row hb hr ((nms_mem r a).mpr (.inl ha)), fun a ha => namesP_row hb hr ((nms_mem r a).mpr (.inr ha))⟩) (fun b hb => ⟨fun a ha => namesP_end hb ha, fun x hx => blk_some (h.goals b hb x hx)⟩) n b0.name b0.rows b0.en _ _ ⟨rfl, rfl, fun a _ => rfl⟩ ⟨(fun q hq => by cases hq), fun x hx => ?_, Nat.le_refl _⟩ (fun r hr => ⟨fun a ha => namesP_row (List.mem_cons_self) hr ((nms_mem r a).mpr (.inl ha)), fun a ha => namesP_row (List.mem_cons_self) hr ((nms_mem r a).mpr (.inr ha)), h.ok b0 (by simp) r hr⟩) h.ok (fun a ha => namesP_end (List.mem_cons_self) ha) (fun x hx => blk_some (h.goals b0 (by simp) x hx))
  obtain ⟨y, _, rfl⟩ := List.mem_map.mp hx
  unfold InW
  omega
theorem saysR_perm {a b : List Rw} (h : a.Perm b) : (saysR a).Perm (saysR b) := (h.filter _).map _
theorem saysR_rn (rs : List Rw) : saysR (rs.map (rnR ν κ)) = (saysR rs).map κ := by
  unfold saysR
  induction rs with
  | nil => rfl
  | cons r rs ih =>
    rw [List.map_cons, List.filter_cons, List.filter_cons, rn_say]
    split
    · rw [List.map_cons, List.map_cons, List.map_cons, ih, rn_num]
    · exact ih
theorem Oth.says {p q : List Bk} (o : Oth p q β ν κ) : (saysP q).Perm ((saysP p).map κ) := by
  unfold saysP
  rw [← saysR_rn]
  refine (saysR_perm o.rows).trans ?_
  have e : (p.map (rnB β ν κ)).flatMap Bk.rows = (p.flatMap Bk.rows).map (rnR ν κ) := by
    rw [List.flatMap_map, List.map_flatMap]
    rfl
  rw [e]
theorem says_sub (p : List Bk) : ∀ n ∈ saysP p, n ∈ numsP p := fun n hn => by
  obtain ⟨r, hr, e⟩ := List.mem_map.mp hn
  rw [← e]
  exact List.mem_map_of_mem (List.mem_filter.mp hr).1
theorem Oth.told {p q : List Bk} (g : Nmg p β ν κ) (o : Oth p q β ν κ) {tr : List U} {bs : List Str} (h : ∀ u ∈ tr, Stp bs (numsP p) u) : told q (tr.map (calU β κ)) = told p tr := by
  unfold K14.told
  rw [List.filterMap_map]
  refine fm_congr fun u hu => ?_
  rcases h u hu with ⟨x, a, v, rfl, _⟩ | ⟨n, a, v, rfl, hn⟩
  · rfl
  · show toldOne (saysP q) (.tup [.int (κ n), a, v]) = toldOne (saysP p) (.tup [.int n, a, v])
    have e : (κ n ∈ saysP q) ↔ n ∈ saysP p := by
      rw [o.says.mem_iff]
      constructor
      · intro hm
        obtain ⟨m, hm, e⟩ := List.mem_map.mp hm
        exact g.ki m (says_sub p m hm) n hn e ▸ hm
      · exact fun hm => List.mem_map_of_mem hm
    cases a with
    | tup us =>
      cases us with
      | nil => rfl
      | cons w us =>
        show (if κ n ∈ saysP q then some w else none) = if n ∈ saysP p then some w else none
        by_cases hm : n ∈ saysP p
        · rw [if_pos hm, if_pos (e.mpr hm)]
        · rw [if_neg hm, if_neg fun q => hm (e.mp q)]
    | _ => rfl
end K14
namespace K14
open PySem PySem.Spec PyProof.Rows L2 OF
theorem nD_put' {B : List Str} {F : Str → U} {x : Str} (hx : x ∉ B) : putKU (nD B F) (.inr x) (F x) = nD (B ++ [x]) F := by
  rw [put_new]
  · simp [nD]
  · intro kv hkv e
    obtain ⟨y, hy, rfl⟩ := List.mem_map.mp hkv
    have e' : y = x := by simpa using e
    exact hx (e' ▸ hy)
theorem merge_nD (F : Str → U) : ∀ (l B : List Str), (B ++ l).Nodup → mergeU (nD B F) (nD l F) = nD (B ++ l) F
  | [], B, _ => by simp [mergeU, nD]
  | x :: l, B, h => by
    have ih := merge_nD F l (B ++ [x]) (by simpa using h)
    have hx : x ∉ B := fun hm => (List.nodup_append.mp h).2.2 x hm x (by simp) rfl
    have : mergeU (nD B F) (nD (x :: l) F) = mergeU (putKU (nD B F) (.inr x) (F x)) (nD l F) := rfl
    rw [this, nD_put' hx, ih]
    simp
theorem nD_one {l : List Str} (hn : l.Nodup) (F : Str → U) : mergeU [] (nD l F) = nD l F := by
  have := merge_nD F l [] (by simpa using hn)
  simpa [nD] using this
theorem zip_more {α γ : Type} : ∀ {a : List α} {b c : List γ}, b.length = a.length → a.zip (b ++ c) = a.zip b
  | [], b, c, h => by simp
  | x :: a, [], c, h => by simp at h
  | x :: a, y :: b, c, h => by
    rw [List.cons_append, List.zip_cons_cons, List.zip_cons_cons, zip_more (by simpa using h)]
noncomputable def clN : Sm := (sAsg (cArg F__law_names (cCons (cVar 0) (cCons (cBin (addU false) (cArg (on1 lenU) (cCons (cVar 1) cNil)) (cCst (.int 3))) cNil))) (gmName 2))
noncomputable def clT : Sm := (sAsg (cArg F__law_take (cCons (cVar 0) (cCons (cCst (.int 4)) cNil))) (gmName 3))
noncomputable def clZ : Cm U := (cDZ false (cCons (cVar 1) (cCons (cBin (addU false) (cSl false (cVar 2) (cPart (cVar 3)) cNoPart) (cSl false (cVar 2) cNoPart (cPart (cVar 3)))) cNil)))
theorem called_cut : c__law_called = sSeq clN (sSeq clT (sRet clZ)) := rfl
theorem called_ex {S : Sto} {h : Nat} (hh : Hn S h) {xs : List Str} (hn : xs.Nodup) (hl : xs.length ≤ 20) : ∃ (f : Str → Str) (S' : Sto), F__law_called [.ref h, .lst (xs.map .str)] S = some (DS xs f, S') ∧ (∀ x ∈ xs, ∀ y ∈ xs, f x = f y → x = y) ∧ (∀ x ∈ xs, Nm (f x)) ∧ Hn S' h ∧ Kh h S S' := by
  obtain ⟨ys, j, S1, e1, l1, nd, nm, c1, jh, h1, k1⟩ := names_ex hh (n := xs.length + 3) (by omega)
  obtain ⟨d, S2, e2, d0, d1, h2, k2⟩ := take_ex (m := 4) h1 (by omega) (by omega)
  have c2 := k2.get c1 jh
  obtain ⟨m, rfl⟩ : ∃ m : Nat, d = m := ⟨d.toNat, by omega⟩
  have hrl : (ys.drop m ++ ys.take m).length = xs.length + 3 := by rw [List.length_append, List.length_drop, List.length_take]; omega
  have hrn : (ys.drop m ++ ys.take m).Nodup := (List.Perm.nodup_iff (by
    have : (ys.take m ++ ys.drop m).Perm (ys.drop m ++ ys.take m) := List.perm_append_comm
    rwa [List.take_append_drop] at this)).mp nd
  obtain ⟨f, ef⟩ := lay_names (cm := xs) (fr := (ys.drop m ++ ys.take m).take xs.length) hn (by rw [List.length_take]; omega)
  have fn : (xs.map f).Nodup := by rw [ef]; exact hrn.sublist (List.take_sublist _ _)
  refine ⟨f, S2, ?_, fun x hx y hy e => ?_, fun x hx => ?_, h2, k1.trans k2⟩
  · have e0 : F__law_names [.ref h, .int ((xs.length + 3 : Nat) : Int)] S = some (.ref j, S1) := e1
    have zx : (xs.map U.str).length = xs.length := by simp
    have eN : clN [some (.ref h), some (.lst (xs.map .str)), none, none] S = some (.nx, [some (.ref h), some (.lst (xs.map .str)), some (.ref j), none], S1) := by
      have ei : ((xs.length : Int) + 3) = ((xs.length + 3 : Nat) : Int) := by omega
      rw [← ei] at e0
      unfold clN
      rw [← zx] at e0
      generalize xs.map U.str = L at *
      simp [e0]
    have eT : clT [some (.ref h), some (.lst (xs.map .str)), some (.ref j), none] S1 = some (.nx, [some (.ref h), some (.lst (xs.map .str)), some (.ref j), some (.int (m : Int))], S2) := asg_of (arg_of (cons_of (cVar_of rfl) (cons_of cst_of (nil_of _ _))) e2)
    have zs : (ys.map U.str).length - m + min m (ys.map U.str).length ≤ sizeLine := le_size _ (by simp; omega)
    have z1 : ((ys.map U.str).drop m).length ≤ sizeLine := le_size _ (by simp; omega)
    have z2 : ((ys.map U.str).take m).length ≤ sizeLine := le_size _ (by simp; omega)
    have kz := keysZ_strs xs
    have hi := cutU_hi (ys.map U.str) m
    have lo := cutU_lo (ys.map U.str) m
    have eA : (ys.map U.str).drop m ++ (ys.map U.str).take m = (ys.drop m ++ ys.take m).map .str := by simp
    have ez : (xs.map (Sum.inr : Str → Key)).zip ((ys.map U.str).drop m ++ (ys.map U.str).take m) = nD xs fun x => .str (f x) := by
      rw [eA]
      have e3 : (ys.drop m ++ ys.take m) = xs.map f ++ (ys.drop m ++ ys.take m).drop xs.length := by rw [ef, List.take_append_drop]
      rw [e3, List.map_append]
      unfold nD
      rw [zip_more (by simp), List.map_map, List.zip_map']
      rfl
    have mg := nD_one hn fun x => .str (f x)
    have eZ : clZ [some (.ref h), some (.lst (xs.map .str)), some (.ref j), some (.int (m : Int))] S2 = some (DS xs f, S2) := by
      unfold DS
      rw [← mg, ← ez]
      generalize xs.map U.str = L at *
      generalize ys.map U.str = Y at *
      generalize xs.map (Sum.inr : Str → Key) = K at *
      unfold clZ
      simp [c2, hi, lo, zs, z1, z2, kz, lstU, ez]
    exact runF_of rfl rfl (called_cut ▸ (sqn eN).trans ((sqn eT).trans (sRet_of eZ)))
  · exact nodup_inj fn x hx y hy e
  · have hm : f x ∈ xs.map f := List.mem_map_of_mem hx
    rw [ef] at hm
    have := List.mem_of_mem_take hm
    rcases List.mem_append.mp this with q | q
    · exact nm _ (List.mem_of_mem_drop q)
    · exact nm _ (List.mem_of_mem_take q)
end K14
namespace K14
open PySem PySem.Spec PyProof.Rows L2 OF
noncomputable def lw1 : Sm := (sAsg (cArg F__law_hand (cCons (cVar 0) (cCons (cVar 1) cNil))) (gmName 2))
noncomputable def lw2 : Sm := (sPar2 3 4 (cCons (cArg F__law_program (cCons (cVar 2) (cCons (cCst (.int 7)) (cCons (cCst (.int 20)) (cCons (cCst (.int 5)) cNil))))) (cCons (cLc (itR1 (cCons (cArg F__law_take (cCons (cVar 2) (cCons (cCst (.int 5)) cNil))) cNil)) (.nm 23) cYes (cBin oSub (cArg F__law_take (cCons (cVar 2) (cCons (cCst (.int 9)) cNil))) (cCst (.int 4))) [23]) cNil)))
noncomputable def lw3 : Sm := (sAsg (cArg F__law_parts_of (cCons (cVar 3) cNil)) (gmPat (.tp [(.nm 5), (.nm 6), (.nm 7)])))
noncomputable def lw4 : Sm := (sPar2 8 9 (cCons (cArg F__law_called (cCons (cVar 2) (cCons (cVar 5) cNil))) (cCons (cArg F__law_called (cCons (cVar 2) (cCons (cVar 6) cNil))) cNil)))
noncomputable def lw5 : Sm := (sAsg (cArg oTup (cCons (cArg F__law_take (cCons (cVar 2) (cCons (cCst (.int 9999)) cNil))) (cCons (cArg F__law_pick (cCons (cVar 2) (cCons (cArg oLst (cCons (cCst (.int 1)) (cCons (cCst (.int 2)) (cCons (cCst (.int 7)) (cCons (cCst (.int 9998)) cNil))))) cNil))) cNil))) (gmPat (.tp [(.nm 10), (.nm 11)])))
noncomputable def lw6 : Sm := (sAsg (cArg (on1 (dictU false)) (cCons (cLcE (cCons (cVar 7) cNil) (.tp [(.nm 23), (.nm 24)]) cYes (cArg oTup (cCons (cVar 24) (cCons (cBin (addU false) (cCst (.int 1)) (cBin (o2I modI) (cBin (addU false) (cVar 10) (cBin (o2I mulI) (cVar 11) (cVar 23))) (cCst (.int 9999)))) cNil))) [23, 24]) cNil)) (gmName 12))
noncomputable def lw7 : Sm := (sAsg (cArg F__law_otherwise (cCons (cVar 3) (cCons (cVar 8) (cCons (cVar 9) (cCons (cVar 12) cNil))))) (gmName 13))
noncomputable def lw8 : Sm := (sAsg (cBin (addU false) (cCst (.int 1)) (cArg F__law_take (cCons (cVar 2) (cCons (cArg (on1 lenU) (cCons (cVar 13) cNil)) cNil)))) (gmName 14))
noncomputable def lw9 : Sm := (sAsg (cBin (addU false) (cBin (addU false) (cBin (addU false) (cSl false (cVar 13) cNoPart (cPart (cCst (.int 1)))) (cSl false (cVar 13) (cPart (cVar 14)) cNoPart)) (cSl false (cVar 13) (cPart (cCst (.int 1))) (cPart (cVar 14)))) (cArg oLst (cCons (cArg oTup (cCons (cCst (.str "straying")) (cCons (cArg oTup cNil) (cCons (cArg oTup (cCons (cCst (.str "go")) (cCons (cBin ixU (cBin ixU (cVar 13) (cCst (.int 0))) (cCst (.int 0))) cNil))) cNil)))) cNil))) (gmName 13))
noncomputable def lw10 : Sm := (sIf (cTru (cInV (cCst (.str "straying")) (cVar 8))) (sAsg (cSl false (cVar 13) cNoPart (cPart (cUn oNeg (cCst (.int 1))))) (gmName 13)) sNil)
noncomputable def lw11 : Sm := (sAsg (cArg (on1 tupleU) (cCons (cLc (itSeq (cVar 4)) (.nm 24) cYes (cBin (addU false) (cVar 24) (cBin (o2I mulI) (cCst (.int 1000003)) (cBin oSub (cArg F__law_take (cCons (cVar 2) (cCons (cCst (.int 5)) cNil))) (cCst (.int 2))))) [24]) cNil)) (gmName 15))
noncomputable def lw12 : Sm := (sAsg (cArg (fun us => (liftP P_run_plain) (us ++ dus_run_plain_2)) (cCons (cVar 3) (cCons (cArg (on1 tupleU) (cCons (cVar 4) cNil)) cNil))) (gmPat (.tp [(.nm 16), (.nm 17)])))
noncomputable def lw13 : Sm := (sAsg (cArg (fun us => (liftP P_run_plain) (us ++ dus_run_plain_2)) (cCons (cArg (on1 tupleU) (cCons (cVar 13) cNil)) (cCons (cVar 15) cNil))) (gmName 18))
noncomputable def lw14 : Sm := (sIf (cTru (cBin (eqU true) (cVar 18) (cArg oTup (cCons (cArg (liftP P__law_trace_called) (cCons (cVar 16) (cCons (cVar 8) (cCons (cVar 12) cNil)))) (cCons (cArg (liftP P__law_ending_called) (cCons (cVar 17) (cCons (cVar 9) (cCons (cVar 12) cNil)))) cNil))))) (sRet (cCst (.bl false))) sNil)
noncomputable def lw15 : Sm := (sIf (cTru (cBin (eqU true) (cArg (liftP P_said_in) (cCons (cArg (on1 tupleU) (cCons (cVar 13) cNil)) (cCons (cBin ixU (cVar 18) (cCst (.int 0))) cNil))) (cArg (liftP P_said_in) (cCons (cVar 3) (cCons (cVar 16) cNil))))) (sRet (cCst (.bl false))) sNil)
noncomputable def lw16 : Sm := (sAsg (cArg (fun us => (liftP P_run_plain) (us ++ dus_run_plain_2)) (cCons (cVar 3) (cCons (cBin (addU false) (cArg (on1 tupleU) (cCons (cVar 4) cNil)) (cArg oTup (cCons (cCst (.int 3)) (cCons (cCst (.int 0)) (cCons (cCst (.int 1)) cNil))))) cNil))) (gmPat (.tp [(.nm 19), (.nm 20)])))
noncomputable def lw17 : Sm := (sIf (cOrT (cTru (cBin (eqU true) (cSl false (cVar 19) cNoPart (cPart (cArg (on1 lenU) (cCons (cVar 16) cNil)))) (cVar 16))) (cAndT (cTru (cBin (eqU true) (cBin ixU (cVar 17) (cCst (.int 0))) (cCst (.str "bare")))) (cTru (cBin (eqU true) (cArg oTup (cCons (cVar 19) (cCons (cVar 20) cNil))) (cArg oTup (cCons (cVar 16) (cCons (cVar 17) cNil))))))) (sRet (cCst (.bl false))) sNil)
noncomputable def lw18 : Sm := (sAsg (cArg F__law_take (cCons (cVar 2) (cCons (cBin (addU false) (cArg (on1 lenU) (cCons (cVar 16) cNil)) (cCst (.int 1))) cNil))) (gmName 21))
noncomputable def lw19 : Sm := (sAsg (cArg2 (fun us ws S => if us.length = 2 ∧ ws.length = (["steps"] : List Str).length then (liftP P_run_plain) (gu_run_plain_2_steps us ws) S else none) (cCons (cVar 3) (cCons (cArg (on1 tupleU) (cCons (cVar 4) cNil)) cNil)) (cCons (cVar 21) cNil)) (gmName 22))
noncomputable def lw20 : Sm := (sIf (cOrT (cTru (cBin (eqU true) (cBin ixU (cVar 22) (cCst (.int 0))) (cSl false (cVar 16) cNoPart (cPart (cVar 21))))) (cAndT (cTru (cBin oLt (cVar 21) (cArg (on1 lenU) (cCons (cVar 16) cNil)))) (cTru (cBin (eqU true) (cBin ixU (cVar 22) (cCst (.int 1))) (cArg oTup (cCons (cCst (.str "dry")) cNil)))))) (sRet (cCst (.bl false))) sNil)
noncomputable def lw21 : Sm := (sIf (cAndT (cTru (cBin (eqU false) (cVar 17) (cArg oTup (cCons (cCst (.str "dry")) cNil)))) (cTru (cBin (eqU true) (cSl false (cBin ixU (cArg2 (fun us ws S => if us.length = 2 ∧ ws.length = (["steps"] : List Str).length then (liftP P_run_plain) (gu_run_plain_2_steps us ws) S else none) (cCons (cVar 3) (cCons (cArg (on1 tupleU) (cCons (cVar 4) cNil)) cNil)) (cCons (cCst (.int 260)) cNil)) (cCst (.int 0))) cNoPart (cPart (cArg (on1 lenU) (cCons (cVar 16) cNil)))) (cVar 16)))) (sRet (cCst (.bl false))) sNil)
noncomputable def lw : Sm := sSeq lw1 (sSeq lw2 (sSeq lw3 (sSeq lw4 (sSeq lw5 (sSeq lw6 (sSeq lw7 (sSeq lw8 (sSeq lw9 (sSeq lw10 (sSeq lw11 (sSeq lw12 (sSeq lw13 (sSeq lw14 (sSeq lw15 (sSeq lw16 (sSeq lw17 (sSeq lw18 (sSeq lw19 (sSeq lw20 lw21)))))))))))))))))))
theorem law_cut : c_law = sSeq (sFor (itR1 (cCons (cArg (on2 maxU) (cCons (cCst (.int 1)) (cCons (cArg (on2 minU) (cCons (cArg (on1 lenU) (cCons (cVar 0) cNil)) (cCons (cCst (.int 2)) cNil))) cNil))) cNil)) (.nm 1) lw) (sRet (cCst (.bl true))) := rfl
theorem asgP_of {c : Cm U} {pt : Pat} {E : Env'} {S S1 : Sto} {u : U} {bs : List (Nat × U)} (h : c E S = some (u, S1)) (hb : bindP pt u = some bs) : sAsg c (gmPat pt) E S = some (.nx, setAll E bs, S1) := by
  unfold sAsg gmPat
  simp [h, hb]
theorem eqU_any {neg : Bool} {u w : U} {S : Sto} (h : okU 60 u = true) (h2 : okU 60 w = true) : ∃ b, OF.eqU neg u w S = some (.bl b, S) := by
  unfold OF.eqU orO eqS
  cases e : eqB u w with
  | some k => exact ⟨_, rfl⟩
  | none =>
    show ∃ b, eqDU neg u w S = _
    unfold eqDU
    obtain ⟨d, e1, h1, h3⟩ := okU_toD 60 u h
    obtain ⟨d2, e2, h12, h32⟩ := okU_toD 60 w h2
    rw [toDS_noref h, toDS_noref h2, e1, e2]
    have hs : SeqAt.shaped d = true := by unfold SeqAt.shaped; simp [h1]; omega
    have hs2 : SeqAt.shaped d2 = true := by unfold SeqAt.shaped; simp [h12]; omega
    simp only [hs, hs2, and_self, if_true]
    exact ⟨_, rfl⟩
theorem fed_map {i h : Nat} {c : Cm U} {E : Env'} (hc : ∀ (u : U) (S : Sto), Hn S h → ∃ (x : Int) (S' : Sto), c (E.set i (some u)) S = some (.int x, S') ∧ (-4 ≤ x ∧ x ≤ 4) ∧ Hn S' h ∧ Kh h S S') : ∀ (us : List U) (S : Sto), Hn S h → ∃ (xs : List Int) (S' : Sto), mapC (.nm i) cYes c E us S = some (xs.map .int, S') ∧ xs.length = us.length ∧ (∀ x ∈ xs, -4 ≤ x ∧ x ≤ 4) ∧ Hn S' h ∧ Kh h S S'
  | [], S, hh => ⟨[], S, rfl, rfl, by simp, hh, Kh.refl _ _⟩
  | u :: us, S, hh => by
    obtain ⟨x, S1, e1, b1, h1, k1⟩ := hc u S hh
    obtain ⟨xs, S2, e2, l2, b2, h2, k2⟩ := fed_map hc us S1 h1
    refine ⟨x :: xs, S2, ?_, by simp [l2], fun y hy => ?_, h2, k1.trans k2⟩
    · rw [mapC_cons]
      simp only [bindP_nm, setAll_cons, setAll_nil, cYes, e1, e2]
      rfl
    · rcases List.mem_cons.mp hy with rfl | hy
      · exact b1
      · exact b2 y hy
theorem more_map {i h : Nat} {c : Cm U} {E : Env'} (hc : ∀ (y : Int) (S : Sto), -4 ≤ y → y ≤ 4 → Hn S h → ∃ (x : Int) (S' : Sto), c (E.set i (some (.int y))) S = some (.int x, S') ∧ x % 1000003 = y % 1000003 ∧ Hn S' h ∧ Kh h S S') : ∀ (ys : List Int) (S : Sto), (∀ y ∈ ys, -4 ≤ y ∧ y ≤ 4) → Hn S h → ∃ (xs : List Int) (S' : Sto), mapC (.nm i) cYes c E (ys.map .int) S = some (xs.map .int, S') ∧ xs.map (· % 1000003) = ys.map (· % 1000003) ∧ Hn S' h ∧ Kh h S S'
  | [], S, _, hh => ⟨[], S, rfl, rfl, hh, Kh.refl _ _⟩
  | y :: ys, S, hy, hh => by
    obtain ⟨x, S1, e1, b1, h1, k1⟩ := hc y S (hy y (by simp)).1 (hy y (by simp)).2 hh
    obtain ⟨xs, S2, e2, l2, h2, k2⟩ := more_map hc ys S1 (fun z hz => hy z (by simp [hz])) h1
    refine ⟨x :: xs, S2, ?_, by simp [l2, b1], h2, k1.trans k2⟩
    rw [List.map_cons, mapC_cons]
    simp only [bindP_nm, setAll_cons, setAll_nil, cYes, e1, e2]
    rfl
theorem lw2_ok {S : Sto} {h : Nat} (hh : Hn S h) (x0 x1 x3 x4 x5 x6 x7 x8 x9 x10 x11 x12 x13 x14 x15 x16 x17 x18 x19 x20 x21 x22 x23 x24 : Option U) : ∃ (p : List Bk) (xs : List Int) (S' : Sto), lw2 [x0, x1, some (.ref h), x3, x4, x5, x6, x7, x8, x9, x10, x11, x12, x13, x14, x15, x16, x17, x18, x19, x20, x21, x22, x23, x24] S = some (.nx, [x0, x1, some (.ref h), some (encP p), some (.lst (xs.map .int)), x5, x6, x7, x8, x9, x10, x11, x12, x13, x14, x15, x16, x17, x18, x19, x20, x21, x22, x23, x24], S') ∧ Prog p ∧ xs.length ≤ 4 ∧ (∀ x ∈ xs, -4 ≤ x ∧ x ≤ 4) ∧ Hn S' h := by
  obtain ⟨p, S1, e1, hp, h1, _⟩ := program_ex hh
  obtain ⟨d, S2, e2, d0, d1, h2, _⟩ := take_ex (m := 5) h1 (by omega) (by omega)
  obtain ⟨m, rfl⟩ : ∃ m : Nat, d = m := ⟨d.toNat, by omega⟩
  obtain ⟨xs, S3, e3, l3, b3, h3, _⟩ := fed_map (i := 23) (c := cBin oSub (cArg F__law_take (cCons (cVar 2) (cCons (cCst (.int 9)) cNil))) (cCst (.int 4))) (E := [x0, x1, some (.ref h), x3, x4, x5, x6, x7, x8, x9, x10, x11, x12, x13, x14, x15, x16, x17, x18, x19, x20, x21, x22, none, x24]) (h := h) (fun u S hh => by
    obtain ⟨d, S', e, d0, d1, h', k'⟩ := take_ex (m := 9) hh (by omega) (by omega)
    exact ⟨d - 4, S', by simp [e], by omega, h', k'⟩) (rangeU 0 m) S2 h2
  have l4 : xs.length ≤ 4 := by
    rw [l3]
    unfold rangeU
    simp
    omega
  have it : itR1 (cCons (cArg F__law_take (cCons (cVar 2) (cCons (cCst (.int 5)) cNil))) cNil) [x0, x1, some (.ref h), x3, x4, x5, x6, x7, x8, x9, x10, x11, x12, x13, x14, x15, x16, x17, x18, x19, x20, x21, x22, x23, x24] S1 = some (rangeU 0 m, S2) := by
    rw [itR1_k, show cCons (cArg F__law_take (cCons (cVar 2) (cCons (cCst (.int 5)) cNil))) cNil [x0, x1, some (.ref h), x3, x4, x5, x6, x7, x8, x9, x10, x11, x12, x13, x14, x15, x16, x17, x18, x19, x20, x21, x22, x23, x24] S1 = some ([.int (m : Int)], S2) from cons_of (arg_of (cons_of (cVar_of rfl) (cons_of cst_of (nil_of _ _))) e2) (nil_of _ _)]
    show r1K S2 [.int (m : Int)] = _
    exact r1K_nat (n := m) (by omega) S2
  have hz : (xs.map U.int).length ≤ sizeLine := le_size _ (by rw [List.length_map]; omega)
  have eL : cLc (itR1 (cCons (cArg F__law_take (cCons (cVar 2) (cCons (cCst (.int 5)) cNil))) cNil)) (.nm 23) cYes (cBin oSub (cArg F__law_take (cCons (cVar 2) (cCons (cCst (.int 9)) cNil))) (cCst (.int 4))) [23] [x0, x1, some (.ref h), x3, x4, x5, x6, x7, x8, x9, x10, x11, x12, x13, x14, x15, x16, x17, x18, x19, x20, x21, x22, x23, x24] S1 = some (.lst (xs.map .int), S3) := cLc_of it e3 hz
  exact ⟨p, xs, S3, par2_of (arg_of (cons_of (cVar_of rfl) (cons_of cst_of (cons_of cst_of (cons_of cst_of (nil_of _ _))))) e1) eL, hp, l4, b3, h3⟩
theorem lw3_ok {p : List Bk} (hp : Prog p) {S : Sto} {h : Nat} (hh : Hn S h) (x0 x1 x4 x5 x6 x7 x8 x9 x10 x11 x12 x13 x14 x15 x16 x17 x18 x19 x20 x21 x22 x23 x24 : Option U) : ∃ (k : Nat) (S' : Sto), lw3 [x0, x1, some (.ref h), some (encP p), x4, x5, x6, x7, x8, x9, x10, x11, x12, x13, x14, x15, x16, x17, x18, x19, x20, x21, x22, x23, x24] S = some (.nx, [x0, x1, some (.ref h), some (encP p), x4, some (.lst ((p.map Bk.name).map .str)), some (.lst ((namesP p).map .str)), some (.ref k), x8, x9, x10, x11, x12, x13, x14, x15, x16, x17, x18, x19, x20, x21, x22, x23, x24], S') ∧ S'[k]? = some (.lst ((numsP p).map .int)) ∧ k ≠ h ∧ Hn S' h := by
  have pl := hp.len
  obtain ⟨k, S', e, hk, kl, kz⟩ := parts_ok hp.few (by omega) S
  obtain ⟨g, b, eh, ho⟩ := hh
  have hl := cell_lt eh
  have e' : cArg F__law_parts_of (cCons (cVar 3) cNil) [x0, x1, some (.ref h), some (encP p), x4, x5, x6, x7, x8, x9, x10, x11, x12, x13, x14, x15, x16, x17, x18, x19, x20, x21, x22, x23, x24] S = some (.tup [.lst ((p.map Bk.name).map .str), .lst ((namesP p).map .str), .ref k], S') := arg_of (cons_of (cVar_of rfl) (nil_of _ _)) e
  have e2 := asgP_of (pt := .tp [(.nm 5), (.nm 6), (.nm 7)]) e' rfl
  exact ⟨k, S', e2, hk, by omega, ⟨g, b, by rw [kz.eq h hl]; exact eh, ho⟩⟩
theorem lw4_ok {p : List Bk} (hp : Prog p) {S : Sto} {h : Nat} (hh : Hn S h) (x0 x1 x3 x4 x7 x8 x9 x10 x11 x12 x13 x14 x15 x16 x17 x18 x19 x20 x21 x22 x23 x24 : Option U) : ∃ (β ν : Str → Str) (S' : Sto), lw4 [x0, x1, some (.ref h), x3, x4, some (.lst ((p.map Bk.name).map .str)), some (.lst ((namesP p).map .str)), x7, x8, x9, x10, x11, x12, x13, x14, x15, x16, x17, x18, x19, x20, x21, x22, x23, x24] S = some (.nx, [x0, x1, some (.ref h), x3, x4, some (.lst ((p.map Bk.name).map .str)), some (.lst ((namesP p).map .str)), x7, some (DS (p.map Bk.name) β), some (DS (namesP p) ν), x10, x11, x12, x13, x14, x15, x16, x17, x18, x19, x20, x21, x22, x23, x24], S') ∧ (∀ x ∈ p.map Bk.name, ∀ y ∈ p.map Bk.name, β x = β y → x = y) ∧ (∀ x ∈ p.map Bk.name, Nm (β x)) ∧ Inj (namesP p) ν ∧ (∀ x ∈ namesP p, Nm (ν x)) ∧ Hn S' h ∧ Kh h S S' := by
  have pl := hp.len
  have nl := hp.names.1
  obtain ⟨β, S1, e1, b1, n1, h1, k1⟩ := called_ex hh hp.nd (by simp; omega)
  obtain ⟨ν, S2, e2, b2, n2, h2, k2⟩ := called_ex h1 (namesP_nd p) (by omega)
  exact ⟨β, ν, S2, par2_of (arg_of (cons_of (cVar_of rfl) (cons_of (cVar_of rfl) (nil_of _ _))) e1) (arg_of (cons_of (cVar_of rfl) (cons_of (cVar_of rfl) (nil_of _ _))) e2), b1, n1, b2, n2, h2, k1.trans k2⟩
theorem tup2_of {a b : Cm U} {env : Env'} {S S1 S2 : Sto} {u w : U} (h : a env S = some (u, S1)) (h2 : b env S1 = some (w, S2)) : cArg oTup (cCons a (cCons b cNil)) env S = some (.tup [u, w], S2) := by
  have z : (2 : Nat) ≤ sizeLine := le_size _ (by omega)
  exact arg_of (cons_of h (cons_of h2 (nil_of _ _))) (by unfold oTup; simp [z])
theorem lw5_ok {S : Sto} {h : Nat} (hh : Hn S h) (x0 x1 x3 x4 x5 x6 x7 x8 x9 x10 x11 x12 x13 x14 x15 x16 x17 x18 x19 x20 x21 x22 x23 x24 : Option U) : ∃ (f s : Int) (S' : Sto), lw5 [x0, x1, some (.ref h), x3, x4, x5, x6, x7, x8, x9, x10, x11, x12, x13, x14, x15, x16, x17, x18, x19, x20, x21, x22, x23, x24] S = some (.nx, [x0, x1, some (.ref h), x3, x4, x5, x6, x7, x8, x9, some (.int f), some (.int s), x12, x13, x14, x15, x16, x17, x18, x19, x20, x21, x22, x23, x24], S') ∧ 0 ≤ f ∧ f < 9999 ∧ (s = 1 ∨ s = 2 ∨ s = 7 ∨ s = 9998) ∧ Hn S' h ∧ Kh h S S' := by
  obtain ⟨d, S1, e1, d0, d1, h1, k1⟩ := take_ex (m := 9999) hh (by omega) (by omega)
  obtain ⟨u, S2, e2, hu, h2, k2⟩ := pick_ex (us := [U.int 1, .int 2, .int 7, .int 9998]) h1 (by simp) (by simp)
  obtain ⟨s, rfl, hs⟩ : ∃ s : Int, u = .int s ∧ (s = 1 ∨ s = 2 ∨ s = 7 ∨ s = 9998) := by
    simp at hu
    rcases hu with rfl | rfl | rfl | rfl
    · exact ⟨1, rfl, by simp⟩
    · exact ⟨2, rfl, by simp⟩
    · exact ⟨7, rfl, by simp⟩
    · exact ⟨9998, rfl, by simp⟩
  have z4 : (4 : Nat) ≤ sizeLine := le_size _ (by omega)
  have e' : cArg oTup (cCons (cArg F__law_take (cCons (cVar 2) (cCons (cCst (.int 9999)) cNil))) (cCons (cArg F__law_pick (cCons (cVar 2) (cCons (cArg oLst (cCons (cCst (.int 1)) (cCons (cCst (.int 2)) (cCons (cCst (.int 7)) (cCons (cCst (.int 9998)) cNil))))) cNil))) cNil)) [x0, x1, some (.ref h), x3, x4, x5, x6, x7, x8, x9, x10, x11, x12, x13, x14, x15, x16, x17, x18, x19, x20, x21, x22, x23, x24] S = some (.tup [.int d, .int s], S2) := tup2_of (arg_of (cons_of (cVar_of rfl) (cons_of cst_of (nil_of _ _))) e1) (arg_of (cons_of (cVar_of rfl) (cons_of (arg_of (cons_of cst_of (cons_of cst_of (cons_of cst_of (cons_of cst_of (nil_of _ _))))) (by unfold oLst; simp [z4])) (nil_of _ _))) e2)
  have e3 := asgP_of (pt := .tp [(.nm 10), (.nm 11)]) e' rfl
  exact ⟨d, s, S2, e3, d0, d1, hs, h2, k1.trans k2⟩
end K14
namespace K14
open PySem PySem.Spec PyProof.Rows L2 OF
def nuf (f s : Int) (j : Nat) : Int := 1 + (f + s * (j : Int)) % 9999
def kap (f s : Int) (ns : List Int) (n : Int) : Int := nuf f s (ns.idxOf n)
theorem enum_ints (ns : List Int) : enumU (ns.map .int) = (ns.zipIdx 0).map fun q => U.tup [.int (q.2 : Int), .int q.1] := by
  unfold enumU zipU rangeU
  refine List.ext_getElem (by simp) fun i h1 h2 => ?_
  simp
theorem idx_get : ∀ {ns : List Int} (hn : ns.Nodup) (i : Nat) (hi : i < ns.length), ns.idxOf ns[i] = i
  | x :: ns, hn, 0, hi => by simp
  | x :: ns, hn, i + 1, hi => by
    obtain ⟨n1, n2⟩ := List.nodup_cons.mp hn
    have hi' : i < ns.length := by simpa using hi
    have ne : ¬ x = ns[i] := fun e => n1 (e ▸ List.getElem_mem hi')
    rw [List.getElem_cons_succ, List.idxOf_cons]
    have nb : (x == ns[i]) = false := by simpa using ne
    rw [nb, idx_get n2 i hi']
    rfl
theorem zip_idx {α : Type} (g : Int → Nat → α) {ns : List Int} (hn : ns.Nodup) : (ns.zipIdx 0).map (fun q => g q.1 q.2) = ns.map fun n => g n (ns.idxOf n) := by
  refine List.ext_getElem (by simp) fun i h1 h2 => ?_
  have hi : i < ns.length := by simpa using h2
  have e : ns.idxOf ns[i] = i := idx_get hn i hi
  simp [e]
theorem kap_inj {f s : Int} (f0 : 0 ≤ f) (hs : s = 1 ∨ s = 2 ∨ s = 7 ∨ s = 9998) {ns : List Int} (hl : ns.length ≤ 100) : ∀ x ∈ ns, ∀ y ∈ ns, kap f s ns x = kap f s ns y → x = y := by
  intro x hx y hy e
  have ix : ns.idxOf x < ns.length := List.idxOf_lt_length_of_mem hx
  have iy : ns.idxOf y < ns.length := List.idxOf_lt_length_of_mem hy
  have ex : ns[ns.idxOf x] = x := List.getElem_idxOf ix
  have ey : ns[ns.idxOf y] = y := List.getElem_idxOf iy
  have ei : ns.idxOf x = ns.idxOf y := by
    unfold kap nuf at e
    generalize ns.idxOf x = i at *
    generalize ns.idxOf y = j at *
    rcases hs with rfl | rfl | rfl | rfl <;> omega
  rw [← ex, ← ey]
  simp only [ei]
theorem nI_one {ns : List Int} (hn : ns.Nodup) (κ : Int → Int) : mergeU [] (nI ns κ) = nI ns κ := by
  have key : ∀ (l acc : List (Key × U)), ((acc ++ l).map (·.1)).Nodup → mergeU acc l = acc ++ l := by
    intro l
    induction l with
    | nil => intro acc _; simp [mergeU]
    | cons kv l ih =>
      intro acc h
      have hk : ∀ q ∈ acc, q.1 ≠ kv.1 := fun q hq e => by
        rw [List.map_append, List.nodup_append] at h
        exact h.2.2 q.1 (List.mem_map_of_mem hq) kv.1 (by simp) e
      have e1 : putKU acc kv.1 kv.2 = acc ++ [kv] := by
        unfold putKU
        rw [if_neg]
        simp only [List.any_eq_true, decide_eq_true_eq, not_exists, not_and]
        exact fun q hq e => hk q hq e
      have e2 : mergeU acc (kv :: l) = mergeU (putKU acc kv.1 kv.2) l := rfl
      rw [e2, e1, ih (acc ++ [kv]) (by simpa using h)]
      simp
  have := key (nI ns κ) [] (by
    have e : (nI ns κ).map (·.1) = ns.map .inl := by unfold nI; simp
    rw [List.nil_append, e]
    exact List.Pairwise.map _ (fun a b h q => h (Sum.inl.inj q)) hn)
  simpa using this
theorem pairs_nI (κ : Int → Int) : ∀ ns : List Int, pairsU (ns.map fun n => U.tup [.int n, .int (κ n)]) = some (nI ns κ)
  | [] => rfl
  | n :: ns => by
    have ih := pairs_nI κ ns
    show pairsU (.tup [.int n, .int (κ n)] :: ns.map fun n => U.tup [.int n, .int (κ n)]) = _
    simp [pairsU, keyU, ih, nI]
theorem lw6_ok {ns : List Int} (hn : ns.Nodup) (hl : ns.length ≤ 100) {f s : Int} (f0 : 0 ≤ f) (f1 : f < 9999) (hs : s = 1 ∨ s = 2 ∨ s = 7 ∨ s = 9998) {S : Sto} {k : Nat} (hk : S[k]? = some (.lst (ns.map .int))) (x0 x1 x2 x3 x4 x5 x6 x8 x9 x13 x14 x15 x16 x17 x18 x19 x20 x21 x22 x23 x24 : Option U) (x12 : Option U) : lw6 [x0, x1, x2, x3, x4, x5, x6, some (.ref k), x8, x9, some (.int f), some (.int s), x12, x13, x14, x15, x16, x17, x18, x19, x20, x21, x22, x23, x24] S = some (.nx, [x0, x1, x2, x3, x4, x5, x6, some (.ref k), x8, x9, some (.int f), some (.int s), some (DI ns (kap f s ns)), x13, x14, x15, x16, x17, x18, x19, x20, x21, x22, x23, x24], S) := by
  have z2 : (2 : Nat) ≤ sizeLine := le_size _ (by omega)
  have m9 : ∀ i, modI i 9999 = some (.int (i % 9999)) := fun i => modI_ok (by decide)
  have mg := mapG_tn (pt := .tp [(.nm 23), (.nm 24)]) (t := cYes) (c := (cArg oTup (cCons (cVar 24) (cCons (cBin (addU false) (cCst (.int 1)) (cBin (o2I modI) (cBin (addU false) (cVar 10) (cBin (o2I mulI) (cVar 11) (cVar 23))) (cCst (.int 9999)))) cNil)))) (env := [x0, x1, x2, x3, x4, x5, x6, some (.ref k), x8, x9, some (.int f), some (.int s), x12, x13, x14, x15, x16, x17, x18, x19, x20, x21, x22, none, none]) (S := S) (g := some k) (us0 := ns.map .int) (enc := fun q : Int × Nat => U.tup [.int (q.2 : Int), .int q.1]) (p := fun _ => true) (f := fun q => U.tup [.int q.1, .int (nuf f s q.2)]) hk (ns.zipIdx 0) fun q hq => by
    obtain ⟨n, j⟩ := q
    refine ⟨[(23, .int (j : Int)), (24, .int n)], rfl, rfl, fun _ => ?_⟩
    have hj : j < 100 := by
      have := List.snd_lt_of_mem_zipIdx hq
      simp at this
      omega
    have mm : mulI s (j : Int) = some (.int (s * j)) := by
      rcases hs with rfl | rfl | rfl | rfl <;> exact mulI_ok (sm (by decide)) (sm (by omega))
    show (cArg oTup (cCons (cVar 24) (cCons (cBin (addU false) (cCst (.int 1)) (cBin (o2I modI) (cBin (addU false) (cVar 10) (cBin (o2I mulI) (cVar 11) (cVar 23))) (cCst (.int 9999)))) cNil))) [x0, x1, x2, x3, x4, x5, x6, some (.ref k), x8, x9, some (.int f), some (.int s), x12, x13, x14, x15, x16, x17, x18, x19, x20, x21, x22, some (.int (j : Int)), some (.int n)] S = _
    simp [mm, m9, z2, nuf]
  rw [List.filter_eq_self.mpr fun _ _ => rfl, zip_idx (fun n j => U.tup [.int n, .int (nuf f s j)]) hn, ← enum_ints] at mg
  have zl : (ns.map fun n => U.tup [.int n, .int (nuf f s (ns.idxOf n))]).length ≤ sizeLine := le_size _ (by rw [List.length_map]; omega)
  have pr := pairs_nI (kap f s ns) ns
  have me := nI_one hn (kap f s ns)
  have eL : cLcE (cCons (cVar 7) cNil) (.tp [(.nm 23), (.nm 24)]) cYes (cArg oTup (cCons (cVar 24) (cCons (cBin (addU false) (cCst (.int 1)) (cBin (o2I modI) (cBin (addU false) (cVar 10) (cBin (o2I mulI) (cVar 11) (cVar 23))) (cCst (.int 9999)))) cNil))) [23, 24] [x0, x1, x2, x3, x4, x5, x6, some (.ref k), x8, x9, some (.int f), some (.int s), x12, x13, x14, x15, x16, x17, x18, x19, x20, x21, x22, x23, x24] S = some (.lst (ns.map fun n => U.tup [.int n, .int (kap f s ns n)]), S) := by
    have it : cCons (cVar 7) cNil [x0, x1, x2, x3, x4, x5, x6, some (.ref k), x8, x9, some (.int f), some (.int s), x12, x13, x14, x15, x16, x17, x18, x19, x20, x21, x22, x23, x24] S = some ([.ref k], S) := cons_of (cVar_of rfl) (nil_of _ _)
    unfold cLcE cLcEL
    rw [it]
    simp only [hk]
    rw [show wipeE [x0, x1, x2, x3, x4, x5, x6, some (.ref k), x8, x9, some (.int f), some (.int s), x12, x13, x14, x15, x16, x17, x18, x19, x20, x21, x22, x23, x24] [23, 24] = [x0, x1, x2, x3, x4, x5, x6, some (.ref k), x8, x9, some (.int f), some (.int s), x12, x13, x14, x15, x16, x17, x18, x19, x20, x21, x22, none, none] from rfl, mg]
    simp only [zl, if_true]
    rfl
  refine asg_of (arg_of (cons_of eL (nil_of _ _)) ?_)
  unfold DI
  generalize (ns.map fun n => U.tup [.int n, .int (kap f s ns n)]) = L at *
  simp [dictU, pr, me]
theorem lw7_ok {β ν : Str → Str} {κ : Int → Int} {bs ws : List Str} {ns : List Int} {p : List Bk} (pl : p.length ≤ 24) (hx : ∀ b ∈ p, b.name ∈ bs ∧ (∀ r ∈ b.rows, (∀ x ∈ r.nms, x ∈ ws) ∧ r.num ∈ ns) ∧ (∀ x ∈ b.en.asks, x ∈ ws) ∧ (∀ x ∈ b.en.goals, x ∈ bs) ∧ b.rows.length ≤ 1000) {S : Sto} {h : Nat} (hh : Hn S h) (x0 x1 x2 x4 x5 x6 x7 x10 x11 x13 x14 x15 x16 x17 x18 x19 x20 x21 x22 x23 x24 : Option U) : ∃ (m : Nat) (S' : Sto), lw7 [x0, x1, x2, some (encP p), x4, x5, x6, x7, some (DS bs β), some (DS ws ν), x10, x11, some (DI ns κ), x13, x14, x15, x16, x17, x18, x19, x20, x21, x22, x23, x24] S = some (.nx, [x0, x1, x2, some (encP p), x4, x5, x6, x7, some (DS bs β), some (DS ws ν), x10, x11, some (DI ns κ), some (.ref m), x14, x15, x16, x17, x18, x19, x20, x21, x22, x23, x24], S') ∧ S'[m]? = some (.lst ((p.map (rnB β ν κ)).map encB)) ∧ m ≠ h ∧ Hn S' h := by
  obtain ⟨S', e, hm, kz⟩ := other_ok pl hx S
  obtain ⟨g, b, eh, ho⟩ := hh
  have hl := cell_lt eh
  exact ⟨S.length, S', asg_of (arg_of (cons_of (cVar_of rfl) (cons_of (cVar_of rfl) (cons_of (cVar_of rfl) (cons_of (cVar_of rfl) (nil_of _ _))))) e), hm, by omega, ⟨g, b, by rw [kz.eq h hl]; exact eh, ho⟩⟩
theorem lw8_ok {P : List Bk} (p0 : P ≠ []) (pl : P.length ≤ 24) {S : Sto} {h m : Nat} (hh : Hn S h) (hm : S[m]? = some (.lst (P.map encB))) (mh : m ≠ h) (x0 x1 x3 x4 x5 x6 x7 x8 x9 x10 x11 x12 x14 x15 x16 x17 x18 x19 x20 x21 x22 x23 x24 : Option U) : ∃ (j : Nat) (S' : Sto), lw8 [x0, x1, some (.ref h), x3, x4, x5, x6, x7, x8, x9, x10, x11, x12, some (.ref m), x14, x15, x16, x17, x18, x19, x20, x21, x22, x23, x24] S = some (.nx, [x0, x1, some (.ref h), x3, x4, x5, x6, x7, x8, x9, x10, x11, x12, some (.ref m), some (.int (j : Nat)), x15, x16, x17, x18, x19, x20, x21, x22, x23, x24], S') ∧ 1 ≤ j ∧ j ≤ P.length ∧ S'[m]? = some (.lst (P.map encB)) ∧ Hn S' h := by
  have l0 := List.length_pos_iff.mpr p0
  obtain ⟨d, S1, e1, d0, d1, h1, k1⟩ := take_ex (m := (P.length : Int)) hh (by omega) (by omega)
  obtain ⟨j, rfl⟩ : ∃ j : Nat, d = j := ⟨d.toNat, by omega⟩
  refine ⟨1 + j, S1, ?_, by omega, by omega, k1.get hm mh, h1⟩
  have zl : (P.map encB).length = P.length := by simp
  have e1' : F__law_take [.ref h, .int ((P.map encB).length : Nat)] S = some (.int (j : Int), S1) := by rw [zl]; exact e1
  refine asg_of ?_
  generalize P.map encB = L at *
  simp [hm, e1']
theorem encB_stray (x : Str) : encB (stray x) = .tup [.str "straying", .tup [], .tup [.str "go", .str x]] := rfl
theorem lw9_ok {P : List Bk} {c : Bk} (hc : P.head? = some c) (pl : P.length ≤ 24) {j : Nat} {S : Sto} {m : Nat} (hm : S[m]? = some (.lst (P.map encB))) (x0 x1 x2 x3 x4 x5 x6 x7 x8 x9 x10 x11 x12 x15 x16 x17 x18 x19 x20 x21 x22 x23 x24 : Option U) : lw9 [x0, x1, x2, x3, x4, x5, x6, x7, x8, x9, x10, x11, x12, some (.ref m), some (.int (j : Nat)), x15, x16, x17, x18, x19, x20, x21, x22, x23, x24] S = some (.nx, [x0, x1, x2, x3, x4, x5, x6, x7, x8, x9, x10, x11, x12, some (.lst ((othL P j (some c.name)).map encB)), some (.int (j : Nat)), x15, x16, x17, x18, x19, x20, x21, x22, x23, x24], S) := by
  have z0 : (0 : Nat) ≤ sizeLine := le_size _ (by omega)
  have z1 : (1 : Nat) ≤ sizeLine := le_size _ (by omega)
  have z2 : (2 : Nat) ≤ sizeLine := le_size _ (by omega)
  have z3 : (3 : Nat) ≤ sizeLine := le_size _ (by omega)
  have a1 := cutU_lo (P.map encB) 1
  have a2 := cutU_hi (P.map encB) j
  have a3 := cutU_mid (P.map encB) 1 j
  obtain ⟨P', rfl⟩ : ∃ P', P = c :: P' := by
    cases P with
    | nil => simp at hc
    | cons d P => simp at hc; subst hc; exact ⟨P, rfl⟩
  have ix : ixU (.ref m) (.int 0) S = some (encB c, S) := by simp [hm]
  have ix2 : ∀ S, ixU (encB c) (.int 0) S = some (.str c.name, S) := fun S => by simp [encB]
  have eR : (othL (c :: P') j (some c.name)).map encB = ((c :: P').map encB).take 1 ++ ((c :: P').map encB).drop j ++ (((c :: P').map encB).take j).drop 1 ++ [encB (stray c.name)] := by
    unfold othL
    simp [List.map_take, List.map_drop]
  rw [eR, encB_stray]
  refine asg_of ?_
  have L0 : ((c :: P').map encB).length ≤ 24 := by simpa using pl
  generalize (c :: P').map encB = L at *
  have y1 : (L.take 1).length ≤ sizeLine := le_size _ (by simp; omega)
  have y2 : (L.drop j).length ≤ sizeLine := le_size _ (by simp; omega)
  have y3 : ((L.take j).drop 1).length ≤ sizeLine := le_size _ (by simp; omega)
  have y4 : (L.take 1).length + (L.drop j).length ≤ sizeLine := le_size _ (by simp; omega)
  have y5 : (L.take 1 ++ L.drop j).length + ((L.take j).drop 1).length ≤ sizeLine := le_size _ (by simp; omega)
  have y6 : (L.take 1 ++ L.drop j ++ (L.take j).drop 1).length + [U.tup [.str "straying", .tup [], .tup [.str "go", .str c.name]]].length ≤ sizeLine := le_size _ (by simp; omega)
  have s1 : cSl false (cVar 13) cNoPart (cPart (cCst (.int 1))) [x0, x1, x2, x3, x4, x5, x6, x7, x8, x9, x10, x11, x12, some (.ref m), some (.int (j : Nat)), x15, x16, x17, x18, x19, x20, x21, x22, x23, x24] S = some (.lst (L.take 1), S) := by
    have a1' : cutU L none (some 1) = L.take 1 := a1
    clear ix
    simp [hm, a1', y1, -cutU_t1]
  have s2 : cSl false (cVar 13) (cPart (cVar 14)) cNoPart [x0, x1, x2, x3, x4, x5, x6, x7, x8, x9, x10, x11, x12, some (.ref m), some (.int (j : Nat)), x15, x16, x17, x18, x19, x20, x21, x22, x23, x24] S = some (.lst (L.drop j), S) := by
    clear ix
    simp [hm, a2]
  have s3 : cSl false (cVar 13) (cPart (cCst (.int 1))) (cPart (cVar 14)) [x0, x1, x2, x3, x4, x5, x6, x7, x8, x9, x10, x11, x12, some (.ref m), some (.int (j : Nat)), x15, x16, x17, x18, x19, x20, x21, x22, x23, x24] S = some (.lst ((L.take j).drop 1), S) := by
    have a3' : cutU L (some 1) (some (j : Int)) = (L.take j).drop 1 := a3
    clear ix
    simp [hm, a3']
  generalize cSl false (cVar 13) cNoPart (cPart (cCst (.int 1))) = c1 at *
  generalize cSl false (cVar 13) (cPart (cVar 14)) cNoPart = c2 at *
  generalize cSl false (cVar 13) (cPart (cCst (.int 1))) (cPart (cVar 14)) = c3 at *
  have t1 : cBin (addU false) c1 c2 [x0, x1, x2, x3, x4, x5, x6, x7, x8, x9, x10, x11, x12, some (.ref m), some (.int (j : Nat)), x15, x16, x17, x18, x19, x20, x21, x22, x23, x24] S = some (.lst (L.take 1 ++ L.drop j), S) := by
    generalize L.take 1 = A at *
    generalize L.drop j = B at *
    simp [s1, s2, y4]
  have t2 : cBin (addU false) (cBin (addU false) c1 c2) c3 [x0, x1, x2, x3, x4, x5, x6, x7, x8, x9, x10, x11, x12, some (.ref m), some (.int (j : Nat)), x15, x16, x17, x18, x19, x20, x21, x22, x23, x24] S = some (.lst (L.take 1 ++ L.drop j ++ (L.take j).drop 1), S) := by
    generalize cBin (addU false) c1 c2 = c4 at *
    generalize L.take 1 ++ L.drop j = A at *
    generalize (L.take j).drop 1 = B at *
    simp [t1, s3, y5]
  have b1 : cBin ixU (cVar 13) (cCst (.int 0)) [x0, x1, x2, x3, x4, x5, x6, x7, x8, x9, x10, x11, x12, some (.ref m), some (.int (j : Nat)), x15, x16, x17, x18, x19, x20, x21, x22, x23, x24] S = some (encB c, S) := by
    simp only [cBin_ap, cVar_ap, cCst_ap, List.getElem?_cons_succ, List.getElem?_cons_zero, ix]
  have b2 : cBin ixU (cBin ixU (cVar 13) (cCst (.int 0))) (cCst (.int 0)) [x0, x1, x2, x3, x4, x5, x6, x7, x8, x9, x10, x11, x12, some (.ref m), some (.int (j : Nat)), x15, x16, x17, x18, x19, x20, x21, x22, x23, x24] S = some (.str c.name, S) := by
    generalize cBin ixU (cVar 13) (cCst (.int 0)) = g at *
    generalize encB c = w at *
    simp [-ixU_ap, b1, ix2]
  have b3 : cArg oLst (cCons (cArg oTup (cCons (cCst (.str "straying")) (cCons (cArg oTup cNil) (cCons (cArg oTup (cCons (cCst (.str "go")) (cCons (cBin ixU (cBin ixU (cVar 13) (cCst (.int 0))) (cCst (.int 0))) cNil))) cNil)))) cNil) [x0, x1, x2, x3, x4, x5, x6, x7, x8, x9, x10, x11, x12, some (.ref m), some (.int (j : Nat)), x15, x16, x17, x18, x19, x20, x21, x22, x23, x24] S = some (.lst [.tup [.str "straying", .tup [], .tup [.str "go", .str c.name]]], S) := by
    generalize cBin ixU (cBin ixU (cVar 13) (cCst (.int 0))) (cCst (.int 0)) = g at *
    clear t2 t1 s1 s2 s3 hm b1
    simp [b2, z0, z1, z2, z3]
  generalize cBin (addU false) (cBin (addU false) c1 c2) c3 = c5 at *
  generalize cArg oLst (cCons (cArg oTup (cCons (cCst (.str "straying")) (cCons (cArg oTup cNil) (cCons (cArg oTup (cCons (cCst (.str "go")) (cCons (cBin ixU (cBin ixU (cVar 13) (cCst (.int 0))) (cCst (.int 0))) cNil))) cNil)))) cNil) = c6 at *
  generalize L.take 1 ++ L.drop j ++ (L.take j).drop 1 = A at *
  generalize [U.tup [.str "straying", .tup [], .tup [.str "go", .str c.name]]] = B at *
  clear b1 b2 t1 s1 s2 s3 ix ix2 hm
  simp [t2, b3, y6]
end K14
namespace K14
open PySem PySem.Spec PyProof.Rows L2 OF
theorem bin_of {f : Op2} {a b : Cm U} {E : Env'} {S S1 S2 S3 : Sto} {u w r : U} (ha : a E S = some (u, S1)) (hb : b E S1 = some (w, S2)) (hf : f u w S2 = some (r, S3)) : cBin f a b E S = some (r, S3) := by
  simp only [cBin_ap, ha, hb, hf]
theorem tru_of {c : Cm U} {E : Env'} {S S1 : Sto} {b : Bool} (h : c E S = some (.bl b, S1)) : cTru c E S = some (b, S1) := by
  simp [h]
theorem ne_same {c d : Cm U} {E : Env'} {S S1 S2 : Sto} {u : U} (hc : c E S = some (u, S1)) (hd : d E S1 = some (u, S2)) (h : okU 60 u = true) : cTru (cBin (OF.eqU true) c d) E S = some (false, S2) := tru_of (bin_of hc hd (eqU_same h))
theorem andT_no {a b : Cm Bool} {E : Env'} {S S1 : Sto} {k : Bool} (h : a E S = some (k, S1)) (h2 : b E S1 = some (false, S1)) : cAndT a b E S = some (false, S1) := by
  cases k <;> simp [h, h2]
theorem sl_hi {c d : Cm U} {E : Env'} {S S1 S2 : Sto} {T : List U} {m : Nat} (hc : c E S = some (.tup T, S1)) (hd : d E S1 = some (.int (m : Int), S2)) (hz : T.length ≤ 100000) : cSl false c cNoPart (cPart d) E S = some (.tup (T.take m), S2) := by
  have lo := cutU_lo T m
  have z : (T.take m).length ≤ sizeLine := le_size _ (by rw [List.length_take]; omega)
  simp at z
  simp [hc, hd, lo]
  try exact z
theorem allStr_nD (f : Str → Str) : ∀ l : List Str, allStr (nD l fun x => .str (f x)) = some (l.map f)
  | [] => rfl
  | x :: l => by
    have ih := allStr_nD f l
    unfold nD at ih ⊢
    rw [List.map_cons]
    show (allStr (l.map fun x => (Sum.inr x, U.str (f x)))).map (f x :: ·) = _
    rw [ih]
    rfl
theorem lw10_ok {P : List Bk} (pl : P.length ≤ 24) {j : Nat} {x : Str} {bs : List Str} {β : Str → Str} (S : Sto) (x0 x1 x2 x3 x4 x5 x6 x7 x9 x10 x11 x12 x14 x15 x16 x17 x18 x19 x20 x21 x22 x23 x24 : Option U) : lw10 [x0, x1, x2, x3, x4, x5, x6, x7, some (DS bs β), x9, x10, x11, x12, some (.lst ((othL P j (some x)).map encB)), x14, x15, x16, x17, x18, x19, x20, x21, x22, x23, x24] S = some (.nx, [x0, x1, x2, x3, x4, x5, x6, x7, some (DS bs β), x9, x10, x11, x12, some (.lst ((othL P j (if ("straying" : Str) ∈ bs.map β then none else some x)).map encB)), x14, x15, x16, x17, x18, x19, x20, x21, x22, x23, x24], S) := by
  have al := allStr_nD β bs
  have e1 : ∀ E : Env', E[8]? = some (some (DS bs β)) → cTru (cInV (cCst (.str "straying")) (cVar 8)) E S = some (decide (("straying" : Str) ∈ bs.map β), S) := fun E h8 => by
    refine tru_of ?_
    unfold DS at h8
    generalize nD bs (fun x => U.str (β x)) = D at *
    simp [h8, dctU, al]
  have eo : (othL P j (some x)).map encB = (othL P j none).map encB ++ [encB (stray x)] := by
    unfold othL
    simp
  have ll : (othL P j none).length ≤ 72 := by
    unfold othL
    simp
    omega
  by_cases h : ("straying" : Str) ∈ bs.map β
  · rw [if_pos h]
    have c := e1 [x0, x1, x2, x3, x4, x5, x6, x7, some (DS bs β), x9, x10, x11, x12, some (.lst ((othL P j (some x)).map encB)), x14, x15, x16, x17, x18, x19, x20, x21, x22, x23, x24] rfl
    rw [decide_eq_true h] at c
    have cl := cutU_last ((othL P j none).map encB ++ [encB (stray x)])
    have z : ((othL P j none).map encB).length ≤ sizeLine := le_size _ (by simp; omega)
    have ek : ((othL P j none).map encB ++ [encB (stray x)]).take (((othL P j none).map encB ++ [encB (stray x)]).length - 1) = (othL P j none).map encB := by simp
    rw [ek] at cl
    rw [eo] at c ⊢
    unfold lw10
    generalize DS bs β = DB at *
    generalize (othL P j none).map encB = A at *
    generalize encB (stray x) = w at *
    generalize cTru (cInV (cCst (.str "straying")) (cVar 8)) = t at *
    clear e1
    simp [-cutU_last, c, cl, z]
  · rw [if_neg h]
    have c := e1 [x0, x1, x2, x3, x4, x5, x6, x7, some (DS bs β), x9, x10, x11, x12, some (.lst ((othL P j (some x)).map encB)), x14, x15, x16, x17, x18, x19, x20, x21, x22, x23, x24] rfl
    rw [decide_eq_false h] at c
    exact sIf_no c
theorem lw11_ok {xs : List Int} (hx : ∀ x ∈ xs, -4 ≤ x ∧ x ≤ 4) (xl : xs.length ≤ 4) {S : Sto} {h : Nat} (hh : Hn S h) (x0 x1 x3 x5 x6 x7 x8 x9 x10 x11 x12 x13 x14 x15 x16 x17 x18 x19 x20 x21 x22 x23 x24 : Option U) : ∃ (ys : List Int) (S' : Sto), lw11 [x0, x1, some (.ref h), x3, some (.lst (xs.map .int)), x5, x6, x7, x8, x9, x10, x11, x12, x13, x14, x15, x16, x17, x18, x19, x20, x21, x22, x23, x24] S = some (.nx, [x0, x1, some (.ref h), x3, some (.lst (xs.map .int)), x5, x6, x7, x8, x9, x10, x11, x12, x13, x14, some (.tup (ys.map .int)), x16, x17, x18, x19, x20, x21, x22, x23, x24], S') ∧ ys.map (· % 1000003) = xs.map (· % 1000003) ∧ Hn S' h := by
  obtain ⟨ys, S1, e1, ey, h1, _⟩ := more_map (i := 24) (c := cBin (addU false) (cVar 24) (cBin (o2I mulI) (cCst (.int 1000003)) (cBin oSub (cArg F__law_take (cCons (cVar 2) (cCons (cCst (.int 5)) cNil))) (cCst (.int 2))))) (E := [x0, x1, some (.ref h), x3, some (.lst (xs.map .int)), x5, x6, x7, x8, x9, x10, x11, x12, x13, x14, x15, x16, x17, x18, x19, x20, x21, x22, x23, none]) (h := h) (fun y S y0 y1 hh => by
    obtain ⟨d, S', e, d0, d1, h', k'⟩ := take_ex (m := 5) hh (by omega) (by omega)
    have mm : mulI 1000003 (d - 2) = some (.int (1000003 * (d - 2))) := mulI_ok (sm (by decide)) (sm (by omega))
    refine ⟨y + 1000003 * (d - 2), S', ?_, by omega, h', k'⟩
    generalize xs.map U.int = L
    simp [e, mm]) xs S hx hh
  have yl : ys.length = xs.length := by simpa using congrArg List.length ey
  have hz : (ys.map U.int).length ≤ sizeLine := le_size _ (by rw [List.length_map]; omega)
  have it : itSeq (cVar 4) [x0, x1, some (.ref h), x3, some (.lst (xs.map .int)), x5, x6, x7, x8, x9, x10, x11, x12, x13, x14, x15, x16, x17, x18, x19, x20, x21, x22, x23, x24] S = some (xs.map .int, S) := by
    generalize xs.map U.int = L
    simp
  have eL : cLc (itSeq (cVar 4)) (.nm 24) cYes (cBin (addU false) (cVar 24) (cBin (o2I mulI) (cCst (.int 1000003)) (cBin oSub (cArg F__law_take (cCons (cVar 2) (cCons (cCst (.int 5)) cNil))) (cCst (.int 2))))) [24] [x0, x1, some (.ref h), x3, some (.lst (xs.map .int)), x5, x6, x7, x8, x9, x10, x11, x12, x13, x14, x15, x16, x17, x18, x19, x20, x21, x22, x23, x24] S = some (.lst (ys.map .int), S1) := cLc_of it e1 hz
  exact ⟨ys, S1, asg_of (tupL_of eL), ey, h1⟩
structure Tw (p q : List Bk) (xs ys : List Int) (β ν : Str → Str) (κ : Int → Int) (R : List Int → Nat → List U × U) (T : List U) : Prop where
  rp : ∀ zs n, zs.length ≤ 10 → n ≤ 300 → P_run_plain [encP p, .tup (zs.map .int), .int (n : Nat)] = some (.tup [.tup (R zs n).1, (R zs n).2])
  rq : P_run_plain [encP q, .tup (ys.map .int), .int 200] = some (.tup [.tup ((R xs 200).1.map (calU β κ)), eclU ν κ (R xs 200).2])
  ok1 : ∀ zs n, okUs 2 (R zs n).1 = true ∧ okU 3 (R zs n).2 = true
  ok2 : okUs 2 ((R xs 200).1.map (calU β κ)) = true ∧ okU 3 (eclU ν κ (R xs 200).2) = true
  len : ∀ zs n, (R zs n).1.length ≤ n
  tc : P__law_trace_called [.tup (R xs 200).1, DS (p.map Bk.name) β, DI (numsP p) κ] = some (.tup ((R xs 200).1.map (calU β κ)))
  ec : P__law_ending_called [(R xs 200).2, DS (namesP p) ν, DI (numsP p) κ] = some (eclU ν κ (R xs 200).2)
  sp : P_said_in [encP p, .tup (R xs 200).1] = some (.tup T)
  sq : P_said_in [encP q, .tup ((R xs 200).1.map (calU β κ))] = some (.tup T)
  okT : okUs 10 T = true
  edg : ∃ h r, (R xs 200).2 = .tup (.str h :: r)
  more : R (xs ++ [3, 0, 1]) 200 = R xs 200 ∨ isBare (R xs 200).2 ∧ (R xs 200).1 <+: (R (xs ++ [3, 0, 1]) 200).1
  cut : ∀ m n, m ≤ n → n ≤ 300 → R xs m = R xs n ∨ (R xs m).2 = dryU ∧ (R xs m).1 = (R xs n).1.take m ∧ (R xs m).1.length = m
theorem tw_ex {b0 : Bk} {p' : List Bk} (hp : Prog (b0 :: p')) {β ν : Str → Str} {κ : Int → Int} (g : Nmg (b0 :: p') β ν κ) {q : List Bk} (o : Oth (b0 :: p') q β ν κ) {xs ys : List Int} (xl : xs.length ≤ 4) (hy : ys.map (· % 1000003) = xs.map (· % 1000003)) : ∃ R T, Tw (b0 :: p') q xs ys β ν κ R T := by
  obtain ⟨b1, p1, q', e1, rfl⟩ := o.hd
  cases e1
  have yl : ys.length = xs.length := by simpa using congrArg List.length hy
  have pp := hp.pok
  have pq := o.pok hp g
  have rn := o.run hp g 200 hy
  have gd := fun zs n => runP_good b0 p' pp n zs
  have gq := runP_good (rnB β ν κ b0) q' pq 200 ys
  rw [rn] at gq
  have ln := fun zs n => runP_len' b0 p' n zs
  have stp := run_stp (p := b0 :: p') (bs := (b0 :: p').map Bk.name) (ws := namesP (b0 :: p')) (ns := numsP (b0 :: p')) (fun b hb => ⟨List.mem_map_of_mem hb, fun r hr => ⟨num_mem hb hr, fun a ha => namesP_row hb hr ((nms_mem r a).mpr (.inl ha))⟩, fun a ha => namesP_end hb ha⟩) 200 b0.name b0.rows b0.en ⟨[], xs.map (· % 1000003), []⟩ (by simp) (fun r hr => ⟨num_mem (List.mem_cons_self) hr, fun a ha => namesP_row (List.mem_cons_self) hr ((nms_mem r a).mpr (.inl ha))⟩) (fun a ha => namesP_end (List.mem_cons_self) ha) (fun u hu => by cases hu)
  have s0 : Sok ⟨[], xs.map (· % 1000003), []⟩ := ⟨(fun q hq => by cases hq), (fun x hx => by
    obtain ⟨y, _, rfl⟩ := List.mem_map.mp hx
    unfold InW
    omega), Nat.le_refl _⟩
  have sy : Sok ⟨[], ys.map (· % 1000003), []⟩ := ⟨(fun q hq => by cases hq), (fun x hx => by
    obtain ⟨y, _, rfl⟩ := List.mem_map.mp hx
    unfold InW
    omega), Nat.le_refl _⟩
  have tp := run_tq (b0 :: p') pp 200 b0.name b0.rows b0.en ⟨[], xs.map (· % 1000003), []⟩ (fun r hr => List.mem_flatMap.mpr ⟨b0, by simp, hr⟩) (fun r hr => hp.ok b0 (by simp) r hr) s0 (fun u hu => by cases hu)
  have tq := run_tq (rnB β ν κ b0 :: q') pq 200 (rnB β ν κ b0).name (rnB β ν κ b0).rows (rnB β ν κ b0).en ⟨[], ys.map (· % 1000003), []⟩ (fun r hr => List.mem_flatMap.mpr ⟨_, List.mem_cons_self, hr⟩) (fun r hr => pq.rows _ (List.mem_cons_self) r hr) sy (fun u hu => by cases hu)
  have tq' : ∀ u ∈ (runP b0 p' 200 xs).1.map (calU β κ), Tq ((rnB β ν κ b0 :: q').flatMap Bk.rows) u := by
    have : (runP b0 p' 200 xs).1.map (calU β κ) = (runP (rnB β ν κ b0) q' 200 ys).1 := by rw [rn]
    rw [this]
    exact tq
  have nq : (((rnB β ν κ b0 :: q').flatMap Bk.rows).map Rw.num).Nodup := by
    refine ((o.rows.map Rw.num).nodup_iff).mpr ?_
    have e : (((b0 :: p').map (rnB β ν κ)).flatMap Bk.rows).map Rw.num = (numsP (b0 :: p')).map κ := by
      unfold numsP
      rw [List.flatMap_map, List.map_flatMap, List.map_flatMap, List.map_flatMap]
      congr 1
      funext b
      simp only [rnB, List.map_map]
      exact List.map_congr_left fun r _ => rn_num r
    rw [e]
    have hn := hp.nums
    have hi := g.ki
    clear e
    unfold numsP at hi ⊢
    generalize ((b0 :: p').flatMap Bk.rows).map Rw.num = L at *
    induction L with
    | nil => simp
    | cons x L ih =>
      obtain ⟨n1, n2⟩ := List.nodup_cons.mp hn
      rw [List.map_cons, List.nodup_cons]
      refine ⟨fun hm => ?_, ih n2 fun a ha b hb => hi a (by simp [ha]) b (by simp [hb])⟩
      obtain ⟨y, hy, e⟩ := List.mem_map.mp hm
      exact n1 (hi y (by simp [hy]) x (by simp) e ▸ hy)
  have nl := hp.numl
  have nlq : ((rnB β ν κ b0 :: q').flatMap Bk.rows).length ≤ 1000 := by
    have h1 := o.rows.length_eq
    have h2 : (((b0 :: p').map (rnB β ν κ)).flatMap Bk.rows).length = (numsP (b0 :: p')).length := by
      unfold numsP
      rw [List.length_map, List.flatMap_map]
      simp [List.length_flatMap, rnB]
    omega
  have nlp : ((b0 :: p').flatMap Bk.rows).length ≤ 1000 := by
    have : (numsP (b0 :: p')).length = ((b0 :: p').flatMap Bk.rows).length := by unfold numsP; simp
    omega
  have tl := o.told g (tr := (runP b0 p' 200 xs).1) (bs := (b0 :: p').map Bk.name) stp.1
  have ti := told_int (p := b0 :: p') (tr := (runP b0 p' 200 xs).1) tp
  have okT : okUs 10 (told (b0 :: p') (runP b0 p' 200 xs).1) = true := by
    have key : ∀ l : List U, (∀ w ∈ l, ∃ x, w = U.int x ∧ InW x) → okUs 10 l = true := by
      intro l
      induction l with
      | nil => intro _; rfl
      | cons w l ih =>
        intro h
        obtain ⟨x, rfl, _⟩ := h w (by simp)
        have := ih fun v hv => h v (by simp [hv])
        simp [okUs, okU, this]
    exact key _ ti
  have nT := okUs_norefs 10 _ okT
  refine ⟨fun zs n => runP b0 p' n zs, told (b0 :: p') (runP b0 p' 200 xs).1, fun zs n hz hn => run_ok b0 p' pp zs (by omega) n (by omega), ?_, fun zs n => gd zs n, gq, fun zs n => ln zs n, trace_ok stp.1 (Nat.le_trans (ln xs 200) (by omega)) (okUs_norefs 2 _ gq.1), ending_ok stp.2, said_in_ok (says_nodup hp.nums) nlp (fun u hu => tq_te hp.nums (tp u hu)) (Nat.le_trans (ln xs 200) (by omega)) nT, ?_, okT, ?_, ?_, fun m n hmn _ => ?_⟩
  · have := run_ok (rnB β ν κ b0) q' pq ys (by omega) 200 (by omega)
    rw [rn] at this
    exact this
  · rw [← tl]
    refine said_in_ok (says_nodup nq) nlq (fun u hu => tq_te nq (tq' u hu)) (by have := ln xs 200; simp; omega) ?_
    rw [tl]
    exact nT
  · have key : ∀ u, Edg (namesP (b0 :: p')) (numsP (b0 :: p')) u → ∃ h r, u = .tup (.str h :: r) := by
      intro u h
      cases h <;> exact ⟨_, _, rfl⟩
    exact key _ stp.2
  · have := run_more (b0 :: p') ([3, 0, 1].map (· % 1000003)) 200 b0.name b0.rows b0.en ⟨[], xs.map (· % 1000003), []⟩
    unfold runP
    rw [List.map_append]
    exact this
  · have := run_cut (b0 :: p') m n b0.name b0.rows b0.en ⟨[], xs.map (· % 1000003), []⟩ hmn
    unfold runP
    simpa using this
end K14
namespace K14
open PySem PySem.Spec PyProof.Rows L2 OF
variable {p q : List Bk} {xs ys : List Int} {β ν : Str → Str} {κ : Int → Int} {R : List Int → Nat → List U × U} {T : List U}
theorem okU_m {n : Nat} {u : U} (h : okU n u = true) (hn : n ≤ 60) : okU 60 u = true := okU_mono n 60 u hn h
theorem okU_t {n : Nat} {us : List U} (h : okUs n us = true) (hn : n ≤ 59) : okU 60 (.tup us) = true := by
  show okUs 59 us = true
  exact okUs_mono n 59 us hn h
theorem nr_ints (zs : List Int) : norefs (zs.map U.int) = true := okUs_norefs 0 _ (okUs_ints 0 zs)
theorem nr_run (p : List Bk) (zs : List Int) (n : Int) : norefs [encP p, .tup (zs.map .int), .int n] = true := by
  have := nr_ints zs
  simp [norefs, noref, noref_encP, this]
theorem tup_lst {c : Cm U} {E : Env'} {S : Sto} {us : List U} (h : c E S = some (.lst us, S)) : cArg (on1 tupleU) (cCons c cNil) E S = some (.tup us, S) := tupL_of h
theorem def_of {c d : Cm U} {E : Env'} {S : Sto} {P : List Bk} {zs : List Int} {r : U} (hc : c E S = some (encP P, S)) (hd : d E S = some (.tup (zs.map .int), S)) (h : P_run_plain [encP P, .tup (zs.map .int), .int 200] = some r) : cArg (fun us => (liftP P_run_plain) (us ++ dus_run_plain_2)) (cCons c (cCons d cNil)) E S = some (r, S) :=
  arg_of (cons_of hc (cons_of hd (nil_of _ _))) (show liftP P_run_plain [encP P, .tup (zs.map .int), .int 200] S = _ from liftP_of h (nr_run P zs 200))
noncomputable def stepsC (c d e : Cm U) : Cm U := (cArg2 (fun us ws S => if us.length = 2 ∧ ws.length = (["steps"] : List Str).length then (liftP P_run_plain) (gu_run_plain_2_steps us ws) S else none) (cCons c (cCons d cNil)) (cCons e cNil))
theorem arg2_of {f : List U → OpN} {a b : Cm (List U)} {env : Env'} {S S1 S2 S3 : Sto} {us ws : List U} {u : U} (h : a env S = some (us, S1)) (h2 : b env S1 = some (ws, S2)) (h3 : f us ws S2 = some (u, S3)) : cArg2 f a b env S = some (u, S3) := by
  unfold cArg2
  simp only [h, h2, h3]
theorem steps_of {c d e : Cm U} {E : Env'} {S : Sto} {P : List Bk} {zs : List Int} {n : Nat} {r : U} (hc : c E S = some (encP P, S)) (hd : d E S = some (.tup (zs.map .int), S)) (he : e E S = some (.int (n : Int), S)) (h : P_run_plain [encP P, .tup (zs.map .int), .int (n : Nat)] = some r) : stepsC c d e E S = some (r, S) := by
  unfold stepsC
  refine arg2_of (cons_of hc (cons_of hd (nil_of _ _))) (cons_of he (nil_of _ _)) ?_
  rw [if_pos ⟨rfl, rfl⟩]
  show liftP P_run_plain [encP P, .tup (zs.map .int), .int (n : Int)] S = _
  exact liftP_of h (nr_run P zs n)
theorem tail_ok (w : Tw p q xs ys β ν κ R T) (xl : xs.length ≤ 4) (ql : q.length ≤ 100) {S : Sto} {h : Nat} (hh : Hn S h) (x0 x1 x5 x6 x7 x10 x11 x14 x16 x17 x18 x19 x20 x21 x22 x23 x24 : Option U) : ∃ (E : Env') (S' : Sto), sSeq lw12 (sSeq lw13 (sSeq lw14 (sSeq lw15 (sSeq lw16 (sSeq lw17 (sSeq lw18 (sSeq lw19 (sSeq lw20 lw21)))))))) [x0, x1, some (.ref h), some (encP p), some (.lst (xs.map .int)), x5, x6, x7, some (DS (p.map Bk.name) β), some (DS (namesP p) ν), x10, x11, some (DI (numsP p) κ), some (.lst (q.map encB)), x14, some (.tup (ys.map .int)), x16, x17, x18, x19, x20, x21, x22, x23, x24] S = some (.nx, E, S') ∧ E[0]? = some x0 ∧ E.length = 25 := by
  have z2 : (2 : Nat) ≤ sizeLine := le_size _ (by omega)
  have z1 : (1 : Nat) ≤ sizeLine := le_size _ (by omega)
  have nP := noref_encP p
  have nQ := noref_encP q
  obtain ⟨o1, o2⟩ := w.ok1 xs 200
  obtain ⟨o3, o4⟩ := w.ok2
  obtain ⟨o5, o6⟩ := w.ok1 (xs ++ [3, 0, 1]) 200
  have l1 := w.len xs 200
  have l5 := w.len (xs ++ [3, 0, 1]) 200
  have tF : ∀ (E : Env') (S : Sto), E[4]? = some (some (.lst (xs.map .int))) → cArg (on1 tupleU) (cCons (cVar 4) cNil) E S = some (.tup (xs.map .int), S) := fun E S h4 => tup_lst (cVar_of h4)
  have tQ : ∀ (E : Env') (S : Sto), E[13]? = some (some (.lst (q.map encB))) → cArg (on1 tupleU) (cCons (cVar 13) cNil) E S = some (encP q, S) := fun E S h4 => tup_lst (cVar_of h4)
  have nt1 := okUs_norefs 2 _ o1
  have nt3 := okUs_norefs 2 _ o3
  have ne2 := okU_noref 3 _ o2
  have e12 : lw12 [x0, x1, some (.ref h), some (encP p), some (.lst (xs.map .int)), x5, x6, x7, some (DS (p.map Bk.name) β), some (DS (namesP p) ν), x10, x11, some (DI (numsP p) κ), some (.lst (q.map encB)), x14, some (.tup (ys.map .int)), x16, x17, x18, x19, x20, x21, x22, x23, x24] S = some (.nx, [x0, x1, some (.ref h), some (encP p), some (.lst (xs.map .int)), x5, x6, x7, some (DS (p.map Bk.name) β), some (DS (namesP p) ν), x10, x11, some (DI (numsP p) κ), some (.lst (q.map encB)), x14, some (.tup (ys.map .int)), some (.tup (R xs 200).1), some ((R xs 200).2), x18, x19, x20, x21, x22, x23, x24], S) := asgP_of (pt := .tp [(.nm 16), (.nm 17)]) (def_of (cVar_of rfl) (tF _ _ rfl) (w.rp xs 200 (by omega) (by omega))) rfl
  have e13 : lw13 [x0, x1, some (.ref h), some (encP p), some (.lst (xs.map .int)), x5, x6, x7, some (DS (p.map Bk.name) β), some (DS (namesP p) ν), x10, x11, some (DI (numsP p) κ), some (.lst (q.map encB)), x14, some (.tup (ys.map .int)), some (.tup (R xs 200).1), some ((R xs 200).2), x18, x19, x20, x21, x22, x23, x24] S = some (.nx, [x0, x1, some (.ref h), some (encP p), some (.lst (xs.map .int)), x5, x6, x7, some (DS (p.map Bk.name) β), some (DS (namesP p) ν), x10, x11, some (DI (numsP p) κ), some (.lst (q.map encB)), x14, some (.tup (ys.map .int)), some (.tup (R xs 200).1), some ((R xs 200).2), some (.tup [.tup ((R xs 200).1.map (calU β κ)), eclU ν κ (R xs 200).2]), x19, x20, x21, x22, x23, x24], S) := asg_of (def_of (tQ _ _ rfl) (cVar_of rfl) w.rq)
  have okV : okU 60 (.tup [.tup ((R xs 200).1.map (calU β κ)), eclU ν κ (R xs 200).2]) = true := by
    show okUs 59 [.tup ((R xs 200).1.map (calU β κ)), eclU ν κ (R xs 200).2] = true
    have a1 : okU 59 (.tup ((R xs 200).1.map (calU β κ))) = true := by
      show okUs 58 _ = true
      exact okUs_mono 2 58 _ (by omega) o3
    have a2 : okU 59 (eclU ν κ (R xs 200).2) = true := okU_mono 3 59 _ (by omega) o4
    simp [okUs, a1, a2]
  have nd1 : norefs [.tup (R xs 200).1, DS (p.map Bk.name) β, DI (numsP p) κ] = true := by
    have h1 : norefk (nD (p.map Bk.name) fun x => .str (β x)) = true := norefk_all fun kv hkv => by
      obtain ⟨x, _, rfl⟩ := List.mem_map.mp hkv
      rfl
    have h2 : norefk (nI (numsP p) κ) = true := norefk_all fun kv hkv => by
      obtain ⟨x, _, rfl⟩ := List.mem_map.mp hkv
      rfl
    simp [norefs, noref, DS, DI, h1, h2, nt1]
  have nd2 : norefs [(R xs 200).2, DS (namesP p) ν, DI (numsP p) κ] = true := by
    have h1 : norefk (nD (namesP p) fun x => .str (ν x)) = true := norefk_all fun kv hkv => by
      obtain ⟨x, _, rfl⟩ := List.mem_map.mp hkv
      rfl
    have h2 : norefk (nI (numsP p) κ) = true := norefk_all fun kv hkv => by
      obtain ⟨x, _, rfl⟩ := List.mem_map.mp hkv
      rfl
    simp [norefs, noref, DS, DI, h1, h2, ne2]
  have c14 : cTru (cBin (OF.eqU true) (cVar 18) (cArg oTup (cCons (cArg (liftP P__law_trace_called) (cCons (cVar 16) (cCons (cVar 8) (cCons (cVar 12) cNil)))) (cCons (cArg (liftP P__law_ending_called) (cCons (cVar 17) (cCons (cVar 9) (cCons (cVar 12) cNil)))) cNil)))) [x0, x1, some (.ref h), some (encP p), some (.lst (xs.map .int)), x5, x6, x7, some (DS (p.map Bk.name) β), some (DS (namesP p) ν), x10, x11, some (DI (numsP p) κ), some (.lst (q.map encB)), x14, some (.tup (ys.map .int)), some (.tup (R xs 200).1), some ((R xs 200).2), some (.tup [.tup ((R xs 200).1.map (calU β κ)), eclU ν κ (R xs 200).2]), x19, x20, x21, x22, x23, x24] S = some (false, S) :=
    ne_same (cVar_of rfl) (tup2_of (arg_of (cons_of (cVar_of rfl) (cons_of (cVar_of rfl) (cons_of (cVar_of rfl) (nil_of _ _)))) (liftP_of w.tc nd1)) (arg_of (cons_of (cVar_of rfl) (cons_of (cVar_of rfl) (cons_of (cVar_of rfl) (nil_of _ _)))) (liftP_of w.ec nd2))) okV
  have e14 : lw14 [x0, x1, some (.ref h), some (encP p), some (.lst (xs.map .int)), x5, x6, x7, some (DS (p.map Bk.name) β), some (DS (namesP p) ν), x10, x11, some (DI (numsP p) κ), some (.lst (q.map encB)), x14, some (.tup (ys.map .int)), some (.tup (R xs 200).1), some ((R xs 200).2), some (.tup [.tup ((R xs 200).1.map (calU β κ)), eclU ν κ (R xs 200).2]), x19, x20, x21, x22, x23, x24] S = some (.nx, [x0, x1, some (.ref h), some (encP p), some (.lst (xs.map .int)), x5, x6, x7, some (DS (p.map Bk.name) β), some (DS (namesP p) ν), x10, x11, some (DI (numsP p) κ), some (.lst (q.map encB)), x14, some (.tup (ys.map .int)), some (.tup (R xs 200).1), some ((R xs 200).2), some (.tup [.tup ((R xs 200).1.map (calU β κ)), eclU ν κ (R xs 200).2]), x19, x20, x21, x22, x23, x24], S) := sIf_no c14
  have ix18 : ∀ S, ixU (.tup [.tup ((R xs 200).1.map (calU β κ)), eclU ν κ (R xs 200).2]) (.int 0) S = some (.tup ((R xs 200).1.map (calU β κ)), S) := fun S => rfl
  have n15 : norefs [encP q, .tup ((R xs 200).1.map (calU β κ))] = true := by simp [norefs, noref, nQ, nt3]
  have n15' : norefs [encP p, .tup (R xs 200).1] = true := by simp [norefs, noref, nP, nt1]
  have c15 : cTru (cBin (OF.eqU true) (cArg (liftP P_said_in) (cCons (cArg (on1 tupleU) (cCons (cVar 13) cNil)) (cCons (cBin ixU (cVar 18) (cCst (.int 0))) cNil))) (cArg (liftP P_said_in) (cCons (cVar 3) (cCons (cVar 16) cNil)))) [x0, x1, some (.ref h), some (encP p), some (.lst (xs.map .int)), x5, x6, x7, some (DS (p.map Bk.name) β), some (DS (namesP p) ν), x10, x11, some (DI (numsP p) κ), some (.lst (q.map encB)), x14, some (.tup (ys.map .int)), some (.tup (R xs 200).1), some ((R xs 200).2), some (.tup [.tup ((R xs 200).1.map (calU β κ)), eclU ν κ (R xs 200).2]), x19, x20, x21, x22, x23, x24] S = some (false, S) :=
    ne_same (arg_of (cons_of (tQ _ _ rfl) (cons_of (bin_of (cVar_of rfl) cst_of (ix18 S)) (nil_of _ _))) (liftP_of w.sq n15)) (arg_of (cons_of (cVar_of rfl) (cons_of (cVar_of rfl) (nil_of _ _))) (liftP_of w.sp n15')) (okU_t w.okT (by omega))
  have e15 : lw15 [x0, x1, some (.ref h), some (encP p), some (.lst (xs.map .int)), x5, x6, x7, some (DS (p.map Bk.name) β), some (DS (namesP p) ν), x10, x11, some (DI (numsP p) κ), some (.lst (q.map encB)), x14, some (.tup (ys.map .int)), some (.tup (R xs 200).1), some ((R xs 200).2), some (.tup [.tup ((R xs 200).1.map (calU β κ)), eclU ν κ (R xs 200).2]), x19, x20, x21, x22, x23, x24] S = some (.nx, [x0, x1, some (.ref h), some (encP p), some (.lst (xs.map .int)), x5, x6, x7, some (DS (p.map Bk.name) β), some (DS (namesP p) ν), x10, x11, some (DI (numsP p) κ), some (.lst (q.map encB)), x14, some (.tup (ys.map .int)), some (.tup (R xs 200).1), some ((R xs 200).2), some (.tup [.tup ((R xs 200).1.map (calU β κ)), eclU ν κ (R xs 200).2]), x19, x20, x21, x22, x23, x24], S) := sIf_no c15
  have t16 : cBin (addU false) (cArg (on1 tupleU) (cCons (cVar 4) cNil)) (cArg oTup (cCons (cCst (.int 3)) (cCons (cCst (.int 0)) (cCons (cCst (.int 1)) cNil)))) [x0, x1, some (.ref h), some (encP p), some (.lst (xs.map .int)), x5, x6, x7, some (DS (p.map Bk.name) β), some (DS (namesP p) ν), x10, x11, some (DI (numsP p) κ), some (.lst (q.map encB)), x14, some (.tup (ys.map .int)), some (.tup (R xs 200).1), some ((R xs 200).2), some (.tup [.tup ((R xs 200).1.map (calU β κ)), eclU ν κ (R xs 200).2]), x19, x20, x21, x22, x23, x24] S = some (.tup ((xs ++ [3, 0, 1]).map .int), S) := by
    have z3 : (3 : Nat) ≤ sizeLine := le_size _ (by omega)
    have zx : (xs.map U.int).length + 3 ≤ sizeLine := le_size _ (by simp; omega)
    have em : (xs ++ [3, 0, 1]).map U.int = xs.map .int ++ [.int 3, .int 0, .int 1] := by simp
    have a := tF [x0, x1, some (.ref h), some (encP p), some (.lst (xs.map .int)), x5, x6, x7, some (DS (p.map Bk.name) β), some (DS (namesP p) ν), x10, x11, some (DI (numsP p) κ), some (.lst (q.map encB)), x14, some (.tup (ys.map .int)), some (.tup (R xs 200).1), some ((R xs 200).2), some (.tup [.tup ((R xs 200).1.map (calU β κ)), eclU ν κ (R xs 200).2]), x19, x20, x21, x22, x23, x24] S rfl
    have b : cArg oTup (cCons (cCst (.int 3)) (cCons (cCst (.int 0)) (cCons (cCst (.int 1)) cNil))) [x0, x1, some (.ref h), some (encP p), some (.lst (xs.map .int)), x5, x6, x7, some (DS (p.map Bk.name) β), some (DS (namesP p) ν), x10, x11, some (DI (numsP p) κ), some (.lst (q.map encB)), x14, some (.tup (ys.map .int)), some (.tup (R xs 200).1), some ((R xs 200).2), some (.tup [.tup ((R xs 200).1.map (calU β κ)), eclU ν κ (R xs 200).2]), x19, x20, x21, x22, x23, x24] S = some (.tup [.int 3, .int 0, .int 1], S) := arg_of (cons_of cst_of (cons_of cst_of (cons_of cst_of (nil_of _ _)))) (by unfold oTup; simp [z3])
    refine bin_of a b ?_
    rw [em]
    generalize xs.map U.int = L at *
    simp [zx]
  have e16 : lw16 [x0, x1, some (.ref h), some (encP p), some (.lst (xs.map .int)), x5, x6, x7, some (DS (p.map Bk.name) β), some (DS (namesP p) ν), x10, x11, some (DI (numsP p) κ), some (.lst (q.map encB)), x14, some (.tup (ys.map .int)), some (.tup (R xs 200).1), some ((R xs 200).2), some (.tup [.tup ((R xs 200).1.map (calU β κ)), eclU ν κ (R xs 200).2]), x19, x20, x21, x22, x23, x24] S = some (.nx, [x0, x1, some (.ref h), some (encP p), some (.lst (xs.map .int)), x5, x6, x7, some (DS (p.map Bk.name) β), some (DS (namesP p) ν), x10, x11, some (DI (numsP p) κ), some (.lst (q.map encB)), x14, some (.tup (ys.map .int)), some (.tup (R xs 200).1), some ((R xs 200).2), some (.tup [.tup ((R xs 200).1.map (calU β κ)), eclU ν κ (R xs 200).2]), some (.tup (R (xs ++ [3, 0, 1]) 200).1), some ((R (xs ++ [3, 0, 1]) 200).2), x21, x22, x23, x24], S) := asgP_of (pt := .tp [(.nm 19), (.nm 20)]) (def_of (cVar_of rfl) t16 (w.rp (xs ++ [3, 0, 1]) 200 (by simp; omega) (by omega))) rfl
  have len16 : ∀ (E : Env') (S : Sto), E[16]? = some (some (.tup (R xs 200).1)) → cArg (on1 lenU) (cCons (cVar 16) cNil) E S = some (.int ((R xs 200).1.length : Nat), S) := fun E S h4 => by
    generalize (R xs 200).1 = L at *
    simp [h4]
  have okt : okU 60 (.tup (R xs 200).1) = true := okU_t o1 (by omega)
  have pre : (R (xs ++ [3, 0, 1]) 200).1.take (R xs 200).1.length = (R xs 200).1 := by
    rcases w.more with e | ⟨_, e⟩
    · rw [e, List.take_length]
    · exact (pfx_take e).symm
  have c17a : cTru (cBin (OF.eqU true) (cSl false (cVar 19) cNoPart (cPart (cArg (on1 lenU) (cCons (cVar 16) cNil)))) (cVar 16)) [x0, x1, some (.ref h), some (encP p), some (.lst (xs.map .int)), x5, x6, x7, some (DS (p.map Bk.name) β), some (DS (namesP p) ν), x10, x11, some (DI (numsP p) κ), some (.lst (q.map encB)), x14, some (.tup (ys.map .int)), some (.tup (R xs 200).1), some ((R xs 200).2), some (.tup [.tup ((R xs 200).1.map (calU β κ)), eclU ν κ (R xs 200).2]), some (.tup (R (xs ++ [3, 0, 1]) 200).1), some ((R (xs ++ [3, 0, 1]) 200).2), x21, x22, x23, x24] S = some (false, S) := by
    have := sl_hi (c := cVar 19) (d := cArg (on1 lenU) (cCons (cVar 16) cNil)) (E := [x0, x1, some (.ref h), some (encP p), some (.lst (xs.map .int)), x5, x6, x7, some (DS (p.map Bk.name) β), some (DS (namesP p) ν), x10, x11, some (DI (numsP p) κ), some (.lst (q.map encB)), x14, some (.tup (ys.map .int)), some (.tup (R xs 200).1), some ((R xs 200).2), some (.tup [.tup ((R xs 200).1.map (calU β κ)), eclU ν κ (R xs 200).2]), some (.tup (R (xs ++ [3, 0, 1]) 200).1), some ((R (xs ++ [3, 0, 1]) 200).2), x21, x22, x23, x24]) (S := S) (m := (R xs 200).1.length) (cVar_of rfl) (len16 _ _ rfl) (by omega)
    rw [pre] at this
    exact ne_same this (cVar_of rfl) okt
  obtain ⟨hw, rw', edg⟩ := w.edg
  have ix17 : ∀ S, ixU (R xs 200).2 (.int 0) S = some (.str hw, S) := fun S => by rw [edg]; simp
  have c17b : cAndT (cTru (cBin (OF.eqU true) (cBin ixU (cVar 17) (cCst (.int 0))) (cCst (.str "bare")))) (cTru (cBin (OF.eqU true) (cArg oTup (cCons (cVar 19) (cCons (cVar 20) cNil))) (cArg oTup (cCons (cVar 16) (cCons (cVar 17) cNil))))) [x0, x1, some (.ref h), some (encP p), some (.lst (xs.map .int)), x5, x6, x7, some (DS (p.map Bk.name) β), some (DS (namesP p) ν), x10, x11, some (DI (numsP p) κ), some (.lst (q.map encB)), x14, some (.tup (ys.map .int)), some (.tup (R xs 200).1), some ((R xs 200).2), some (.tup [.tup ((R xs 200).1.map (calU β κ)), eclU ν κ (R xs 200).2]), some (.tup (R (xs ++ [3, 0, 1]) 200).1), some ((R (xs ++ [3, 0, 1]) 200).2), x21, x22, x23, x24] S = some (false, S) := by
    have b1 : cBin ixU (cVar 17) (cCst (.int 0)) [x0, x1, some (.ref h), some (encP p), some (.lst (xs.map .int)), x5, x6, x7, some (DS (p.map Bk.name) β), some (DS (namesP p) ν), x10, x11, some (DI (numsP p) κ), some (.lst (q.map encB)), x14, some (.tup (ys.map .int)), some (.tup (R xs 200).1), some ((R xs 200).2), some (.tup [.tup ((R xs 200).1.map (calU β κ)), eclU ν κ (R xs 200).2]), some (.tup (R (xs ++ [3, 0, 1]) 200).1), some ((R (xs ++ [3, 0, 1]) 200).2), x21, x22, x23, x24] S = some (.str hw, S) := bin_of (cVar_of rfl) cst_of (ix17 S)
    have t1 : cTru (cBin (OF.eqU true) (cBin ixU (cVar 17) (cCst (.int 0))) (cCst (.str "bare"))) [x0, x1, some (.ref h), some (encP p), some (.lst (xs.map .int)), x5, x6, x7, some (DS (p.map Bk.name) β), some (DS (namesP p) ν), x10, x11, some (DI (numsP p) κ), some (.lst (q.map encB)), x14, some (.tup (ys.map .int)), some (.tup (R xs 200).1), some ((R xs 200).2), some (.tup [.tup ((R xs 200).1.map (calU β κ)), eclU ν κ (R xs 200).2]), some (.tup (R (xs ++ [3, 0, 1]) 200).1), some ((R (xs ++ [3, 0, 1]) 200).2), x21, x22, x23, x24] S = some (!decide (hw = "bare"), S) := tru_of (bin_of b1 cst_of eqU_str)
    rcases w.more with e | ⟨⟨m, e⟩, _⟩
    · refine andT_no t1 ?_
      have okp : okU 60 (.tup [.tup (R xs 200).1, (R xs 200).2]) = true := by
        show okUs 59 [.tup (R xs 200).1, (R xs 200).2] = true
        have a1 : okU 59 (.tup (R xs 200).1) = true := by
          show okUs 58 _ = true
          exact okUs_mono 2 58 _ (by omega) o1
        have a2 : okU 59 (R xs 200).2 = true := okU_mono 3 59 _ (by omega) o2
        simp [okUs, a1, a2]
      have p1 : cArg oTup (cCons (cVar 19) (cCons (cVar 20) cNil)) [x0, x1, some (.ref h), some (encP p), some (.lst (xs.map .int)), x5, x6, x7, some (DS (p.map Bk.name) β), some (DS (namesP p) ν), x10, x11, some (DI (numsP p) κ), some (.lst (q.map encB)), x14, some (.tup (ys.map .int)), some (.tup (R xs 200).1), some ((R xs 200).2), some (.tup [.tup ((R xs 200).1.map (calU β κ)), eclU ν κ (R xs 200).2]), some (.tup (R (xs ++ [3, 0, 1]) 200).1), some ((R (xs ++ [3, 0, 1]) 200).2), x21, x22, x23, x24] S = some (.tup [.tup (R (xs ++ [3, 0, 1]) 200).1, (R (xs ++ [3, 0, 1]) 200).2], S) := tup2_of (cVar_of rfl) (cVar_of rfl)
      have p2 : cArg oTup (cCons (cVar 16) (cCons (cVar 17) cNil)) [x0, x1, some (.ref h), some (encP p), some (.lst (xs.map .int)), x5, x6, x7, some (DS (p.map Bk.name) β), some (DS (namesP p) ν), x10, x11, some (DI (numsP p) κ), some (.lst (q.map encB)), x14, some (.tup (ys.map .int)), some (.tup (R xs 200).1), some ((R xs 200).2), some (.tup [.tup ((R xs 200).1.map (calU β κ)), eclU ν κ (R xs 200).2]), some (.tup (R (xs ++ [3, 0, 1]) 200).1), some ((R (xs ++ [3, 0, 1]) 200).2), x21, x22, x23, x24] S = some (.tup [.tup (R xs 200).1, (R xs 200).2], S) := tup2_of (cVar_of rfl) (cVar_of rfl)
      have ev : U.tup [.tup (R (xs ++ [3, 0, 1]) 200).1, (R (xs ++ [3, 0, 1]) 200).2] = .tup [.tup (R xs 200).1, (R xs 200).2] := by rw [e]
      rw [ev] at p1
      exact ne_same p1 p2 okp
    · rw [edg] at e
      injection e with e
      injection e with e1 e2
      injection e1 with e1
      rw [e1] at t1
      simp only [decide_true, Bool.not_true] at t1
      unfold cAndT
      simp only [t1]
  have e17 : lw17 [x0, x1, some (.ref h), some (encP p), some (.lst (xs.map .int)), x5, x6, x7, some (DS (p.map Bk.name) β), some (DS (namesP p) ν), x10, x11, some (DI (numsP p) κ), some (.lst (q.map encB)), x14, some (.tup (ys.map .int)), some (.tup (R xs 200).1), some ((R xs 200).2), some (.tup [.tup ((R xs 200).1.map (calU β κ)), eclU ν κ (R xs 200).2]), some (.tup (R (xs ++ [3, 0, 1]) 200).1), some ((R (xs ++ [3, 0, 1]) 200).2), x21, x22, x23, x24] S = some (.nx, [x0, x1, some (.ref h), some (encP p), some (.lst (xs.map .int)), x5, x6, x7, some (DS (p.map Bk.name) β), some (DS (namesP p) ν), x10, x11, some (DI (numsP p) κ), some (.lst (q.map encB)), x14, some (.tup (ys.map .int)), some (.tup (R xs 200).1), some ((R xs 200).2), some (.tup [.tup ((R xs 200).1.map (calU β κ)), eclU ν κ (R xs 200).2]), some (.tup (R (xs ++ [3, 0, 1]) 200).1), some ((R (xs ++ [3, 0, 1]) 200).2), x21, x22, x23, x24], S) := sIf_no (orT_no c17a c17b)
  obtain ⟨d, S', e18', d0, d1, h2, _⟩ := take_ex (m := ((R xs 200).1.length : Int) + 1) hh (by omega) (by omega)
  obtain ⟨m, rfl⟩ : ∃ m : Nat, d = m := ⟨d.toNat, by omega⟩
  have hm : m ≤ (R xs 200).1.length := by omega
  have e18 : lw18 [x0, x1, some (.ref h), some (encP p), some (.lst (xs.map .int)), x5, x6, x7, some (DS (p.map Bk.name) β), some (DS (namesP p) ν), x10, x11, some (DI (numsP p) κ), some (.lst (q.map encB)), x14, some (.tup (ys.map .int)), some (.tup (R xs 200).1), some ((R xs 200).2), some (.tup [.tup ((R xs 200).1.map (calU β κ)), eclU ν κ (R xs 200).2]), some (.tup (R (xs ++ [3, 0, 1]) 200).1), some ((R (xs ++ [3, 0, 1]) 200).2), x21, x22, x23, x24] S = some (.nx, [x0, x1, some (.ref h), some (encP p), some (.lst (xs.map .int)), x5, x6, x7, some (DS (p.map Bk.name) β), some (DS (namesP p) ν), x10, x11, some (DI (numsP p) κ), some (.lst (q.map encB)), x14, some (.tup (ys.map .int)), some (.tup (R xs 200).1), some ((R xs 200).2), some (.tup [.tup ((R xs 200).1.map (calU β κ)), eclU ν κ (R xs 200).2]), some (.tup (R (xs ++ [3, 0, 1]) 200).1), some ((R (xs ++ [3, 0, 1]) 200).2), some (.int (m : Nat)), x22, x23, x24], S') := by
    refine asg_of (arg_of (cons_of (cVar_of rfl) (cons_of (bin_of (len16 _ _ rfl) cst_of (show addU false (.int ((R xs 200).1.length : Nat)) (.int 1) S = some (.int (((R xs 200).1.length : Int) + 1), S) by simp)) (nil_of _ _))) e18')
  have e19 : lw19 [x0, x1, some (.ref h), some (encP p), some (.lst (xs.map .int)), x5, x6, x7, some (DS (p.map Bk.name) β), some (DS (namesP p) ν), x10, x11, some (DI (numsP p) κ), some (.lst (q.map encB)), x14, some (.tup (ys.map .int)), some (.tup (R xs 200).1), some ((R xs 200).2), some (.tup [.tup ((R xs 200).1.map (calU β κ)), eclU ν κ (R xs 200).2]), some (.tup (R (xs ++ [3, 0, 1]) 200).1), some ((R (xs ++ [3, 0, 1]) 200).2), some (.int (m : Nat)), x22, x23, x24] S' = some (.nx, [x0, x1, some (.ref h), some (encP p), some (.lst (xs.map .int)), x5, x6, x7, some (DS (p.map Bk.name) β), some (DS (namesP p) ν), x10, x11, some (DI (numsP p) κ), some (.lst (q.map encB)), x14, some (.tup (ys.map .int)), some (.tup (R xs 200).1), some ((R xs 200).2), some (.tup [.tup ((R xs 200).1.map (calU β κ)), eclU ν κ (R xs 200).2]), some (.tup (R (xs ++ [3, 0, 1]) 200).1), some ((R (xs ++ [3, 0, 1]) 200).2), some (.int (m : Nat)), some (.tup [.tup (R xs m).1, (R xs m).2]), x23, x24], S') := asg_of (steps_of (cVar_of rfl) (tF _ _ rfl) (cVar_of rfl) (w.rp xs m (by omega) (by omega)))
  have lm := w.len xs m
  obtain ⟨om1, om2⟩ := w.ok1 xs m
  have ctm : (R xs m).1 = (R xs 200).1.take m := by
    rcases w.cut m 200 (by omega) (by omega) with e | ⟨_, e, _⟩
    · rw [← e, List.take_of_length_le lm]
    · exact e
  have ix22 : ∀ S, ixU (.tup [.tup (R xs m).1, (R xs m).2]) (.int 0) S = some (.tup (R xs m).1, S) := fun S => rfl
  have ix22' : ∀ S, ixU (.tup [.tup (R xs m).1, (R xs m).2]) (.int 1) S = some ((R xs m).2, S) := fun S => rfl
  have c20a : cTru (cBin (OF.eqU true) (cBin ixU (cVar 22) (cCst (.int 0))) (cSl false (cVar 16) cNoPart (cPart (cVar 21)))) [x0, x1, some (.ref h), some (encP p), some (.lst (xs.map .int)), x5, x6, x7, some (DS (p.map Bk.name) β), some (DS (namesP p) ν), x10, x11, some (DI (numsP p) κ), some (.lst (q.map encB)), x14, some (.tup (ys.map .int)), some (.tup (R xs 200).1), some ((R xs 200).2), some (.tup [.tup ((R xs 200).1.map (calU β κ)), eclU ν κ (R xs 200).2]), some (.tup (R (xs ++ [3, 0, 1]) 200).1), some ((R (xs ++ [3, 0, 1]) 200).2), some (.int (m : Nat)), some (.tup [.tup (R xs m).1, (R xs m).2]), x23, x24] S' = some (false, S') := by
    have a1 : cBin ixU (cVar 22) (cCst (.int 0)) [x0, x1, some (.ref h), some (encP p), some (.lst (xs.map .int)), x5, x6, x7, some (DS (p.map Bk.name) β), some (DS (namesP p) ν), x10, x11, some (DI (numsP p) κ), some (.lst (q.map encB)), x14, some (.tup (ys.map .int)), some (.tup (R xs 200).1), some ((R xs 200).2), some (.tup [.tup ((R xs 200).1.map (calU β κ)), eclU ν κ (R xs 200).2]), some (.tup (R (xs ++ [3, 0, 1]) 200).1), some ((R (xs ++ [3, 0, 1]) 200).2), some (.int (m : Nat)), some (.tup [.tup (R xs m).1, (R xs m).2]), x23, x24] S' = some (.tup (R xs m).1, S') := bin_of (cVar_of rfl) cst_of (ix22 S')
    have a2 := sl_hi (c := cVar 16) (d := cVar 21) (E := [x0, x1, some (.ref h), some (encP p), some (.lst (xs.map .int)), x5, x6, x7, some (DS (p.map Bk.name) β), some (DS (namesP p) ν), x10, x11, some (DI (numsP p) κ), some (.lst (q.map encB)), x14, some (.tup (ys.map .int)), some (.tup (R xs 200).1), some ((R xs 200).2), some (.tup [.tup ((R xs 200).1.map (calU β κ)), eclU ν κ (R xs 200).2]), some (.tup (R (xs ++ [3, 0, 1]) 200).1), some ((R (xs ++ [3, 0, 1]) 200).2), some (.int (m : Nat)), some (.tup [.tup (R xs m).1, (R xs m).2]), x23, x24]) (S := S') (m := m) (T := (R xs 200).1) (cVar_of rfl) (cVar_of rfl) (by omega)
    rw [← ctm] at a2
    exact ne_same a1 a2 (okU_t om1 (by omega))
  have c20b : cAndT (cTru (cBin oLt (cVar 21) (cArg (on1 lenU) (cCons (cVar 16) cNil)))) (cTru (cBin (OF.eqU true) (cBin ixU (cVar 22) (cCst (.int 1))) (cArg oTup (cCons (cCst (.str "dry")) cNil)))) [x0, x1, some (.ref h), some (encP p), some (.lst (xs.map .int)), x5, x6, x7, some (DS (p.map Bk.name) β), some (DS (namesP p) ν), x10, x11, some (DI (numsP p) κ), some (.lst (q.map encB)), x14, some (.tup (ys.map .int)), some (.tup (R xs 200).1), some ((R xs 200).2), some (.tup [.tup ((R xs 200).1.map (calU β κ)), eclU ν κ (R xs 200).2]), some (.tup (R (xs ++ [3, 0, 1]) 200).1), some ((R (xs ++ [3, 0, 1]) 200).2), some (.int (m : Nat)), some (.tup [.tup (R xs m).1, (R xs m).2]), x23, x24] S' = some (false, S') := by
    have t1 : cTru (cBin oLt (cVar 21) (cArg (on1 lenU) (cCons (cVar 16) cNil))) [x0, x1, some (.ref h), some (encP p), some (.lst (xs.map .int)), x5, x6, x7, some (DS (p.map Bk.name) β), some (DS (namesP p) ν), x10, x11, some (DI (numsP p) κ), some (.lst (q.map encB)), x14, some (.tup (ys.map .int)), some (.tup (R xs 200).1), some ((R xs 200).2), some (.tup [.tup ((R xs 200).1.map (calU β κ)), eclU ν κ (R xs 200).2]), some (.tup (R (xs ++ [3, 0, 1]) 200).1), some ((R (xs ++ [3, 0, 1]) 200).2), some (.int (m : Nat)), some (.tup [.tup (R xs m).1, (R xs m).2]), x23, x24] S' = some (decide (m < (R xs 200).1.length), S') := by
      refine tru_of (bin_of (cVar_of rfl) (len16 _ _ rfl) ?_)
      simp
    by_cases hlt : m < (R xs 200).1.length
    · have dr : (R xs m).2 = dryU := by
        rcases w.cut m 200 (by omega) (by omega) with e | ⟨e, _, _⟩
        · rw [e] at lm; omega
        · exact e
      have a1 : cBin ixU (cVar 22) (cCst (.int 1)) [x0, x1, some (.ref h), some (encP p), some (.lst (xs.map .int)), x5, x6, x7, some (DS (p.map Bk.name) β), some (DS (namesP p) ν), x10, x11, some (DI (numsP p) κ), some (.lst (q.map encB)), x14, some (.tup (ys.map .int)), some (.tup (R xs 200).1), some ((R xs 200).2), some (.tup [.tup ((R xs 200).1.map (calU β κ)), eclU ν κ (R xs 200).2]), some (.tup (R (xs ++ [3, 0, 1]) 200).1), some ((R (xs ++ [3, 0, 1]) 200).2), some (.int (m : Nat)), some (.tup [.tup (R xs m).1, (R xs m).2]), x23, x24] S' = some (dryU, S') := by rw [← dr]; exact bin_of (cVar_of rfl) cst_of (ix22' S')
      have a2 : cArg oTup (cCons (cCst (.str "dry")) cNil) [x0, x1, some (.ref h), some (encP p), some (.lst (xs.map .int)), x5, x6, x7, some (DS (p.map Bk.name) β), some (DS (namesP p) ν), x10, x11, some (DI (numsP p) κ), some (.lst (q.map encB)), x14, some (.tup (ys.map .int)), some (.tup (R xs 200).1), some ((R xs 200).2), some (.tup [.tup ((R xs 200).1.map (calU β κ)), eclU ν κ (R xs 200).2]), some (.tup (R (xs ++ [3, 0, 1]) 200).1), some ((R (xs ++ [3, 0, 1]) 200).2), some (.int (m : Nat)), some (.tup [.tup (R xs m).1, (R xs m).2]), x23, x24] S' = some (dryU, S') := arg_of (cons_of cst_of (nil_of _ _)) (by unfold oTup; simp [z1, dryU])
      exact andT_no t1 (ne_same a1 a2 (okU_m dry_ok (by omega)))
    · rw [decide_eq_false hlt] at t1
      unfold cAndT
      simp only [t1]
  have e20 : lw20 [x0, x1, some (.ref h), some (encP p), some (.lst (xs.map .int)), x5, x6, x7, some (DS (p.map Bk.name) β), some (DS (namesP p) ν), x10, x11, some (DI (numsP p) κ), some (.lst (q.map encB)), x14, some (.tup (ys.map .int)), some (.tup (R xs 200).1), some ((R xs 200).2), some (.tup [.tup ((R xs 200).1.map (calU β κ)), eclU ν κ (R xs 200).2]), some (.tup (R (xs ++ [3, 0, 1]) 200).1), some ((R (xs ++ [3, 0, 1]) 200).2), some (.int (m : Nat)), some (.tup [.tup (R xs m).1, (R xs m).2]), x23, x24] S' = some (.nx, [x0, x1, some (.ref h), some (encP p), some (.lst (xs.map .int)), x5, x6, x7, some (DS (p.map Bk.name) β), some (DS (namesP p) ν), x10, x11, some (DI (numsP p) κ), some (.lst (q.map encB)), x14, some (.tup (ys.map .int)), some (.tup (R xs 200).1), some ((R xs 200).2), some (.tup [.tup ((R xs 200).1.map (calU β κ)), eclU ν κ (R xs 200).2]), some (.tup (R (xs ++ [3, 0, 1]) 200).1), some ((R (xs ++ [3, 0, 1]) 200).2), some (.int (m : Nat)), some (.tup [.tup (R xs m).1, (R xs m).2]), x23, x24], S') := sIf_no (orT_no c20a c20b)
  have c21 : cAndT (cTru (cBin (OF.eqU false) (cVar 17) (cArg oTup (cCons (cCst (.str "dry")) cNil)))) (cTru (cBin (OF.eqU true) (cSl false (cBin ixU (stepsC (cVar 3) (cArg (on1 tupleU) (cCons (cVar 4) cNil)) (cCst (.int 260))) (cCst (.int 0))) cNoPart (cPart (cArg (on1 lenU) (cCons (cVar 16) cNil)))) (cVar 16))) [x0, x1, some (.ref h), some (encP p), some (.lst (xs.map .int)), x5, x6, x7, some (DS (p.map Bk.name) β), some (DS (namesP p) ν), x10, x11, some (DI (numsP p) κ), some (.lst (q.map encB)), x14, some (.tup (ys.map .int)), some (.tup (R xs 200).1), some ((R xs 200).2), some (.tup [.tup ((R xs 200).1.map (calU β κ)), eclU ν κ (R xs 200).2]), some (.tup (R (xs ++ [3, 0, 1]) 200).1), some ((R (xs ++ [3, 0, 1]) 200).2), some (.int (m : Nat)), some (.tup [.tup (R xs m).1, (R xs m).2]), x23, x24] S' = some (false, S') := by
    have a2 : cArg oTup (cCons (cCst (.str "dry")) cNil) [x0, x1, some (.ref h), some (encP p), some (.lst (xs.map .int)), x5, x6, x7, some (DS (p.map Bk.name) β), some (DS (namesP p) ν), x10, x11, some (DI (numsP p) κ), some (.lst (q.map encB)), x14, some (.tup (ys.map .int)), some (.tup (R xs 200).1), some ((R xs 200).2), some (.tup [.tup ((R xs 200).1.map (calU β κ)), eclU ν κ (R xs 200).2]), some (.tup (R (xs ++ [3, 0, 1]) 200).1), some ((R (xs ++ [3, 0, 1]) 200).2), some (.int (m : Nat)), some (.tup [.tup (R xs m).1, (R xs m).2]), x23, x24] S' = some (dryU, S') := arg_of (cons_of cst_of (nil_of _ _)) (by unfold oTup; simp [z1, dryU])
    obtain ⟨b, eb⟩ := eqU_any (neg := false) (S := S') (okU_m o2 (by omega)) (okU_m dry_ok (by omega))
    refine andT_no (k := b) (tru_of (bin_of (cVar_of rfl) a2 eb)) ?_
    have s1 := steps_of (c := cVar 3) (d := cArg (on1 tupleU) (cCons (cVar 4) cNil)) (e := cCst (.int 260)) (E := [x0, x1, some (.ref h), some (encP p), some (.lst (xs.map .int)), x5, x6, x7, some (DS (p.map Bk.name) β), some (DS (namesP p) ν), x10, x11, some (DI (numsP p) κ), some (.lst (q.map encB)), x14, some (.tup (ys.map .int)), some (.tup (R xs 200).1), some ((R xs 200).2), some (.tup [.tup ((R xs 200).1.map (calU β κ)), eclU ν κ (R xs 200).2]), some (.tup (R (xs ++ [3, 0, 1]) 200).1), some ((R (xs ++ [3, 0, 1]) 200).2), some (.int (m : Nat)), some (.tup [.tup (R xs m).1, (R xs m).2]), x23, x24]) (S := S') (P := p) (zs := xs) (n := 260) (cVar_of rfl) (tF _ _ rfl) cst_of (w.rp xs 260 (by omega) (by omega))
    have l26 := w.len xs 260
    have s2 := sl_hi (c := cBin ixU (stepsC (cVar 3) (cArg (on1 tupleU) (cCons (cVar 4) cNil)) (cCst (.int 260))) (cCst (.int 0))) (d := cArg (on1 lenU) (cCons (cVar 16) cNil)) (E := [x0, x1, some (.ref h), some (encP p), some (.lst (xs.map .int)), x5, x6, x7, some (DS (p.map Bk.name) β), some (DS (namesP p) ν), x10, x11, some (DI (numsP p) κ), some (.lst (q.map encB)), x14, some (.tup (ys.map .int)), some (.tup (R xs 200).1), some ((R xs 200).2), some (.tup [.tup ((R xs 200).1.map (calU β κ)), eclU ν κ (R xs 200).2]), some (.tup (R (xs ++ [3, 0, 1]) 200).1), some ((R (xs ++ [3, 0, 1]) 200).2), some (.int (m : Nat)), some (.tup [.tup (R xs m).1, (R xs m).2]), x23, x24]) (S := S') (m := (R xs 200).1.length) (T := (R xs 260).1) (bin_of s1 cst_of rfl) (len16 _ _ rfl) (by omega)
    have e26 : (R xs 260).1.take (R xs 200).1.length = (R xs 200).1 := by
      rcases w.cut 200 260 (by omega) (by omega) with e | ⟨_, e, l⟩
      · rw [← e, List.take_length]
      · rw [l, ← e]
    rw [e26] at s2
    exact ne_same s2 (cVar_of rfl) okt
  have e21 : lw21 [x0, x1, some (.ref h), some (encP p), some (.lst (xs.map .int)), x5, x6, x7, some (DS (p.map Bk.name) β), some (DS (namesP p) ν), x10, x11, some (DI (numsP p) κ), some (.lst (q.map encB)), x14, some (.tup (ys.map .int)), some (.tup (R xs 200).1), some ((R xs 200).2), some (.tup [.tup ((R xs 200).1.map (calU β κ)), eclU ν κ (R xs 200).2]), some (.tup (R (xs ++ [3, 0, 1]) 200).1), some ((R (xs ++ [3, 0, 1]) 200).2), some (.int (m : Nat)), some (.tup [.tup (R xs m).1, (R xs m).2]), x23, x24] S' = some (.nx, [x0, x1, some (.ref h), some (encP p), some (.lst (xs.map .int)), x5, x6, x7, some (DS (p.map Bk.name) β), some (DS (namesP p) ν), x10, x11, some (DI (numsP p) κ), some (.lst (q.map encB)), x14, some (.tup (ys.map .int)), some (.tup (R xs 200).1), some ((R xs 200).2), some (.tup [.tup ((R xs 200).1.map (calU β κ)), eclU ν κ (R xs 200).2]), some (.tup (R (xs ++ [3, 0, 1]) 200).1), some ((R (xs ++ [3, 0, 1]) 200).2), some (.int (m : Nat)), some (.tup [.tup (R xs m).1, (R xs m).2]), x23, x24], S') := sIf_no c21
  exact ⟨_, S', (sqn e12).trans ((sqn e13).trans ((sqn e14).trans ((sqn e15).trans ((sqn e16).trans ((sqn e17).trans ((sqn e18).trans ((sqn e19).trans ((sqn e20).trans e21)))))))), rfl, rfl⟩
end K14
namespace K14
open PySem PySem.Spec PyProof.Rows L2 OF
theorem lw_cut : lw = sSeq lw1 (sSeq lw2 (sSeq lw3 (sSeq lw4 (sSeq lw5 (sSeq lw6 (sSeq lw7 (sSeq lw8 (sSeq lw9 (sSeq lw10 (sSeq lw11 (sSeq lw12 (sSeq lw13 (sSeq lw14 (sSeq lw15 (sSeq lw16 (sSeq lw17 (sSeq lw18 (sSeq lw19 (sSeq lw20 lw21))))))))))))))))))) := rfl
theorem lw_ok (ns : List Int) (hn : ns.length ≤ 63) {k : Nat} (hk : k < 100) {S : Sto} (x2 x3 x4 x5 x6 x7 x8 x9 x10 x11 x12 x13 x14 x15 x16 x17 x18 x19 x20 x21 x22 x23 x24 : Option U) : ∃ (E : Env') (S' : Sto), lw [some (.scr (ns.map .int)), some (.int k), x2, x3, x4, x5, x6, x7, x8, x9, x10, x11, x12, x13, x14, x15, x16, x17, x18, x19, x20, x21, x22, x23, x24] S = some (.nx, E, S') ∧ E[0]? = some (some (.scr (ns.map .int))) ∧ E.length = 25 := by
  obtain ⟨g, b, e1, k1⟩ := hand_ok ns k S hk hn
  have h1 : Hn (S ++ [hnd g b]) S.length := ⟨g, b, by simp, k1⟩
  have eH : lw1 [some (.scr (ns.map .int)), some (.int k), x2, x3, x4, x5, x6, x7, x8, x9, x10, x11, x12, x13, x14, x15, x16, x17, x18, x19, x20, x21, x22, x23, x24] S = some (.nx, [some (.scr (ns.map .int)), some (.int k), some (.ref S.length), x3, x4, x5, x6, x7, x8, x9, x10, x11, x12, x13, x14, x15, x16, x17, x18, x19, x20, x21, x22, x23, x24], S ++ [hnd g b]) := asg_of (arg_of (cons_of (cVar_of rfl) (cons_of (cVar_of rfl) (nil_of _ _))) e1)
  obtain ⟨p, fd, S2, e2, hp, fl, fb, h2⟩ := lw2_ok h1 (some (.scr (ns.map .int))) (some (.int k)) x3 x4 x5 x6 x7 x8 x9 x10 x11 x12 x13 x14 x15 x16 x17 x18 x19 x20 x21 x22 x23 x24
  have pl := hp.len
  obtain ⟨a, S3, e3, ha, ne3, h3⟩ := lw3_ok hp h2 (some (.scr (ns.map .int))) (some (.int k)) (some (.lst (fd.map .int))) x5 x6 x7 x8 x9 x10 x11 x12 x13 x14 x15 x16 x17 x18 x19 x20 x21 x22 x23 x24
  obtain ⟨β, ν, S4, e4, bi, bn, ni, nn, h4, k4⟩ := lw4_ok hp h3 (some (.scr (ns.map .int))) (some (.int k)) (some (encP p)) (some (.lst (fd.map .int))) (some (.ref a)) x8 x9 x10 x11 x12 x13 x14 x15 x16 x17 x18 x19 x20 x21 x22 x23 x24
  have ha4 := k4.get ha ne3
  obtain ⟨f, s, S5, e5, f0, f1, hs, h5, k5⟩ := lw5_ok h4 (some (.scr (ns.map .int))) (some (.int k)) (some (encP p)) (some (.lst (fd.map .int))) (some (.lst ((p.map Bk.name).map .str))) (some (.lst ((namesP p).map .str))) (some (.ref a)) (some (DS (p.map Bk.name) β)) (some (DS (namesP p) ν)) x10 x11 x12 x13 x14 x15 x16 x17 x18 x19 x20 x21 x22 x23 x24
  have ha5 := k5.get ha4 ne3
  have nl := hp.numl
  have e6 := lw6_ok (ns := numsP p) hp.nums nl f0 f1 hs ha5 (some (.scr (ns.map .int))) (some (.int k)) (some (.ref S.length)) (some (encP p)) (some (.lst (fd.map .int))) (some (.lst ((p.map Bk.name).map .str))) (some (.lst ((namesP p).map .str))) (some (DS (p.map Bk.name) β)) (some (DS (namesP p) ν)) x13 x14 x15 x16 x17 x18 x19 x20 x21 x22 x23 x24 x12
  have g : Nmg p β ν (kap f s (numsP p)) := ⟨bi, bn, ni, nn, kap_inj f0 hs nl, fun x _ => by unfold kap nuf; omega⟩
  obtain ⟨m, S7, e7, hm, ne7, h7⟩ := lw7_ok (β := β) (ν := ν) (κ := kap f s (numsP p)) (bs := p.map Bk.name) (ws := namesP p) (ns := numsP p) (p := p) (by omega) (fun b hb => ⟨List.mem_map_of_mem hb, fun r hr => ⟨fun x hx => namesP_row hb hr hx, num_mem hb hr⟩, fun x hx => namesP_end hb hx, fun x hx => hp.goals b hb x hx, by have := hp.few b hb; omega⟩) h5 (some (.scr (ns.map .int))) (some (.int k)) (some (.ref S.length)) (some (.lst (fd.map .int))) (some (.lst ((p.map Bk.name).map .str))) (some (.lst ((namesP p).map .str))) (some (.ref a)) (some (.int f)) (some (.int s)) x13 x14 x15 x16 x17 x18 x19 x20 x21 x22 x23 x24
  have p0 : p.map (rnB β ν (kap f s (numsP p))) ≠ [] := by
    have := hp.ne
    simpa using this
  obtain ⟨j, S8, e8, j1, jl, hm8, h8⟩ := lw8_ok p0 (by simp; omega) h7 hm ne7 (some (.scr (ns.map .int))) (some (.int k)) (some (encP p)) (some (.lst (fd.map .int))) (some (.lst ((p.map Bk.name).map .str))) (some (.lst ((namesP p).map .str))) (some (.ref a)) (some (DS (p.map Bk.name) β)) (some (DS (namesP p) ν)) (some (.int f)) (some (.int s)) (some (DI (numsP p) (kap f s (numsP p)))) x14 x15 x16 x17 x18 x19 x20 x21 x22 x23 x24
  obtain ⟨b0, p', rfl⟩ : ∃ b0 p', p = b0 :: p' := by
    cases p with
    | nil => exact absurd rfl hp.ne
    | cons b0 p' => exact ⟨b0, p', rfl⟩
  have e9 := lw9_ok (P := (b0 :: p').map (rnB β ν (kap f s (numsP (b0 :: p'))))) (c := rnB β ν (kap f s (numsP (b0 :: p'))) b0) rfl (by simp at pl ⊢; omega) (j := j) hm8 (some (.scr (ns.map .int))) (some (.int k)) (some (.ref S.length)) (some (encP (b0 :: p'))) (some (.lst (fd.map .int))) (some (.lst (((b0 :: p').map Bk.name).map .str))) (some (.lst ((namesP (b0 :: p')).map .str))) (some (.ref a)) (some (DS ((b0 :: p').map Bk.name) β)) (some (DS (namesP (b0 :: p')) ν)) (some (.int f)) (some (.int s)) (some (DI (numsP (b0 :: p')) (kap f s (numsP (b0 :: p'))))) x15 x16 x17 x18 x19 x20 x21 x22 x23 x24
  have e10 := lw10_ok (P := (b0 :: p').map (rnB β ν (kap f s (numsP (b0 :: p'))))) (by simp at pl ⊢; omega) (j := j) (x := β b0.name) (bs := (b0 :: p').map Bk.name) (β := β) S8 (some (.scr (ns.map .int))) (some (.int k)) (some (.ref S.length)) (some (encP (b0 :: p'))) (some (.lst (fd.map .int))) (some (.lst (((b0 :: p').map Bk.name).map .str))) (some (.lst ((namesP (b0 :: p')).map .str))) (some (.ref a)) (some (DS (namesP (b0 :: p')) ν)) (some (.int f)) (some (.int s)) (some (DI (numsP (b0 :: p')) (kap f s (numsP (b0 :: p'))))) (some (.int (j : Nat))) x15 x16 x17 x18 x19 x20 x21 x22 x23 x24
  obtain ⟨q, hq, o⟩ : ∃ q, othL ((b0 :: p').map (rnB β ν (kap f s (numsP (b0 :: p'))))) j (if ("straying" : Str) ∈ ((b0 :: p').map Bk.name).map β then none else some (β b0.name)) = q ∧ Oth (b0 :: p') q β ν (kap f s (numsP (b0 :: p'))) := by
    refine ⟨_, rfl, oth_made hp g j1 ?_⟩
    by_cases hst : ("straying" : Str) ∈ ((b0 :: p').map Bk.name).map β
    · rw [if_pos hst]; exact .inl rfl
    · rw [if_neg hst]
      refine .inr ⟨rfl, fun hx => hst ?_⟩
      rw [List.map_map]
      exact hx
  rw [hq] at e10
  obtain ⟨ys, S11, e11, hy, h11⟩ := lw11_ok fb fl h8 (some (.scr (ns.map .int))) (some (.int k)) (some (encP (b0 :: p'))) (some (.lst (((b0 :: p').map Bk.name).map .str))) (some (.lst ((namesP (b0 :: p')).map .str))) (some (.ref a)) (some (DS ((b0 :: p').map Bk.name) β)) (some (DS (namesP (b0 :: p')) ν)) (some (.int f)) (some (.int s)) (some (DI (numsP (b0 :: p')) (kap f s (numsP (b0 :: p'))))) (some (.lst (q.map encB))) (some (.int (j : Nat))) x15 x16 x17 x18 x19 x20 x21 x22 x23 x24
  obtain ⟨R, T, w⟩ := tw_ex hp g o fl hy
  have ql : q.length ≤ 100 := by have := o.len; omega
  obtain ⟨E, S', eT, hE, lE⟩ := tail_ok w fl ql h11 (some (.scr (ns.map .int))) (some (.int k)) (some (.lst (((b0 :: p').map Bk.name).map .str))) (some (.lst ((namesP (b0 :: p')).map .str))) (some (.ref a)) (some (.int f)) (some (.int s)) (some (.int (j : Nat))) x16 x17 x18 x19 x20 x21 x22 x23 x24
  refine ⟨E, S', lw_cut ▸ (sqn eH).trans ((sqn e2).trans ((sqn e3).trans ((sqn e4).trans ((sqn e5).trans ((sqn e6).trans ((sqn e7).trans ((sqn e8).trans ((sqn e9).trans ((sqn e10).trans ((sqn e11).trans eT)))))))))), hE, lE⟩
theorem list25 {E : Env'} (h : E.length = 25) : ∃ x0 x1 x2 x3 x4 x5 x6 x7 x8 x9 x10 x11 x12 x13 x14 x15 x16 x17 x18 x19 x20 x21 x22 x23 x24 : Option U, E = [x0, x1, x2, x3, x4, x5, x6, x7, x8, x9, x10, x11, x12, x13, x14, x15, x16, x17, x18, x19, x20, x21, x22, x23, x24] := by
  match E, h with
  | [x0, x1, x2, x3, x4, x5, x6, x7, x8, x9, x10, x11, x12, x13, x14, x15, x16, x17, x18, x19, x20, x21, x22, x23, x24], _ => exact ⟨x0, x1, x2, x3, x4, x5, x6, x7, x8, x9, x10, x11, x12, x13, x14, x15, x16, x17, x18, x19, x20, x21, x22, x23, x24, rfl⟩
theorem lw_loop (ns : List Int) (hn : ns.length ≤ 63) : ∀ (ks : List Nat) (E : Env') (S : Sto), (∀ k ∈ ks, k < 100) → E.length = 25 → E[0]? = some (some (.scr (ns.map .int))) → ∃ (E' : Env') (S' : Sto), loopF (.nm 1) lw (ks.map fun k : Nat => U.int k) E S = some (.nx, E', S')
  | [], E, S, _, _, _ => ⟨E, S, by rw [List.map_nil]; exact loopF_nil _ _ _ _⟩
  | k :: ks, E, S, hk, hl, h0 => by
    obtain ⟨x0, x1, x2, x3, x4, x5, x6, x7, x8, x9, x10, x11, x12, x13, x14, x15, x16, x17, x18, x19, x20, x21, x22, x23, x24, rfl⟩ := list25 hl
    simp at h0
    subst h0
    obtain ⟨E1, S1, e1, z1, l1⟩ := lw_ok ns hn (hk k (by simp)) (S := S) x2 x3 x4 x5 x6 x7 x8 x9 x10 x11 x12 x13 x14 x15 x16 x17 x18 x19 x20 x21 x22 x23 x24
    obtain ⟨E2, S2, e2⟩ := lw_loop ns hn ks E1 S1 (fun j hj => hk j (by simp [hj])) l1 z1
    refine ⟨E2, S2, ?_⟩
    rw [List.map_cons, loopF_cons]
    simp only [bindP_nm, setAll_cons, setAll_nil, List.set_cons_succ, List.set_cons_zero, e1]
    exact e2
theorem law_true (ns : List Int) (hn : ns.length ≤ 63) : P_law [.scr (ns.map .int)] = some (.bl true) := by
  obtain ⟨m, hm, el⟩ : ∃ m : Nat, m ≤ 2 ∧ (cCons (cArg (on2 maxU) (cCons (cCst (.int 1)) (cCons (cArg (on2 minU) (cCons (cArg (on1 lenU) (cCons (cVar 0) cNil)) (cCons (cCst (.int 2)) cNil))) cNil))) cNil) [some (.scr (ns.map .int)), none, none, none, none, none, none, none, none, none, none, none, none, none, none, none, none, none, none, none, none, none, none, none, none] [] = some ([.int (m : Int)], []) := by
    have ll : (ns.map U.int).length = ns.length := by simp
    by_cases h1 : 2 < ns.length
    · refine ⟨2, by omega, ?_⟩
      have a1 : (2 : Int) < ((ns.map U.int).length : Int) := by omega
      generalize ns.map U.int = L at *
      simp [minU, maxU, a1]
    · by_cases h2 : ns.length ≤ 1
      · refine ⟨1, by omega, ?_⟩
        have a1 : ¬ (2 : Int) < ((ns.map U.int).length : Int) := by omega
        have a2 : ¬ (1 : Int) < ((ns.map U.int).length : Int) := by omega
        generalize ns.map U.int = L at *
        simp [minU, maxU, a1, a2]
      · refine ⟨2, by omega, ?_⟩
        have a1 : ¬ (2 : Int) < ((ns.map U.int).length : Int) := by omega
        have a2 : (1 : Int) < ((ns.map U.int).length : Int) := by omega
        have a3 : ((ns.map U.int).length : Int) = 2 := by omega
        generalize ns.map U.int = L at *
        simp [minU, maxU, a3]
  obtain ⟨E2, S2, e2⟩ := lw_loop ns hn (List.range m) [some (.scr (ns.map .int)), none, none, none, none, none, none, none, none, none, none, none, none, none, none, none, none, none, none, none, none, none, none, none, none] [] (fun k hk => by have := List.mem_range.mp hk; omega) rfl rfl
  have it : itR1 (cCons (cArg (on2 maxU) (cCons (cCst (.int 1)) (cCons (cArg (on2 minU) (cCons (cArg (on1 lenU) (cCons (cVar 0) cNil)) (cCons (cCst (.int 2)) cNil))) cNil))) cNil) [some (.scr (ns.map .int)), none, none, none, none, none, none, none, none, none, none, none, none, none, none, none, none, none, none, none, none, none, none, none, none] [] = some ((List.range m).map fun k : Nat => U.int k, []) := by
    rw [itR1_k, el]
    show r1K [] [.int (m : Int)] = _
    rw [r1K_nat (by omega), rangeU_eq]
  refine pureF_of (S1 := S2) (runF_of rfl rfl (law_cut ▸ (sqn ((sFor_of it).trans e2)).trans (sRet_of cst_of))) rfl
end K14
namespace K14
open PySem PySem.Spec PyProof.Rows L2 OF
theorem all_mk {l : PySem.W.OpenLaw} {w : World} {K : PySem.W.Frag} {h : Heap} {mg : Str → Option Value} {fa C_Story f__law_hand f__law_parts_of f__law_otherwise f_rest_of f_Story_init__ D_Story_init__ f_Story_pair f_Story_may_go f_Story_are_told f_asked_by f_Story_end_done f_Story_why_not f_sum_of f_left_of f_product_of f_part_of f_same_told f_below_told f_reckoned f_Story_worth_given f_Story_row_done f_given_by f_held_worths f_block_done f_block_of f_run_plain T_run_plain D_run_plain e_run_plain_0 f__law_take f__law_pick f__law_names f__law_goals f__law_row f__law_program f__law_called f_said_in f__law_trace_called f__law_ending_called f_law d_END_PARTS d_RECKONINGS d_ROW_PARTS : Addr} (X : K.In h) (G : h.Ns mainGlobals mg) (hfa : mg "law" = some (.ref fa))
    {od__law_hand an__law_hand od__law_parts_of an__law_parts_of od__law_otherwise an__law_otherwise od_rest_of an_rest_of od_Story_init__ an_Story_init__ od_Story_pair an_Story_pair od_Story_may_go an_Story_may_go od_Story_are_told an_Story_are_told od_asked_by an_asked_by od_Story_end_done an_Story_end_done od_Story_why_not an_Story_why_not od_sum_of an_sum_of od_left_of an_left_of od_product_of an_product_of od_part_of an_part_of od_same_told an_same_told od_below_told an_below_told od_reckoned an_reckoned od_Story_worth_given an_Story_worth_given od_Story_row_done an_Story_row_done od_given_by an_given_by od_held_worths an_held_worths od_block_done an_block_done od_block_of an_block_of od_run_plain an_run_plain od__law_take an__law_take od__law_pick an__law_pick od__law_names an__law_names od__law_goals an__law_goals od__law_row an__law_row od__law_program an__law_program od__law_called an__law_called od_said_in an_said_in od__law_trace_called an__law_trace_called od__law_ending_called an__law_ending_called od_law an_law : Option Addr} {sl__law_hand sl__law_parts_of sl__law_otherwise sl_rest_of sl_Story_init__ sl_Story_pair sl_Story_may_go sl_Story_are_told sl_asked_by sl_Story_end_done sl_Story_why_not sl_sum_of sl_left_of sl_product_of sl_part_of sl_same_told sl_below_told sl_reckoned sl_Story_worth_given sl_Story_row_done sl_given_by sl_held_worths sl_block_done sl_block_of sl_run_plain sl__law_take sl__law_pick sl__law_names sl__law_goals sl__law_row sl__law_program sl__law_called sl_said_in sl__law_trace_called sl__law_ending_called sl_law : Array (Option Value)} {oc__law_hand dc__law_hand pm__law_hand cd__law_hand ct__law_hand kV__law_hand oc__law_parts_of dc__law_parts_of pm__law_parts_of cd__law_parts_of ct__law_parts_of kV__law_parts_of oc__law_otherwise dc__law_otherwise pm__law_otherwise cd__law_otherwise ct__law_otherwise kV__law_otherwise oc_rest_of dc_rest_of pm_rest_of cd_rest_of ct_rest_of kV_rest_of oc_Story_init__ dc_Story_init__ pm_Story_init__ cd_Story_init__ ct_Story_init__ oc_Story_pair dc_Story_pair pm_Story_pair cd_Story_pair ct_Story_pair kV_Story_pair oc_Story_may_go dc_Story_may_go pm_Story_may_go cd_Story_may_go ct_Story_may_go kV_Story_may_go oc_Story_are_told dc_Story_are_told pm_Story_are_told cd_Story_are_told ct_Story_are_told kV_Story_are_told oc_asked_by dc_asked_by pm_asked_by cd_asked_by ct_asked_by kV_asked_by oc_Story_end_done dc_Story_end_done pm_Story_end_done cd_Story_end_done ct_Story_end_done kV_Story_end_done oc_Story_why_not dc_Story_why_not pm_Story_why_not cd_Story_why_not ct_Story_why_not kV_Story_why_not oc_sum_of dc_sum_of pm_sum_of cd_sum_of ct_sum_of kV_sum_of oc_left_of dc_left_of pm_left_of cd_left_of ct_left_of kV_left_of oc_product_of dc_product_of pm_product_of cd_product_of ct_product_of kV_product_of oc_part_of dc_part_of pm_part_of cd_part_of ct_part_of kV_part_of oc_same_told dc_same_told pm_same_told cd_same_told ct_same_told kV_same_told oc_below_told dc_below_told pm_below_told cd_below_told ct_below_told kV_below_told oc_reckoned dc_reckoned pm_reckoned cd_reckoned ct_reckoned kV_reckoned oc_Story_worth_given dc_Story_worth_given pm_Story_worth_given cd_Story_worth_given ct_Story_worth_given kV_Story_worth_given oc_Story_row_done dc_Story_row_done pm_Story_row_done cd_Story_row_done ct_Story_row_done kV_Story_row_done oc_given_by dc_given_by pm_given_by cd_given_by ct_given_by kV_given_by oc_held_worths dc_held_worths pm_held_worths cd_held_worths ct_held_worths kV_held_worths oc_block_done dc_block_done pm_block_done cd_block_done ct_block_done kV_block_done oc_block_of dc_block_of pm_block_of cd_block_of ct_block_of kV_block_of oc_run_plain dc_run_plain pm_run_plain cd_run_plain ct_run_plain oc__law_take dc__law_take pm__law_take cd__law_take ct__law_take kV__law_take oc__law_pick dc__law_pick pm__law_pick cd__law_pick ct__law_pick kV__law_pick oc__law_names dc__law_names pm__law_names cd__law_names ct__law_names kV__law_names oc__law_goals dc__law_goals pm__law_goals cd__law_goals ct__law_goals kV__law_goals oc__law_row dc__law_row pm__law_row cd__law_row ct__law_row kV__law_row oc__law_program dc__law_program pm__law_program cd__law_program ct__law_program kV__law_program oc__law_called dc__law_called pm__law_called cd__law_called ct__law_called kV__law_called oc_said_in dc_said_in pm_said_in cd_said_in ct_said_in kV_said_in oc__law_trace_called dc__law_trace_called pm__law_trace_called cd__law_trace_called ct__law_trace_called kV__law_trace_called oc__law_ending_called dc__law_ending_called pm__law_ending_called cd__law_ending_called ct__law_ending_called kV__law_ending_called oc_law dc_law pm_law cd_law ct_law kV_law : Value} {w_Story_init___steps : Tok} {oT_run_plain : Obj} {nT_run_plain : Nat} {oe_run_plain_0 : Obj} {ne_run_plain_0 : Nat} {w_run_plain_steps : Tok} {t_WHEEL : Tok} {es_END_PARTS : Array DictEntry} {en_END_PARTS : Nat} {tt_END_PARTS_0 : Tok} {tt_END_PARTS_1 : Tok} {tt_END_PARTS_2 : Tok} {es_RECKONINGS : Array DictEntry} {en_RECKONINGS : Nat} {es_ROW_PARTS : Array DictEntry} {en_ROW_PARTS : Nat} {tt_ROW_PARTS_0 : Tok} {tt_ROW_PARTS_1 : Tok} {tt_ROW_PARTS_2 : Tok} {tt_ROW_PARTS_3 : Tok} {tt_ROW_PARTS_4 : Tok} {tt_ROW_PARTS_5 : Tok} {tt_ROW_PARTS_6 : Tok} {tt_ROW_PARTS_7 : Tok} {tt_ROW_PARTS_8 : Tok} {tt_ROW_PARTS_9 : Tok}
    (aC_Story : PySem.W.nsIn K mainGlobals "Story" = some (some (.ref C_Story)))
    (a__law_hand : PySem.W.nsIn K mainGlobals "_law_hand" = some (some (.ref f__law_hand)))
    (l__law_hand : K.lookup f__law_hand = some ⟨oc__law_hand, od__law_hand, .func (PySem.W.fnOf "_law_hand" "_law_hand" (defArgs st__law_hand) (defBody st__law_hand) (defScope st__law_hand) .none kV__law_hand dc__law_hand pm__law_hand an__law_hand cd__law_hand ct__law_hand), sl__law_hand⟩)
    (c__law_hand : PySem.W.codeIn K cd__law_hand "_law_hand" = true)
    (k__law_hand : PySem.W.keepIn K (.ref f__law_hand) = true)
    (a__law_parts_of : PySem.W.nsIn K mainGlobals "_law_parts_of" = some (some (.ref f__law_parts_of)))
    (l__law_parts_of : K.lookup f__law_parts_of = some ⟨oc__law_parts_of, od__law_parts_of, .func (PySem.W.fnOf "_law_parts_of" "_law_parts_of" (defArgs st__law_parts_of) (defBody st__law_parts_of) (defScope st__law_parts_of) .none kV__law_parts_of dc__law_parts_of pm__law_parts_of an__law_parts_of cd__law_parts_of ct__law_parts_of), sl__law_parts_of⟩)
    (c__law_parts_of : PySem.W.codeIn K cd__law_parts_of "_law_parts_of" = true)
    (k__law_parts_of : PySem.W.keepIn K (.ref f__law_parts_of) = true)
    (a__law_otherwise : PySem.W.nsIn K mainGlobals "_law_otherwise" = some (some (.ref f__law_otherwise)))
    (l__law_otherwise : K.lookup f__law_otherwise = some ⟨oc__law_otherwise, od__law_otherwise, .func (PySem.W.fnOf "_law_otherwise" "_law_otherwise" (defArgs st__law_otherwise) (defBody st__law_otherwise) (defScope st__law_otherwise) .none kV__law_otherwise dc__law_otherwise pm__law_otherwise an__law_otherwise cd__law_otherwise ct__law_otherwise), sl__law_otherwise⟩)
    (c__law_otherwise : PySem.W.codeIn K cd__law_otherwise "_law_otherwise" = true)
    (k__law_otherwise : PySem.W.keepIn K (.ref f__law_otherwise) = true)
    (a_rest_of : PySem.W.nsIn K mainGlobals "rest_of" = some (some (.ref f_rest_of)))
    (l_rest_of : K.lookup f_rest_of = some ⟨oc_rest_of, od_rest_of, .func (PySem.W.fnOf "rest_of" "rest_of" (defArgs st_rest_of) (defBody st_rest_of) (defScope st_rest_of) .none kV_rest_of dc_rest_of pm_rest_of an_rest_of cd_rest_of ct_rest_of), sl_rest_of⟩)
    (c_rest_of : PySem.W.codeIn K cd_rest_of "rest_of" = true)
    (k_rest_of : PySem.W.keepIn K (.ref f_rest_of) = true)
    (a_Story_init__ : PySem.W.findIn K (.ref C_Story) "__init__" = some (some (.ref f_Story_init__)))
    (i_Story_init__ : PySem.W.isFn K (.ref f_Story_init__) = true)
    (l_Story_init__ : K.lookup f_Story_init__ = some ⟨oc_Story_init__, od_Story_init__, .func (PySem.W.fnOf "__init__" "Story.__init__" (defArgs st_Story_init__) (defBody st_Story_init__) (defScope st_Story_init__) .none (.ref D_Story_init__) dc_Story_init__ pm_Story_init__ an_Story_init__ cd_Story_init__ ct_Story_init__), sl_Story_init__⟩)
    (c_Story_init__ : PySem.W.codeIn K cd_Story_init__ "Story.__init__" = true)
    (k_Story_init__ : PySem.W.keepIn K (.ref f_Story_init__) = true)
    (kw_Story_init___steps : PySem.W.nsIn K D_Story_init__ "steps" = some (some (.int 200 w_Story_init___steps)))
    (a_Story_pair : PySem.W.findIn K (.ref C_Story) "pair" = some (some (.ref f_Story_pair)))
    (i_Story_pair : PySem.W.isFn K (.ref f_Story_pair) = true)
    (l_Story_pair : K.lookup f_Story_pair = some ⟨oc_Story_pair, od_Story_pair, .func (PySem.W.fnOf "pair" "Story.pair" (defArgs st_Story_pair) (defBody st_Story_pair) (defScope st_Story_pair) .none kV_Story_pair dc_Story_pair pm_Story_pair an_Story_pair cd_Story_pair ct_Story_pair), sl_Story_pair⟩)
    (c_Story_pair : PySem.W.codeIn K cd_Story_pair "Story.pair" = true)
    (k_Story_pair : PySem.W.keepIn K (.ref f_Story_pair) = true)
    (a_Story_may_go : PySem.W.findIn K (.ref C_Story) "may_go" = some (some (.ref f_Story_may_go)))
    (i_Story_may_go : PySem.W.isFn K (.ref f_Story_may_go) = true)
    (l_Story_may_go : K.lookup f_Story_may_go = some ⟨oc_Story_may_go, od_Story_may_go, .func (PySem.W.fnOf "may_go" "Story.may_go" (defArgs st_Story_may_go) (defBody st_Story_may_go) (defScope st_Story_may_go) .none kV_Story_may_go dc_Story_may_go pm_Story_may_go an_Story_may_go cd_Story_may_go ct_Story_may_go), sl_Story_may_go⟩)
    (c_Story_may_go : PySem.W.codeIn K cd_Story_may_go "Story.may_go" = true)
    (k_Story_may_go : PySem.W.keepIn K (.ref f_Story_may_go) = true)
    (a_Story_are_told : PySem.W.findIn K (.ref C_Story) "are_told" = some (some (.ref f_Story_are_told)))
    (i_Story_are_told : PySem.W.isFn K (.ref f_Story_are_told) = true)
    (l_Story_are_told : K.lookup f_Story_are_told = some ⟨oc_Story_are_told, od_Story_are_told, .func (PySem.W.fnOf "are_told" "Story.are_told" (defArgs st_Story_are_told) (defBody st_Story_are_told) (defScope st_Story_are_told) .none kV_Story_are_told dc_Story_are_told pm_Story_are_told an_Story_are_told cd_Story_are_told ct_Story_are_told), sl_Story_are_told⟩)
    (c_Story_are_told : PySem.W.codeIn K cd_Story_are_told "Story.are_told" = true)
    (k_Story_are_told : PySem.W.keepIn K (.ref f_Story_are_told) = true)
    (a_asked_by : PySem.W.nsIn K mainGlobals "asked_by" = some (some (.ref f_asked_by)))
    (l_asked_by : K.lookup f_asked_by = some ⟨oc_asked_by, od_asked_by, .func (PySem.W.fnOf "asked_by" "asked_by" (defArgs st_asked_by) (defBody st_asked_by) (defScope st_asked_by) .none kV_asked_by dc_asked_by pm_asked_by an_asked_by cd_asked_by ct_asked_by), sl_asked_by⟩)
    (c_asked_by : PySem.W.codeIn K cd_asked_by "asked_by" = true)
    (k_asked_by : PySem.W.keepIn K (.ref f_asked_by) = true)
    (a_Story_end_done : PySem.W.findIn K (.ref C_Story) "end_done" = some (some (.ref f_Story_end_done)))
    (i_Story_end_done : PySem.W.isFn K (.ref f_Story_end_done) = true)
    (l_Story_end_done : K.lookup f_Story_end_done = some ⟨oc_Story_end_done, od_Story_end_done, .func (PySem.W.fnOf "end_done" "Story.end_done" (defArgs st_Story_end_done) (defBody st_Story_end_done) (defScope st_Story_end_done) .none kV_Story_end_done dc_Story_end_done pm_Story_end_done an_Story_end_done cd_Story_end_done ct_Story_end_done), sl_Story_end_done⟩)
    (c_Story_end_done : PySem.W.codeIn K cd_Story_end_done "Story.end_done" = true)
    (k_Story_end_done : PySem.W.keepIn K (.ref f_Story_end_done) = true)
    (a_Story_why_not : PySem.W.findIn K (.ref C_Story) "why_not" = some (some (.ref f_Story_why_not)))
    (i_Story_why_not : PySem.W.isFn K (.ref f_Story_why_not) = true)
    (l_Story_why_not : K.lookup f_Story_why_not = some ⟨oc_Story_why_not, od_Story_why_not, .func (PySem.W.fnOf "why_not" "Story.why_not" (defArgs st_Story_why_not) (defBody st_Story_why_not) (defScope st_Story_why_not) .none kV_Story_why_not dc_Story_why_not pm_Story_why_not an_Story_why_not cd_Story_why_not ct_Story_why_not), sl_Story_why_not⟩)
    (c_Story_why_not : PySem.W.codeIn K cd_Story_why_not "Story.why_not" = true)
    (k_Story_why_not : PySem.W.keepIn K (.ref f_Story_why_not) = true)
    (a_sum_of : PySem.W.nsIn K mainGlobals "sum_of" = some (some (.ref f_sum_of)))
    (l_sum_of : K.lookup f_sum_of = some ⟨oc_sum_of, od_sum_of, .func (PySem.W.fnOf "sum_of" "sum_of" (defArgs st_sum_of) (defBody st_sum_of) (defScope st_sum_of) .none kV_sum_of dc_sum_of pm_sum_of an_sum_of cd_sum_of ct_sum_of), sl_sum_of⟩)
    (c_sum_of : PySem.W.codeIn K cd_sum_of "sum_of" = true)
    (k_sum_of : PySem.W.keepIn K (.ref f_sum_of) = true)
    (a_left_of : PySem.W.nsIn K mainGlobals "left_of" = some (some (.ref f_left_of)))
    (l_left_of : K.lookup f_left_of = some ⟨oc_left_of, od_left_of, .func (PySem.W.fnOf "left_of" "left_of" (defArgs st_left_of) (defBody st_left_of) (defScope st_left_of) .none kV_left_of dc_left_of pm_left_of an_left_of cd_left_of ct_left_of), sl_left_of⟩)
    (c_left_of : PySem.W.codeIn K cd_left_of "left_of" = true)
    (k_left_of : PySem.W.keepIn K (.ref f_left_of) = true)
    (a_product_of : PySem.W.nsIn K mainGlobals "product_of" = some (some (.ref f_product_of)))
    (l_product_of : K.lookup f_product_of = some ⟨oc_product_of, od_product_of, .func (PySem.W.fnOf "product_of" "product_of" (defArgs st_product_of) (defBody st_product_of) (defScope st_product_of) .none kV_product_of dc_product_of pm_product_of an_product_of cd_product_of ct_product_of), sl_product_of⟩)
    (c_product_of : PySem.W.codeIn K cd_product_of "product_of" = true)
    (k_product_of : PySem.W.keepIn K (.ref f_product_of) = true)
    (a_part_of : PySem.W.nsIn K mainGlobals "part_of" = some (some (.ref f_part_of)))
    (l_part_of : K.lookup f_part_of = some ⟨oc_part_of, od_part_of, .func (PySem.W.fnOf "part_of" "part_of" (defArgs st_part_of) (defBody st_part_of) (defScope st_part_of) .none kV_part_of dc_part_of pm_part_of an_part_of cd_part_of ct_part_of), sl_part_of⟩)
    (c_part_of : PySem.W.codeIn K cd_part_of "part_of" = true)
    (k_part_of : PySem.W.keepIn K (.ref f_part_of) = true)
    (a_same_told : PySem.W.nsIn K mainGlobals "same_told" = some (some (.ref f_same_told)))
    (l_same_told : K.lookup f_same_told = some ⟨oc_same_told, od_same_told, .func (PySem.W.fnOf "same_told" "same_told" (defArgs st_same_told) (defBody st_same_told) (defScope st_same_told) .none kV_same_told dc_same_told pm_same_told an_same_told cd_same_told ct_same_told), sl_same_told⟩)
    (c_same_told : PySem.W.codeIn K cd_same_told "same_told" = true)
    (k_same_told : PySem.W.keepIn K (.ref f_same_told) = true)
    (a_below_told : PySem.W.nsIn K mainGlobals "below_told" = some (some (.ref f_below_told)))
    (l_below_told : K.lookup f_below_told = some ⟨oc_below_told, od_below_told, .func (PySem.W.fnOf "below_told" "below_told" (defArgs st_below_told) (defBody st_below_told) (defScope st_below_told) .none kV_below_told dc_below_told pm_below_told an_below_told cd_below_told ct_below_told), sl_below_told⟩)
    (c_below_told : PySem.W.codeIn K cd_below_told "below_told" = true)
    (k_below_told : PySem.W.keepIn K (.ref f_below_told) = true)
    (a_reckoned : PySem.W.nsIn K mainGlobals "reckoned" = some (some (.ref f_reckoned)))
    (l_reckoned : K.lookup f_reckoned = some ⟨oc_reckoned, od_reckoned, .func (PySem.W.fnOf "reckoned" "reckoned" (defArgs st_reckoned) (defBody st_reckoned) (defScope st_reckoned) .none kV_reckoned dc_reckoned pm_reckoned an_reckoned cd_reckoned ct_reckoned), sl_reckoned⟩)
    (c_reckoned : PySem.W.codeIn K cd_reckoned "reckoned" = true)
    (k_reckoned : PySem.W.keepIn K (.ref f_reckoned) = true)
    (a_Story_worth_given : PySem.W.findIn K (.ref C_Story) "worth_given" = some (some (.ref f_Story_worth_given)))
    (i_Story_worth_given : PySem.W.isFn K (.ref f_Story_worth_given) = true)
    (l_Story_worth_given : K.lookup f_Story_worth_given = some ⟨oc_Story_worth_given, od_Story_worth_given, .func (PySem.W.fnOf "worth_given" "Story.worth_given" (defArgs st_Story_worth_given) (defBody st_Story_worth_given) (defScope st_Story_worth_given) .none kV_Story_worth_given dc_Story_worth_given pm_Story_worth_given an_Story_worth_given cd_Story_worth_given ct_Story_worth_given), sl_Story_worth_given⟩)
    (c_Story_worth_given : PySem.W.codeIn K cd_Story_worth_given "Story.worth_given" = true)
    (k_Story_worth_given : PySem.W.keepIn K (.ref f_Story_worth_given) = true)
    (a_Story_row_done : PySem.W.findIn K (.ref C_Story) "row_done" = some (some (.ref f_Story_row_done)))
    (i_Story_row_done : PySem.W.isFn K (.ref f_Story_row_done) = true)
    (l_Story_row_done : K.lookup f_Story_row_done = some ⟨oc_Story_row_done, od_Story_row_done, .func (PySem.W.fnOf "row_done" "Story.row_done" (defArgs st_Story_row_done) (defBody st_Story_row_done) (defScope st_Story_row_done) .none kV_Story_row_done dc_Story_row_done pm_Story_row_done an_Story_row_done cd_Story_row_done ct_Story_row_done), sl_Story_row_done⟩)
    (c_Story_row_done : PySem.W.codeIn K cd_Story_row_done "Story.row_done" = true)
    (k_Story_row_done : PySem.W.keepIn K (.ref f_Story_row_done) = true)
    (a_given_by : PySem.W.nsIn K mainGlobals "given_by" = some (some (.ref f_given_by)))
    (l_given_by : K.lookup f_given_by = some ⟨oc_given_by, od_given_by, .func (PySem.W.fnOf "given_by" "given_by" (defArgs st_given_by) (defBody st_given_by) (defScope st_given_by) .none kV_given_by dc_given_by pm_given_by an_given_by cd_given_by ct_given_by), sl_given_by⟩)
    (c_given_by : PySem.W.codeIn K cd_given_by "given_by" = true)
    (k_given_by : PySem.W.keepIn K (.ref f_given_by) = true)
    (a_held_worths : PySem.W.nsIn K mainGlobals "held_worths" = some (some (.ref f_held_worths)))
    (l_held_worths : K.lookup f_held_worths = some ⟨oc_held_worths, od_held_worths, .func (PySem.W.fnOf "held_worths" "held_worths" (defArgs st_held_worths) (defBody st_held_worths) (defScope st_held_worths) .none kV_held_worths dc_held_worths pm_held_worths an_held_worths cd_held_worths ct_held_worths), sl_held_worths⟩)
    (c_held_worths : PySem.W.codeIn K cd_held_worths "held_worths" = true)
    (k_held_worths : PySem.W.keepIn K (.ref f_held_worths) = true)
    (a_block_done : PySem.W.nsIn K mainGlobals "block_done" = some (some (.ref f_block_done)))
    (l_block_done : K.lookup f_block_done = some ⟨oc_block_done, od_block_done, .func (PySem.W.fnOf "block_done" "block_done" (defArgs st_block_done) (defBody st_block_done) (defScope st_block_done) .none kV_block_done dc_block_done pm_block_done an_block_done cd_block_done ct_block_done), sl_block_done⟩)
    (c_block_done : PySem.W.codeIn K cd_block_done "block_done" = true)
    (k_block_done : PySem.W.keepIn K (.ref f_block_done) = true)
    (a_block_of : PySem.W.nsIn K mainGlobals "block_of" = some (some (.ref f_block_of)))
    (l_block_of : K.lookup f_block_of = some ⟨oc_block_of, od_block_of, .func (PySem.W.fnOf "block_of" "block_of" (defArgs st_block_of) (defBody st_block_of) (defScope st_block_of) .none kV_block_of dc_block_of pm_block_of an_block_of cd_block_of ct_block_of), sl_block_of⟩)
    (c_block_of : PySem.W.codeIn K cd_block_of "block_of" = true)
    (k_block_of : PySem.W.keepIn K (.ref f_block_of) = true)
    (a_run_plain : PySem.W.nsIn K mainGlobals "run_plain" = some (some (.ref f_run_plain)))
    (l_run_plain : K.lookup f_run_plain = some ⟨oc_run_plain, od_run_plain, .func (PySem.W.fnOf "run_plain" "run_plain" (defArgs st_run_plain) (defBody st_run_plain) (defScope st_run_plain) (.ref T_run_plain) (.ref D_run_plain) dc_run_plain pm_run_plain an_run_plain cd_run_plain ct_run_plain), sl_run_plain⟩)
    (c_run_plain : PySem.W.codeIn K cd_run_plain "run_plain" = true)
    (k_run_plain : PySem.W.keepIn K (.ref f_run_plain) = true)
    (lT_run_plain : K.lookup T_run_plain = some oT_run_plain)
    (oT2_run_plain : oT_run_plain.data = .seq ([.ref e_run_plain_0] : List Value).toArray nT_run_plain)
    (le_run_plain_0 : K.lookup e_run_plain_0 = some oe_run_plain_0)
    (ce_run_plain_0 : oe_run_plain_0.cls = .type "tuple")
    (de_run_plain_0 : oe_run_plain_0.data = .seq #[] ne_run_plain_0)
    (kw_run_plain_steps : PySem.W.nsIn K D_run_plain "steps" = some (some (.int 200 w_run_plain_steps)))
    (a__law_take : PySem.W.nsIn K mainGlobals "_law_take" = some (some (.ref f__law_take)))
    (l__law_take : K.lookup f__law_take = some ⟨oc__law_take, od__law_take, .func (PySem.W.fnOf "_law_take" "_law_take" (defArgs st__law_take) (defBody st__law_take) (defScope st__law_take) .none kV__law_take dc__law_take pm__law_take an__law_take cd__law_take ct__law_take), sl__law_take⟩)
    (c__law_take : PySem.W.codeIn K cd__law_take "_law_take" = true)
    (k__law_take : PySem.W.keepIn K (.ref f__law_take) = true)
    (a__law_pick : PySem.W.nsIn K mainGlobals "_law_pick" = some (some (.ref f__law_pick)))
    (l__law_pick : K.lookup f__law_pick = some ⟨oc__law_pick, od__law_pick, .func (PySem.W.fnOf "_law_pick" "_law_pick" (defArgs st__law_pick) (defBody st__law_pick) (defScope st__law_pick) .none kV__law_pick dc__law_pick pm__law_pick an__law_pick cd__law_pick ct__law_pick), sl__law_pick⟩)
    (c__law_pick : PySem.W.codeIn K cd__law_pick "_law_pick" = true)
    (k__law_pick : PySem.W.keepIn K (.ref f__law_pick) = true)
    (a__law_names : PySem.W.nsIn K mainGlobals "_law_names" = some (some (.ref f__law_names)))
    (l__law_names : K.lookup f__law_names = some ⟨oc__law_names, od__law_names, .func (PySem.W.fnOf "_law_names" "_law_names" (defArgs st__law_names) (defBody st__law_names) (defScope st__law_names) .none kV__law_names dc__law_names pm__law_names an__law_names cd__law_names ct__law_names), sl__law_names⟩)
    (c__law_names : PySem.W.codeIn K cd__law_names "_law_names" = true)
    (k__law_names : PySem.W.keepIn K (.ref f__law_names) = true)
    (a__law_goals : PySem.W.nsIn K mainGlobals "_law_goals" = some (some (.ref f__law_goals)))
    (l__law_goals : K.lookup f__law_goals = some ⟨oc__law_goals, od__law_goals, .func (PySem.W.fnOf "_law_goals" "_law_goals" (defArgs st__law_goals) (defBody st__law_goals) (defScope st__law_goals) .none kV__law_goals dc__law_goals pm__law_goals an__law_goals cd__law_goals ct__law_goals), sl__law_goals⟩)
    (c__law_goals : PySem.W.codeIn K cd__law_goals "_law_goals" = true)
    (k__law_goals : PySem.W.keepIn K (.ref f__law_goals) = true)
    (a__law_row : PySem.W.nsIn K mainGlobals "_law_row" = some (some (.ref f__law_row)))
    (l__law_row : K.lookup f__law_row = some ⟨oc__law_row, od__law_row, .func (PySem.W.fnOf "_law_row" "_law_row" (defArgs st__law_row) (defBody st__law_row) (defScope st__law_row) .none kV__law_row dc__law_row pm__law_row an__law_row cd__law_row ct__law_row), sl__law_row⟩)
    (c__law_row : PySem.W.codeIn K cd__law_row "_law_row" = true)
    (k__law_row : PySem.W.keepIn K (.ref f__law_row) = true)
    (a__law_program : PySem.W.nsIn K mainGlobals "_law_program" = some (some (.ref f__law_program)))
    (l__law_program : K.lookup f__law_program = some ⟨oc__law_program, od__law_program, .func (PySem.W.fnOf "_law_program" "_law_program" (defArgs st__law_program) (defBody st__law_program) (defScope st__law_program) .none kV__law_program dc__law_program pm__law_program an__law_program cd__law_program ct__law_program), sl__law_program⟩)
    (c__law_program : PySem.W.codeIn K cd__law_program "_law_program" = true)
    (k__law_program : PySem.W.keepIn K (.ref f__law_program) = true)
    (a__law_called : PySem.W.nsIn K mainGlobals "_law_called" = some (some (.ref f__law_called)))
    (l__law_called : K.lookup f__law_called = some ⟨oc__law_called, od__law_called, .func (PySem.W.fnOf "_law_called" "_law_called" (defArgs st__law_called) (defBody st__law_called) (defScope st__law_called) .none kV__law_called dc__law_called pm__law_called an__law_called cd__law_called ct__law_called), sl__law_called⟩)
    (c__law_called : PySem.W.codeIn K cd__law_called "_law_called" = true)
    (k__law_called : PySem.W.keepIn K (.ref f__law_called) = true)
    (a_said_in : PySem.W.nsIn K mainGlobals "said_in" = some (some (.ref f_said_in)))
    (l_said_in : K.lookup f_said_in = some ⟨oc_said_in, od_said_in, .func (PySem.W.fnOf "said_in" "said_in" (defArgs st_said_in) (defBody st_said_in) (defScope st_said_in) .none kV_said_in dc_said_in pm_said_in an_said_in cd_said_in ct_said_in), sl_said_in⟩)
    (c_said_in : PySem.W.codeIn K cd_said_in "said_in" = true)
    (k_said_in : PySem.W.keepIn K (.ref f_said_in) = true)
    (a__law_trace_called : PySem.W.nsIn K mainGlobals "_law_trace_called" = some (some (.ref f__law_trace_called)))
    (l__law_trace_called : K.lookup f__law_trace_called = some ⟨oc__law_trace_called, od__law_trace_called, .func (PySem.W.fnOf "_law_trace_called" "_law_trace_called" (defArgs st__law_trace_called) (defBody st__law_trace_called) (defScope st__law_trace_called) .none kV__law_trace_called dc__law_trace_called pm__law_trace_called an__law_trace_called cd__law_trace_called ct__law_trace_called), sl__law_trace_called⟩)
    (c__law_trace_called : PySem.W.codeIn K cd__law_trace_called "_law_trace_called" = true)
    (k__law_trace_called : PySem.W.keepIn K (.ref f__law_trace_called) = true)
    (a__law_ending_called : PySem.W.nsIn K mainGlobals "_law_ending_called" = some (some (.ref f__law_ending_called)))
    (l__law_ending_called : K.lookup f__law_ending_called = some ⟨oc__law_ending_called, od__law_ending_called, .func (PySem.W.fnOf "_law_ending_called" "_law_ending_called" (defArgs st__law_ending_called) (defBody st__law_ending_called) (defScope st__law_ending_called) .none kV__law_ending_called dc__law_ending_called pm__law_ending_called an__law_ending_called cd__law_ending_called ct__law_ending_called), sl__law_ending_called⟩)
    (c__law_ending_called : PySem.W.codeIn K cd__law_ending_called "_law_ending_called" = true)
    (k__law_ending_called : PySem.W.keepIn K (.ref f__law_ending_called) = true)
    (a_law : PySem.W.nsIn K mainGlobals "law" = some (some (.ref f_law)))
    (l_law : K.lookup f_law = some ⟨oc_law, od_law, .func (PySem.W.fnOf "law" "law" (defArgs st_law) (defBody st_law) (defScope st_law) .none kV_law dc_law pm_law an_law cd_law ct_law), sl_law⟩)
    (c_law : PySem.W.codeIn K cd_law "law" = true)
    (k_law : PySem.W.keepIn K (.ref f_law) = true)
    (pg_Story : PySem.W.plainGet K C_Story Str.empty = true)
    (hd_Story : PySem.W.hasDictIn K C_Story = true)
    (po_Story : PySem.W.plainOver K C_Story = true)
    (sa_Story : PySem.W.findIn K (.ref C_Story) "__setattr__" = some (some (.builtin "object.__setattr__")))
    (mk_Story : PySem.W.makesIn K C_Story = true)
    (kc_Story : PySem.W.keepIn K (.ref C_Story) = true)
    (na_Story_ending : PySem.W.findIn K (.ref C_Story) "ending" = some none)
    (na_Story_steps : PySem.W.findIn K (.ref C_Story) "steps" = some none)
    (na_Story_trace : PySem.W.findIn K (.ref C_Story) "trace" = some none)
    (na_Story_waiting : PySem.W.findIn K (.ref C_Story) "waiting" = some none)
    (n_abs : PySem.W.nsIn K mainGlobals "abs" = some none)
    (n_dict : PySem.W.nsIn K mainGlobals "dict" = some none)
    (n_enumerate : PySem.W.nsIn K mainGlobals "enumerate" = some none)
    (n_int : PySem.W.nsIn K mainGlobals "int" = some none)
    (n_isinstance : PySem.W.nsIn K mainGlobals "isinstance" = some none)
    (n_len : PySem.W.nsIn K mainGlobals "len" = some none)
    (n_list : PySem.W.nsIn K mainGlobals "list" = some none)
    (n_max : PySem.W.nsIn K mainGlobals "max" = some none)
    (n_min : PySem.W.nsIn K mainGlobals "min" = some none)
    (n_range : PySem.W.nsIn K mainGlobals "range" = some none)
    (n_str : PySem.W.nsIn K mainGlobals "str" = some none)
    (n_tuple : PySem.W.nsIn K mainGlobals "tuple" = some none)
    (n_zip : PySem.W.nsIn K mainGlobals "zip" = some none)
    (kk_WHEEL : PySem.W.nsIn K mainGlobals "WHEEL" = some (some (.int 1000003 t_WHEEL)))
    (g_END_PARTS : PySem.W.nsIn K mainGlobals "END_PARTS" = some (some (.ref d_END_PARTS)))
    (lt_END_PARTS : K.lookup d_END_PARTS = some ⟨.type "dict", none, .dict es_END_PARTS en_END_PARTS, #[]⟩)
    (KEYS_END_PARTS : PySem.W.KeysLit w.params es_END_PARTS.toList)
    (e_END_PARTS_0 : PySem.W.nsIn K d_END_PARTS "go" = some (some (.str "b" tt_END_PARTS_0)))
    (e_END_PARTS_1 : PySem.W.nsIn K d_END_PARTS "if" = some (some (.str "abb" tt_END_PARTS_1)))
    (e_END_PARTS_2 : PySem.W.nsIn K d_END_PARTS "stop" = some (some (.str "" tt_END_PARTS_2)))
    (g_RECKONINGS : PySem.W.nsIn K mainGlobals "RECKONINGS" = some (some (.ref d_RECKONINGS)))
    (lt_RECKONINGS : K.lookup d_RECKONINGS = some ⟨.type "dict", none, .dict es_RECKONINGS en_RECKONINGS, #[]⟩)
    (KEYS_RECKONINGS : PySem.W.KeysLit w.params es_RECKONINGS.toList)
    (e_RECKONINGS_0 : PySem.W.nsIn K d_RECKONINGS "plus" = some (some (.ref f_sum_of)))
    (e_RECKONINGS_1 : PySem.W.nsIn K d_RECKONINGS "less" = some (some (.ref f_left_of)))
    (e_RECKONINGS_2 : PySem.W.nsIn K d_RECKONINGS "times" = some (some (.ref f_product_of)))
    (e_RECKONINGS_3 : PySem.W.nsIn K d_RECKONINGS "part" = some (some (.ref f_part_of)))
    (e_RECKONINGS_4 : PySem.W.nsIn K d_RECKONINGS "same" = some (some (.ref f_same_told)))
    (e_RECKONINGS_5 : PySem.W.nsIn K d_RECKONINGS "below" = some (some (.ref f_below_told)))
    (g_ROW_PARTS : PySem.W.nsIn K mainGlobals "ROW_PARTS" = some (some (.ref d_ROW_PARTS)))
    (lt_ROW_PARTS : K.lookup d_ROW_PARTS = some ⟨.type "dict", none, .dict es_ROW_PARTS en_ROW_PARTS, #[]⟩)
    (KEYS_ROW_PARTS : PySem.W.KeysLit w.params es_ROW_PARTS.toList)
    (e_ROW_PARTS_0 : PySem.W.nsIn K d_ROW_PARTS "put" = some (some (.str "gn" tt_ROW_PARTS_0)))
    (e_ROW_PARTS_1 : PySem.W.nsIn K d_ROW_PARTS "copy" = some (some (.str "ga" tt_ROW_PARTS_1)))
    (e_ROW_PARTS_2 : PySem.W.nsIn K d_ROW_PARTS "plus" = some (some (.str "gaa" tt_ROW_PARTS_2)))
    (e_ROW_PARTS_3 : PySem.W.nsIn K d_ROW_PARTS "less" = some (some (.str "gaa" tt_ROW_PARTS_3)))
    (e_ROW_PARTS_4 : PySem.W.nsIn K d_ROW_PARTS "times" = some (some (.str "gaa" tt_ROW_PARTS_4)))
    (e_ROW_PARTS_5 : PySem.W.nsIn K d_ROW_PARTS "part" = some (some (.str "gaa" tt_ROW_PARTS_5)))
    (e_ROW_PARTS_6 : PySem.W.nsIn K d_ROW_PARTS "same" = some (some (.str "gaa" tt_ROW_PARTS_6)))
    (e_ROW_PARTS_7 : PySem.W.nsIn K d_ROW_PARTS "below" = some (some (.str "gaa" tt_ROW_PARTS_7)))
    (e_ROW_PARTS_8 : PySem.W.nsIn K d_ROW_PARTS "ask" = some (some (.str "g" tt_ROW_PARTS_8)))
    (e_ROW_PARTS_9 : PySem.W.nsIn K d_ROW_PARTS "say" = some (some (.str "a" tt_ROW_PARTS_9)))
    : ∃ fd : FuncData, (∀ (s : Shared) (v : Value), BindsTo s fd ⟨[v], []⟩ [("_law_script", v)]) ∧ ∀ base : Heap, K.In base → base.Ns mainGlobals mg → FnOk l.prog w K mg base CX0 8 fa fd ["_law_script"] (spLaw K) := by
  have e := hfa.symm.trans (PySem.W.mg_of X G a_law)
  have e2 : fa = f_law := by injection e with e; injection e
  rw [e2]
  let ad : Ad := ⟨f__law_hand, f__law_parts_of, f__law_otherwise, f_rest_of, f_Story_init__, f_Story_pair, f_Story_may_go, f_Story_are_told, f_asked_by, f_Story_end_done, f_Story_why_not, f_sum_of, f_left_of, f_product_of, f_part_of, f_same_told, f_below_told, f_reckoned, f_Story_worth_given, f_Story_row_done, f_given_by, f_held_worths, f_block_done, f_block_of, f_run_plain, f__law_take, f__law_pick, f__law_names, f__law_goals, f__law_row, f__law_program, f__law_called, f_said_in, f__law_trace_called, f__law_ending_called, f_law, C_Story, d_END_PARTS, d_RECKONINGS, d_ROW_PARTS, t_WHEEL, e_run_plain_0⟩
  let fd : Fd := ⟨(PySem.W.fnOf "_law_hand" "_law_hand" (defArgs st__law_hand) (defBody st__law_hand) (defScope st__law_hand) .none kV__law_hand dc__law_hand pm__law_hand an__law_hand cd__law_hand ct__law_hand), (PySem.W.fnOf "_law_parts_of" "_law_parts_of" (defArgs st__law_parts_of) (defBody st__law_parts_of) (defScope st__law_parts_of) .none kV__law_parts_of dc__law_parts_of pm__law_parts_of an__law_parts_of cd__law_parts_of ct__law_parts_of), (PySem.W.fnOf "_law_otherwise" "_law_otherwise" (defArgs st__law_otherwise) (defBody st__law_otherwise) (defScope st__law_otherwise) .none kV__law_otherwise dc__law_otherwise pm__law_otherwise an__law_otherwise cd__law_otherwise ct__law_otherwise), (PySem.W.fnOf "rest_of" "rest_of" (defArgs st_rest_of) (defBody st_rest_of) (defScope st_rest_of) .none kV_rest_of dc_rest_of pm_rest_of an_rest_of cd_rest_of ct_rest_of), (PySem.W.fnOf "__init__" "Story.__init__" (defArgs st_Story_init__) (defBody st_Story_init__) (defScope st_Story_init__) .none (.ref D_Story_init__) dc_Story_init__ pm_Story_init__ an_Story_init__ cd_Story_init__ ct_Story_init__), (PySem.W.fnOf "pair" "Story.pair" (defArgs st_Story_pair) (defBody st_Story_pair) (defScope st_Story_pair) .none kV_Story_pair dc_Story_pair pm_Story_pair an_Story_pair cd_Story_pair ct_Story_pair), (PySem.W.fnOf "may_go" "Story.may_go" (defArgs st_Story_may_go) (defBody st_Story_may_go) (defScope st_Story_may_go) .none kV_Story_may_go dc_Story_may_go pm_Story_may_go an_Story_may_go cd_Story_may_go ct_Story_may_go), (PySem.W.fnOf "are_told" "Story.are_told" (defArgs st_Story_are_told) (defBody st_Story_are_told) (defScope st_Story_are_told) .none kV_Story_are_told dc_Story_are_told pm_Story_are_told an_Story_are_told cd_Story_are_told ct_Story_are_told), (PySem.W.fnOf "asked_by" "asked_by" (defArgs st_asked_by) (defBody st_asked_by) (defScope st_asked_by) .none kV_asked_by dc_asked_by pm_asked_by an_asked_by cd_asked_by ct_asked_by), (PySem.W.fnOf "end_done" "Story.end_done" (defArgs st_Story_end_done) (defBody st_Story_end_done) (defScope st_Story_end_done) .none kV_Story_end_done dc_Story_end_done pm_Story_end_done an_Story_end_done cd_Story_end_done ct_Story_end_done), (PySem.W.fnOf "why_not" "Story.why_not" (defArgs st_Story_why_not) (defBody st_Story_why_not) (defScope st_Story_why_not) .none kV_Story_why_not dc_Story_why_not pm_Story_why_not an_Story_why_not cd_Story_why_not ct_Story_why_not), (PySem.W.fnOf "sum_of" "sum_of" (defArgs st_sum_of) (defBody st_sum_of) (defScope st_sum_of) .none kV_sum_of dc_sum_of pm_sum_of an_sum_of cd_sum_of ct_sum_of), (PySem.W.fnOf "left_of" "left_of" (defArgs st_left_of) (defBody st_left_of) (defScope st_left_of) .none kV_left_of dc_left_of pm_left_of an_left_of cd_left_of ct_left_of), (PySem.W.fnOf "product_of" "product_of" (defArgs st_product_of) (defBody st_product_of) (defScope st_product_of) .none kV_product_of dc_product_of pm_product_of an_product_of cd_product_of ct_product_of), (PySem.W.fnOf "part_of" "part_of" (defArgs st_part_of) (defBody st_part_of) (defScope st_part_of) .none kV_part_of dc_part_of pm_part_of an_part_of cd_part_of ct_part_of), (PySem.W.fnOf "same_told" "same_told" (defArgs st_same_told) (defBody st_same_told) (defScope st_same_told) .none kV_same_told dc_same_told pm_same_told an_same_told cd_same_told ct_same_told), (PySem.W.fnOf "below_told" "below_told" (defArgs st_below_told) (defBody st_below_told) (defScope st_below_told) .none kV_below_told dc_below_told pm_below_told an_below_told cd_below_told ct_below_told), (PySem.W.fnOf "reckoned" "reckoned" (defArgs st_reckoned) (defBody st_reckoned) (defScope st_reckoned) .none kV_reckoned dc_reckoned pm_reckoned an_reckoned cd_reckoned ct_reckoned), (PySem.W.fnOf "worth_given" "Story.worth_given" (defArgs st_Story_worth_given) (defBody st_Story_worth_given) (defScope st_Story_worth_given) .none kV_Story_worth_given dc_Story_worth_given pm_Story_worth_given an_Story_worth_given cd_Story_worth_given ct_Story_worth_given), (PySem.W.fnOf "row_done" "Story.row_done" (defArgs st_Story_row_done) (defBody st_Story_row_done) (defScope st_Story_row_done) .none kV_Story_row_done dc_Story_row_done pm_Story_row_done an_Story_row_done cd_Story_row_done ct_Story_row_done), (PySem.W.fnOf "given_by" "given_by" (defArgs st_given_by) (defBody st_given_by) (defScope st_given_by) .none kV_given_by dc_given_by pm_given_by an_given_by cd_given_by ct_given_by), (PySem.W.fnOf "held_worths" "held_worths" (defArgs st_held_worths) (defBody st_held_worths) (defScope st_held_worths) .none kV_held_worths dc_held_worths pm_held_worths an_held_worths cd_held_worths ct_held_worths), (PySem.W.fnOf "block_done" "block_done" (defArgs st_block_done) (defBody st_block_done) (defScope st_block_done) .none kV_block_done dc_block_done pm_block_done an_block_done cd_block_done ct_block_done), (PySem.W.fnOf "block_of" "block_of" (defArgs st_block_of) (defBody st_block_of) (defScope st_block_of) .none kV_block_of dc_block_of pm_block_of an_block_of cd_block_of ct_block_of), (PySem.W.fnOf "run_plain" "run_plain" (defArgs st_run_plain) (defBody st_run_plain) (defScope st_run_plain) (.ref T_run_plain) (.ref D_run_plain) dc_run_plain pm_run_plain an_run_plain cd_run_plain ct_run_plain), (PySem.W.fnOf "_law_take" "_law_take" (defArgs st__law_take) (defBody st__law_take) (defScope st__law_take) .none kV__law_take dc__law_take pm__law_take an__law_take cd__law_take ct__law_take), (PySem.W.fnOf "_law_pick" "_law_pick" (defArgs st__law_pick) (defBody st__law_pick) (defScope st__law_pick) .none kV__law_pick dc__law_pick pm__law_pick an__law_pick cd__law_pick ct__law_pick), (PySem.W.fnOf "_law_names" "_law_names" (defArgs st__law_names) (defBody st__law_names) (defScope st__law_names) .none kV__law_names dc__law_names pm__law_names an__law_names cd__law_names ct__law_names), (PySem.W.fnOf "_law_goals" "_law_goals" (defArgs st__law_goals) (defBody st__law_goals) (defScope st__law_goals) .none kV__law_goals dc__law_goals pm__law_goals an__law_goals cd__law_goals ct__law_goals), (PySem.W.fnOf "_law_row" "_law_row" (defArgs st__law_row) (defBody st__law_row) (defScope st__law_row) .none kV__law_row dc__law_row pm__law_row an__law_row cd__law_row ct__law_row), (PySem.W.fnOf "_law_program" "_law_program" (defArgs st__law_program) (defBody st__law_program) (defScope st__law_program) .none kV__law_program dc__law_program pm__law_program an__law_program cd__law_program ct__law_program), (PySem.W.fnOf "_law_called" "_law_called" (defArgs st__law_called) (defBody st__law_called) (defScope st__law_called) .none kV__law_called dc__law_called pm__law_called an__law_called cd__law_called ct__law_called), (PySem.W.fnOf "said_in" "said_in" (defArgs st_said_in) (defBody st_said_in) (defScope st_said_in) .none kV_said_in dc_said_in pm_said_in an_said_in cd_said_in ct_said_in), (PySem.W.fnOf "_law_trace_called" "_law_trace_called" (defArgs st__law_trace_called) (defBody st__law_trace_called) (defScope st__law_trace_called) .none kV__law_trace_called dc__law_trace_called pm__law_trace_called an__law_trace_called cd__law_trace_called ct__law_trace_called), (PySem.W.fnOf "_law_ending_called" "_law_ending_called" (defArgs st__law_ending_called) (defBody st__law_ending_called) (defScope st__law_ending_called) .none kV__law_ending_called dc__law_ending_called pm__law_ending_called an__law_ending_called cd__law_ending_called ct__law_ending_called), (PySem.W.fnOf "law" "law" (defArgs st_law) (defBody st_law) (defScope st_law) .none kV_law dc_law pm_law an_law cd_law ct_law)⟩
  have F__law_hand : Fun K "_law_hand" "_law_hand" st__law_hand f__law_hand (PySem.W.fnOf "_law_hand" "_law_hand" (defArgs st__law_hand) (defBody st__law_hand) (defScope st__law_hand) .none kV__law_hand dc__law_hand pm__law_hand an__law_hand cd__law_hand ct__law_hand) := fun_mk (st := st__law_hand) l__law_hand c__law_hand k__law_hand
  have b__law_hand := F__law_hand.binds (ps := ["_law_script", "_law_k"]) fun _ _ _ _ _ _ us hl => match us, hl with | [_, _], _ => rfl
  have F__law_parts_of : Fun K "_law_parts_of" "_law_parts_of" st__law_parts_of f__law_parts_of (PySem.W.fnOf "_law_parts_of" "_law_parts_of" (defArgs st__law_parts_of) (defBody st__law_parts_of) (defScope st__law_parts_of) .none kV__law_parts_of dc__law_parts_of pm__law_parts_of an__law_parts_of cd__law_parts_of ct__law_parts_of) := fun_mk (st := st__law_parts_of) l__law_parts_of c__law_parts_of k__law_parts_of
  have b__law_parts_of := F__law_parts_of.binds (ps := ["_law_whole"]) fun _ _ _ _ _ _ us hl => match us, hl with | [_], _ => rfl
  have F__law_otherwise : Fun K "_law_otherwise" "_law_otherwise" st__law_otherwise f__law_otherwise (PySem.W.fnOf "_law_otherwise" "_law_otherwise" (defArgs st__law_otherwise) (defBody st__law_otherwise) (defScope st__law_otherwise) .none kV__law_otherwise dc__law_otherwise pm__law_otherwise an__law_otherwise cd__law_otherwise ct__law_otherwise) := fun_mk (st := st__law_otherwise) l__law_otherwise c__law_otherwise k__law_otherwise
  have b__law_otherwise := F__law_otherwise.binds (ps := ["_law_whole", "_law_blocks", "_law_names_here", "_law_numbers"]) fun _ _ _ _ _ _ us hl => match us, hl with | [_, _, _, _], _ => rfl
  have F_rest_of : Fun K "rest_of" "rest_of" st_rest_of f_rest_of (PySem.W.fnOf "rest_of" "rest_of" (defArgs st_rest_of) (defBody st_rest_of) (defScope st_rest_of) .none kV_rest_of dc_rest_of pm_rest_of an_rest_of cd_rest_of ct_rest_of) := fun_mk (st := st_rest_of) l_rest_of c_rest_of k_rest_of
  have b_rest_of := F_rest_of.binds (ps := ["number"]) fun _ _ _ _ _ _ us hl => match us, hl with | [_], _ => rfl
  have KW_Story_init__ : ∀ q ∈ ([("steps", (.int 200))] : List (Str × V)), ∃ u, PySem.W.nsIn K D_Story_init__ q.1 = some (some u) ∧ RelV q.2 u := by
    intro q hq
    rcases List.mem_cons.mp hq with e | hq
    · subst e; exact ⟨_, kw_Story_init___steps, ⟨_, rfl⟩⟩
    cases hq
  have F_Story_init__ : FunD K "__init__" "Story.__init__" (defArgs st_Story_init__) (defBody st_Story_init__) (defScope st_Story_init__) [] [("steps", (.int 200))] f_Story_init__ (PySem.W.fnOf "__init__" "Story.__init__" (defArgs st_Story_init__) (defBody st_Story_init__) (defScope st_Story_init__) .none (.ref D_Story_init__) dc_Story_init__ pm_Story_init__ an_Story_init__ cd_Story_init__ ct_Story_init__) := ⟨⟨oc_Story_init__, od_Story_init__, _, _, dc_Story_init__, pm_Story_init__, an_Story_init__, cd_Story_init__, ct_Story_init__, sl_Story_init__, rfl, l_Story_init__, c_Story_init__, .inl ⟨rfl, rfl⟩, .inr ⟨D_Story_init__, rfl, KW_Story_init__⟩⟩, k_Story_init__⟩
  have F_Story_pair : Fun K "pair" "Story.pair" st_Story_pair f_Story_pair (PySem.W.fnOf "pair" "Story.pair" (defArgs st_Story_pair) (defBody st_Story_pair) (defScope st_Story_pair) .none kV_Story_pair dc_Story_pair pm_Story_pair an_Story_pair cd_Story_pair ct_Story_pair) := fun_mk (st := st_Story_pair) l_Story_pair c_Story_pair k_Story_pair
  have b_Story_pair := F_Story_pair.binds (ps := ["self"]) fun _ _ _ _ _ _ us hl => match us, hl with | [_], _ => rfl
  have F_Story_may_go : Fun K "may_go" "Story.may_go" st_Story_may_go f_Story_may_go (PySem.W.fnOf "may_go" "Story.may_go" (defArgs st_Story_may_go) (defBody st_Story_may_go) (defScope st_Story_may_go) .none kV_Story_may_go dc_Story_may_go pm_Story_may_go an_Story_may_go cd_Story_may_go ct_Story_may_go) := fun_mk (st := st_Story_may_go) l_Story_may_go c_Story_may_go k_Story_may_go
  have b_Story_may_go := F_Story_may_go.binds (ps := ["self"]) fun _ _ _ _ _ _ us hl => match us, hl with | [_], _ => rfl
  have F_Story_are_told : Fun K "are_told" "Story.are_told" st_Story_are_told f_Story_are_told (PySem.W.fnOf "are_told" "Story.are_told" (defArgs st_Story_are_told) (defBody st_Story_are_told) (defScope st_Story_are_told) .none kV_Story_are_told dc_Story_are_told pm_Story_are_told an_Story_are_told cd_Story_are_told ct_Story_are_told) := fun_mk (st := st_Story_are_told) l_Story_are_told c_Story_are_told k_Story_are_told
  have b_Story_are_told := F_Story_are_told.binds (ps := ["self", "names", "worths"]) fun _ _ _ _ _ _ us hl => match us, hl with | [_, _, _], _ => rfl
  have F_asked_by : Fun K "asked_by" "asked_by" st_asked_by f_asked_by (PySem.W.fnOf "asked_by" "asked_by" (defArgs st_asked_by) (defBody st_asked_by) (defScope st_asked_by) .none kV_asked_by dc_asked_by pm_asked_by an_asked_by cd_asked_by ct_asked_by) := fun_mk (st := st_asked_by) l_asked_by c_asked_by k_asked_by
  have b_asked_by := F_asked_by.binds (ps := ["row"]) fun _ _ _ _ _ _ us hl => match us, hl with | [_], _ => rfl
  have F_Story_end_done : Fun K "end_done" "Story.end_done" st_Story_end_done f_Story_end_done (PySem.W.fnOf "end_done" "Story.end_done" (defArgs st_Story_end_done) (defBody st_Story_end_done) (defScope st_Story_end_done) .none kV_Story_end_done dc_Story_end_done pm_Story_end_done an_Story_end_done cd_Story_end_done ct_Story_end_done) := fun_mk (st := st_Story_end_done) l_Story_end_done c_Story_end_done k_Story_end_done
  have b_Story_end_done := F_Story_end_done.binds (ps := ["self", "block", "end", "worths"]) fun _ _ _ _ _ _ us hl => match us, hl with | [_, _, _, _], _ => rfl
  have F_Story_why_not : Fun K "why_not" "Story.why_not" st_Story_why_not f_Story_why_not (PySem.W.fnOf "why_not" "Story.why_not" (defArgs st_Story_why_not) (defBody st_Story_why_not) (defScope st_Story_why_not) .none kV_Story_why_not dc_Story_why_not pm_Story_why_not an_Story_why_not cd_Story_why_not ct_Story_why_not) := fun_mk (st := st_Story_why_not) l_Story_why_not c_Story_why_not k_Story_why_not
  have b_Story_why_not := F_Story_why_not.binds (ps := ["self", "row", "worths"]) fun _ _ _ _ _ _ us hl => match us, hl with | [_, _, _], _ => rfl
  have F_sum_of : Fun K "sum_of" "sum_of" st_sum_of f_sum_of (PySem.W.fnOf "sum_of" "sum_of" (defArgs st_sum_of) (defBody st_sum_of) (defScope st_sum_of) .none kV_sum_of dc_sum_of pm_sum_of an_sum_of cd_sum_of ct_sum_of) := fun_mk (st := st_sum_of) l_sum_of c_sum_of k_sum_of
  have b_sum_of := F_sum_of.binds (ps := ["one", "other"]) fun _ _ _ _ _ _ us hl => match us, hl with | [_, _], _ => rfl
  have F_left_of : Fun K "left_of" "left_of" st_left_of f_left_of (PySem.W.fnOf "left_of" "left_of" (defArgs st_left_of) (defBody st_left_of) (defScope st_left_of) .none kV_left_of dc_left_of pm_left_of an_left_of cd_left_of ct_left_of) := fun_mk (st := st_left_of) l_left_of c_left_of k_left_of
  have b_left_of := F_left_of.binds (ps := ["one", "other"]) fun _ _ _ _ _ _ us hl => match us, hl with | [_, _], _ => rfl
  have F_product_of : Fun K "product_of" "product_of" st_product_of f_product_of (PySem.W.fnOf "product_of" "product_of" (defArgs st_product_of) (defBody st_product_of) (defScope st_product_of) .none kV_product_of dc_product_of pm_product_of an_product_of cd_product_of ct_product_of) := fun_mk (st := st_product_of) l_product_of c_product_of k_product_of
  have b_product_of := F_product_of.binds (ps := ["one", "other"]) fun _ _ _ _ _ _ us hl => match us, hl with | [_, _], _ => rfl
  have F_part_of : Fun K "part_of" "part_of" st_part_of f_part_of (PySem.W.fnOf "part_of" "part_of" (defArgs st_part_of) (defBody st_part_of) (defScope st_part_of) .none kV_part_of dc_part_of pm_part_of an_part_of cd_part_of ct_part_of) := fun_mk (st := st_part_of) l_part_of c_part_of k_part_of
  have b_part_of := F_part_of.binds (ps := ["one", "other"]) fun _ _ _ _ _ _ us hl => match us, hl with | [_, _], _ => rfl
  have F_same_told : Fun K "same_told" "same_told" st_same_told f_same_told (PySem.W.fnOf "same_told" "same_told" (defArgs st_same_told) (defBody st_same_told) (defScope st_same_told) .none kV_same_told dc_same_told pm_same_told an_same_told cd_same_told ct_same_told) := fun_mk (st := st_same_told) l_same_told c_same_told k_same_told
  have b_same_told := F_same_told.binds (ps := ["one", "other"]) fun _ _ _ _ _ _ us hl => match us, hl with | [_, _], _ => rfl
  have F_below_told : Fun K "below_told" "below_told" st_below_told f_below_told (PySem.W.fnOf "below_told" "below_told" (defArgs st_below_told) (defBody st_below_told) (defScope st_below_told) .none kV_below_told dc_below_told pm_below_told an_below_told cd_below_told ct_below_told) := fun_mk (st := st_below_told) l_below_told c_below_told k_below_told
  have b_below_told := F_below_told.binds (ps := ["one", "other"]) fun _ _ _ _ _ _ us hl => match us, hl with | [_, _], _ => rfl
  have F_reckoned : Fun K "reckoned" "reckoned" st_reckoned f_reckoned (PySem.W.fnOf "reckoned" "reckoned" (defArgs st_reckoned) (defBody st_reckoned) (defScope st_reckoned) .none kV_reckoned dc_reckoned pm_reckoned an_reckoned cd_reckoned ct_reckoned) := fun_mk (st := st_reckoned) l_reckoned c_reckoned k_reckoned
  have b_reckoned := F_reckoned.binds (ps := ["word", "worths"]) fun _ _ _ _ _ _ us hl => match us, hl with | [_, _], _ => rfl
  have F_Story_worth_given : Fun K "worth_given" "Story.worth_given" st_Story_worth_given f_Story_worth_given (PySem.W.fnOf "worth_given" "Story.worth_given" (defArgs st_Story_worth_given) (defBody st_Story_worth_given) (defScope st_Story_worth_given) .none kV_Story_worth_given dc_Story_worth_given pm_Story_worth_given an_Story_worth_given cd_Story_worth_given ct_Story_worth_given) := fun_mk (st := st_Story_worth_given) l_Story_worth_given c_Story_worth_given k_Story_worth_given
  have b_Story_worth_given := F_Story_worth_given.binds (ps := ["self", "row", "worths"]) fun _ _ _ _ _ _ us hl => match us, hl with | [_, _, _], _ => rfl
  have F_Story_row_done : Fun K "row_done" "Story.row_done" st_Story_row_done f_Story_row_done (PySem.W.fnOf "row_done" "Story.row_done" (defArgs st_Story_row_done) (defBody st_Story_row_done) (defScope st_Story_row_done) .none kV_Story_row_done dc_Story_row_done pm_Story_row_done an_Story_row_done cd_Story_row_done ct_Story_row_done) := fun_mk (st := st_Story_row_done) l_Story_row_done c_Story_row_done k_Story_row_done
  have b_Story_row_done := F_Story_row_done.binds (ps := ["self", "row", "worths"]) fun _ _ _ _ _ _ us hl => match us, hl with | [_, _, _], _ => rfl
  have F_given_by : Fun K "given_by" "given_by" st_given_by f_given_by (PySem.W.fnOf "given_by" "given_by" (defArgs st_given_by) (defBody st_given_by) (defScope st_given_by) .none kV_given_by dc_given_by pm_given_by an_given_by cd_given_by ct_given_by) := fun_mk (st := st_given_by) l_given_by c_given_by k_given_by
  have b_given_by := F_given_by.binds (ps := ["row"]) fun _ _ _ _ _ _ us hl => match us, hl with | [_], _ => rfl
  have F_held_worths : Fun K "held_worths" "held_worths" st_held_worths f_held_worths (PySem.W.fnOf "held_worths" "held_worths" (defArgs st_held_worths) (defBody st_held_worths) (defScope st_held_worths) .none kV_held_worths dc_held_worths pm_held_worths an_held_worths cd_held_worths ct_held_worths) := fun_mk (st := st_held_worths) l_held_worths c_held_worths k_held_worths
  have b_held_worths := F_held_worths.binds (ps := ["held", "asker"]) fun _ _ _ _ _ _ us hl => match us, hl with | [_, _], _ => rfl
  have F_block_done : Fun K "block_done" "block_done" st_block_done f_block_done (PySem.W.fnOf "block_done" "block_done" (defArgs st_block_done) (defBody st_block_done) (defScope st_block_done) .none kV_block_done dc_block_done pm_block_done an_block_done cd_block_done ct_block_done) := fun_mk (st := st_block_done) l_block_done c_block_done k_block_done
  have b_block_done := F_block_done.binds (ps := ["story", "held", "block"]) fun _ _ _ _ _ _ us hl => match us, hl with | [_, _, _], _ => rfl
  have F_block_of : Fun K "block_of" "block_of" st_block_of f_block_of (PySem.W.fnOf "block_of" "block_of" (defArgs st_block_of) (defBody st_block_of) (defScope st_block_of) .none kV_block_of dc_block_of pm_block_of an_block_of cd_block_of ct_block_of) := fun_mk (st := st_block_of) l_block_of c_block_of k_block_of
  have b_block_of := F_block_of.binds (ps := ["program", "name"]) fun _ _ _ _ _ _ us hl => match us, hl with | [_, _], _ => rfl
  have KW_run_plain : ∀ q ∈ ([("steps", (.int 200))] : List (Str × V)), ∃ u, PySem.W.nsIn K D_run_plain q.1 = some (some u) ∧ RelV q.2 u := by
    intro q hq
    rcases List.mem_cons.mp hq with e | hq
    · subst e; exact ⟨_, kw_run_plain_steps, ⟨_, rfl⟩⟩
    cases hq
  have F_run_plain : FunD K "run_plain" "run_plain" (defArgs st_run_plain) (defBody st_run_plain) (defScope st_run_plain) [(.ref e_run_plain_0)] [("steps", (.int 200))] f_run_plain (PySem.W.fnOf "run_plain" "run_plain" (defArgs st_run_plain) (defBody st_run_plain) (defScope st_run_plain) (.ref T_run_plain) (.ref D_run_plain) dc_run_plain pm_run_plain an_run_plain cd_run_plain ct_run_plain) := ⟨⟨oc_run_plain, od_run_plain, _, _, dc_run_plain, pm_run_plain, an_run_plain, cd_run_plain, ct_run_plain, sl_run_plain, rfl, l_run_plain, c_run_plain, .inr ⟨by simp, T_run_plain, oT_run_plain, _, nT_run_plain, rfl, lT_run_plain, oT2_run_plain, (.cons rfl .nil)⟩, .inr ⟨D_run_plain, rfl, KW_run_plain⟩⟩, k_run_plain⟩
  have F__law_take : Fun K "_law_take" "_law_take" st__law_take f__law_take (PySem.W.fnOf "_law_take" "_law_take" (defArgs st__law_take) (defBody st__law_take) (defScope st__law_take) .none kV__law_take dc__law_take pm__law_take an__law_take cd__law_take ct__law_take) := fun_mk (st := st__law_take) l__law_take c__law_take k__law_take
  have b__law_take := F__law_take.binds (ps := ["_law_hand_here", "_law_many"]) fun _ _ _ _ _ _ us hl => match us, hl with | [_, _], _ => rfl
  have F__law_pick : Fun K "_law_pick" "_law_pick" st__law_pick f__law_pick (PySem.W.fnOf "_law_pick" "_law_pick" (defArgs st__law_pick) (defBody st__law_pick) (defScope st__law_pick) .none kV__law_pick dc__law_pick pm__law_pick an__law_pick cd__law_pick ct__law_pick) := fun_mk (st := st__law_pick) l__law_pick c__law_pick k__law_pick
  have b__law_pick := F__law_pick.binds (ps := ["_law_hand_here", "_law_some"]) fun _ _ _ _ _ _ us hl => match us, hl with | [_, _], _ => rfl
  have F__law_names : Fun K "_law_names" "_law_names" st__law_names f__law_names (PySem.W.fnOf "_law_names" "_law_names" (defArgs st__law_names) (defBody st__law_names) (defScope st__law_names) .none kV__law_names dc__law_names pm__law_names an__law_names cd__law_names ct__law_names) := fun_mk (st := st__law_names) l__law_names c__law_names k__law_names
  have b__law_names := F__law_names.binds (ps := ["_law_hand_here", "_law_many"]) fun _ _ _ _ _ _ us hl => match us, hl with | [_, _], _ => rfl
  have F__law_goals : Fun K "_law_goals" "_law_goals" st__law_goals f__law_goals (PySem.W.fnOf "_law_goals" "_law_goals" (defArgs st__law_goals) (defBody st__law_goals) (defScope st__law_goals) .none kV__law_goals dc__law_goals pm__law_goals an__law_goals cd__law_goals ct__law_goals) := fun_mk (st := st__law_goals) l__law_goals c__law_goals k__law_goals
  have b__law_goals := F__law_goals.binds (ps := ["_law_hand_here", "_law_many", "_law_stray"]) fun _ _ _ _ _ _ us hl => match us, hl with | [_, _, _], _ => rfl
  have F__law_row : Fun K "_law_row" "_law_row" st__law_row f__law_row (PySem.W.fnOf "_law_row" "_law_row" (defArgs st__law_row) (defBody st__law_row) (defScope st__law_row) .none kV__law_row dc__law_row pm__law_row an__law_row cd__law_row ct__law_row) := fun_mk (st := st__law_row) l__law_row c__law_row k__law_row
  have b__law_row := F__law_row.binds (ps := ["_law_hand_here", "_law_number", "_law_names_here"]) fun _ _ _ _ _ _ us hl => match us, hl with | [_, _, _], _ => rfl
  have F__law_program : Fun K "_law_program" "_law_program" st__law_program f__law_program (PySem.W.fnOf "_law_program" "_law_program" (defArgs st__law_program) (defBody st__law_program) (defScope st__law_program) .none kV__law_program dc__law_program pm__law_program an__law_program cd__law_program ct__law_program) := fun_mk (st := st__law_program) l__law_program c__law_program k__law_program
  have b__law_program := F__law_program.binds (ps := ["_law_hand_here", "_law_few", "_law_wide", "_law_size"]) fun _ _ _ _ _ _ us hl => match us, hl with | [_, _, _, _], _ => rfl
  have F__law_called : Fun K "_law_called" "_law_called" st__law_called f__law_called (PySem.W.fnOf "_law_called" "_law_called" (defArgs st__law_called) (defBody st__law_called) (defScope st__law_called) .none kV__law_called dc__law_called pm__law_called an__law_called cd__law_called ct__law_called) := fun_mk (st := st__law_called) l__law_called c__law_called k__law_called
  have b__law_called := F__law_called.binds (ps := ["_law_hand_here", "_law_some"]) fun _ _ _ _ _ _ us hl => match us, hl with | [_, _], _ => rfl
  have F_said_in : Fun K "said_in" "said_in" st_said_in f_said_in (PySem.W.fnOf "said_in" "said_in" (defArgs st_said_in) (defBody st_said_in) (defScope st_said_in) .none kV_said_in dc_said_in pm_said_in an_said_in cd_said_in ct_said_in) := fun_mk (st := st_said_in) l_said_in c_said_in k_said_in
  have b_said_in := F_said_in.binds (ps := ["program", "trace"]) fun _ _ _ _ _ _ us hl => match us, hl with | [_, _], _ => rfl
  have F__law_trace_called : Fun K "_law_trace_called" "_law_trace_called" st__law_trace_called f__law_trace_called (PySem.W.fnOf "_law_trace_called" "_law_trace_called" (defArgs st__law_trace_called) (defBody st__law_trace_called) (defScope st__law_trace_called) .none kV__law_trace_called dc__law_trace_called pm__law_trace_called an__law_trace_called cd__law_trace_called ct__law_trace_called) := fun_mk (st := st__law_trace_called) l__law_trace_called c__law_trace_called k__law_trace_called
  have b__law_trace_called := F__law_trace_called.binds (ps := ["_law_trace", "_law_blocks", "_law_numbers"]) fun _ _ _ _ _ _ us hl => match us, hl with | [_, _, _], _ => rfl
  have F__law_ending_called : Fun K "_law_ending_called" "_law_ending_called" st__law_ending_called f__law_ending_called (PySem.W.fnOf "_law_ending_called" "_law_ending_called" (defArgs st__law_ending_called) (defBody st__law_ending_called) (defScope st__law_ending_called) .none kV__law_ending_called dc__law_ending_called pm__law_ending_called an__law_ending_called cd__law_ending_called ct__law_ending_called) := fun_mk (st := st__law_ending_called) l__law_ending_called c__law_ending_called k__law_ending_called
  have b__law_ending_called := F__law_ending_called.binds (ps := ["_law_ending", "_law_names_here", "_law_numbers"]) fun _ _ _ _ _ _ us hl => match us, hl with | [_, _, _], _ => rfl
  have F_law : Fun K "law" "law" st_law f_law (PySem.W.fnOf "law" "law" (defArgs st_law) (defBody st_law) (defScope st_law) .none kV_law dc_law pm_law an_law cd_law ct_law) := fun_mk (st := st_law) l_law c_law k_law
  have b_law := F_law.binds (ps := ["_law_script"]) fun _ _ _ _ _ _ us hl => match us, hl with | [_], _ => rfl
  have t_END_PARTS : KTab K w (gx ad) d_END_PARTS tab_END_PARTS := (ktab_cons (v := (.str "b")) lt_END_PARTS KEYS_END_PARTS e_END_PARTS_0 ⟨_, rfl⟩ (fun _ _ => rfl) (ktab_cons (v := (.str "abb")) lt_END_PARTS KEYS_END_PARTS e_END_PARTS_1 ⟨_, rfl⟩ (fun _ _ => rfl) (ktab_cons (v := (.str "")) lt_END_PARTS KEYS_END_PARTS e_END_PARTS_2 ⟨_, rfl⟩ (fun _ _ => rfl) ktab_nil)))
  have fnx_sum_of : (gx ad).fns "sum_of" = some f_sum_of := by
    unfold gx
    dsimp only
    exact if_pos rfl
  have fnx_left_of : (gx ad).fns "left_of" = some f_left_of := by
    unfold gx
    dsimp only
    rw [if_neg (by decide +kernel)]
    exact if_pos rfl
  have fnx_product_of : (gx ad).fns "product_of" = some f_product_of := by
    unfold gx
    dsimp only
    rw [if_neg (by decide +kernel)]
    rw [if_neg (by decide +kernel)]
    exact if_pos rfl
  have fnx_part_of : (gx ad).fns "part_of" = some f_part_of := by
    unfold gx
    dsimp only
    rw [if_neg (by decide +kernel)]
    rw [if_neg (by decide +kernel)]
    rw [if_neg (by decide +kernel)]
    exact if_pos rfl
  have fnx_same_told : (gx ad).fns "same_told" = some f_same_told := by
    unfold gx
    dsimp only
    rw [if_neg (by decide +kernel)]
    rw [if_neg (by decide +kernel)]
    rw [if_neg (by decide +kernel)]
    rw [if_neg (by decide +kernel)]
    exact if_pos rfl
  have fnx_below_told : (gx ad).fns "below_told" = some f_below_told := by
    unfold gx
    dsimp only
    rw [if_neg (by decide +kernel)]
    rw [if_neg (by decide +kernel)]
    rw [if_neg (by decide +kernel)]
    rw [if_neg (by decide +kernel)]
    rw [if_neg (by decide +kernel)]
    exact if_pos rfl
  have t_RECKONINGS : KTab K w (gx ad) d_RECKONINGS tab_RECKONINGS := (ktab_cons (v := .ref f_sum_of) lt_RECKONINGS KEYS_RECKONINGS e_RECKONINGS_0 rfl (fun m H => by unfold RU; exact ⟨_, rfl, fnx_sum_of⟩) (ktab_cons (v := .ref f_left_of) lt_RECKONINGS KEYS_RECKONINGS e_RECKONINGS_1 rfl (fun m H => by unfold RU; exact ⟨_, rfl, fnx_left_of⟩) (ktab_cons (v := .ref f_product_of) lt_RECKONINGS KEYS_RECKONINGS e_RECKONINGS_2 rfl (fun m H => by unfold RU; exact ⟨_, rfl, fnx_product_of⟩) (ktab_cons (v := .ref f_part_of) lt_RECKONINGS KEYS_RECKONINGS e_RECKONINGS_3 rfl (fun m H => by unfold RU; exact ⟨_, rfl, fnx_part_of⟩) (ktab_cons (v := .ref f_same_told) lt_RECKONINGS KEYS_RECKONINGS e_RECKONINGS_4 rfl (fun m H => by unfold RU; exact ⟨_, rfl, fnx_same_told⟩) (ktab_cons (v := .ref f_below_told) lt_RECKONINGS KEYS_RECKONINGS e_RECKONINGS_5 rfl (fun m H => by unfold RU; exact ⟨_, rfl, fnx_below_told⟩) ktab_nil))))))
  have t_ROW_PARTS : KTab K w (gx ad) d_ROW_PARTS tab_ROW_PARTS := (ktab_cons (v := (.str "gn")) lt_ROW_PARTS KEYS_ROW_PARTS e_ROW_PARTS_0 ⟨_, rfl⟩ (fun _ _ => rfl) (ktab_cons (v := (.str "ga")) lt_ROW_PARTS KEYS_ROW_PARTS e_ROW_PARTS_1 ⟨_, rfl⟩ (fun _ _ => rfl) (ktab_cons (v := (.str "gaa")) lt_ROW_PARTS KEYS_ROW_PARTS e_ROW_PARTS_2 ⟨_, rfl⟩ (fun _ _ => rfl) (ktab_cons (v := (.str "gaa")) lt_ROW_PARTS KEYS_ROW_PARTS e_ROW_PARTS_3 ⟨_, rfl⟩ (fun _ _ => rfl) (ktab_cons (v := (.str "gaa")) lt_ROW_PARTS KEYS_ROW_PARTS e_ROW_PARTS_4 ⟨_, rfl⟩ (fun _ _ => rfl) (ktab_cons (v := (.str "gaa")) lt_ROW_PARTS KEYS_ROW_PARTS e_ROW_PARTS_5 ⟨_, rfl⟩ (fun _ _ => rfl) (ktab_cons (v := (.str "gaa")) lt_ROW_PARTS KEYS_ROW_PARTS e_ROW_PARTS_6 ⟨_, rfl⟩ (fun _ _ => rfl) (ktab_cons (v := (.str "gaa")) lt_ROW_PARTS KEYS_ROW_PARTS e_ROW_PARTS_7 ⟨_, rfl⟩ (fun _ _ => rfl) (ktab_cons (v := (.str "g")) lt_ROW_PARTS KEYS_ROW_PARTS e_ROW_PARTS_8 ⟨_, rfl⟩ (fun _ _ => rfl) (ktab_cons (v := (.str "a")) lt_ROW_PARTS KEYS_ROW_PARTS e_ROW_PARTS_9 ⟨_, rfl⟩ (fun _ _ => rfl) ktab_nil))))))))))
  have T : Top K w mg ad fd := by
    refine {
      F__law_hand := F__law_hand,
      b__law_hand := b__law_hand,
      g__law_hand := PySem.W.mg_of X G a__law_hand,
      F__law_parts_of := F__law_parts_of,
      b__law_parts_of := b__law_parts_of,
      g__law_parts_of := PySem.W.mg_of X G a__law_parts_of,
      F__law_otherwise := F__law_otherwise,
      b__law_otherwise := b__law_otherwise,
      g__law_otherwise := PySem.W.mg_of X G a__law_otherwise,
      F_rest_of := F_rest_of,
      b_rest_of := b_rest_of,
      g_rest_of := PySem.W.mg_of X G a_rest_of,
      F_Story_init__ := F_Story_init__,
      F_Story_pair := F_Story_pair,
      b_Story_pair := b_Story_pair,
      m_Story_pair := ⟨a_Story_pair, i_Story_pair, k_Story_pair⟩,
      F_Story_may_go := F_Story_may_go,
      b_Story_may_go := b_Story_may_go,
      m_Story_may_go := ⟨a_Story_may_go, i_Story_may_go, k_Story_may_go⟩,
      F_Story_are_told := F_Story_are_told,
      b_Story_are_told := b_Story_are_told,
      m_Story_are_told := ⟨a_Story_are_told, i_Story_are_told, k_Story_are_told⟩,
      F_asked_by := F_asked_by,
      b_asked_by := b_asked_by,
      g_asked_by := PySem.W.mg_of X G a_asked_by,
      F_Story_end_done := F_Story_end_done,
      b_Story_end_done := b_Story_end_done,
      m_Story_end_done := ⟨a_Story_end_done, i_Story_end_done, k_Story_end_done⟩,
      F_Story_why_not := F_Story_why_not,
      b_Story_why_not := b_Story_why_not,
      m_Story_why_not := ⟨a_Story_why_not, i_Story_why_not, k_Story_why_not⟩,
      F_sum_of := F_sum_of,
      b_sum_of := b_sum_of,
      g_sum_of := PySem.W.mg_of X G a_sum_of,
      F_left_of := F_left_of,
      b_left_of := b_left_of,
      g_left_of := PySem.W.mg_of X G a_left_of,
      F_product_of := F_product_of,
      b_product_of := b_product_of,
      g_product_of := PySem.W.mg_of X G a_product_of,
      F_part_of := F_part_of,
      b_part_of := b_part_of,
      g_part_of := PySem.W.mg_of X G a_part_of,
      F_same_told := F_same_told,
      b_same_told := b_same_told,
      g_same_told := PySem.W.mg_of X G a_same_told,
      F_below_told := F_below_told,
      b_below_told := b_below_told,
      g_below_told := PySem.W.mg_of X G a_below_told,
      F_reckoned := F_reckoned,
      b_reckoned := b_reckoned,
      g_reckoned := PySem.W.mg_of X G a_reckoned,
      F_Story_worth_given := F_Story_worth_given,
      b_Story_worth_given := b_Story_worth_given,
      m_Story_worth_given := ⟨a_Story_worth_given, i_Story_worth_given, k_Story_worth_given⟩,
      F_Story_row_done := F_Story_row_done,
      b_Story_row_done := b_Story_row_done,
      m_Story_row_done := ⟨a_Story_row_done, i_Story_row_done, k_Story_row_done⟩,
      F_given_by := F_given_by,
      b_given_by := b_given_by,
      g_given_by := PySem.W.mg_of X G a_given_by,
      F_held_worths := F_held_worths,
      b_held_worths := b_held_worths,
      g_held_worths := PySem.W.mg_of X G a_held_worths,
      F_block_done := F_block_done,
      b_block_done := b_block_done,
      g_block_done := PySem.W.mg_of X G a_block_done,
      F_block_of := F_block_of,
      b_block_of := b_block_of,
      g_block_of := PySem.W.mg_of X G a_block_of,
      F_run_plain := F_run_plain,
      g_run_plain := PySem.W.mg_of X G a_run_plain,
      F__law_take := F__law_take,
      b__law_take := b__law_take,
      g__law_take := PySem.W.mg_of X G a__law_take,
      F__law_pick := F__law_pick,
      b__law_pick := b__law_pick,
      g__law_pick := PySem.W.mg_of X G a__law_pick,
      F__law_names := F__law_names,
      b__law_names := b__law_names,
      g__law_names := PySem.W.mg_of X G a__law_names,
      F__law_goals := F__law_goals,
      b__law_goals := b__law_goals,
      g__law_goals := PySem.W.mg_of X G a__law_goals,
      F__law_row := F__law_row,
      b__law_row := b__law_row,
      g__law_row := PySem.W.mg_of X G a__law_row,
      F__law_program := F__law_program,
      b__law_program := b__law_program,
      g__law_program := PySem.W.mg_of X G a__law_program,
      F__law_called := F__law_called,
      b__law_called := b__law_called,
      g__law_called := PySem.W.mg_of X G a__law_called,
      F_said_in := F_said_in,
      b_said_in := b_said_in,
      g_said_in := PySem.W.mg_of X G a_said_in,
      F__law_trace_called := F__law_trace_called,
      b__law_trace_called := b__law_trace_called,
      g__law_trace_called := PySem.W.mg_of X G a__law_trace_called,
      F__law_ending_called := F__law_ending_called,
      b__law_ending_called := b__law_ending_called,
      g__law_ending_called := PySem.W.mg_of X G a__law_ending_called,
      F_law := F_law,
      b_law := b_law,
      g_law := PySem.W.mg_of X G a_law,
      g_Story := PySem.W.mg_of X G aC_Story,
      cl_Story := ⟨pg_Story, hd_Story, po_Story, sa_Story⟩,
      mk_Story := ⟨mk_Story, a_Story_init__, i_Story_init__, kc_Story⟩,
      na_Story_ending := na_Story_ending,
      na_Story_steps := na_Story_steps,
      na_Story_trace := na_Story_trace,
      na_Story_waiting := na_Story_waiting,
      n_abs := PySem.W.mg_none_of X G n_abs,
      n_dict := PySem.W.mg_none_of X G n_dict,
      n_enumerate := PySem.W.mg_none_of X G n_enumerate,
      n_int := PySem.W.mg_none_of X G n_int,
      n_isinstance := PySem.W.mg_none_of X G n_isinstance,
      n_len := PySem.W.mg_none_of X G n_len,
      n_list := PySem.W.mg_none_of X G n_list,
      n_max := PySem.W.mg_none_of X G n_max,
      n_min := PySem.W.mg_none_of X G n_min,
      n_range := PySem.W.mg_none_of X G n_range,
      n_str := PySem.W.mg_none_of X G n_str,
      n_tuple := PySem.W.mg_none_of X G n_tuple,
      n_zip := PySem.W.mg_none_of X G n_zip,
      k_WHEEL := PySem.W.mg_of X G kk_WHEEL,
      g_END_PARTS := PySem.W.mg_of X G g_END_PARTS,
      t_END_PARTS := t_END_PARTS,
      g_RECKONINGS := PySem.W.mg_of X G g_RECKONINGS,
      t_RECKONINGS := t_RECKONINGS,
      g_ROW_PARTS := PySem.W.mg_of X G g_ROW_PARTS,
      t_ROW_PARTS := t_ROW_PARTS,
      z_run_plain_0 := ⟨oe_run_plain_0, ne_run_plain_0, le_run_plain_0, ce_run_plain_0, de_run_plain_0⟩,
      d_Story_init___1_steps := F_Story_init__.kbinds0 (ps := ["self", "inputs", "steps"]) 2 ["steps"] [] (fun us mv ws => us ++ (mv ++ ws)) (by simp) (by simp) (fun r1 r2 r3 => r1.append (r2.append r3)) (fun D doc pm an cdv ct us mv ws h1 h2 h3 => match us, mv, ws, h1, h2, h3 with | [u0, u1], [], [w0], _, _, _ => rfl),
      d_run_plain_2_steps := F_run_plain.kbinds (ps := ["program", "inputs", "steps"]) 2 ["steps"] [] (fun us its mv ws => us ++ (its.drop 1 ++ (mv ++ ws))) (by simp) (by simp) (by simp) (fun r1 r2 r3 r4 => r1.append ((r2.drop 1).append (r3.append r4))) (fun T D doc pm an cdv ct us its mv ws h1 h2 h3 h4 => match us, its, mv, ws, h1, h2, h3, h4 with | [u0, u1], [i0], [], [w0], _, _, _, _ => ⟨_, rfl, rfl⟩),
      d_run_plain_2 := F_run_plain.binds (ps := ["program", "inputs", "steps"]) 2 1 (by simp) rfl (fun T D doc pm an cdv ct us its ks h1 h2 h3 => match us, its, ks, h1, h2, h3 with | [u0, u1], [i0], [k0], _, _, _ => ⟨_, rfl, ⟨_, _, _, _, _, _, rfl, rfl, rfl⟩⟩) (by simp) }
  exact ⟨(PySem.W.fnOf "law" "law" (defArgs st_law) (defBody st_law) (defScope st_law) .none kV_law dc_law pm_law an_law cd_law ct_law), fun s v => .of_eq rfl, fun base _ _ => ok_end (G := gx ad) (ok_law (ad := ad) (fd := fd) T) law_true⟩
end K14
open PySem PySem.W PyProof.Rows
set_option maxRecDepth 100000 in
set_option maxHeartbeats 0 in
theorem PySem.Challenge.cw_onceforms_k14_whole_runs_otherwise_calle_holds : PySem.Challenge.rw_onceforms_k14_whole_runs_otherwise_calle.Holds := by
  w_on; o_law; k_head; (case hw => w_witness2)
  k_fill
  refine L2.walk_of (l := PySem.Challenge.rw_onceforms_k14_whole_runs_otherwise_calle) (n := 63) (k := 8) (x := "_law_script") (CX := fun _ => L2.CX0) (sp := fun w => OF.spLaw _) rfl (by decide) rfl ⟨rfl, by decide, by decide⟩ (fun w h Y => PySem.W.kIn_of Y) ?F (fun _ _ a ns hl _ hS => ⟨a, ns, rfl, hS, hl, fun _ => rfl⟩) (fun _ _ _ _ _ h => h)
  case F =>
    intro w mg fa h KX G hmg
    refine' K14.all_mk KX G hmg ?aC_Story ?a__law_hand ?l__law_hand ?c__law_hand ?k__law_hand ?a__law_parts_of ?l__law_parts_of ?c__law_parts_of ?k__law_parts_of ?a__law_otherwise ?l__law_otherwise ?c__law_otherwise ?k__law_otherwise ?a_rest_of ?l_rest_of ?c_rest_of ?k_rest_of ?a_Story_init__ ?i_Story_init__ ?l_Story_init__ ?c_Story_init__ ?k_Story_init__ ?kw_Story_init___steps ?a_Story_pair ?i_Story_pair ?l_Story_pair ?c_Story_pair ?k_Story_pair ?a_Story_may_go ?i_Story_may_go ?l_Story_may_go ?c_Story_may_go ?k_Story_may_go ?a_Story_are_told ?i_Story_are_told ?l_Story_are_told ?c_Story_are_told ?k_Story_are_told ?a_asked_by ?l_asked_by ?c_asked_by ?k_asked_by ?a_Story_end_done ?i_Story_end_done ?l_Story_end_done ?c_Story_end_done ?k_Story_end_done ?a_Story_why_not ?i_Story_why_not ?l_Story_why_not ?c_Story_why_not ?k_Story_why_not ?a_sum_of ?l_sum_of ?c_sum_of ?k_sum_of ?a_left_of ?l_left_of ?c_left_of ?k_left_of ?a_product_of ?l_product_of ?c_product_of ?k_product_of ?a_part_of ?l_part_of ?c_part_of ?k_part_of ?a_same_told ?l_same_told ?c_same_told ?k_same_told ?a_below_told ?l_below_told ?c_below_told ?k_below_told ?a_reckoned ?l_reckoned ?c_reckoned ?k_reckoned ?a_Story_worth_given ?i_Story_worth_given ?l_Story_worth_given ?c_Story_worth_given ?k_Story_worth_given ?a_Story_row_done ?i_Story_row_done ?l_Story_row_done ?c_Story_row_done ?k_Story_row_done ?a_given_by ?l_given_by ?c_given_by ?k_given_by ?a_held_worths ?l_held_worths ?c_held_worths ?k_held_worths ?a_block_done ?l_block_done ?c_block_done ?k_block_done ?a_block_of ?l_block_of ?c_block_of ?k_block_of ?a_run_plain ?l_run_plain ?c_run_plain ?k_run_plain ?lT_run_plain ?oT2_run_plain ?le_run_plain_0 ?ce_run_plain_0 ?de_run_plain_0 ?kw_run_plain_steps ?a__law_take ?l__law_take ?c__law_take ?k__law_take ?a__law_pick ?l__law_pick ?c__law_pick ?k__law_pick ?a__law_names ?l__law_names ?c__law_names ?k__law_names ?a__law_goals ?l__law_goals ?c__law_goals ?k__law_goals ?a__law_row ?l__law_row ?c__law_row ?k__law_row ?a__law_program ?l__law_program ?c__law_program ?k__law_program ?a__law_called ?l__law_called ?c__law_called ?k__law_called ?a_said_in ?l_said_in ?c_said_in ?k_said_in ?a__law_trace_called ?l__law_trace_called ?c__law_trace_called ?k__law_trace_called ?a__law_ending_called ?l__law_ending_called ?c__law_ending_called ?k__law_ending_called ?a_law ?l_law ?c_law ?k_law ?pg_Story ?hd_Story ?po_Story ?sa_Story ?mk_Story ?kc_Story ?na_Story_ending ?na_Story_steps ?na_Story_trace ?na_Story_waiting ?n_abs ?n_dict ?n_enumerate ?n_int ?n_isinstance ?n_len ?n_list ?n_max ?n_min ?n_range ?n_str ?n_tuple ?n_zip ?kk_WHEEL ?g_END_PARTS ?lt_END_PARTS ?KEYS_END_PARTS ?e_END_PARTS_0 ?e_END_PARTS_1 ?e_END_PARTS_2 ?g_RECKONINGS ?lt_RECKONINGS ?KEYS_RECKONINGS ?e_RECKONINGS_0 ?e_RECKONINGS_1 ?e_RECKONINGS_2 ?e_RECKONINGS_3 ?e_RECKONINGS_4 ?e_RECKONINGS_5 ?g_ROW_PARTS ?lt_ROW_PARTS ?KEYS_ROW_PARTS ?e_ROW_PARTS_0 ?e_ROW_PARTS_1 ?e_ROW_PARTS_2 ?e_ROW_PARTS_3 ?e_ROW_PARTS_4 ?e_ROW_PARTS_5 ?e_ROW_PARTS_6 ?e_ROW_PARTS_7 ?e_ROW_PARTS_8 ?e_ROW_PARTS_9
    (case aC_Story => first | k_is | rfl)
    (case a__law_hand => first | k_is | rfl)
    (case l__law_hand => first | k_is | rfl)
    (case c__law_hand => first | k_is | rfl)
    (case k__law_hand => first | k_is | rfl)
    (case a__law_parts_of => first | k_is | rfl)
    (case l__law_parts_of => first | k_is | rfl)
    (case c__law_parts_of => first | k_is | rfl)
    (case k__law_parts_of => first | k_is | rfl)
    (case a__law_otherwise => first | k_is | rfl)
    (case l__law_otherwise => first | k_is | rfl)
    (case c__law_otherwise => first | k_is | rfl)
    (case k__law_otherwise => first | k_is | rfl)
    (case a_rest_of => first | k_is | rfl)
    (case l_rest_of => first | k_is | rfl)
    (case c_rest_of => first | k_is | rfl)
    (case k_rest_of => first | k_is | rfl)
    (case a_Story_init__ => first | k_is | rfl)
    (case i_Story_init__ => first | k_is | rfl)
    (case l_Story_init__ => first | k_is | rfl)
    (case c_Story_init__ => first | k_is | rfl)
    (case k_Story_init__ => first | k_is | rfl)
    (case kw_Story_init___steps => first | k_is | rfl)
    (case a_Story_pair => first | k_is | rfl)
    (case i_Story_pair => first | k_is | rfl)
    (case l_Story_pair => first | k_is | rfl)
    (case c_Story_pair => first | k_is | rfl)
    (case k_Story_pair => first | k_is | rfl)
    (case a_Story_may_go => first | k_is | rfl)
    (case i_Story_may_go => first | k_is | rfl)
    (case l_Story_may_go => first | k_is | rfl)
    (case c_Story_may_go => first | k_is | rfl)
    (case k_Story_may_go => first | k_is | rfl)
    (case a_Story_are_told => first | k_is | rfl)
    (case i_Story_are_told => first | k_is | rfl)
    (case l_Story_are_told => first | k_is | rfl)
    (case c_Story_are_told => first | k_is | rfl)
    (case k_Story_are_told => first | k_is | rfl)
    (case a_asked_by => first | k_is | rfl)
    (case l_asked_by => first | k_is | rfl)
    (case c_asked_by => first | k_is | rfl)
    (case k_asked_by => first | k_is | rfl)
    (case a_Story_end_done => first | k_is | rfl)
    (case i_Story_end_done => first | k_is | rfl)
    (case l_Story_end_done => first | k_is | rfl)
    (case c_Story_end_done => first | k_is | rfl)
    (case k_Story_end_done => first | k_is | rfl)
    (case a_Story_why_not => first | k_is | rfl)
    (case i_Story_why_not => first | k_is | rfl)
    (case l_Story_why_not => first | k_is | rfl)
    (case c_Story_why_not => first | k_is | rfl)
    (case k_Story_why_not => first | k_is | rfl)
    (case a_sum_of => first | k_is | rfl)
    (case l_sum_of => first | k_is | rfl)
    (case c_sum_of => first | k_is | rfl)
    (case k_sum_of => first | k_is | rfl)
    (case a_left_of => first | k_is | rfl)
    (case l_left_of => first | k_is | rfl)
    (case c_left_of => first | k_is | rfl)
    (case k_left_of => first | k_is | rfl)
    (case a_product_of => first | k_is | rfl)
    (case l_product_of => first | k_is | rfl)
    (case c_product_of => first | k_is | rfl)
    (case k_product_of => first | k_is | rfl)
    (case a_part_of => first | k_is | rfl)
    (case l_part_of => first | k_is | rfl)
    (case c_part_of => first | k_is | rfl)
    (case k_part_of => first | k_is | rfl)
    (case a_same_told => first | k_is | rfl)
    (case l_same_told => first | k_is | rfl)
    (case c_same_told => first | k_is | rfl)
    (case k_same_told => first | k_is | rfl)
    (case a_below_told => first | k_is | rfl)
    (case l_below_told => first | k_is | rfl)
    (case c_below_told => first | k_is | rfl)
    (case k_below_told => first | k_is | rfl)
    (case a_reckoned => first | k_is | rfl)
    (case l_reckoned => first | k_is | rfl)
    (case c_reckoned => first | k_is | rfl)
    (case k_reckoned => first | k_is | rfl)
    (case a_Story_worth_given => first | k_is | rfl)
    (case i_Story_worth_given => first | k_is | rfl)
    (case l_Story_worth_given => first | k_is | rfl)
    (case c_Story_worth_given => first | k_is | rfl)
    (case k_Story_worth_given => first | k_is | rfl)
    (case a_Story_row_done => first | k_is | rfl)
    (case i_Story_row_done => first | k_is | rfl)
    (case l_Story_row_done => first | k_is | rfl)
    (case c_Story_row_done => first | k_is | rfl)
    (case k_Story_row_done => first | k_is | rfl)
    (case a_given_by => first | k_is | rfl)
    (case l_given_by => first | k_is | rfl)
    (case c_given_by => first | k_is | rfl)
    (case k_given_by => first | k_is | rfl)
    (case a_held_worths => first | k_is | rfl)
    (case l_held_worths => first | k_is | rfl)
    (case c_held_worths => first | k_is | rfl)
    (case k_held_worths => first | k_is | rfl)
    (case a_block_done => first | k_is | rfl)
    (case l_block_done => first | k_is | rfl)
    (case c_block_done => first | k_is | rfl)
    (case k_block_done => first | k_is | rfl)
    (case a_block_of => first | k_is | rfl)
    (case l_block_of => first | k_is | rfl)
    (case c_block_of => first | k_is | rfl)
    (case k_block_of => first | k_is | rfl)
    (case a_run_plain => first | k_is | rfl)
    (case l_run_plain => first | k_is | rfl)
    (case c_run_plain => first | k_is | rfl)
    (case k_run_plain => first | k_is | rfl)
    (case lT_run_plain => first | k_is | rfl)
    (case oT2_run_plain => first | k_is | rfl)
    (case le_run_plain_0 => first | k_is | rfl)
    (case ce_run_plain_0 => first | k_is | rfl)
    (case de_run_plain_0 => first | k_is | rfl)
    (case kw_run_plain_steps => first | k_is | rfl)
    (case a__law_take => first | k_is | rfl)
    (case l__law_take => first | k_is | rfl)
    (case c__law_take => first | k_is | rfl)
    (case k__law_take => first | k_is | rfl)
    (case a__law_pick => first | k_is | rfl)
    (case l__law_pick => first | k_is | rfl)
    (case c__law_pick => first | k_is | rfl)
    (case k__law_pick => first | k_is | rfl)
    (case a__law_names => first | k_is | rfl)
    (case l__law_names => first | k_is | rfl)
    (case c__law_names => first | k_is | rfl)
    (case k__law_names => first | k_is | rfl)
    (case a__law_goals => first | k_is | rfl)
    (case l__law_goals => first | k_is | rfl)
    (case c__law_goals => first | k_is | rfl)
    (case k__law_goals => first | k_is | rfl)
    (case a__law_row => first | k_is | rfl)
    (case l__law_row => first | k_is | rfl)
    (case c__law_row => first | k_is | rfl)
    (case k__law_row => first | k_is | rfl)
    (case a__law_program => first | k_is | rfl)
    (case l__law_program => first | k_is | rfl)
    (case c__law_program => first | k_is | rfl)
    (case k__law_program => first | k_is | rfl)
    (case a__law_called => first | k_is | rfl)
    (case l__law_called => first | k_is | rfl)
    (case c__law_called => first | k_is | rfl)
    (case k__law_called => first | k_is | rfl)
    (case a_said_in => first | k_is | rfl)
    (case l_said_in => first | k_is | rfl)
    (case c_said_in => first | k_is | rfl)
    (case k_said_in => first | k_is | rfl)
    (case a__law_trace_called => first | k_is | rfl)
    (case l__law_trace_called => first | k_is | rfl)
    (case c__law_trace_called => first | k_is | rfl)
    (case k__law_trace_called => first | k_is | rfl)
    (case a__law_ending_called => first | k_is | rfl)
    (case l__law_ending_called => first | k_is | rfl)
    (case c__law_ending_called => first | k_is | rfl)
    (case k__law_ending_called => first | k_is | rfl)
    (case a_law => first | k_is | rfl)
    (case l_law => first | k_is | rfl)
    (case c_law => first | k_is | rfl)
    (case k_law => first | k_is | rfl)
    (case pg_Story => first | k_is | rfl)
    (case hd_Story => first | k_is | rfl)
    (case po_Story => first | k_is | rfl)
    (case sa_Story => first | k_is | rfl)
    (case mk_Story => first | k_is | rfl)
    (case kc_Story => first | k_is | rfl)
    (case na_Story_ending => first | k_is | rfl)
    (case na_Story_steps => first | k_is | rfl)
    (case na_Story_trace => first | k_is | rfl)
    (case na_Story_waiting => first | k_is | rfl)
    (case n_abs => first | k_is | rfl)
    (case n_dict => first | k_is | rfl)
    (case n_enumerate => first | k_is | rfl)
    (case n_int => first | k_is | rfl)
    (case n_isinstance => first | k_is | rfl)
    (case n_len => first | k_is | rfl)
    (case n_list => first | k_is | rfl)
    (case n_max => first | k_is | rfl)
    (case n_min => first | k_is | rfl)
    (case n_range => first | k_is | rfl)
    (case n_str => first | k_is | rfl)
    (case n_tuple => first | k_is | rfl)
    (case n_zip => first | k_is | rfl)
    (case kk_WHEEL => first | k_is | rfl)
    (case g_END_PARTS => first | k_is | rfl)
    (case lt_END_PARTS => first | k_is | rfl)
    (case KEYS_END_PARTS => k_keys)
    (case e_END_PARTS_0 => first | k_is | rfl)
    (case e_END_PARTS_1 => first | k_is | rfl)
    (case e_END_PARTS_2 => first | k_is | rfl)
    (case g_RECKONINGS => first | k_is | rfl)
    (case lt_RECKONINGS => first | k_is | rfl)
    (case KEYS_RECKONINGS => k_keys)
    (case e_RECKONINGS_0 => first | k_is | rfl)
    (case e_RECKONINGS_1 => first | k_is | rfl)
    (case e_RECKONINGS_2 => first | k_is | rfl)
    (case e_RECKONINGS_3 => first | k_is | rfl)
    (case e_RECKONINGS_4 => first | k_is | rfl)
    (case e_RECKONINGS_5 => first | k_is | rfl)
    (case g_ROW_PARTS => first | k_is | rfl)
    (case lt_ROW_PARTS => first | k_is | rfl)
    (case KEYS_ROW_PARTS => k_keys)
    (case e_ROW_PARTS_0 => first | k_is | rfl)
    (case e_ROW_PARTS_1 => first | k_is | rfl)
    (case e_ROW_PARTS_2 => first | k_is | rfl)
    (case e_ROW_PARTS_3 => first | k_is | rfl)
    (case e_ROW_PARTS_4 => first | k_is | rfl)
    (case e_ROW_PARTS_5 => first | k_is | rfl)
    (case e_ROW_PARTS_6 => first | k_is | rfl)
    (case e_ROW_PARTS_7 => first | k_is | rfl)
    (case e_ROW_PARTS_8 => first | k_is | rfl)
    (case e_ROW_PARTS_9 => first | k_is | rfl)
