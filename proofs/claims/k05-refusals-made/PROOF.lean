import PyProof.Rows.All
import PySem.Challenge.RW_onceforms_k05_refusals_made
import Wide.All
import OpenK.AllK
import Wide.FinOn
import HandS.ForMost
import HandS.Walk
import HandS.Zip
import HandS.Flow
import HandS.Defaults
import HandS.MakeKwOnly
import KE.GoesZip
import KE.GoesMore
import HandS.Wide
import HandS.Strs
import HandS.TupAny
import HandS.More
import HandS.IsInst
import HandS.Deep
import HandS.Style
import HandS.Ends
import PyProof.ReprRoads
import HandS.RaiseMore
import PyProof.ReprBulk
import HandS.Conv
import HandS.DictComp
import PyProof.Rows.StrMeet
import HandS.NoneIn
import KE.KSortTupG
import PyProof.NeData
import PyProof.Rows.IntBool
import HandS.SetKeys
import PyProof.StrBlock2
import KE.KRevSl
import PyProof.DictWalks
import KE.SortData
import KE.KDictList
import HandS.ListItems
import HandS.Set
import KE.KDictPairs
import HandS.TupMul
import HandS.SetBool
import PyProof.Rows.SortH.SortRunsSt
import Wide.More
import PyProof.FactsAll.set_2
import HandS.TupLen
import KE.KDictKeyed
import KE.DataCmp
import KE.GoesEnum
import KE.KDictZip
import KE.KDictSum
import HandS.ExcInit
import HandS.ExcOwn
import HandS.ExcField
import HandS.ExcIs
import HandS.TryOnly
import HandS.TryMany
import HandS.WordsExc
import KE.IntTextLaws
import KE.KTryMore
import KE.KExcIs
import KE.KIsAll
import HandS.ExcValue
import HandS.WideBits
set_option Elab.async false
set_option linter.all false
set_option maxRecDepth 100000
set_option maxHeartbeats 4000000
set_option exponentiation.threshold 3000
namespace OF
open PySem PySem.Spec PyProof.Rows L2
inductive U where
  | non
  | bl (b : Bool)
  | int (i : Int)
  | str (x : Str)
  | tup (us : List U)
  | ptp (us : List U)
  | lst (us : List U)
  | scr (us : List U)
  | dct (kvs : List (Key × U))
  | fn (x : Str)
  | ref (n : Nat)
inductive O where
  | lst (us : List U)
  | dct (kvs : List (Key × U))
  | dtt (kvs : List (List Key × U))
  | ins (c : Str) (fs : List (Str × U))
  | frd (kvs : List (Key × U))
  | ftt (kvs : List (List Key × U))
  | exc (c : Str) (fs : List (Str × U))
abbrev Sto := List O
abbrev Env' := List (Option U)
inductive Bad where
  | t (vs : List V)
  | x (fs : List (Str × V))
def bad : Bad → HO
  | .t vs => .tup vs
  | .x fs => .xd fs
structure Gx where
  cls : Str → Option Addr
  fns : Str → Option Addr
structure Mp where
  c : List Addr
  x : List Addr
section
variable (K : PySem.W.Frag) (G : Gx) (m : Mp) (H : Hp)
mutual
def RU : U → V → Prop
  | .non, v => v = .non
  | .bl b, v => v = .bl b
  | .int i, v => v = .int i
  | .str x, v => v = .str x
  | .tup us, v => ∃ a vs, v = .ref a ∧ (H a = some (.tup vs) ∧ a ∉ m.c ∧ a ∉ m.x ∨
      (us.length ≠ 2 ∧ us.length ≠ 3) ∧ ∃ (o : Obj) (its : Array Value) (n : Nat), K.lookup a = some o ∧ o.cls = .type "tuple" ∧ o.data = .seq its n ∧ its.size ≤ sizeLine ∧ Vals vs its.toList) ∧ RUs us vs
  | .ptp us, v => ∃ a vs ob, v = .ref a ∧ H a = some (.frz ob (.tup vs)) ∧ ob.cls = .type "tuple" ∧ ob.dict = none ∧ a ∉ m.c ∧ a ∉ m.x ∧ RUs us vs
  | .lst us, v => ∃ a vs, v = .ref a ∧ Rd H a (.lst vs) ∧ a ∉ m.c ∧ a ∉ m.x ∧ RUs us vs
  | .scr us, v => ∃ a vs, v = .ref a ∧ (Rd H a (.lst vs) ∧ a ∉ m.c ∧ a ∉ m.x ∨
      ∃ (o : Obj) (its : Array Value) (n : Nat), K.lookup a = some o ∧ o.cls = .type "list" ∧ o.dict = none ∧ o.data = .seq its n ∧ its.size ≤ sizeLine ∧ Vals vs its.toList) ∧ RUs us vs
  | .dct kvs, v => ∃ a vs, v = .ref a ∧ Rd H a (.dK vs) ∧ a ∉ m.c ∧ a ∉ m.x ∧ RKs kvs vs
  | .fn x, v => ∃ a, v = .ref a ∧ G.fns x = some a
  | .ref n, v => ∃ a, v = .ref a ∧ m.c[n]? = some a
def RUs : List U → List V → Prop
  | [], vs => vs = []
  | u :: us, vs => ∃ v r, vs = v :: r ∧ RU u v ∧ RUs us r
def RKs : List (Key × U) → List (Key × V) → Prop
  | [], vs => vs = []
  | (k, u) :: us, vs => ∃ v r, vs = (k, v) :: r ∧ RU u v ∧ RKs us r
end
def RTs : List (List Key × U) → List (List Key × V) → Prop
  | [], vs => vs = []
  | (k, u) :: us, vs => ∃ v r, vs = (k, v) :: r ∧ RU K G m H u v ∧ RTs us r
def RFs : List (Str × U) → List (Str × V) → Prop
  | [], vs => vs = []
  | (k, u) :: us, vs => ∃ v r, vs = (k, v) :: r ∧ RU K G m H u v ∧ RFs us r
def RO : O → HO → Prop
  | .lst us, o => ∃ vs, o = .lst vs ∧ RUs K G m H us vs
  | .dct us, o => ∃ vs, o = .dK vs ∧ RKs K G m H us vs
  | .dtt us, o => ∃ vs, o = .dT vs ∧ RTs K G m H us vs
  | .ins c fs, o => ∃ C dx vs, o = .ins C dx vs ∧ G.cls c = some C ∧ RFs K G m H fs vs
  | .frd us, o => ∃ ob vs, o = .frz ob (.dK vs) ∧ RKs K G m H us vs
  | .ftt us, o => ∃ ob vs, o = .frz ob (.dT vs) ∧ RTs K G m H us vs
  | .exc c fs, o => ∃ oe C d, o = .frz oe (.own 0) ∧ oe.cls = .ref C ∧ oe.dict = d ∧ (∃ vs, oe.data = .fields vs) ∧ G.cls c = some C ∧ ((d = none ∧ fs = []) ∨ ∃ dx vs, d = some dx ∧ H dx = some (.xd vs) ∧ dx ∉ m.c ∧ dx ∉ m.x ∧ RFs K G m H fs vs)
structure Rst (S : Sto) : Prop where
  nd : m.c.Nodup
  len : m.c.length = S.length
  ob : ∀ (n : Nat) o a, S[n]? = some o → m.c[n]? = some a → ∃ ho, H a = some ho ∧ RO K G m H o ho
  xs : ∀ a ∈ m.x, (H a).isSome = true
  nx : ∀ a ∈ m.x, a ∉ m.c
  tx : ∀ a ∈ m.x, ∀ b, H a ≠ some (bad b)
def Renv (env : Env') (σ : L2.St) : Prop := env.length = σ.length ∧ ∀ (i : Nat) u, env[i]? = some (some u) → ∃ v, σ[i]? = some (some v) ∧ RU K G m H u v
end
structure Ext (m : Mp) (H : Hp) (m' : Mp) (H' : Hp) : Prop where
  pre : ∃ r, m'.c = m.c ++ r
  x : ∃ r, m'.x = r ++ m.x ∧ ∀ a ∈ r, H a = none
  keep : ∀ a o, H a = some o → a ∉ m.c → H' a = some o
  cells : ∀ a ∈ m.c, (H a).isSome = true → (H' a).isSome = true
  new : ∀ a ∈ m'.c, a ∉ m.c → H a = none
  fz : ∀ a ob u, H a = some (.frz ob u) → H' a = some (.frz ob u)
theorem Ext.refl (m : Mp) (H : Hp) : Ext m H m H := ⟨⟨[], by simp⟩, ⟨[], rfl, fun _ h => nomatch h⟩, fun _ _ h _ => h, fun _ _ h => h, fun _ h n => absurd h n, fun _ _ _ h => h⟩
theorem Ext.trans {m m1 m2 : Mp} {H H1 H2 : Hp} (a : Ext m H m1 H1) (b : Ext m1 H1 m2 H2) : Ext m H m2 H2 := by
  obtain ⟨r, hr⟩ := a.pre
  obtain ⟨r2, hr2⟩ := b.pre
  have sub : ∀ z, z ∈ m.c → z ∈ m1.c := fun z hz => by rw [hr]; exact List.mem_append_left _ hz
  have nin : ∀ z o, H z = some o → z ∉ m.c → z ∉ m1.c := fun z o h n h1 => by
    rw [a.new z h1 n] at h; cases h
  have back : ∀ z, H1 z = none → H z = none := fun z h => by
    cases q : H z with
    | none => rfl
    | some o =>
      by_cases hz : z ∈ m.c
      · have := a.cells z hz (by rw [q]; rfl)
        rw [h] at this; cases this
      · rw [a.keep z o q hz] at h; cases h
  obtain ⟨q1, hq1, n1⟩ := a.x
  obtain ⟨q2, hq2, n2⟩ := b.x
  refine ⟨⟨r ++ r2, by rw [hr2, hr, List.append_assoc]⟩, ⟨q2 ++ q1, by rw [hq2, hq1, List.append_assoc], fun z hz => ?_⟩, fun z o h n => b.keep z o (a.keep z o h n) (nin z o h n), fun z hz h => b.cells z (sub z hz) (a.cells z hz h), fun z hz n => ?_, fun z ob u h => b.fz z ob u (a.fz z ob u h)⟩
  · rcases List.mem_append.mp hz with hz | hz
    · exact back z (n2 z hz)
    · exact n1 z hz
  by_cases h1 : z ∈ m1.c
  · exact a.new z h1 n
  · have e := b.new z hz h1
    cases q : H z with
    | none => rfl
    | some o => rw [a.keep z o q n] at e; cases e
theorem Ext.nin {m m' : Mp} {H H' : Hp} (e : Ext m H m' H') {a : Addr} {o : HO} (h : H a = some o) (n : a ∉ m.c) : a ∉ m'.c := fun h1 => by
  rw [e.new a h1 n] at h; cases h
theorem Ext.rd {m m' : Mp} {H H' : Hp} (e : Ext m H m' H') {a : Addr} {u : HO} (h : Rd H a u) (n : a ∉ m.c) : Rd H' a u ∧ a ∉ m'.c := by
  rcases h with h | ⟨o, h⟩
  · exact ⟨.inl (e.keep a _ h n), e.nin h n⟩
  · exact ⟨.inr ⟨o, e.keep a _ h n⟩, e.nin h n⟩
theorem Ext.at {m m' : Mp} {H H' : Hp} (e : Ext m H m' H') {n : Nat} {a : Addr} (h : m.c[n]? = some a) : m'.c[n]? = some a := by
  obtain ⟨r, hr⟩ := e.pre
  rw [hr, List.getElem?_append_left (List.getElem?_eq_some_iff.mp h).1]
  exact h
section
variable {K : PySem.W.Frag} {G : Gx} {m m' : Mp} {H H' : Hp}
structure Keeps (m : Mp) (H : Hp) (m' : Mp) (H' : Hp) : Prop where
  rd : ∀ a u, Rd H a u → a ∉ m.c → a ∉ m.x → Rd H' a u ∧ a ∉ m'.c ∧ a ∉ m'.x
  at' : ∀ (n : Nat) a, m.c[n]? = some a → m'.c[n]? = some a
  tp : ∀ a o, H a = some o → a ∉ m.c → a ∉ m.x → H' a = some o
theorem Ext.keeps (e : Ext m H m' H') : Keeps m H m' H' :=
  ⟨fun a u h n nx => ⟨(e.rd h n).1, (e.rd h n).2, by
    obtain ⟨r, hr, hn⟩ := e.x
    rw [hr]
    intro z
    rcases List.mem_append.mp z with z | z
    · have := hn a z
      rcases h with h | ⟨o, h⟩ <;> rw [this] at h <;> cases h
    · exact nx z⟩, fun _ _ h => e.at h, fun a _ h n _ => e.keep a _ h n⟩
mutual
theorem RU.keep (k : Keeps m H m' H') : ∀ (u : U) (v : V), RU K G m H u v → RU K G m' H' u v
  | .non, _, h => h
  | .bl _, _, h => h
  | .int _, _, h => h
  | .str _, _, h => h
  | .tup us, v, h => by
    unfold RU at h ⊢
    obtain ⟨a, vs, e, q, r⟩ := h
    refine ⟨a, vs, e, ?_, RUs.keep k us vs r⟩
    rcases q with ⟨q, n, nx⟩ | q
    · exact .inl ⟨k.tp a _ q n nx, (k.rd a _ (.inl q) n nx).2⟩
    · exact .inr q
  | .ptp us, v, h => by
    unfold RU at h ⊢
    obtain ⟨a, vs, ob, e, q, hc, hd, n, nx, r⟩ := h
    exact ⟨a, vs, ob, e, k.tp a _ q n nx, hc, hd, (k.rd a _ (.inl q) n nx).2.1, (k.rd a _ (.inl q) n nx).2.2, RUs.keep k us vs r⟩
  | .lst us, v, h => by
    unfold RU at h ⊢
    obtain ⟨a, vs, e, q, n, nx, r⟩ := h
    obtain ⟨q', n', nx'⟩ := k.rd a _ q n nx
    exact ⟨a, vs, e, q', n', nx', RUs.keep k us vs r⟩
  | .scr us, v, h => by
    unfold RU at h ⊢
    obtain ⟨a, vs, e, q, r⟩ := h
    refine ⟨a, vs, e, ?_, RUs.keep k us vs r⟩
    rcases q with ⟨q, n, nx⟩ | q
    · exact .inl (k.rd a _ q n nx)
    · exact .inr q
  | .dct us, v, h => by
    unfold RU at h ⊢
    obtain ⟨a, vs, e, q, n, nx, r⟩ := h
    obtain ⟨q', n', nx'⟩ := k.rd a _ q n nx
    exact ⟨a, vs, e, q', n', nx', RKs.keep k us vs r⟩
  | .fn x, v, h => by
    unfold RU at h ⊢
    exact h
  | .ref n, v, h => by
    unfold RU at h ⊢
    obtain ⟨a, e, q⟩ := h
    exact ⟨a, e, k.at' n a q⟩
theorem RUs.keep (k : Keeps m H m' H') : ∀ (us : List U) (vs : List V), RUs K G m H us vs → RUs K G m' H' us vs
  | [], _, h => h
  | u :: us, vs, h => by
    unfold RUs at h ⊢
    obtain ⟨v, r, e, q, t⟩ := h
    exact ⟨v, r, e, RU.keep k u v q, RUs.keep k us r t⟩
theorem RKs.keep (k : Keeps m H m' H') : ∀ (us : List (Key × U)) (vs : List (Key × V)), RKs K G m H us vs → RKs K G m' H' us vs
  | [], _, h => h
  | (c, u) :: us, vs, h => by
    unfold RKs at h ⊢
    obtain ⟨v, r, e, q, t⟩ := h
    exact ⟨v, r, e, RU.keep k u v q, RKs.keep k us r t⟩
end
theorem RTs.keep (k : Keeps m H m' H') : ∀ (us : List (List Key × U)) (vs : List (List Key × V)), RTs K G m H us vs → RTs K G m' H' us vs
  | [], _, h => h
  | (c, u) :: us, vs, h => by
    unfold RTs at h ⊢
    obtain ⟨v, r, e, q, t⟩ := h
    exact ⟨v, r, e, RU.keep k u v q, RTs.keep k us r t⟩
theorem RFs.keep (k : Keeps m H m' H') : ∀ (us : List (Str × U)) (vs : List (Str × V)), RFs K G m H us vs → RFs K G m' H' us vs
  | [], _, h => h
  | (c, u) :: us, vs, h => by
    unfold RFs at h ⊢
    obtain ⟨v, r, e, q, t⟩ := h
    exact ⟨v, r, e, RU.keep k u v q, RFs.keep k us r t⟩
theorem RO.keep (k : Keeps m H m' H') : ∀ (o : O) (ho : HO), RO K G m H o ho → RO K G m' H' o ho
  | .lst us, _, ⟨vs, e, r⟩ => ⟨vs, e, RUs.keep k us vs r⟩
  | .dct us, _, ⟨vs, e, r⟩ => ⟨vs, e, RKs.keep k us vs r⟩
  | .dtt us, _, ⟨vs, e, r⟩ => ⟨vs, e, RTs.keep k us vs r⟩
  | .ins c fs, _, ⟨C, dx, vs, e, q, r⟩ => ⟨C, dx, vs, e, q, RFs.keep k fs vs r⟩
  | .frd us, _, ⟨ob, vs, e, r⟩ => ⟨ob, vs, e, RKs.keep k us vs r⟩
  | .ftt us, _, ⟨ob, vs, e, r⟩ => ⟨ob, vs, e, RTs.keep k us vs r⟩
  | .exc c fs, _, ⟨oe, C, d, e, q1, q2, q3, q4, r⟩ => ⟨oe, C, d, e, q1, q2, q3, q4, r.imp id fun ⟨dx, vs, e1, e2, n, nx, t⟩ => ⟨dx, vs, e1, k.tp dx _ e2 n nx, (k.rd dx _ (.inl e2) n nx).2.1, (k.rd dx _ (.inl e2) n nx).2.2, RFs.keep k fs vs t⟩⟩
theorem Renv.keep (k : Keeps m H m' H') {env : Env'} {σ : L2.St} (r : Renv K G m H env σ) : Renv K G m' H' env σ :=
  ⟨r.1, fun i u h => let ⟨v, e, q⟩ := r.2 i u h; ⟨v, e, RU.keep k u v q⟩⟩
end
end OF
namespace OF
open PySem PySem.Spec PyProof.Rows L2
abbrev Cm (α : Type) := Env' → Sto → Option (α × Sto)
abbrev Op1 := U → Sto → Option (U × Sto)
abbrev Op2 := U → U → Sto → Option (U × Sto)
abbrev OpN := List U → Sto → Option (U × Sto)
def After (K : PySem.W.Frag) (G : Gx) (m : Mp) (H : Hp) (u : U) (S' : Sto) (Q : VK) : Prop := ∀ m' H' v, Ext m H m' H' → Rst K G m' H' S' → RU K G m' H' u v → Q v H'
def AfterB (K : PySem.W.Frag) (G : Gx) (m : Mp) (H : Hp) (b : Bool) (S' : Sto) (Q : Bool → Hp → Prop) : Prop := ∀ m' H', Ext m H m' H' → Rst K G m' H' S' → Q b H'
def AfterL (K : PySem.W.Frag) (G : Gx) (m : Mp) (H : Hp) (us : List U) (S' : Sto) (Q : List V → Hp → Prop) : Prop := ∀ m' H' vs, Ext m H m' H' → Rst K G m' H' S' → RUs K G m' H' us vs → Q vs H'
section
variable (K : PySem.W.Frag) (G : Gx)
def RE (c : Cm U) : TE := fun σ H Q => ∃ m S env u S', Rst K G m H S ∧ Renv K G m H env σ ∧ c env S = some (u, S') ∧ After K G m H u S' Q
def RT (c : Cm Bool) : TT := fun σ H Q => ∃ m S env b S', Rst K G m H S ∧ Renv K G m H env σ ∧ c env S = some (b, S') ∧ AfterB K G m H b S' Q
def RA (c : Cm (List U)) : TA := fun σ H Q => ∃ m S env us S', Rst K G m H S ∧ Renv K G m H env σ ∧ c env S = some (us, S') ∧ AfterL K G m H us S' Q
def r1U (f : Op1) : V → Hp → VK → Prop := fun x H Q => ∃ m S u z S', Rst K G m H S ∧ RU K G m H u x ∧ f u S = some (z, S') ∧ After K G m H z S' Q
def r2U (f : Op2) : R2 := fun x y H Q => ∃ m S u1 u2 z S', Rst K G m H S ∧ RU K G m H u1 x ∧ RU K G m H u2 y ∧ f u1 u2 S = some (z, S') ∧ After K G m H z S' Q
def rNU (f : OpN) : List V → Hp → VK → Prop := fun xs H Q => ∃ m S us z S', Rst K G m H S ∧ RUs K G m H us xs ∧ f us S = some (z, S') ∧ After K G m H z S' Q
def rMU (f : U → OpN) : V → List V → Hp → VK → Prop := fun x xs H Q => ∃ m S u us z S', Rst K G m H S ∧ RU K G m H u x ∧ RUs K G m H us xs ∧ f u us S = some (z, S') ∧ After K G m H z S' Q
end
variable {X : Cx} {G : Gx}
abbrev EE (G : Gx) (X : Cx) (e : Expr) (c : Cm U) : Prop := PE X e (RE X.K G c)
abbrev ET (G : Gx) (X : Cx) (e : Expr) (c : Cm Bool) : Prop := PT X e (RT X.K G c)
abbrev EW (G : Gx) (X : Cx) (e : Expr) (c : Cm Bool) : Prop := PW X e (RT X.K G c)
abbrev EA (G : Gx) (X : Cx) (es : List Expr) (c : Cm (List U)) : Prop := PA X es (RA X.K G c)
abbrev UnU (G : Gx) (X : Cx) (f : Value → Sem Value) (op : Op1) : Prop := UnR X f (r1U X.K G op)
abbrev OpU (G : Gx) (X : Cx) (f : Value → Value → Sem Value) (op : Op2) : Prop := OpR X f (r2U X.K G op)
abbrev CallU (G : Gx) (X : Cx) (f : Value) (op : OpN) : Prop := CallR X f (rNU X.K G op)
theorem _root_.L2.PE.imp {e : Expr} {t t' : TE} (h : PE X e t) (i : ∀ σ H Q, t' σ H Q → t σ H Q) : PE X e t' := ⟨fun pins s σ H Q I hw => h.run pins s σ H Q I (i σ H Q hw)⟩
theorem _root_.L2.PT.imp {e : Expr} {t t' : TT} (h : PT X e t) (i : ∀ σ H Q, t' σ H Q → t σ H Q) : PT X e t' := ⟨fun pins s σ H Q I hw => h.run pins s σ H Q I (i σ H Q hw)⟩
theorem _root_.L2.PW.imp {e : Expr} {t t' : TT} (h : PW X e t) (i : ∀ σ H Q, t' σ H Q → t σ H Q) : PW X e t' := ⟨fun wh pins s σ H Q I hw => h.run wh pins s σ H Q I (i σ H Q hw)⟩
theorem _root_.L2.PA.imp {e : List Expr} {t t' : TA} (h : PA X e t) (i : ∀ σ H Q, t' σ H Q → t σ H Q) : PA X e t' := ⟨fun p pins s σ H Q I hw => h.run p pins s σ H Q I (i σ H Q hw)⟩
theorem OpR.imp {f : Value → Value → Sem Value} {r r' : R2} (h : OpR X f r) (i : ∀ x y H Q, r' x y H Q → r x y H Q) : OpR X f r' := fun pins s σ H x y v u Q I rx ry q => h pins s σ H x y v u Q I rx ry (i x y H Q q)
theorem UnR.imp {f : Value → Sem Value} {r r' : V → Hp → VK → Prop} (h : UnR X f r) (i : ∀ x H Q, r' x H Q → r x H Q) : UnR X f r' := fun pins s σ H x v Q I rx q => h pins s σ H x v Q I rx (i x H Q q)
theorem CallR.imp {f : Value} {r r' : List V → Hp → VK → Prop} (h : CallR X f r) (i : ∀ x H Q, r' x H Q → r x H Q) : CallR X f r' := fun pins s σ H x v Q I rx q => h pins s σ H x v Q I rx (i x H Q q)
def cVar (i : Nat) : Cm U := fun env S => match env[i]? with
  | some (some u) => some (u, S)
  | _ => none
def cCst (u : U) : Cm U := fun _ S => some (u, S)
theorem ee_var {i : Nat} {x : Str} {pos : Pos} (h : PE X (.Name x pos) (tVar i)) : EE G X (.Name x pos) (cVar i) := by
  refine PE.imp h fun σ H Q ⟨m, S, env, u, S', st, re, hc, q⟩ => ?_
  unfold cVar at hc
  split at hc
  · rename_i u' hu
    cases hc
    obtain ⟨v, e, r⟩ := re.2 i _ hu
    exact ⟨v, e, q m H v (Ext.refl m H) st r⟩
  · cases hc
theorem ee_cst {e : Expr} {v : V} (u : U) (h : PE X e (tC v)) (hr : ∀ m H, RU X.K G m H u v) : EE G X e (cCst u) := by
  refine PE.imp h fun σ H Q ⟨m, S, env, u', S', st, re, hc, q⟩ => ?_
  cases hc
  exact q m H v (Ext.refl m H) st (hr m H)
theorem ee_int {i j pos} : EE G X (.Constant (.int i) j pos) (cCst (.int i)) := ee_cst _ pe_int fun _ _ => rfl
theorem ee_bl {b j pos} : EE G X (.Constant (.bool b) j pos) (cCst (.bl b)) := ee_cst _ pe_bl fun _ _ => rfl
theorem ee_non {j pos} : EE G X (.Constant .none j pos) (cCst .non) := ee_cst _ pe_non fun _ _ => rfl
theorem ee_str {x j pos} : EE G X (.Constant (.str x) j pos) (cCst (.str x)) := ee_cst _ pe_str fun _ _ => rfl
def cBin (f : Op2) (a b : Cm U) : Cm U := fun env S => match a env S with
  | none => none
  | some (u, S1) => match b env S1 with
    | none => none
    | some (v, S2) => f u v S2
def cUn (f : Op1) (a : Cm U) : Cm U := fun env S => match a env S with
  | none => none
  | some (u, S1) => f u S1
theorem cUn_some {f : Op1} {a : Cm U} {env : Env'} {S : Sto} {r : U × Sto} (h : cUn f a env S = some r) : ∃ u S1, a env S = some (u, S1) ∧ f u S1 = some r := by
  unfold cUn at h
  split at h
  · cases h
  · rename_i u S1 e
    exact ⟨u, S1, e, h⟩
theorem cBin_some {f : Op2} {a b : Cm U} {env : Env'} {S : Sto} {r : U × Sto} (h : cBin f a b env S = some r) : ∃ u S1 v S2, a env S = some (u, S1) ∧ b env S1 = some (v, S2) ∧ f u v S2 = some r := by
  unfold cBin at h
  split at h
  · cases h
  · rename_i u S1 e
    split at h
    · cases h
    · rename_i v S2 e2
      exact ⟨u, S1, v, S2, e, e2, h⟩
theorem re_op {K : PySem.W.Frag} {f : Op2} {ca cb : Cm U} {σ : L2.St} {H : Hp} {Q : VK} (h : RE K G (cBin f ca cb) σ H Q) : tOp (r2U K G f) (RE K G ca) (RE K G cb) σ H Q := by
  obtain ⟨m, S, env, z, S', st, re, hc, q⟩ := h
  obtain ⟨u, S1, v, S2, e1, e2, e3⟩ := cBin_some hc
  refine ⟨m, S, env, u, S1, st, re, e1, fun m1 H1 x x1 st1 r1 => ⟨m1, S1, env, v, S2, st1, re.keep x1.keeps, e2, fun m2 H2 y x2 st2 r2 => ⟨m2, S2, u, v, z, S', st2, RU.keep x2.keeps _ _ r1, r2, e3, fun m3 H3 w x3 st3 r3 => q m3 H3 w (x1.trans (x2.trans x3)) st3 r3⟩⟩⟩
theorem re_un {K : PySem.W.Frag} {f : Op1} {ca : Cm U} {σ : L2.St} {H : Hp} {Q : VK} (h : RE K G (cUn f ca) σ H Q) : tUn (r1U K G f) (RE K G ca) σ H Q := by
  obtain ⟨m, S, env, z, S', st, re, hc, q⟩ := h
  obtain ⟨u, S1, e1, e3⟩ := cUn_some hc
  exact ⟨m, S, env, u, S1, st, re, e1, fun m1 H1 x x1 st1 r1 => ⟨m1, S1, u, z, S', st1, r1, e3, fun m3 H3 w x3 st3 r3 => q m3 H3 w (x1.trans x3) st3 r3⟩⟩
variable {a b c : Expr} {ca cb cc : Cm U} {pos : Pos}
theorem ee_op {op : Operator} {f : Op2} (ho : OpU G X (binaryOp op) f) (ha : EE G X a ca) (hb : EE G X b cb) : EE G X (.BinOp a op b pos) (cBin f ca cb) := (pe_op ho ha hb).imp fun _ _ _ => re_op
theorem ee_un {op : UnaryOp} {f : Op1} (ho : UnU G X (unaryOp op) f) (ha : EE G X a ca) : EE G X (.UnaryOp op a pos) (cUn f ca) := (pe_un ho ha).imp fun _ _ _ => re_un
theorem ee_cmp {op : CmpOp} {f : Op2} (ho : OpU G X (compareOp op) f) (ha : EE G X a ca) (hb : EE G X b cb) (hm : behindInMarks op b = false) : EE G X (.Compare a [op] [b] pos) (cBin f ca cb) := (pe_cmpR ho ha hb hm).imp fun _ _ _ => re_op
def orO (f g : Op2) : Op2 := fun a b S => match f a b S with
  | some r => some r
  | none => g a b S
theorem opU_or {F : Value → Value → Sem Value} {f g : Op2} (hf : OpU G X F f) (hg : OpU G X F g) : OpU G X F (orO f g) := by
  intro pins s σ H x y v u Q I rx ry ⟨m, S, u1, u2, z, S', st, r1, r2, e, q⟩
  unfold orO at e
  split at e
  · rename_i r e'
    cases e
    exact hf pins s σ H x y v u Q I rx ry ⟨m, S, u1, u2, _, _, st, r1, r2, e', q⟩
  · exact hg pins s σ H x y v u Q I rx ry ⟨m, S, u1, u2, z, S', st, r1, r2, e, q⟩
theorem After.here {K : PySem.W.Frag} {m : Mp} {H : Hp} {u : U} {v : V} {S : Sto} {Q : VK} (q : After K G m H u S Q) (st : Rst K G m H S) (r : RU K G m H u v) : Q v H := q m H v (Ext.refl m H) st r
def o2I (f : Int → Int → Option U) : Op2 := fun a b S => match a, b with
  | .int i, .int j => (f i j).map (·, S)
  | _, _ => none
theorem o2I_some {f : Int → Int → Option U} {a b : U} {S : Sto} {r : U × Sto} (h : o2I f a b S = some r) : ∃ i j u, a = .int i ∧ b = .int j ∧ f i j = some u ∧ r = (u, S) := by
  unfold o2I at h
  split at h
  · rename_i i j
    cases e : f i j with
    | none => rw [e] at h; cases h
    | some u => rw [e] at h; cases h; exact ⟨i, j, u, rfl, rfl, e, rfl⟩
  · cases h
theorem opU_I {F : Value → Value → Sem Value} {C : Int → Int → Prop} {g : Int → Int → V} {f : Int → Int → Option U} (h : OpR X F (rI C g)) (hc : ∀ i j u, f i j = some u → C i j ∧ ∀ m H, RU X.K G m H u (g i j)) : OpU G X F (o2I f) := by
  refine OpR.imp h fun x y H Q ⟨m, S, u1, u2, z, S', st, r1, r2, e, q⟩ => ?_
  obtain ⟨i, j, u, rfl, rfl, e', er⟩ := o2I_some e
  cases er
  exact ⟨i, j, r1, r2, (hc i j _ e').1, q.here st ((hc i j _ e').2 m H)⟩
theorem opU_I0 {F : Value → Value → Sem Value} {g : Int → Int → V} {f : Int → Int → U} (h : OpR X F (rI0 g)) (hc : ∀ i j m H, RU X.K G m H (f i j) (g i j)) : OpU G X F (o2I fun i j => some (f i j)) := by
  refine OpR.imp h fun x y H Q ⟨m, S, u1, u2, z, S', st, r1, r2, e, q⟩ => ?_
  obtain ⟨i, j, u, rfl, rfl, e', er⟩ := o2I_some e
  cases er
  cases e'
  exact ⟨i, j, r1, r2, q.here st (hc i j m H)⟩
end OF
namespace OF
open PySem PySem.Spec PyProof.Rows L2
variable {X : Cx} {G : Gx}
section
variable {K : PySem.W.Frag} {m : Mp} {H : Hp} {S : Sto}
theorem keeps_upd {p : Addr} {o : HO} (hp : H p = none) : Keeps m H m (upd H p o) := by
  have ne : ∀ a u, Rd H a u → a ≠ p := fun a u h e => by
    subst e
    rcases h with h | ⟨o, h⟩ <;> rw [hp] at h <;> cases h
  refine ⟨fun a u h n nx => ⟨?_, n, nx⟩, fun _ _ h => h, fun a xs h n nx => by rw [upd_ne (ne a _ (.inl h))]; exact h⟩
  have := ne a u h
  rcases h with h | ⟨o, h⟩
  · exact .inl (by rw [upd_ne this]; exact h)
  · exact .inr ⟨o, by rw [upd_ne this]; exact h⟩
theorem RO.nt : ∀ {o : O} {ho : HO}, RO K G m H o ho → ∀ b, ho ≠ bad b
  | .lst _, _, ⟨_, e, _⟩, b, h => by rw [e] at h; cases b <;> cases h
  | .dct _, _, ⟨_, e, _⟩, b, h => by rw [e] at h; cases b <;> cases h
  | .dtt _, _, ⟨_, e, _⟩, b, h => by rw [e] at h; cases b <;> cases h
  | .ins _ _, _, ⟨_, _, _, e, _⟩, b, h => by rw [e] at h; cases b <;> cases h
  | .frd _, _, ⟨_, _, e, _⟩, b, h => by rw [e] at h; cases b <;> cases h
  | .ftt _, _, ⟨_, _, e, _⟩, b, h => by rw [e] at h; cases b <;> cases h
  | .exc _ _, _, ⟨_, _, _, e, _⟩, b, h => by rw [e] at h; cases b <;> cases h
theorem Rst.at (st : Rst K G m H S) {n : Nat} {o : O} (h : S[n]? = some o) : ∃ a ho, m.c[n]? = some a ∧ H a = some ho ∧ RO K G m H o ho := by
  have hl : n < m.c.length := by rw [st.len]; exact (List.getElem?_eq_some_iff.mp h).1
  obtain ⟨ho, e, r⟩ := st.ob n o _ h (List.getElem?_eq_getElem hl)
  exact ⟨_, ho, List.getElem?_eq_getElem hl, e, r⟩
theorem Rst.cell (st : Rst K G m H S) {a : Addr} (h : a ∈ m.c) : ∃ ho, H a = some ho := by
  obtain ⟨n, hn⟩ := List.getElem?_of_mem h
  have hl : n < S.length := by rw [← st.len]; exact (List.getElem?_eq_some_iff.mp hn).1
  obtain ⟨ho, e, _⟩ := st.ob n _ a (List.getElem?_eq_getElem hl) hn
  exact ⟨ho, e⟩
theorem Rst.nt (st : Rst K G m H S) {a : Addr} (h : a ∈ m.c) (xs : Bad) : H a ≠ some (bad xs) := fun z => by
  obtain ⟨n, hn⟩ := List.getElem?_of_mem h
  have hl : n < S.length := by rw [← st.len]; exact (List.getElem?_eq_some_iff.mp hn).1
  obtain ⟨ho, e, r⟩ := st.ob n _ a (List.getElem?_eq_getElem hl) hn
  rw [e] at z
  exact r.nt xs (Option.some.inj z)
theorem Rst.none_c (st : Rst K G m H S) {p : Addr} (hp : H p = none) : p ∉ m.c := fun h => by
  obtain ⟨ho, e⟩ := st.cell h
  rw [hp] at e; cases e
theorem Rst.none_x (st : Rst K G m H S) {p : Addr} (hp : H p = none) : p ∉ m.x := fun h => by
  have := st.xs p h
  rw [hp] at this; cases this
theorem Rst.new (st : Rst K G m H S) {p : Addr} {o : HO} (hp : H p = none) : Rst K G m (upd H p o) S := by
  refine ⟨st.nd, st.len, fun n ob a h1 h2 => ?_, fun a ha => ?_, st.nx, fun a ha xs => by rw [upd_ne (show a ≠ p from fun e => st.none_x hp (e ▸ ha))]; exact st.tx a ha xs⟩
  · obtain ⟨ho, e, r⟩ := st.ob n ob a h1 h2
    exact ⟨ho, by rw [upd_ne (ne_of_none e hp)]; exact e, RO.keep (keeps_upd hp) _ _ r⟩
  · by_cases e : a = p
    · subst e; rw [upd_same]; rfl
    · rw [upd_ne e]; exact st.xs a ha
theorem Ext.upd {p : Addr} {o : HO} (hp : H p = none) : Ext m H m (upd H p o) := by
  refine ⟨⟨[], by simp⟩, ⟨[], rfl, fun _ h => nomatch h⟩, fun a u h _ => by rw [upd_ne (ne_of_none h hp)]; exact h, fun a _ h => ?_, fun a h n => absurd h n, fun a ob u h => by rw [upd_ne (ne_of_none h hp)]; exact h⟩
  by_cases e : a = p
  · subst e; rw [upd_same]; rfl
  · rw [upd_ne e]; exact h
theorem Ext.cell {p : Addr} {o : HO} (hp : H p = none) : Ext m H ⟨m.c ++ [p], m.x⟩ (L2.upd H p o) := by
  refine ⟨⟨[p], rfl⟩, ⟨[], rfl, fun _ h => nomatch h⟩, fun a u h _ => by rw [upd_ne (ne_of_none h hp)]; exact h, fun a _ h => ?_, fun a h n => ?_, fun a ob u h => by rw [upd_ne (ne_of_none h hp)]; exact h⟩
  · by_cases e : a = p
    · subst e; rw [upd_same]; rfl
    · rw [upd_ne e]; exact h
  · rcases List.mem_append.mp h with h | h
    · exact absurd h n
    · have : a = p := by simpa using h
      subst this; exact hp
theorem Rst.push (st : Rst K G m H S) {p : Addr} {o : O} {ho : HO} (hp : H p = none) (r : RO K G ⟨m.c ++ [p], m.x⟩ (L2.upd H p ho) o ho) : Rst K G ⟨m.c ++ [p], m.x⟩ (L2.upd H p ho) (S ++ [o]) := by
  have k := (Ext.cell (m := m) (o := ho) hp).keeps
  refine ⟨?_, by simp [st.len], fun n ob a h1 h2 => ?_, fun a ha => ?_, fun a ha => ?_, fun a ha xs => by rw [upd_ne (show a ≠ p from fun e => st.none_x hp (e ▸ ha))]; exact st.tx a ha xs⟩
  · refine List.nodup_append.mpr ⟨st.nd, by simp, fun a ha b hb => ?_⟩
    have : b = p := by simpa using hb
    subst this
    intro e; subst e
    exact st.none_c hp ha
  · by_cases hn : n < S.length
    · rw [List.getElem?_append_left hn] at h1
      rw [List.getElem?_append_left (by rw [st.len]; exact hn)] at h2
      obtain ⟨ho', e, r'⟩ := st.ob n ob a h1 h2
      exact ⟨ho', by rw [upd_ne (ne_of_none e hp)]; exact e, RO.keep k _ _ r'⟩
    · rw [List.getElem?_append_right (by omega)] at h1
      rw [List.getElem?_append_right (by rw [st.len]; omega)] at h2
      have e0 : n - S.length = 0 := by
        have := (List.getElem?_eq_some_iff.mp h1).1
        simp at this; omega
      rw [e0] at h1
      rw [st.len, e0] at h2
      cases h1; cases h2
      exact ⟨ho, upd_same, r⟩
  · by_cases e : a = p
    · subst e; rw [upd_same]; rfl
    · rw [upd_ne e]; exact st.xs a ha
  · intro h
    rcases List.mem_append.mp h with h | h
    · exact st.nx a ha h
    · have : a = p := by simpa using h
      subst this
      exact st.none_x hp ha
theorem keeps_set {p : Addr} {o : HO} (hp : p ∈ m.c) : Keeps m H m (L2.upd H p o) := by
  refine ⟨fun a u h n nx => ⟨?_, n, nx⟩, fun _ _ h => h, fun a xs h n nx => by rw [upd_ne (show a ≠ p from fun e => n (e ▸ hp))]; exact h⟩
  have : a ≠ p := fun e => n (e ▸ hp)
  rcases h with h | ⟨o, h⟩
  · exact .inl (by rw [upd_ne this]; exact h)
  · exact .inr ⟨o, by rw [upd_ne this]; exact h⟩
theorem Ext.set {p : Addr} {o : HO} (hp : p ∈ m.c) (hf : ∀ ob u, H p ≠ some (.frz ob u)) : Ext m H m (L2.upd H p o) := by
  refine ⟨⟨[], by simp⟩, ⟨[], rfl, fun _ h => nomatch h⟩, fun a u h n => by
    have ne : a ≠ p := fun e => n (e ▸ hp)
    rw [upd_ne ne]; exact h, fun a _ h => ?_, fun a h n => absurd h n, fun a ob u h => by
      have ne : a ≠ p := fun e => hf ob u (e ▸ h)
      rw [upd_ne ne]; exact h⟩
  by_cases e : a = p
  · subst e; rw [upd_same]; rfl
  · rw [upd_ne e]; exact h
theorem Rst.set (st : Rst K G m H S) {n : Nat} {p : Addr} {o : O} {ho : HO} (hp : m.c[n]? = some p) (r : RO K G m (L2.upd H p ho) o ho) : Rst K G m (L2.upd H p ho) (S.set n o) := by
  have hm : p ∈ m.c := List.mem_of_getElem? hp
  refine ⟨st.nd, by simp [st.len], fun j ob a h1 h2 => ?_, fun a ha => ?_, st.nx, fun a ha xs => by rw [upd_ne (show a ≠ p from fun e => st.nx a ha (e ▸ hm))]; exact st.tx a ha xs⟩
  · by_cases hj : j = n
    · subst hj
      rw [hp] at h2; cases h2
      have hl : j < S.length := by rw [← st.len]; exact (List.getElem?_eq_some_iff.mp hp).1
      rw [List.getElem?_set_self hl] at h1
      cases h1
      exact ⟨ho, upd_same, r⟩
    · rw [List.getElem?_set_ne (Ne.symm hj)] at h1
      obtain ⟨ho', e, r'⟩ := st.ob j ob a h1 h2
      have ne : a ≠ p := fun e => by
        subst e
        exact hj (nd_ix st.nd h2 hp)
      exact ⟨ho', by rw [upd_ne ne]; exact e, RO.keep (keeps_set hm) _ _ r'⟩
  · by_cases e : a = p
    · subst e; rw [upd_same]; rfl
    · rw [upd_ne e]; exact st.xs a ha
theorem RUs.length : ∀ {us : List U} {vs : List V}, RUs K G m H us vs → vs.length = us.length
  | [], _, h => by unfold RUs at h; subst h; rfl
  | u :: us, vs, h => by
    unfold RUs at h
    obtain ⟨v, r, e, _, t⟩ := h
    subst e
    simp [RUs.length t]
theorem RUs.get : ∀ {us : List U} {vs : List V} {i : Nat} {u : U}, RUs K G m H us vs → us[i]? = some u → ∃ v, vs[i]? = some v ∧ RU K G m H u v
  | [], _, i, u, _, e => by simp at e
  | w :: us, vs, i, u, h, e => by
    unfold RUs at h
    obtain ⟨v, r, e1, q, t⟩ := h
    subst e1
    cases i with
    | zero => simp at e; subst e; exact ⟨v, rfl, q⟩
    | succ i =>
      simp at e
      obtain ⟨v', e', q'⟩ := RUs.get t e
      exact ⟨v', by simpa using e', q'⟩
theorem RUs.append : ∀ {us us' : List U} {vs vs' : List V}, RUs K G m H us vs → RUs K G m H us' vs' → RUs K G m H (us ++ us') (vs ++ vs')
  | [], _, _, _, h, h' => by unfold RUs at h; subst h; exact h'
  | u :: us, us', vs, vs', h, h' => by
    unfold RUs at h
    obtain ⟨v, r, e, q, t⟩ := h
    subst e
    show RUs K G m H (u :: (us ++ us')) (v :: (r ++ vs'))
    unfold RUs
    exact ⟨v, _, rfl, q, RUs.append t h'⟩
theorem RUs.one {u : U} {v : V} (r : RU K G m H u v) : RUs K G m H [u] [v] := by
  unfold RUs
  exact ⟨v, [], rfl, r, by unfold RUs; rfl⟩
theorem RUs.nil : RUs K G m H [] [] := by unfold RUs; rfl
theorem RUs.cons {u : U} {v : V} {us : List U} {vs : List V} (r : RU K G m H u v) (t : RUs K G m H us vs) : RUs K G m H (u :: us) (v :: vs) := by
  unfold RUs
  exact ⟨v, vs, rfl, r, t⟩
theorem RUs.uncons {u : U} {us : List U} {vs : List V} (t : RUs K G m H (u :: us) vs) : ∃ v r, vs = v :: r ∧ RU K G m H u v ∧ RUs K G m H us r := by
  unfold RUs at t
  exact t
theorem RUs.eqnil {vs : List V} (t : RUs K G m H [] vs) : vs = [] := by
  unfold RUs at t
  exact t
theorem RUs.set : ∀ {us : List U} {vs : List V} (i : Nat) {u : U} {v : V}, RU K G m H u v → RUs K G m H us vs → RUs K G m H (us.set i u) (vs.set i v)
  | [], _, i, u, v, _, h => by unfold RUs at h; subst h; exact RUs.nil
  | w :: us, vs, i, u, v, r, h => by
    unfold RUs at h
    obtain ⟨x, t, e, q, tl⟩ := h
    subst e
    cases i with
    | zero => exact RUs.cons r tl
    | succ i => exact RUs.cons q (RUs.set i r tl)
theorem RU.tupT {us : List U} {v : V} (h : RU K G m H (.tup us) v) : ∃ a vs, v = .ref a ∧ SqT K H a vs ∧ RUs K G m H us vs := by
  unfold RU at h
  obtain ⟨a, vs, e, q, r⟩ := h
  refine ⟨a, vs, e, ?_, r⟩
  rcases q with ⟨q, _⟩ | q
  · exact .inl (.inl q)
  · exact .inr q.2
theorem RU.lstL {us : List U} {v : V} (h : RU K G m H (.lst us) v) : ∃ a vs, v = .ref a ∧ SqL K H a vs ∧ RUs K G m H us vs := by
  unfold RU at h
  obtain ⟨a, vs, e, q, n, nx, r⟩ := h
  exact ⟨a, vs, e, .inl q, r⟩
theorem RU.lstR {us : List U} {v : V} (h : RU K G m H (.lst us) v) : ∃ a vs, v = .ref a ∧ Rd H a (.lst vs) ∧ a ∉ m.c ∧ a ∉ m.x ∧ RUs K G m H us vs := by
  unfold RU at h
  exact h
theorem RU.scrL {us : List U} {v : V} (h : RU K G m H (.scr us) v) : ∃ a vs, v = .ref a ∧ SqL K H a vs ∧ RUs K G m H us vs := by
  unfold RU at h
  obtain ⟨a, vs, e, q, r⟩ := h
  refine ⟨a, vs, e, ?_, r⟩
  rcases q with ⟨q, _⟩ | q
  · exact .inl q
  · exact .inr q
theorem RU.newTup {us : List U} {vs : List V} {p : Addr} (st : Rst K G m H S) (hp : H p = none) (r : RUs K G m H us vs) : RU K G m (L2.upd H p (.tup vs)) (.tup us) (.ref p) := by
  unfold RU
  exact ⟨p, vs, rfl, .inl ⟨upd_same, st.none_c hp, st.none_x hp⟩, RUs.keep (keeps_upd hp) _ _ r⟩
theorem RU.newLst {us : List U} {vs : List V} {p : Addr} (st : Rst K G m H S) (hp : H p = none) (r : RUs K G m H us vs) : RU K G m (L2.upd H p (.lst vs)) (.lst us) (.ref p) := by
  unfold RU
  exact ⟨p, vs, rfl, .inl upd_same, st.none_c hp, st.none_x hp, RUs.keep (keeps_upd hp) _ _ r⟩
theorem RU.cell {n : Nat} {a : Addr} (h : m.c[n]? = some a) : RU K G m H (.ref n) (.ref a) := by
  unfold RU
  exact ⟨a, rfl, h⟩
theorem After.tup {us : List U} {vs : List V} {Q : VK} (q : After K G m H (.tup us) S Q) (st : Rst K G m H S) (r : RUs K G m H us vs) : ∀ p, H p = none → Q (.ref p) (L2.upd H p (.tup vs)) := fun p hp =>
  q m _ _ (Ext.upd hp) (st.new hp) (RU.newTup st hp r)
theorem After.lst {us : List U} {vs : List V} {Q : VK} (q : After K G m H (.lst us) S Q) (st : Rst K G m H S) (r : RUs K G m H us vs) : ∀ p, H p = none → Q (.ref p) (L2.upd H p (.lst vs)) := fun p hp =>
  q m _ _ (Ext.upd hp) (st.new hp) (RU.newLst st hp r)
theorem After.cell {o : O} {ho : HO} {Q : VK} (q : After K G m H (.ref S.length) (S ++ [o]) Q) (st : Rst K G m H S) (r : RO K G m H o ho) : ∀ p, H p = none → Q (.ref p) (L2.upd H p ho) := fun p hp => by
  have r' := RO.keep (Ext.cell (m := m) (o := ho) hp).keeps _ _ r
  refine q _ _ _ (Ext.cell hp) (st.push hp r') (RU.cell ?_)
  rw [← st.len]
  simp
end
def cNil : Cm (List U) := fun _ S => some ([], S)
def cCons (a : Cm U) (r : Cm (List U)) : Cm (List U) := fun env S => match a env S with
  | none => none
  | some (u, S1) => match r env S1 with
    | none => none
    | some (us, S2) => some (u :: us, S2)
theorem cCons_some {a : Cm U} {r : Cm (List U)} {env : Env'} {S S' : Sto} {us : List U} (h : cCons a r env S = some (us, S')) : ∃ u S1 t, a env S = some (u, S1) ∧ r env S1 = some (t, S') ∧ us = u :: t := by
  unfold cCons at h
  split at h
  · cases h
  · rename_i u S1 e
    split at h
    · cases h
    · rename_i t S2 e2
      cases h
      exact ⟨u, S1, t, e, e2, rfl⟩
theorem re_cons {K : PySem.W.Frag} {ca : Cm U} {cr : Cm (List U)} {σ : L2.St} {H : Hp} {Q : List V → Hp → Prop} (h : RA K G (cCons ca cr) σ H Q) : tCons (RE K G ca) (RA K G cr) σ H Q := by
  obtain ⟨m, S, env, us, S', st, re, hc, q⟩ := h
  obtain ⟨u, S1, t, e1, e2, rfl⟩ := cCons_some hc
  refine ⟨m, S, env, u, S1, st, re, e1, fun m1 H1 x x1 st1 r1 => ⟨m1, S1, env, t, S', st1, re.keep x1.keeps, e2, fun m2 H2 xs x2 st2 r2 => ?_⟩⟩
  exact q m2 H2 (x :: xs) (x1.trans x2) st2 (RUs.cons (RU.keep x2.keeps _ _ r1) r2)
theorem ea_nil : EA G X [] cNil := pa_nil.imp fun σ H Q ⟨m, S, env, us, S', st, re, hc, q⟩ => by
  cases hc
  exact q m H [] (Ext.refl m H) st RUs.nil
theorem ea_cons {e : Expr} {es : List Expr} {ca : Cm U} {cr : Cm (List U)} (ha : EE G X e ca) (hr : EA G X es cr) (hs : starEach (e :: es) X.env = (false, eval e X.env) :: starEach es X.env := by rfl) : EA G X (e :: es) (cCons ca cr) := (pa_cons ha hr hs).imp fun _ _ _ => re_cons
def cArg (f : OpN) (a : Cm (List U)) : Cm U := fun env S => match a env S with
  | none => none
  | some (us, S1) => f us S1
theorem cArg_some {f : OpN} {a : Cm (List U)} {env : Env'} {S : Sto} {r : U × Sto} (h : cArg f a env S = some r) : ∃ us S1, a env S = some (us, S1) ∧ f us S1 = some r := by
  unfold cArg at h
  split at h
  · cases h
  · rename_i us S1 e
    exact ⟨us, S1, e, h⟩
theorem re_arg {K : PySem.W.Frag} {f : OpN} {ca : Cm (List U)} {σ : L2.St} {H : Hp} {Q : VK} (h : RE K G (cArg f ca) σ H Q) : RA K G ca σ H fun xs H1 => rNU K G f xs H1 Q := by
  obtain ⟨m, S, env, z, S', st, re, hc, q⟩ := h
  obtain ⟨us, S1, e1, e2⟩ := cArg_some hc
  exact ⟨m, S, env, us, S1, st, re, e1, fun m1 H1 xs x1 st1 r1 => ⟨m1, S1, us, z, S', st1, r1, e2, fun m2 H2 v x2 st2 r2 => q m2 H2 v (x1.trans x2) st2 r2⟩⟩
def oTup : OpN := fun us S => if us.length ≤ sizeLine then some (.tup us, S) else none
def oLst : OpN := fun us S => if us.length ≤ sizeLine then some (.lst us, S) else none
def oLstM : OpN := fun us S => if us.length ≤ sizeLine then some (.ref S.length, S ++ [.lst us]) else none
variable {es : List Expr} {ca : Cm (List U)} {pos : Pos}
theorem ee_tup {k : Nat} (h : EA G X es ca) : EE G X (.Tuple es k pos) (cArg oTup ca) := (pe_tup h).imp fun σ H Q h => by
  obtain ⟨m, S, env, us, S1, st, re, e1, q⟩ := re_arg h
  refine ⟨m, S, env, us, S1, st, re, e1, fun m1 H1 xs x1 st1 r1 => ?_⟩
  obtain ⟨m2, S2, us2, z, S', st2, r2, e2, q2⟩ := q m1 H1 xs x1 st1 r1
  unfold oTup at e2
  split at e2
  · cases e2
    exact ⟨by rw [r2.length]; assumption, q2.tup st2 r2⟩
  · cases e2
theorem ee_lst (h : EA G X es ca) : EE G X (.List es pos) (cArg oLst ca) := (pe_lst h).imp fun σ H Q h => by
  obtain ⟨m, S, env, us, S1, st, re, e1, q⟩ := re_arg h
  refine ⟨m, S, env, us, S1, st, re, e1, fun m1 H1 xs x1 st1 r1 => ?_⟩
  obtain ⟨m2, S2, us2, z, S', st2, r2, e2, q2⟩ := q m1 H1 xs x1 st1 r1
  unfold oLst at e2
  split at e2
  · cases e2
    exact ⟨by rw [r2.length]; assumption, q2.lst st2 r2⟩
  · cases e2
theorem ee_lstM (h : EA G X es ca) : EE G X (.List es pos) (cArg oLstM ca) := (pe_lst h).imp fun σ H Q h => by
  obtain ⟨m, S, env, us, S1, st, re, e1, q⟩ := re_arg h
  refine ⟨m, S, env, us, S1, st, re, e1, fun m1 H1 xs x1 st1 r1 => ?_⟩
  obtain ⟨m2, S2, us2, z, S', st2, r2, e2, q2⟩ := q m1 H1 xs x1 st1 r1
  unfold oLstM at e2
  split at e2
  · cases e2
    exact ⟨by rw [r2.length]; assumption, q2.cell st2 ⟨xs, rfl, r2⟩⟩
  · cases e2
end OF
namespace OF
open PySem PySem.Spec PyProof.Rows L2
variable {X : Cx} {G : Gx}
inductive Fl where
  | nx
  | ret (u : U)
  | brk
  | ct
abbrev Sm := Env' → Sto → Option (Fl × Env' × Sto)
def AfterE (K : PySem.W.Frag) (G : Gx) (m : Mp) (H : Hp) (env : Env') (S' : Sto) (Q : L2.St → Hp → Prop) : Prop := ∀ m' H' σ', Ext m H m' H' → Rst K G m' H' S' → Renv K G m' H' env σ' → Q σ' H'
def AfterS (K : PySem.W.Frag) (G : Gx) (m : Mp) (H : Hp) (fl : Fl) (env : Env') (S' : Sto) (D : Ends) : Prop := match fl with
  | .nx => AfterE K G m H env S' D.nx
  | .ret u => After K G m H u S' D.rt
  | .brk => AfterE K G m H env S' D.bk
  | .ct => AfterE K G m H env S' D.ct
def RS (K : PySem.W.Frag) (G : Gx) (c : Sm) : TS := fun D σ H => ∃ m S env fl env' S', Rst K G m H S ∧ Renv K G m H env σ ∧ c env S = some (fl, env', S') ∧ AfterS K G m H fl env' S' D
abbrev ES (G : Gx) (X : Cx) (st : Stmt) (c : Sm) : Prop := PS X st (RS X.K G c)
abbrev ESs (G : Gx) (X : Cx) (st : List Stmt) (c : Sm) : Prop := PSs X st (RS X.K G c)
theorem _root_.L2.PS.imp {st : Stmt} {t t' : TS} (h : PS X st t) (i : ∀ D σ H, t' D σ H → t D σ H) : PS X st t' := ⟨fun pins s σ H D I hw => h.run pins s σ H D I (i D σ H hw)⟩
theorem _root_.L2.PSs.imp {st : List Stmt} {t t' : TS} (h : PSs X st t) (i : ∀ D σ H, t' D σ H → t D σ H) : PSs X st t' := ⟨fun pins s σ H D I hw => h.run pins s σ H D I (i D σ H hw)⟩
theorem After.mono {K : PySem.W.Frag} {m m1 : Mp} {H H1 : Hp} {u : U} {S : Sto} {Q : VK} (q : After K G m H u S Q) (x : Ext m H m1 H1) : After K G m1 H1 u S Q := fun m' H' v x' st r => q m' H' v (x.trans x') st r
theorem AfterE.mono {K : PySem.W.Frag} {m m1 : Mp} {H H1 : Hp} {e : Env'} {S : Sto} {Q : L2.St → Hp → Prop} (q : AfterE K G m H e S Q) (x : Ext m H m1 H1) : AfterE K G m1 H1 e S Q := fun m' H' v x' st r => q m' H' v (x.trans x') st r
theorem AfterB.mono {K : PySem.W.Frag} {m m1 : Mp} {H H1 : Hp} {b : Bool} {S : Sto} {Q : Bool → Hp → Prop} (q : AfterB K G m H b S Q) (x : Ext m H m1 H1) : AfterB K G m1 H1 b S Q := fun m' H' x' st => q m' H' (x.trans x') st
theorem AfterS.mono {K : PySem.W.Frag} {m m1 : Mp} {H H1 : Hp} {fl : Fl} {e : Env'} {S : Sto} {D : Ends} (q : AfterS K G m H fl e S D) (x : Ext m H m1 H1) : AfterS K G m1 H1 fl e S D := by
  cases fl with
  | nx => exact AfterE.mono q x
  | ret u => exact After.mono q x
  | brk => exact AfterE.mono q x
  | ct => exact AfterE.mono q x
def sNil : Sm := fun env S => some (.nx, env, S)
def sSeq (a b : Sm) : Sm := fun env S => match a env S with
  | none => none
  | some (.nx, env1, S1) => b env1 S1
  | some r => some r
theorem ss_nil : ESs G X [] sNil := pss_nil.imp fun D σ H ⟨m, S, env, fl, env', S', st, re, hc, q⟩ => by
  cases hc
  exact q m H σ (Ext.refl m H) st re
theorem rs_seq {K : PySem.W.Frag} {a b : Sm} {D : Ends} {σ : L2.St} {H : Hp} (h : RS K G (sSeq a b) D σ H) : tSeq (RS K G a) (RS K G b) D σ H := by
  obtain ⟨m, S, env, fl, env', S', st, re, hc, q⟩ := h
  unfold sSeq at hc
  split at hc
  · cases hc
  · rename_i env1 S1 e
    exact ⟨m, S, env, .nx, env1, S1, st, re, e, fun m1 H1 σ1 x1 st1 re1 => ⟨m1, S1, env1, fl, env', S', st1, re1, hc, q.mono x1⟩⟩
  · rename_i r hne e
    cases hc
    refine ⟨m, S, env, fl, env', S', st, re, e, ?_⟩
    cases fl with
    | nx => exact absurd rfl (hne _ _)
    | ret u => exact q
    | brk => exact q
    | ct => exact q
theorem ss_cons {st : Stmt} {rest : List Stmt} {a b : Sm} (h1 : ES G X st a) (h2 : ESs G X rest b) : ESs G X (st :: rest) (sSeq a b) := (pss_cons h1 h2).imp fun _ _ _ => rs_seq
theorem ss_one {st : Stmt} {a : Sm} (h1 : ES G X st a) : ESs G X [st] a := pss_one h1
variable {e e' : Expr} {ca cb : Cm U} {pos : Pos}
def sExpr (a : Cm U) : Sm := fun env S => match a env S with
  | none => none
  | some (_, S1) => some (.nx, env, S1)
theorem es_expr (he : EE G X e ca) (hs : swapsWith e none pos.line X.env = pure false := by rfl) : ES G X (.Expr e pos) (sExpr ca) := (ps_expr he hs).imp fun D σ H ⟨m, S, env, fl, env', S', st, re, hc, q⟩ => by
  unfold sExpr at hc
  split at hc
  · cases hc
  · rename_i u S1 e1
    cases hc
    exact ⟨m, S, _, u, _, st, re, e1, fun m1 H1 v x1 st1 r1 => q m1 H1 σ x1 st1 (re.keep x1.keeps)⟩
def sRet (a : Cm U) : Sm := fun env S => match a env S with
  | none => none
  | some (u, S1) => some (.ret u, env, S1)
theorem es_ret (he : EE G X e ca) : ES G X (.Return (some e) pos) (sRet ca) := (ps_ret he).imp fun D σ H ⟨m, S, env, fl, env', S', st, re, hc, q⟩ => by
  unfold sRet at hc
  split at hc
  · cases hc
  · rename_i u S1 e1
    cases hc
    exact ⟨m, S, _, _, _, st, re, e1, q⟩
def sIf (c : Cm Bool) (a b : Sm) : Sm := fun env S => match c env S with
  | none => none
  | some (true, S1) => a env S1
  | some (false, S1) => b env S1
theorem es_if {c : Expr} {a b : List Stmt} {cc : Cm Bool} {sa sb : Sm} (hc : ET G X c cc) (ha : ESs G X a sa) (hb : ESs G X b sb) : ES G X (.If c a b pos) (sIf cc sa sb) := (ps_if hc ha hb).imp fun D σ H ⟨m, S, env, fl, env', S', st, re, hc, q⟩ => by
  unfold sIf at hc
  split at hc
  · cases hc
  · rename_i S1 e1
    refine ⟨m, S, env, true, S1, st, re, e1, fun m1 H1 x1 st1 => ?_⟩
    exact iteT ⟨m1, S1, env, fl, env', S', st1, re.keep x1.keeps, hc, q.mono x1⟩
  · rename_i S1 e1
    refine ⟨m, S, env, false, S1, st, re, e1, fun m1 H1 x1 st1 => ?_⟩
    exact iteF ⟨m1, S1, env, fl, env', S', st1, re.keep x1.keeps, hc, q.mono x1⟩
abbrev Gm := U → Env' → Sto → Option (Env' × Sto)
def RG (K : PySem.W.Frag) (G : Gx) (g : Gm) : TG := fun v σ H Q => ∃ m S env u env' S', Rst K G m H S ∧ Renv K G m H env σ ∧ RU K G m H u v ∧ g u env S = some (env', S') ∧ AfterE K G m H env' S' Q
abbrev EG (G : Gx) (X : Cx) (tg : Expr) (g : Gm) : Prop := PG X tg (RG X.K G g)
abbrev Gms := List U → Env' → Sto → Option (Env' × Sto)
theorem _root_.L2.PG.imp {tg : Expr} {t t' : TG} (h : PG X tg t) (i : ∀ v σ H Q, t' v σ H Q → t v σ H Q) : PG X tg t' := ⟨fun pins s σ H v u Q I r hw => h.run pins s σ H v u Q I r (i v σ H Q hw)⟩
theorem _root_.L2.PGs.imp {tg : List Expr} {t t' : TGs} (h : PGs X tg t) (i : ∀ v σ H Q, t' v σ H Q → t v σ H Q) : PGs X tg t' := ⟨fun pins s σ H v u Q I r hw => h.run pins s σ H v u Q I r (i v σ H Q hw)⟩
theorem Renv.set {K : PySem.W.Frag} {m : Mp} {H : Hp} {env : Env'} {σ : L2.St} {u : U} {v : V} (r : Renv K G m H env σ) (i : Nat) (h : RU K G m H u v) : Renv K G m H (env.set i (some u)) (σ.set i (some v)) := by
  refine ⟨by simp [r.1], fun j w hj => ?_⟩
  by_cases e : i = j
  · subst e
    have hl : i < env.length := by
      have := (List.getElem?_eq_some_iff.mp hj).1
      simpa using this
    rw [List.getElem?_set_self hl] at hj
    cases hj
    exact ⟨v, by rw [List.getElem?_set_self (by rw [← r.1]; exact hl)], h⟩
  · rw [List.getElem?_set_ne e] at hj
    obtain ⟨v', e', q⟩ := r.2 j w hj
    exact ⟨v', by rw [List.getElem?_set_ne e]; exact e', q⟩
def gmName (i : Nat) : Gm := fun u env S => some (env.set i (some u), S)
def gmsNil : Gms := fun us env S => match us with
  | [] => some (env, S)
  | _ => none
def gmsCons (g : Gm) (r : Gms) : Gms := fun us env S => match us with
  | [] => none
  | u :: t => match g u env S with
    | none => none
    | some (env1, S1) => r t env1 S1
def gmTup (n : Nat) (g : Gms) : Gm := fun u env S => match u with
  | .tup us => if us.length = n then g us env S else none
  | _ => none
def sAsg (a : Cm U) (g : Gm) : Sm := fun env S => match a env S with
  | none => none
  | some (u, S1) => match g u env S1 with
    | none => none
    | some (env2, S2) => some (.nx, env2, S2)
theorem rs_asg {K : PySem.W.Frag} {g : Gm} {D : Ends} {σ : L2.St} {H : Hp} (h : RS K G (sAsg ca g) D σ H) : tAsg (RE K G ca) (RG K G g) D σ H := by
  obtain ⟨m, S, env, fl, env', S', st, re, hc, q⟩ := h
  unfold sAsg at hc
  split at hc
  · cases hc
  · rename_i u S1 e1
    split at hc
    · cases hc
    · rename_i env2 S2 e2
      cases hc
      refine ⟨m, S, env, u, S1, st, re, e1, fun m1 H1 v x1 st1 r1 => ?_⟩
      exact ⟨m1, S1, env, u, _, _, st1, re.keep x1.keeps, r1, e2, AfterE.mono q x1⟩
theorem es_asg {tg : Expr} {g : Gm} (he : EE G X e ca) (hg : EG G X tg g) (hs : swapsWithSole [tg] e pos.line X.env = pure false := by rfl) (hw : swappedStores [tg] e X.env = pure none := by rfl)
    (h1 : (assignEach [tg] X.env).map (·.2) = [assign tg X.env] := by rfl) : ES G X (.Assign [tg] e pos) (sAsg ca g) := (ps_asg he hg hs hw h1).imp fun _ _ _ => rs_asg
theorem es_set {i : Nat} {x : Str} {pos' : Pos} (hN : X.N.Nodup) (hi : X.N[i]? = some x) (hx : Loc X.env.scope x) (he : EE G X e ca) (hs : swapsWith e (some (.Name x pos')) pos.line X.env = pure false := by rfl) (hf : X.fn x = true ∨ X.env.scope.names.lookup x = some .local := by first | exact .inl rfl | exact .inr rfl | assumption) :
    ES G X (.Assign [.Name x pos'] e pos) (sAsg ca (gmName i)) := (ps_set hN hi hx he hs hf).imp fun D σ H h => by
  obtain ⟨m, S, env, u, S1, st, re, e1, q⟩ := rs_asg h
  refine ⟨m, S, env, u, S1, st, re, e1, fun m1 H1 v x1 st1 r1 => ?_⟩
  obtain ⟨m2, S2, env2, u2, env3, S3, st2, re2, r2, e2, q2⟩ := q m1 H1 v x1 st1 r1
  cases e2
  exact q2 m2 H1 _ (Ext.refl m2 H1) st2 (re2.set i r2)
end OF
namespace OF
open PySem PySem.Spec PyProof.Rows L2
variable {X : Cx} {G : Gx}
def truU (S : Sto) : U → Option Bool
  | .non => some false
  | .bl b => some b
  | .int i => some (i != 0)
  | .str y => if y.length ≤ sizeLine then some ((y.length : Int) != 0) else none
  | .tup us => some (!us.isEmpty)
  | .lst us => some (!us.isEmpty)
  | .scr us => some (!us.isEmpty)
  | .ref n => match S[n]? with
    | some (.lst us) => some (!us.isEmpty)
    | some (.dct us) => some (!us.isEmpty)
    | _ => none
  | _ => none
section
variable {K : PySem.W.Frag} {m : Mp} {H : Hp} {S : Sto}
theorem RUs.empty {us : List U} {vs : List V} (r : RUs K G m H us vs) : us.isEmpty = vs.isEmpty := by
  have := r.length
  cases us <;> cases vs <;> simp at this ⊢
theorem RKs.length : ∀ {us : List (Key × U)} {vs : List (Key × V)}, RKs K G m H us vs → vs.length = us.length
  | [], _, h => by unfold RKs at h; subst h; rfl
  | (k, u) :: us, vs, h => by
    unfold RKs at h
    obtain ⟨v, r, e, _, t⟩ := h
    subst e
    simp [RKs.length t]
theorem truU_ok (st : Rst K G m H S) {u : U} {v : V} {k : Bool} (r : RU K G m H u v) (h : truU S u = some k) : TruV K v H k := by
  cases u with
  | non => cases r; cases h; rfl
  | bl b => cases r; cases h; rfl
  | int i => cases r; cases h; rfl
  | str y =>
    cases r
    simp only [truU] at h
    split at h
    · cases h; exact ⟨by assumption, rfl⟩
    · cases h
  | tup us =>
    obtain ⟨a, vs, rfl, hq, rv⟩ := r.tupT
    cases h
    exact .inr (.inl ⟨vs, hq, by rw [rv.empty]⟩)
  | lst us =>
    obtain ⟨a, vs, rfl, hq, rv⟩ := r.lstL
    cases h
    exact .inl ⟨vs, hq, by rw [rv.empty]⟩
  | scr us =>
    obtain ⟨a, vs, rfl, hq, rv⟩ := r.scrL
    cases h
    exact .inl ⟨vs, hq, by rw [rv.empty]⟩
  | dct us => cases h
  | ptp us => cases h
  | fn x => cases h
  | ref n =>
    unfold RU at r
    obtain ⟨a, rfl, ha⟩ := r
    simp only [truU] at h
    split at h
    · rename_i us e
      cases h
      obtain ⟨a', ho, ha', e', vs, rfl, rv⟩ := st.at e
      rw [ha] at ha'; cases ha'
      exact .inl ⟨vs, SqL.of e', by rw [rv.empty]⟩
    · rename_i us e
      cases h
      obtain ⟨a', ho, ha', e', vs, rfl, rv⟩ := st.at e
      rw [ha] at ha'; cases ha'
      refine .inr (.inr ⟨vs, e', ?_⟩)
      have := rv.length
      cases us <;> cases vs <;> simp at this ⊢
    · cases h
end
def cTru (a : Cm U) : Cm Bool := fun env S => match a env S with
  | none => none
  | some (u, S1) => match truU S1 u with
    | none => none
    | some b => some (b, S1)
theorem cTru_some {a : Cm U} {env : Env'} {S S' : Sto} {b : Bool} (h : cTru a env S = some (b, S')) : ∃ u, a env S = some (u, S') ∧ truU S' u = some b := by
  unfold cTru at h
  split at h
  · cases h
  · rename_i u S1 e
    split at h
    · cases h
    · rename_i b' e2
      cases h
      exact ⟨u, e, e2⟩
variable {e a b c : Expr} {ca cb cc : Cm U} {ta tb tc : Cm Bool} {pos : Pos} {rest : List Expr}
theorem et_tru (ha : EE G X a ca) (he : ∀ whole, isTrue a X.env whole = (do let v ← whole; standAt a.pos; holding [v] (truthy v)) := by intro _; rfl) : ET G X a (cTru ca) := (pt_truth ha he).imp fun σ H Q ⟨m, S, env, k, S', st, re, hc, q⟩ => by
  obtain ⟨u, e1, e2⟩ := cTru_some hc
  exact ⟨m, S, env, u, S', st, re, e1, fun m1 H1 v x1 st1 r1 => ⟨k, truU_ok st1 r1 e2, q m1 H1 x1 st1⟩⟩
theorem et_cmp {op : CmpOp} {f : Op2} (ho : OpU G X (compareOp op) f) (ha : EE G X a ca) (hb : EE G X b cb) (hm : behindInMarks op b = false) : ET G X (.Compare a [op] [b] pos) (cTru (cBin f ca cb)) := by
  refine ⟨fun pins s σ H Q I hw => ?_⟩
  obtain ⟨m, S, env, k, S', st, re, hc, q⟩ := hw
  obtain ⟨u, e1, e2⟩ := cTru_some hc
  have hE : RE X.K G (cBin f ca cb) σ H (fun x H' => ∃ k', TruV X.K x H' k' ∧ Q k' H') := ⟨m, S, env, u, S', st, re, e1, fun m1 H1 v x1 st1 r1 => ⟨k, truU_ok st1 r1 e2, q m1 H1 x1 st1⟩⟩
  have hop := re_op hE
  refine wpAny_isTrue_Compare1 (binT ha hb I hop fun v u s2 x y H2 I2 rx ry q2 => ?_) hm
  refine thn (ho pins s2 σ H2 x y v u _ I2 rx ry q2) fun w s3 ⟨z, H3, I3, r3, q3⟩ => ?_
  exact tru_ok pins s3 σ H3 z w Q I3 r3 q3
def cAndT (a b : Cm Bool) : Cm Bool := fun env S => match a env S with
  | none => none
  | some (true, S1) => b env S1
  | some (false, S1) => some (false, S1)
def cOrT (a b : Cm Bool) : Cm Bool := fun env S => match a env S with
  | none => none
  | some (true, S1) => some (true, S1)
  | some (false, S1) => b env S1
def cNotT (a : Cm Bool) : Cm Bool := fun env S => match a env S with
  | none => none
  | some (k, S1) => some (!k, S1)
theorem ew_or1 (ha : ET G X a ta) : EW G X (.BoolOp .Or [a] pos) ta := pw_or1 ha
theorem ew_or (ha : ET G X a ta) (hb : EW G X (.BoolOp .Or (b :: rest) pos) tb) : EW G X (.BoolOp .Or (a :: b :: rest) pos) (cOrT ta tb) := (pw_or ha hb).imp fun σ H Q ⟨m, S, env, k, S', st, re, hc, q⟩ => by
  unfold cOrT at hc
  split at hc
  · cases hc
  · rename_i S1 e1
    cases hc
    exact ⟨m, S, env, true, _, st, re, e1, fun m1 H1 x1 st1 => iteT (q m1 H1 x1 st1)⟩
  · rename_i S1 e1
    exact ⟨m, S, env, false, S1, st, re, e1, fun m1 H1 x1 st1 => iteF ⟨m1, S1, env, k, S', st1, re.keep x1.keeps, hc, q.mono x1⟩⟩
theorem et_w (h : EW G X a ta) : ET G X a ta := h.pt
theorem et_not (ha : ET G X a ta) : ET G X (.UnaryOp .Not a pos) (cNotT ta) := (pt_not ha).imp fun σ H Q ⟨m, S, env, k, S', st, re, hc, q⟩ => by
  unfold cNotT at hc
  split at hc
  · cases hc
  · rename_i k' S1 e1
    cases hc
    exact ⟨m, S, env, k', _, st, re, e1, fun m1 H1 x1 st1 => q m1 H1 x1 st1⟩
def cAndV (a b : Cm U) : Cm U := fun env S => match a env S with
  | none => none
  | some (u, S1) => match truU S1 u with
    | none => none
    | some true => b env S1
    | some false => some (u, S1)
def cOrV (a b : Cm U) : Cm U := fun env S => match a env S with
  | none => none
  | some (u, S1) => match truU S1 u with
    | none => none
    | some true => some (u, S1)
    | some false => b env S1
theorem ee_one {op} (ha : EE G X a ca) : EE G X (.BoolOp op [a] pos) ca := pe_one ha
theorem ee_or (ha : EE G X a ca) (hb : EE G X (.BoolOp .Or (b :: rest) pos) cb) : EE G X (.BoolOp .Or (a :: b :: rest) pos) (cOrV ca cb) := (pe_orT ha hb).imp fun σ H Q ⟨m, S, env, z, S', st, re, hc, q⟩ => by
  unfold cOrV at hc
  split at hc
  · cases hc
  · rename_i u S1 e1
    refine ⟨m, S, env, u, S1, st, re, e1, fun m1 H1 v x1 st1 r1 => ?_⟩
    split at hc
    · cases hc
    · rename_i e2
      cases hc
      exact ⟨true, truU_ok st1 r1 e2, iteT (q m1 H1 v x1 st1 r1)⟩
    · rename_i e2
      exact ⟨false, truU_ok st1 r1 e2, iteF ⟨m1, S1, env, z, S', st1, re.keep x1.keeps, hc, q.mono x1⟩⟩
def startE (n : Nat) (us : List U) : Env' := us.map some ++ List.replicate (n - us.length) none
def runF (s : Sm) (np n : Nat) : OpN := fun us S => if us.length = np then (match s (startE n us) S with
  | some (.ret u, _, S') => some (u, S')
  | some (.nx, _, S') => some (.non, S')
  | _ => none) else none
def Len (n : Nat) (f : OpN) : Prop := ∀ us S r, f us S = some r → us.length = n
def spU (K : PySem.W.Frag) (G : Gx) (f : OpN) : Sp := fun vs H Q _ => rNU K G f vs H Q
theorem runF_len {s : Sm} {np n : Nat} : Len np (runF s np n) := fun us S r h => by
  unfold runF at h
  split at h
  · assumption
  · cases h
theorem spU_len {K : PySem.W.Frag} {n : Nat} {f : OpN} (h : Len n f) {vs : List V} {H : Hp} {Q : VK} {E : XK} (s : spU K G f vs H Q E) : vs.length = n := by
  obtain ⟨m, S, us, z, S', st, r, e, q⟩ := s
  rw [r.length]
  exact h _ _ _ e
theorem RUs.begin_ {K : PySem.W.Frag} {m : Mp} {H : Hp} {N : List Str} {us : List U} {vs : List V} (r : RUs K G m H us vs) : Renv K G m H (startE N.length us) (L2.start N vs) := by
  have hl := r.length
  refine ⟨by simp [startE, L2.start, hl], fun i u h => ?_⟩
  unfold startE at h
  unfold L2.start
  by_cases hi : i < us.length
  · rw [List.getElem?_append_left (by simpa using hi)] at h
    rw [List.getElem?_append_left (by simp [hl]; exact hi)]
    have h' : us[i]? = some u := by
      rw [List.getElem?_map] at h
      cases q : us[i]? with
      | none => rw [q] at h; cases h
      | some w => rw [q] at h; cases h; rfl
    obtain ⟨v, e, q⟩ := r.get h'
    exact ⟨v, by rw [List.getElem?_map, e]; rfl, q⟩
  · rw [List.getElem?_append_right (by simp; omega)] at h
    have := List.getElem?_replicate (n := N.length - us.length) (a := (none : Option U)) (i := i - (us.map some).length)
    rw [this] at h
    split at h <;> cases h
section
variable {P : Program} {w : World} {K : PySem.W.Frag} {mg : Str → Option Value} {base : Heap}
theorem fn_ok {x qual : Str} {st : Stmt} {f : Addr} {fd : FuncData} {N ps : List Str} {k np n : Nat} {s : Sm} (hnp : ps.length = np) (hn : N.length = n) (F : Fun K x qual st f fd) (S : FnScope N ps (defScope st))
    (h : ∀ (cdv : Value) (A : Around) (outer : List Env) (s0 : Shared) (H : Hp) (E : XK), Room k (A.deeper (envOfC qual (defScope st) s0.heap.objs.size f cdv)) →
      ESs G (cxOf CX0 P w K mg base N qual (defScope st) f cdv A outer s0 H E).nox (defBody st) s) :
    FnOk P w K mg base CX0 (k + 1) f fd ps (spU K G (runF s np n)) := by
  subst hnp hn
  refine F.ok S (fun vs H Q E h => spU_len runF_len h) fun cdv A outer s0 H vs Q E hr hsp => ?_
  obtain ⟨m, S0, us, z, S', st, r, e, q⟩ := hsp
  refine ⟨_, h cdv A outer s0 H E hr, ?_⟩
  unfold runF at e
  split at e
  · split at e
    · rename_i u env' S1 e1
      cases e
      exact ⟨m, S0, _, _, _, _, st, r.begin_, e1, q⟩
    · rename_i env' S1 e1
      cases e
      exact ⟨m, S0, _, _, _, _, st, r.begin_, e1, fun m1 H1 σ1 x1 st1 re1 => q m1 H1 .non x1 st1 rfl⟩
    · cases e
  · cases e
end
mutual
def noref : U → Bool
  | .tup us => norefs us
  | .ptp us => norefs us
  | .lst us => norefs us
  | .scr us => norefs us
  | .dct kvs => norefk kvs
  | .ref _ => false
  | _ => true
def norefs : List U → Bool
  | [] => true
  | u :: us => noref u && norefs us
def norefk : List (Key × U) → Bool
  | [] => true
  | (_, u) :: us => noref u && norefk us
end
section
variable {K : PySem.W.Frag} {m m' : Mp} {H : Hp} {S : Sto}
mutual
theorem RU.noref (k : ∀ a : Addr, a ∉ m.c → a ∉ m.x → a ∉ m'.c ∧ a ∉ m'.x) : ∀ (u : U) (v : V), OF.noref u = true → RU K G m H u v → RU K G m' H u v
  | .non, _, _, h => h
  | .bl _, _, _, h => h
  | .int _, _, _, h => h
  | .str _, _, _, h => h
  | .tup us, v, n, h => by
    unfold RU at h ⊢
    obtain ⟨a, vs, e, q, r⟩ := h
    refine ⟨a, vs, e, ?_, RUs.noref k us vs n r⟩
    rcases q with ⟨q, n, nx⟩ | q
    · exact .inl ⟨q, k a n nx⟩
    · exact .inr q
  | .lst us, v, n, h => by
    unfold RU at h ⊢
    obtain ⟨a, vs, e, q, n1, nx, r⟩ := h
    exact ⟨a, vs, e, q, (k a n1 nx).1, (k a n1 nx).2, RUs.noref k us vs n r⟩
  | .scr us, v, n, h => by
    unfold RU at h ⊢
    obtain ⟨a, vs, e, q, r⟩ := h
    refine ⟨a, vs, e, ?_, RUs.noref k us vs n r⟩
    rcases q with ⟨q, n, nx⟩ | q
    · exact .inl ⟨q, k a n nx⟩
    · exact .inr q
  | .dct us, v, n, h => by
    unfold RU at h ⊢
    obtain ⟨a, vs, e, q, n1, nx, r⟩ := h
    exact ⟨a, vs, e, q, (k a n1 nx).1, (k a n1 nx).2, RKs.noref k us vs n r⟩
  | .ptp us, v, n, h => by
    unfold RU at h ⊢
    obtain ⟨a, vs, ob, e, q, hc, hd, n1, nx, r⟩ := h
    exact ⟨a, vs, ob, e, q, hc, hd, (k a n1 nx).1, (k a n1 nx).2, RUs.noref k us vs n r⟩
  | .fn x, v, _, h => by
    unfold RU at h ⊢
    exact h
  | .ref n, v, n', h => by cases n'
theorem RUs.noref (k : ∀ a : Addr, a ∉ m.c → a ∉ m.x → a ∉ m'.c ∧ a ∉ m'.x) : ∀ (us : List U) (vs : List V), norefs us = true → RUs K G m H us vs → RUs K G m' H us vs
  | [], _, _, h => h
  | u :: us, vs, n, h => by
    unfold RUs at h ⊢
    obtain ⟨v, r, e, q, t⟩ := h
    have n' : (OF.noref u && norefs us) = true := n
    rw [Bool.and_eq_true] at n'
    exact ⟨v, r, e, RU.noref k u v n'.1 q, RUs.noref k us r n'.2 t⟩
theorem RKs.noref (k : ∀ a : Addr, a ∉ m.c → a ∉ m.x → a ∉ m'.c ∧ a ∉ m'.x) : ∀ (us : List (Key × U)) (vs : List (Key × V)), norefk us = true → RKs K G m H us vs → RKs K G m' H us vs
  | [], _, _, h => h
  | (c, u) :: us, vs, n, h => by
    unfold RKs at h ⊢
    obtain ⟨v, r, e, q, t⟩ := h
    have n' : (OF.noref u && norefk us) = true := n
    rw [Bool.and_eq_true] at n'
    exact ⟨v, r, e, RU.noref k u v n'.1 q, RKs.noref k us r n'.2 t⟩
end
end
abbrev Pf := List U → Option U
def pureF (f : OpN) : Pf := fun us => match f us [] with
  | some (u, _) => if noref u = true then some u else none
  | none => none
def liftP (p : Pf) : OpN := fun us S => if norefs us = true then (match p us with
  | some u => some (u, S)
  | none => none) else none
theorem spU_pure {K : PySem.W.Frag} {f : OpN} {vs : List V} {H : Hp} {Q : VK} {E : XK} (s : spU K G (liftP (pureF f)) vs H Q E) : spU K G f vs H Q E := by
  obtain ⟨m, S, us, z, S', st, r, e, q⟩ := s
  unfold liftP at e
  split at e
  · rename_i hn
    split at e
    · rename_i u e1
      cases e
      unfold pureF at e1
      split at e1
      · rename_i u' S1 e2
        split at e1
        · rename_i hn2
          cases e1
          have st0 : Rst K G ⟨[], m.x ++ m.c⟩ H [] := ⟨by simp, rfl, fun n o a h => by simp at h, fun a ha => by
            rcases List.mem_append.mp ha with ha | ha
            · exact st.xs a ha
            · obtain ⟨ho, e⟩ := st.cell ha
              rw [e]; rfl, fun a _ h => (by cases h), fun a ha xs e => (List.mem_append.mp ha).elim (fun z => st.tx a z xs e) fun z => st.nt z xs e⟩
          refine ⟨⟨[], m.x ++ m.c⟩, [], us, z, S1, st0, RUs.noref (fun a h1 h2 => ⟨by simp, by simp [h1, h2]⟩) us vs hn r, e2, fun m1 H1 v x1 st1 r1 => ?_⟩
          have kp : ∀ a o, H a = some o → H1 a = some o := fun a o h => x1.keep a o h (by simp)
          have hx : ∀ a, a ∉ m1.x → a ∉ m.x ∧ a ∉ m.c := fun a h => by
            obtain ⟨r, hr, _⟩ := x1.x
            rw [hr] at h
            simp only [List.mem_append, not_or] at h
            exact h.2
          have ks : Keeps m H m H1 := ⟨fun a u h n nx => ⟨by
            rcases h with h | ⟨o, h⟩
            · exact .inl (kp a _ h)
            · exact .inr ⟨o, kp a _ h⟩, n, nx⟩, fun _ _ h => h, fun a xs h _ _ => kp a _ h⟩
          refine q m H1 v ⟨⟨[], by simp⟩, ⟨[], rfl, fun _ h => nomatch h⟩, fun a o h _ => kp a o h, fun a ha h => ?_, fun a h n => absurd h n, fun a ob u h => kp a _ h⟩ ⟨st.nd, st.len, fun n o a h1 h2 => ?_, fun a ha => ?_, st.nx, fun a ha xs e => by
            cases q : H a with
            | none => have := st.xs a ha; rw [q] at this; cases this
            | some o => rw [kp a o q] at e; exact st.tx a ha xs (q.trans e)⟩ (RU.noref (fun a h1 h2 => ⟨(hx a h2).2, (hx a h2).1⟩) z v hn2 r1)
          · cases q : H a with
            | none => rw [q] at h; cases h
            | some o => rw [kp a o q]; rfl
          · obtain ⟨ho, e, r⟩ := st.ob n o a h1 h2
            exact ⟨ho, kp a ho e, RO.keep ks _ _ r⟩
          · cases q : H a with
            | none => have := st.xs a ha; rw [q] at this; cases this
            | some o => rw [kp a o q]; rfl
        · cases e1
      · cases e1
    · cases e
  · cases e
theorem fn_pure {P : Program} {w : World} {K : PySem.W.Frag} {mg : Str → Option Value} {base : Heap} {k : Nat} {f : Addr} {fd : FuncData} {ps : List Str} {F : OpN} (h : FnOk P w K mg base CX0 k f fd ps (spU K G F)) :
    FnOk P w K mg base CX0 k f fd ps (spU K G (liftP (pureF F))) := h.imp fun _ _ _ _ => spU_pure
end OF
namespace OF
open PySem PySem.Spec PyProof.Rows L2
variable {X : Cx} {G : Gx}
variable {e o : Expr} {es : List Expr} {ca cb : Cm U} {cl ck : Cm (List U)} {pos apos p : Pos} {x mm : Str} {k : Nat} {f C : Addr} {fd : FuncData} {ps : List Str} {F : OpN}
theorem ee_call (h : FnOk X.prog X.w X.K X.mg X.base CX0 k f fd ps (spU X.K G F)) (hr : Room k X.A) (hg : Gl X x) (hm : X.mg x = some (.ref f)) (hk : PySem.W.keepIn X.K (.ref f) = true) (hb : Binds X.K fd ps [])
    (ha : EA G X (e :: es) cl) (hdb : (x == ("__debug__" : Str)) = false := by decide) (he : starEach (e :: es) X.env = (false, eval e X.env) :: starEach es X.env := by rfl) (hpl : (backTo pos (starEach es X.env)).any (·.1) = false := by rfl) :
    EE G X (.Call (.Name x p) (e :: es) [] pos) (cArg F cl) := (pe_call h hr hg hm hk hb .nil pass0 ha hdb he hpl).imp fun σ H Q h => by
  obtain ⟨m, S, env, us, S1, st, re, e1, q⟩ := re_arg h
  exact ⟨m, S, env, us, S1, st, re, e1, fun m1 H1 vs x1 st1 r1 => by
    show spU X.K G F (vs ++ []) H1 Q E0
    rw [List.append_nil]; exact q m1 H1 vs x1 st1 r1⟩
variable {kws : List Keyword} {n nk : Nat} {ks : List Str} {g : List Value → List Value → List Value} {gV : List V → List V → List V}
def cMeth (c : Str) (mm : Str) (F : OpN) (a : Cm U) (r : Cm (List U)) : Cm U := fun env S => match a env S with
  | some (.ref n, S1) => match S1[n]? with
    | some (.ins c' fs) => if c' = c ∧ fs.lookup mm = none then (match r env S1 with
      | some (us, S2) => F (.ref n :: us) S2
      | none => none) else none
    | _ => none
  | _ => none
theorem RFs.lookup {K : PySem.W.Frag} {m : Mp} {H : Hp} {f : Str} : ∀ {us : List (Str × U)} {vs : List (Str × V)}, RFs K G m H us vs → (us.lookup f = none → vs.lookup f = none) ∧ ∀ u, us.lookup f = some u → ∃ v, vs.lookup f = some v ∧ RU K G m H u v
  | [], _, h => by
    unfold RFs at h
    subst h
    exact ⟨fun _ => rfl, fun u h => by cases h⟩
  | (k, w) :: us, vs, h => by
    unfold RFs at h
    obtain ⟨v, r, rfl, q, t⟩ := h
    have ih := RFs.lookup (f := f) t
    simp only [List.lookup_cons]
    by_cases hk : (f == k) = true
    · rw [hk]
      exact ⟨fun h => (by cases h), fun u h => (by cases h; exact ⟨v, rfl, q⟩)⟩
    · rw [Bool.not_eq_true] at hk
      rw [hk]
      exact ih
inductive Pat where
  | nm (i : Nat)
  | tp (ps : List Pat)
mutual
def bindP : Pat → U → Option (List (Nat × U))
  | .nm i, u => some [(i, u)]
  | .tp ps, .tup us => bindPs ps us
  | .tp _, _ => none
def bindPs : List Pat → List U → Option (List (Nat × U))
  | [], [] => some []
  | p :: ps, u :: us => match bindP p u with
    | none => none
    | some a => match bindPs ps us with
      | none => none
      | some b => some (a ++ b)
  | _, _ => none
end
def setAll {α : Type} (σ : List (Option α)) : List (Nat × α) → List (Option α)
  | [] => σ
  | (i, v) :: r => setAll (σ.set i (some v)) r
theorem setAll_app {α : Type} : ∀ (a b : List (Nat × α)) (σ : List (Option α)), setAll σ (a ++ b) = setAll (setAll σ a) b
  | [], b, σ => rfl
  | (i, v) :: a, b, σ => setAll_app a b _
section
variable (K : PySem.W.Frag) (H : Hp)
mutual
def PatV : Pat → V → List (Nat × V) → Prop
  | .nm i, v, bs => bs = [(i, v)]
  | .tp ps, v, bs => ∃ a vs, v = .ref a ∧ SqT K H a vs ∧ PatVs ps vs bs
def PatVs : List Pat → List V → List (Nat × V) → Prop
  | [], vs, bs => vs = [] ∧ bs = []
  | p :: ps, vs, bs => ∃ v r b1 b2, vs = v :: r ∧ bs = b1 ++ b2 ∧ PatV p v b1 ∧ PatVs ps r b2
end
end
def tPat (K : PySem.W.Frag) (pt : Pat) : TG := fun v σ H Q => ∃ bs, PatV K H pt v bs ∧ Q (setAll σ bs) H
def tPats (K : PySem.W.Frag) (pt : List Pat) : TGs := fun v σ H Q => ∃ bs, PatVs K H pt v bs ∧ Q (setAll σ bs) H
abbrev EPt (X : Cx) (tg : Expr) (pt : Pat) : Prop := PG X tg (tPat X.K pt)
abbrev EPts (X : Cx) (tg : List Expr) (pt : List Pat) : Prop := PGs X tg (tPats X.K pt)
theorem PatVs.length {K : PySem.W.Frag} {H : Hp} : ∀ {ps : List Pat} {vs : List V} {bs : List (Nat × V)}, PatVs K H ps vs bs → vs.length = ps.length
  | [], vs, bs, h => by unfold PatVs at h; rw [h.1]; rfl
  | p :: ps, vs, bs, h => by
    unfold PatVs at h
    obtain ⟨v, r, b1, b2, rfl, _, _, t⟩ := h
    simp [PatVs.length t]
theorem ep_name {i : Nat} (hN : X.N.Nodup) (hi : X.N[i]? = some x) (hx : Loc X.env.scope x) (hf : X.fn x = true ∨ X.env.scope.names.lookup x = some .local := by first | exact .inl rfl | exact .inr rfl | assumption) : EPt X (.Name x pos) (.nm i) :=
  (pg_name hN hi hx hf).imp fun v σ H Q ⟨bs, h, q⟩ => by
    unfold PatV at h
    subst h
    exact q
theorem eps_nil : EPts X [] [] := pgs_nil.imp fun vs σ H Q ⟨bs, h, q⟩ => by
  unfold PatVs at h
  obtain ⟨rfl, rfl⟩ := h
  exact ⟨rfl, q⟩
theorem eps_cons {pt : Pat} {pts : List Pat} (h1 : EPt X e pt) (h2 : EPts X es pts) (hs : (assignEach (e :: es) X.env).map (·.2) = assign e X.env :: (assignEach es X.env).map (·.2) := by rfl) : EPts X (e :: es) (pt :: pts) :=
  (pgs_cons h1 h2 hs).imp fun vs σ H Q ⟨bs, h, q⟩ => by
    unfold PatVs at h
    obtain ⟨v, r, b1, b2, rfl, rfl, h1, h2⟩ := h
    rw [setAll_app] at q
    exact ⟨v, r, rfl, b1, h1, b2, h2, q⟩
theorem ep_tup {k : Nat} {pts : List Pat} (hc : X.calm = true) (h : EPts X es pts) (hn : (assignEach es X.env).length = pts.length := by rfl) (hst : (assignEach es X.env).findIdx? (·.1) = none := by rfl) : EPt X (.Tuple es k pos) (.tp pts) :=
  (pg_tup hc h hn hst).imp fun v σ H Q ⟨bs, h, q⟩ => by
    unfold PatV at h
    obtain ⟨a, vs, rfl, hq, hp⟩ := h
    exact ⟨a, vs, rfl, hq, hp.length, bs, hp, q⟩
section
variable {K : PySem.W.Frag} {m : Mp} {H : Hp}
def RBs (K : PySem.W.Frag) (G : Gx) (m : Mp) (H : Hp) : List (Nat × U) → List (Nat × V) → Prop
  | [], vs => vs = []
  | (i, u) :: us, vs => ∃ v r, vs = (i, v) :: r ∧ RU K G m H u v ∧ RBs K G m H us r
theorem RBs.append : ∀ {us us' : List (Nat × U)} {vs vs' : List (Nat × V)}, RBs K G m H us vs → RBs K G m H us' vs' → RBs K G m H (us ++ us') (vs ++ vs')
  | [], _, _, _, h, h' => by unfold RBs at h; subst h; exact h'
  | (i, u) :: us, us', vs, vs', h, h' => by
    unfold RBs at h
    obtain ⟨v, r, e, q, t⟩ := h
    subst e
    show RBs K G m H ((i, u) :: (us ++ us')) ((i, v) :: (r ++ vs'))
    unfold RBs
    exact ⟨v, _, rfl, q, RBs.append t h'⟩
mutual
theorem bindP_ok : ∀ (pt : Pat) (u : U) (v : V) (bs : List (Nat × U)), bindP pt u = some bs → RU K G m H u v → ∃ bv, PatV K H pt v bv ∧ RBs K G m H bs bv
  | .nm i, u, v, bs, h, r => by
    simp only [bindP, Option.some.injEq] at h
    subst h
    refine ⟨[(i, v)], by unfold PatV; rfl, ?_⟩
    unfold RBs
    exact ⟨v, [], rfl, r, by unfold RBs; rfl⟩
  | .tp ps, u, v, bs, h, r => by
    cases u with
    | tup us =>
      simp only [bindP] at h
      obtain ⟨a, vs, rfl, hq, rv⟩ := r.tupT
      obtain ⟨bv, h1, h2⟩ := bindPs_ok ps us vs bs h rv
      exact ⟨bv, by unfold PatV; exact ⟨a, vs, rfl, hq, h1⟩, h2⟩
    | _ => simp only [bindP] at h; cases h
theorem bindPs_ok : ∀ (ps : List Pat) (us : List U) (vs : List V) (bs : List (Nat × U)), bindPs ps us = some bs → RUs K G m H us vs → ∃ bv, PatVs K H ps vs bv ∧ RBs K G m H bs bv
  | [], [], vs, bs, h, r => by
    simp only [bindPs, Option.some.injEq] at h
    subst h
    exact ⟨[], by unfold PatVs; exact ⟨r.eqnil, rfl⟩, by unfold RBs; rfl⟩
  | p :: ps, u :: us, vs, bs, h, r => by
    simp only [bindPs] at h
    split at h
    · cases h
    · rename_i a e1
      split at h
      · cases h
      · rename_i b e2
        cases h
        obtain ⟨v, t, rfl, q, tl⟩ := r.uncons
        obtain ⟨b1, h1, h2⟩ := bindP_ok p u v a e1 q
        obtain ⟨b2, h3, h4⟩ := bindPs_ok ps us t b e2 tl
        exact ⟨b1 ++ b2, by unfold PatVs; exact ⟨v, t, b1, b2, rfl, rfl, h1, h3⟩, h2.append h4⟩
  | [], _ :: _, vs, bs, h, r => by simp only [bindPs] at h; cases h
  | _ :: _, [], vs, bs, h, r => by simp only [bindPs] at h; cases h
end
theorem Renv.setAll : ∀ {bs : List (Nat × U)} {bv : List (Nat × V)} {env : Env'} {σ : L2.St}, RBs K G m H bs bv → Renv K G m H env σ → Renv K G m H (OF.setAll env bs) (OF.setAll σ bv)
  | [], bv, env, σ, h, r => by
    unfold RBs at h
    subst h
    exact r
  | (i, u) :: bs, bv, env, σ, h, r => by
    unfold RBs at h
    obtain ⟨v, t, rfl, q, tl⟩ := h
    show Renv K G m H (OF.setAll (env.set i (some u)) bs) (OF.setAll (σ.set i (some v)) t)
    exact Renv.setAll tl (r.set i q)
end
def gmPat (pt : Pat) : Gm := fun u env S => match bindP pt u with
  | some bs => some (setAll env bs, S)
  | none => none
theorem eg_pat {pt : Pat} (h : EPt X e pt) : EG G X e (gmPat pt) := h.imp fun v σ H Q ⟨m, S, env, u, env', S', st, re, r, hc, q⟩ => by
  unfold gmPat at hc
  split at hc
  · rename_i bs e1
    cases hc
    obtain ⟨bv, h1, h2⟩ := bindP_ok _ _ _ _ e1 r
    exact ⟨bv, h1, q m H _ (Ext.refl m H) st (re.setAll h2)⟩
  · cases hc
end OF
namespace OF
open PySem PySem.Spec PyProof.Rows L2
variable {X : Cx} {G : Gx}
variable {e o tg iter : Expr} {es : List Expr} {ca cb : Cm U} {cl ck : Cm (List U)} {pos apos p : Pos}
def ItOk (K : PySem.W.Frag) (G : Gx) (m1 : Mp) (H1 : Hp) (us : List U) (J : It) : Prop := ∃ Gd Y, Walk J us.length Gd Y ∧ (∀ m2 H2, Ext m1 H1 m2 H2 → Gd H2) ∧
  ∀ i m2 S2 H2 x H3, Ext m1 H1 m2 H2 → Rst K G m2 H2 S2 → i < us.length → Y i H2 x H3 → ∃ u, us[i]? = some u ∧ Ext m2 H2 m2 H3 ∧ Rst K G m2 H3 S2 ∧ RU K G m2 H3 u x
def RI (K : PySem.W.Frag) (G : Gx) (it : Cm (List U)) : TI := fun σ H R => ∃ m S env us S', Rst K G m H S ∧ Renv K G m H env σ ∧ it env S = some (us, S') ∧ ∀ m1 H1, Ext m H m1 H1 → Rst K G m1 H1 S' → ∀ J, ItOk K G m1 H1 us J → R J H1
abbrev EI (G : Gx) (X : Cx) (tg iter : Expr) (it : Cm (List U)) : Prop := PI X tg iter (RI X.K G it)
theorem _root_.L2.PI.imp {t t' : TI} (h : PI X tg iter t) (i : ∀ σ H R, t' σ H R → t σ H R) : PI X tg iter t' := ⟨fun pins s σ H R I hw => h.run pins s σ H R I (i σ H R hw)⟩
def loopF (pt : Pat) (b : Sm) : List U → Sm
  | [], env, S => some (.nx, env, S)
  | u :: us, env, S => match bindP pt u with
    | none => none
    | some bs => match b (setAll env bs) S with
      | none => none
      | some (.nx, env2, S2) => loopF pt b us env2 S2
      | some (.ct, env2, S2) => loopF pt b us env2 S2
      | some (.brk, env2, S2) => some (.nx, env2, S2)
      | some (.ret z, env2, S2) => some (.ret z, env2, S2)
def sFor (it : Cm (List U)) (pt : Pat) (b : Sm) : Sm := fun env S => match it env S with
  | none => none
  | some (us, S1) => loopF pt b us env S1
theorem drop_cons {α : Type} {us : List α} {i : Nat} {u : α} (h : us[i]? = some u) : us.drop i = u :: us.drop (i + 1) := by
  obtain ⟨hl, e⟩ := List.getElem?_eq_some_iff.mp h
  rw [List.drop_eq_getElem_cons hl, e]
theorem rs_for {K : PySem.W.Frag} {it : Cm (List U)} {pt : Pat} {b : Sm} {D : Ends} {σ : L2.St} {H : Hp} (h : RS K G (sFor it pt b) D σ H) : tFor (RI K G it) (tPat K pt) (RS K G b) D σ H := by
  obtain ⟨m, S, env, fl, env', S', st, re, hc, q⟩ := h
  unfold sFor at hc
  split at hc
  · cases hc
  · rename_i us S1 e1
    refine ⟨m, S, env, us, S1, st, re, e1, fun m1 H1 x1 st1 J hJ => ?_⟩
    obtain ⟨Gd, Y, w, hG, hY⟩ := hJ
    refine for_it w (fun i σ H => ∃ m S env fl env' S', Ext m1 H1 m H ∧ Rst K G m H S ∧ Renv K G m H env σ ∧ loopF pt b (us.drop i) env S = some (fl, env', S') ∧ AfterS K G m H fl env' S' D)
      ⟨m1, S1, env, fl, env', S', Ext.refl _ _, st1, re.keep x1.keeps, hc, q.mono x1⟩ (fun i σ H _ ⟨m, S, env, fl, env', S', x, _⟩ => hG m H x) (fun i y σ H H' hi ⟨m, S, env, fl, env', S', x, st, re, hl, q⟩ hy => ?_) (fun σ H ⟨m, S, env, fl, env', S', x, st, re, hl, q⟩ => ?_)
    · obtain ⟨u, hu, x2, st2, ru⟩ := hY i m S H y H' x st hi hy
      rw [drop_cons hu] at hl
      unfold loopF at hl
      split at hl
      · cases hl
      · rename_i bs eb
        obtain ⟨bv, h1, h2⟩ := bindP_ok _ _ _ _ eb ru
        refine ⟨bv, h1, ?_⟩
        have re2 := (re.keep x2.keeps).setAll h2
        split at hl
        · cases hl
        · rename_i env2 S2 e2
          exact ⟨m, S, _, _, env2, S2, st2, re2, e2, fun m3 H3 σ3 x3 st3 re3 => ⟨m3, S2, env2, fl, env', S', (x.trans x2).trans x3, st3, re3, hl, (q.mono x2).mono x3⟩⟩
        · rename_i env2 S2 e2
          exact ⟨m, S, _, _, env2, S2, st2, re2, e2, fun m3 H3 σ3 x3 st3 re3 => ⟨m3, S2, env2, fl, env', S', (x.trans x2).trans x3, st3, re3, hl, (q.mono x2).mono x3⟩⟩
        · rename_i env2 S2 e2
          cases hl
          exact ⟨m, S, _, _, _, _, st2, re2, e2, AfterE.mono q x2⟩
        · rename_i z env2 S2 e2
          cases hl
          exact ⟨m, S, _, _, _, _, st2, re2, e2, After.mono q x2⟩
    · rw [List.drop_length] at hl
      unfold loopF at hl
      cases hl
      exact q m H σ (Ext.refl m H) st re
theorem es_for {body : List Stmt} {it : Cm (List U)} {pt : Pat} {b : Sm} (hp : PassesOwn (model X.prog X.w) X.A X.env X.xe) (hc : X.calm = true) (hi : EI G X tg iter it) (hg : EPt X tg pt) (hb : ESs G X body b)
    (hs : ∀ x, foldedSetIterable iter X.env x = pure x := by intro _; rfl) : ES G X (.For tg iter body [] pos) (sFor it pt b) := (ps_for hp hc hi hg hb hs).imp fun _ _ _ => rs_for
def loopW (c : Cm Bool) (b : Sm) : Nat → Sm
  | 0, _, _ => none
  | n + 1, env, S => match c env S with
    | none => none
    | some (false, S1) => some (.nx, env, S1)
    | some (true, S1) => match b env S1 with
      | none => none
      | some (.nx, env2, S2) => loopW c b n env2 S2
      | some (.ct, env2, S2) => loopW c b n env2 S2
      | some (.brk, env2, S2) => some (.nx, env2, S2)
      | some (.ret z, env2, S2) => some (.ret z, env2, S2)
def wipeE (env : Env') : List Nat → Env'
  | [] => env
  | v :: vs => (wipeE env vs).set v none
def mapC (pt : Pat) (t : Cm Bool) (c : Cm U) (env : Env') : List U → Sto → Option (List U × Sto)
  | [], S => some ([], S)
  | u :: us, S => match bindP pt u with
    | none => none
    | some bs => match t (setAll env bs) S with
      | none => none
      | some (false, S1) => mapC pt t c env us S1
      | some (true, S1) => match c (setAll env bs) S1 with
        | none => none
        | some (y, S2) => match mapC pt t c env us S2 with
          | none => none
          | some (ys, S3) => some (y :: ys, S3)
def cLcL (it : Cm (List U)) (pt : Pat) (t : Cm Bool) (c : Cm U) (vs : List Nat) : Cm (List U) := fun env S => match it env S with
  | none => none
  | some (us, S1) => match mapC pt t c (wipeE env vs) us S1 with
    | none => none
    | some (ys, S2) => if ys.length ≤ sizeLine then some (ys, S2) else none
def cLc (it : Cm (List U)) (pt : Pat) (t : Cm Bool) (c : Cm U) (vs : List Nat) : Cm U := fun env S => match cLcL it pt t c vs env S with
  | none => none
  | some (ys, S2) => some (.lst ys, S2)
def cYes : Cm Bool := fun _ S => some (true, S)
abbrev ETs (G : Gx) (X : Cx) (ifs : List Expr) (c : Cm Bool) : Prop := PTs X ifs (RT X.K G c)
theorem _root_.L2.PTs.imp {ifs : List Expr} {t t' : TT} (h : PTs X ifs t) (i : ∀ σ H Q, t' σ H Q → t σ H Q) : PTs X ifs t' := ⟨fun pins s σ H Q I hw => h.run pins s σ H Q I (i σ H Q hw)⟩
theorem ets_nil : ETs G X [] cYes := pts_nil.imp fun σ H Q ⟨m, S, env, k, S', st, re, hc, q⟩ => by
  cases hc
  exact q m H (Ext.refl m H) st
mutual
def Pat.slots : Pat → List Nat
  | .nm i => [i]
  | .tp ps => slotsL ps
def slotsL : List Pat → List Nat
  | [] => []
  | p :: ps => p.slots ++ slotsL ps
end
mutual
theorem PatV.slots {K : PySem.W.Frag} {H : Hp} : ∀ (pt : Pat) (v : V) (bs : List (Nat × V)), PatV K H pt v bs → bs.map (·.1) = pt.slots
  | .nm i, v, bs, h => by unfold PatV at h; subst h; rfl
  | .tp ps, v, bs, h => by
    unfold PatV at h
    obtain ⟨a, vs, _, _, h⟩ := h
    exact PatVs.slots ps vs bs h
theorem PatVs.slots {K : PySem.W.Frag} {H : Hp} : ∀ (pt : List Pat) (v : List V) (bs : List (Nat × V)), PatVs K H pt v bs → bs.map (·.1) = slotsL pt
  | [], v, bs, h => by unfold PatVs at h; rw [h.2]; rfl
  | p :: ps, v, bs, h => by
    unfold PatVs at h
    obtain ⟨v, r, b1, b2, _, rfl, h1, h2⟩ := h
    rw [List.map_append, PatV.slots p v b1 h1, PatVs.slots ps r b2 h2]
    rfl
end
theorem wipe_set {σ : L2.St} {i : Nat} {x : Option V} : ∀ {vs : List Nat}, i ∈ vs → wipe (σ.set i x) vs = wipe σ vs
  | [], h => by cases h
  | v :: vs, h => by
    unfold wipe
    by_cases e : i ∈ vs
    · rw [wipe_set e]
    · have hv : i = v := by
        rcases List.mem_cons.mp h with h | h
        · exact h
        · exact absurd h e
      subst hv
      have : ∀ {ws : List Nat}, i ∉ ws → wipe (σ.set i x) ws = (wipe σ ws).set i x := by
        intro ws
        induction ws with
        | nil => intro _; rfl
        | cons w ws ih =>
          intro hw
          have hw' : i ≠ w ∧ i ∉ ws := by simpa using hw
          unfold wipe
          rw [ih hw'.2, List.set_comm _ _ hw'.1]
      rw [this e, List.set_set]
theorem wipe_setAll {vs : List Nat} : ∀ {bs : List (Nat × V)} {σ : L2.St}, (∀ i ∈ bs.map (·.1), i ∈ vs) → wipe (setAll σ bs) vs = wipe σ vs
  | [], σ, _ => rfl
  | (i, v) :: bs, σ, h => by
    show wipe (setAll (σ.set i (some v)) bs) vs = _
    rw [wipe_setAll fun j hj => h j (by simp at hj ⊢; exact .inr hj)]
    exact wipe_set (h i (by simp))
theorem wipe_wipe {σ : L2.St} : ∀ {vs : List Nat}, wipe (wipe σ vs) vs = wipe σ vs := by
  intro vs
  have h : ∀ (ws : List Nat), (∀ w ∈ ws, w ∈ vs) → wipe (wipe σ ws) vs = wipe σ vs := by
    intro ws
    induction ws with
    | nil => intro _; rfl
    | cons w ws ih =>
      intro hw
      show wipe ((wipe σ ws).set w none) vs = _
      rw [wipe_set (hw w (by simp)), ih fun v hv => hw v (by simp [hv])]
  exact h vs fun _ h => h
theorem wipe_setAll_wipe {vs : List Nat} {bs : List (Nat × V)} {σ : L2.St} (h : ∀ i ∈ bs.map (·.1), i ∈ vs) : wipe (setAll (wipe σ vs) bs) vs = wipe σ vs := by
  rw [wipe_setAll h, wipe_wipe]
theorem Ext.xmem {m m' : Mp} {H H' : Hp} (x : Ext m H m' H') {a : Addr} (h : a ∈ m.x) : a ∈ m'.x := by
  obtain ⟨r, hr, _⟩ := x.x
  rw [hr]
  exact List.mem_append_right _ h
theorem Ext.back {m m' : Mp} {H H' : Hp} (x : Ext m H m' H') {a : Addr} (h : H' a = none) : H a = none := by
  cases q : H a with
  | none => rfl
  | some o =>
    by_cases hz : a ∈ m.c
    · have := x.cells a hz (by rw [q]; rfl)
      rw [h] at this; cases this
    · rw [x.keep a o q hz] at h; cases h
theorem Renv.wipe {K : PySem.W.Frag} {m : Mp} {H : Hp} {env : Env'} {σ : L2.St} (r : Renv K G m H env σ) : ∀ vs : List Nat, Renv K G m H (wipeE env vs) (L2.wipe σ vs)
  | [] => r
  | v :: vs => by
    have ih := Renv.wipe r vs
    unfold wipeE L2.wipe
    refine ⟨by simp [ih.1], fun i u h => ?_⟩
    by_cases e : v = i
    · subst e
      by_cases hl : v < (wipeE env vs).length
      · rw [List.getElem?_set_self hl] at h; cases h
      · rw [List.getElem?_eq_none (by simpa using hl)] at h; cases h
    · rw [List.getElem?_set_ne e] at h ⊢
      exact ih.2 i u h
theorem Ext.res {m : Mp} {H : Hp} {D : Addr} {o : HO} (hD : H D = none) : Ext m H ⟨m.c, D :: m.x⟩ (L2.upd H D o) := by
  have h1 : ∀ a ∈ [D], H a = none := fun a ha => by
    have e : a = D := by simpa using ha
    rw [e]; exact hD
  refine ⟨⟨[], by simp⟩, ⟨[D], rfl, h1⟩, fun a u h _ => by rw [upd_ne (ne_of_none h hD)]; exact h, fun a _ h => ?_, fun a h n => absurd h n, fun a ob u h => by rw [upd_ne (ne_of_none h hD)]; exact h⟩
  by_cases e : a = D
  · subst e; rw [upd_same]; rfl
  · rw [upd_ne e]; exact h
theorem Ext.forget {m m' : Mp} {H H' : Hp} (x : Ext m H m' H') : Ext m H ⟨m'.c, m.x⟩ H' := ⟨x.pre, ⟨[], rfl, fun _ h => nomatch h⟩, x.keep, x.cells, x.new, x.fz⟩
theorem Rst.res {K : PySem.W.Frag} {m : Mp} {H : Hp} {S : Sto} {D : Addr} {o : HO} (st : Rst K G m H S) (hD : H D = none) (nt : ∀ xs, o ≠ bad xs := by intro b h; cases b <;> cases h) : Rst K G ⟨m.c, D :: m.x⟩ (upd H D o) S := by
  have k := (Ext.res (m := m) (o := o) hD).keeps
  refine ⟨st.nd, st.len, fun n ob a h1 h2 => ?_, fun a ha => ?_, fun a ha => ?_, fun a ha xs e => by
    by_cases z : a = D
    · subst z; rw [upd_same] at e; exact nt xs (Option.some.inj e)
    · rw [upd_ne z] at e; exact st.tx a ((List.mem_cons.mp ha).resolve_left z) xs e⟩
  · obtain ⟨ho, e, r⟩ := st.ob n ob a h1 h2
    exact ⟨ho, by rw [upd_ne (ne_of_none e hD)]; exact e, RO.keep k _ _ r⟩
  · by_cases e : a = D
    · subst e; rw [upd_same]; rfl
    · rw [upd_ne e]
      rcases List.mem_cons.mp ha with h | h
      · exact absurd h e
      · exact st.xs a h
  · rcases List.mem_cons.mp ha with h | h
    · subst h; exact st.none_c hD
    · exact st.nx a h
theorem keeps_x {m : Mp} {H : Hp} {D : Addr} {o : HO} (hD : D ∈ m.x) : Keeps m H m (upd H D o) := by
  refine ⟨fun a u h n nx => ⟨?_, n, nx⟩, fun _ _ h => h, fun a xs h n nx => by rw [upd_ne (show a ≠ D from fun e => nx (e ▸ hD))]; exact h⟩
  have : a ≠ D := fun e => nx (e ▸ hD)
  rcases h with h | ⟨o, h⟩
  · exact .inl (by rw [upd_ne this]; exact h)
  · exact .inr ⟨o, by rw [upd_ne this]; exact h⟩
theorem Rst.setx {K : PySem.W.Frag} {m : Mp} {H : Hp} {S : Sto} {D : Addr} {o : HO} (st : Rst K G m H S) (hD : D ∈ m.x) (nt : ∀ xs, o ≠ bad xs := by intro b h; cases b <;> cases h) : Rst K G m (upd H D o) S := by
  refine ⟨st.nd, st.len, fun n ob a h1 h2 => ?_, fun a ha => ?_, st.nx, fun a ha xs e => by
    by_cases z : a = D
    · subst z; rw [upd_same] at e; exact nt xs (Option.some.inj e)
    · rw [upd_ne z] at e; exact st.tx a ha xs e⟩
  · obtain ⟨ho, e, r⟩ := st.ob n ob a h1 h2
    have ne : a ≠ D := fun e => st.nx D hD (e ▸ List.mem_of_getElem? h2)
    exact ⟨ho, by rw [upd_ne ne]; exact e, RO.keep (keeps_x hD) _ _ r⟩
  · by_cases e : a = D
    · subst e; rw [upd_same]; rfl
    · rw [upd_ne e]; exact st.xs a ha
theorem keeps_forget {c x y : List Addr} {H : Hp} (h : ∀ a ∈ y, a ∈ x) : Keeps ⟨c, x⟩ H ⟨c, y⟩ H := ⟨fun a u r n nx => ⟨r, n, fun z => nx (h a z)⟩, fun _ _ h => h, fun _ _ h _ _ => h⟩
theorem Rst.forget {K : PySem.W.Frag} {c x y : List Addr} {H : Hp} {S : Sto} (st : Rst K G ⟨c, x⟩ H S) (h : ∀ a ∈ y, a ∈ x) : Rst K G ⟨c, y⟩ H S :=
  ⟨st.nd, st.len, fun n ob a h1 h2 => let ⟨ho, e, r⟩ := st.ob n ob a h1 h2; ⟨ho, e, RO.keep (keeps_forget h) _ _ r⟩, fun a ha => st.xs a (h a ha), fun a ha => st.nx a (h a ha), fun a ha => st.tx a (h a ha)⟩
theorem re_lc {K : PySem.W.Frag} {it : Cm (List U)} {pt : Pat} {t : Cm Bool} {c : Cm U} {vs : List Nat} {σ : L2.St} {H : Hp} {Q : VK} (hsl : ∀ i ∈ pt.slots, i ∈ vs)
    {m : Mp} {S : Sto} {env : Env'} {ys : List U} {S' : Sto} (st : Rst K G m H S) (re : Renv K G m H env σ) (hc : cLcL it pt t c vs env S = some (ys, S'))
    (q : ∀ m' H' D zs, Ext m H m' H' → H D = none → D ∉ m'.x → Rst K G ⟨m'.c, D :: m'.x⟩ H' S' → H' D = some (.lst zs) → RUs K G ⟨m'.c, D :: m'.x⟩ H' ys zs → Q (.ref D) H') :
    tLc (RI K G it) (tPat K pt) (RT K G t) (RE K G c) vs σ H Q := by
  unfold cLcL at hc
  split at hc
  · cases hc
  · rename_i us S1 e1
    split at hc
    · cases hc
    · rename_i ys' S2 e2
      split at hc
      · rename_i hsz
        cases hc
        refine ⟨m, S, env, us, S1, st, re, e1, fun m1 H1 x1 st1 J hJ D hD => ?_⟩
        obtain ⟨Gd, Y, w, hG, hY⟩ := hJ
        have reW := (re.keep x1.keeps).wipe vs
        refine lc_it w (fun i H => ∃ m S acc zs rest, Ext m1 H1 m H ∧ D ∈ m.x ∧ Rst K G m H S ∧ H D = some (.lst zs) ∧ RUs K G m H acc zs ∧ mapC pt t c (wipeE env vs) (us.drop i) S = some (rest, S') ∧ ys = acc ++ rest)
          ⟨⟨m1.c, D :: m1.x⟩, S1, [], [], ys, Ext.res hD, by simp, st1.res hD, upd_same, RUs.nil, e2, rfl⟩ (fun i H _ ⟨m, S, acc, zs, rest, x, _⟩ => hG m H x) (fun i y H H' hi ⟨m, S, acc, zs, rest, x, hx, st, hd, ra, hm, ey⟩ hy => ?_) (fun H ⟨m, S, acc, zs, rest, x, hx, st, hd, ra, hm, ey⟩ => ?_)
        · obtain ⟨u, hu, x2, st2, ru⟩ := hY i m S H y H' x st hi hy
          rw [drop_cons hu] at hm
          unfold mapC at hm
          split at hm
          · cases hm
          · rename_i bs eb
            obtain ⟨bv, h1, h2⟩ := bindP_ok _ _ _ _ eb ru
            have re2 := ((reW.keep x.keeps).keep x2.keeps).setAll h2
            have nc : D ∉ m.c := st.nx D hx
            refine ⟨bv, h1, wipe_setAll_wipe (fun i hi => hsl i (by rw [PatV.slots _ _ _ h1] at hi; exact hi)), ?_⟩
            split at hm
            · cases hm
            · rename_i S3 e3
              refine ⟨m, S, _, false, S3, st2, re2, e3, fun m3 H3 x3 st3 => iteF ?_⟩
              exact ⟨m3, S3, acc, zs, rest, (x.trans x2).trans x3, x3.xmem hx, st3, x3.keep D _ (x2.keep D _ hd nc) nc, RUs.keep (x2.trans x3).keeps _ _ ra, hm, ey⟩
            · rename_i S3 e3
              refine ⟨m, S, _, true, S3, st2, re2, e3, fun m3 H3 x3 st3 => iteT ?_⟩
              split at hm
              · cases hm
              · rename_i z S4 e4
                split at hm
                · cases hm
                · rename_i zs' S5 e5
                  cases hm
                  have d3 : H3 D = some (.lst zs) := x3.keep D _ (x2.keep D _ hd nc) nc
                  have nc3 : D ∉ m3.c := st3.nx D (x3.xmem hx)
                  refine ⟨m3, S3, _, z, S4, st3, re2.keep x3.keeps, e4, fun m4 H4 v x4 st4 r4 => ?_⟩
                  have hx4 : D ∈ m4.x := x4.xmem (x3.xmem hx)
                  have d4 : H4 D = some (.lst zs) := x4.keep D _ d3 nc3
                  have k4 : Keeps m4 H4 m4 (L2.upd H4 D (.lst (zs ++ [v]))) := keeps_x hx4
                  have ra4 := RUs.keep ((x2.trans x3).trans x4).keeps _ _ ra
                  have hl : zs.length < sizeLine := by
                    have h1 := ra.length
                    have h2 : ys.length ≤ sizeLine := hsz
                    rw [ey] at h2
                    simp at h2
                    omega
                  refine ⟨zs, d4, hl, m4, S4, acc ++ [z], zs ++ [v], zs', ?_, hx4, st4.setx hx4, upd_same, RUs.keep k4 _ _ (ra4.append (RUs.one r4)), e5, by rw [ey]; simp⟩
                  have x5 := ((x.trans x2).trans x3).trans x4
                  refine ⟨x5.pre, x5.x, fun a o h n => ?_, fun a ha h => ?_, x5.new, fun a ob u h => by rw [upd_ne (ne_of_none h hD)]; exact x5.fz a ob u h⟩
                  · have : a ≠ D := ne_of_none h hD
                    rw [upd_ne this]; exact x5.keep a o h n
                  · by_cases e : a = D
                    · subst e; rw [upd_same]; rfl
                    · rw [upd_ne e]; exact x5.cells a ha h
        · rw [List.drop_length] at hm
          unfold mapC at hm
          cases hm
          rw [List.append_nil] at ey
          subst ey
          have hsub : ∀ a ∈ D :: m1.x, a ∈ m.x := fun a ha => by
            rcases List.mem_cons.mp ha with h | h
            · rw [h]; exact hx
            · exact x.xmem h
          exact q ⟨m.c, m1.x⟩ H D zs (x1.trans x.forget) (x1.back hD) (st1.none_x hD) (Rst.forget (x := m.x) st hsub) hd (RUs.keep (keeps_forget (x := m.x) hsub) _ _ ra)
      · cases hc
theorem ee_lc {elt : Expr} {ifs : List Expr} {scope : Scope} {own : List (Str × Nat)} {it : Cm (List U)} {pt : Pat} {t : Cm Bool} {c : Cm U} (hc : X.calm = true) (hN : X.N.Nodup) (hi : EI G X tg iter it) (ok : BlkOk X.N X.env.scope scope own)
    (hg : ∀ (s : Shared) (H : Hp) (C : Addr) (cl : List (Str × Addr)) (fp : List Addr), EPt (X.blk s H scope (compEnvC scope cl C X.env) fp) tg pt) (ht : ∀ (s : Shared) (H : Hp) (C : Addr) (cl : List (Str × Addr)) (fp : List Addr), ETs G (X.blk s H scope (compEnvC scope cl C X.env) fp) ifs t)
    (he : ∀ (s : Shared) (H : Hp) (C : Addr) (cl : List (Str × Addr)) (fp : List Addr), EE G (X.blk s H scope (compEnvC scope cl C X.env) fp) elt c) (hsl : ∀ i ∈ pt.slots, i ∈ own.map (·.2)) (hs : ∀ x, foldedSetIterable iter X.env x = pure x := by intro _; rfl) :
    EE G X (.ListComp elt [⟨tg, iter, ifs, 0⟩] scope pos) (cLc it pt t c (own.map (·.2))) := (pe_lc hc hN hi ok hg ht he hs).imp fun σ H Q ⟨m, S, env, z, S', st, re, hc, q⟩ => by
  unfold cLc at hc
  split at hc
  · cases hc
  · rename_i ys S2 e1
    cases hc
    refine re_lc hsl st re e1 fun m' H' D zs x hD nx st' hd r => ?_
    have st2 : Rst X.K G m' H' S' := Rst.forget (c := m'.c) (x := D :: m'.x) st' fun a ha => List.mem_cons_of_mem _ ha
    refine q m' H' _ x st2 ?_
    unfold RU
    exact ⟨D, zs, rfl, .inl hd, st'.nx D (by simp), nx, RUs.keep (keeps_forget fun a ha => List.mem_cons_of_mem _ ha) _ _ r⟩
end OF
namespace OF
open PySem PySem.Spec PyProof.Rows L2
def signs (x : Str) : List V := x.cps.toList.map fun c => V.str ⟨#[c]⟩
end OF
namespace OF
open PySem PySem.Spec PyProof.Rows L2
variable {X : Cx} {G : Gx}
variable {e o a b tg iter : Expr} {es : List Expr} {ca cb : Cm U} {cl ck : Cm (List U)} {pos apos p : Pos}
def signsU (x : Str) : List U := x.cps.toList.map fun c => U.str ⟨#[c]⟩
def seqU : U → Option (List U)
  | .tup us => some us
  | .lst us => some us
  | .scr us => some us
  | .str x => some (signsU x)
  | _ => none
def itSeq (c : Cm U) : Cm (List U) := fun env S => match c env S with
  | none => none
  | some (u, S1) => match seqU u with
    | none => none
    | some us => some (us, S1)
theorem itSeq_some {c : Cm U} {env : Env'} {S S' : Sto} {us : List U} (h : itSeq c env S = some (us, S')) : ∃ u, c env S = some (u, S') ∧ seqU u = some us := by
  unfold itSeq at h
  split at h
  · cases h
  · rename_i u S1 e1
    split at h
    · cases h
    · rename_i us' e2
      cases h
      exact ⟨u, e1, e2⟩
section
variable {K : PySem.W.Frag} {m : Mp} {H : Hp} {S : Sto}
theorem RU.tupSt {us : List U} {v : V} (h : RU K G m H (.tup us) v) : ∃ a vs, v = .ref a ∧ RUs K G m H us vs ∧ ∀ m2 H2, Ext m H m2 H2 → SqT K H2 a vs := by
  unfold RU at h
  obtain ⟨a, vs, e, q, r⟩ := h
  refine ⟨a, vs, e, r, fun m2 H2 x => ?_⟩
  rcases q with ⟨q, n, nx⟩ | q
  · exact .inl (.inl (x.keep a _ q n))
  · exact .inr q.2
theorem RU.lstSt {us : List U} {v : V} (h : RU K G m H (.lst us) v) : ∃ a vs, v = .ref a ∧ RUs K G m H us vs ∧ ∀ m2 H2, Ext m H m2 H2 → SqL K H2 a vs := by
  unfold RU at h
  obtain ⟨a, vs, e, q, n, nx, r⟩ := h
  exact ⟨a, vs, e, r, fun m2 H2 x => .inl (x.rd q n).1⟩
theorem RU.scrSt {us : List U} {v : V} (h : RU K G m H (.scr us) v) : ∃ a vs, v = .ref a ∧ RUs K G m H us vs ∧ ∀ m2 H2, Ext m H m2 H2 → SqL K H2 a vs := by
  unfold RU at h
  obtain ⟨a, vs, e, q, r⟩ := h
  refine ⟨a, vs, e, r, fun m2 H2 x => ?_⟩
  rcases q with ⟨q, n, nx⟩ | q
  · exact .inl (x.rd q n).1
  · exact .inr q
theorem RUs.signs (x : Str) : RUs K G m H (signsU x) (OF.signs x) := by
  unfold signsU OF.signs
  induction x.cps.toList with
  | nil => exact RUs.nil
  | cons c r ih => exact RUs.cons rfl ih
theorem itok_at {us : List U} {vs : List V} {J : It} {Gd : Hp → Prop} (r : RUs K G m H us vs) (w : Walk J vs.length Gd (YAt vs)) (hG : ∀ m2 H2, Ext m H m2 H2 → Gd H2) : ItOk K G m H us J := by
  refine ⟨Gd, YAt vs, by rw [← r.length]; exact w, hG, fun i m2 S2 H2 x H3 x2 st2 hi ⟨e, hx⟩ => ?_⟩
  subst e
  obtain ⟨v, e', q⟩ := (RUs.keep x2.keeps _ _ r).get (List.getElem?_eq_getElem hi)
  rw [hx] at e'; cases e'
  exact ⟨_, List.getElem?_eq_getElem hi, Ext.refl _ _, st2, q⟩
theorem walk_strV {z : Str} : Walk (Its z) (OF.signs z).length (fun _ => True) (YAt (OF.signs z)) := by
  have w := walk_str (z := z)
  rw [show (OF.signs z).length = z.cps.size by simp [OF.signs]]
  refine w.mono (fun _ h => h) fun i H x H' hi _ ⟨e, c, hc, ev⟩ => ⟨e, ?_⟩
  subst ev
  unfold OF.signs
  rw [List.getElem?_map, Array.getElem?_toList, hc]
  rfl
end
theorem _root_.L2.PI.or3 {t1 t2 t3 : TI} (h1 : PI X tg iter t1) (h2 : PI X tg iter t2) (h3 : PI X tg iter t3) : PI X tg iter (fun σ H R => t1 σ H R ∨ t2 σ H R ∨ t3 σ H R) := ⟨fun pins s σ H R I hw => by
  rcases hw with hw | hw | hw
  · exact h1.run pins s σ H R I hw
  · exact h2.run pins s σ H R I hw
  · exact h3.run pins s σ H R I hw⟩
theorem ei_seq (he : EE G X e ca) : EI G X tg e (itSeq ca) := (PI.or3 (pi_tup he) (pi_list he) (pi_str he)).imp fun σ H R ⟨m, S, env, us, S', st, re, hc, q⟩ => by
  obtain ⟨u, e1, e2⟩ := itSeq_some hc
  cases u with
  | tup us' =>
    cases e2
    refine .inl ⟨m, S, env, _, S', st, re, e1, fun m1 H1 v x1 st1 r1 => ?_⟩
    obtain ⟨a, vs, ev, rv, hq⟩ := r1.tupSt
    exact ⟨a, ev, ⟨vs, hq m1 H1 (Ext.refl _ _)⟩, q m1 H1 x1 st1 _ (itok_at rv walk_tup hq)⟩
  | lst us' =>
    cases e2
    refine .inr (.inl ⟨m, S, env, _, S', st, re, e1, fun m1 H1 v x1 st1 r1 => ?_⟩)
    obtain ⟨a, vs, ev, rv, hq⟩ := r1.lstSt
    exact ⟨a, ev, ⟨vs, hq m1 H1 (Ext.refl _ _)⟩, q m1 H1 x1 st1 _ (itok_at rv walk_list hq)⟩
  | scr us' =>
    cases e2
    refine .inr (.inl ⟨m, S, env, _, S', st, re, e1, fun m1 H1 v x1 st1 r1 => ?_⟩)
    obtain ⟨a, vs, ev, rv, hq⟩ := r1.scrSt
    exact ⟨a, ev, ⟨vs, hq m1 H1 (Ext.refl _ _)⟩, q m1 H1 x1 st1 _ (itok_at rv walk_list hq)⟩
  | str x =>
    cases e2
    refine .inr (.inr ⟨m, S, env, _, S', st, re, e1, fun m1 H1 v x1 st1 r1 => ?_⟩)
    exact ⟨x, r1, q m1 H1 x1 st1 _ (itok_at (RUs.signs x) walk_strV fun _ _ _ => trivial)⟩
  | _ => cases e2
def rangeU (lo : Int) (n : Nat) : List U := (List.range n).map fun i => U.int (lo + (i : Nat))
def itR1 (c : Cm (List U)) : Cm (List U) := fun env S => match c env S with
  | some ([.int j], S1) => if -(2 ^ 62) ≤ j ∧ j < 2 ^ 62 then some (rangeU 0 j.toNat, S1) else none
  | _ => none
theorem itok_range {K : PySem.W.Frag} {m : Mp} {H : Hp} {lo : Int} {n : Nat} : ItOk K G m H (rangeU lo n) (Itr lo n) := by
  have hl : (rangeU lo n).length = n := by simp [rangeU]
  refine ⟨fun _ => True, YFn fun i => .int (lo + i), by rw [hl]; exact walk_range, fun _ _ _ => trivial, fun i m2 S2 H2 x H3 x2 st2 hi ⟨e, hx⟩ => ?_⟩
  subst e
  refine ⟨.int (lo + (i : Nat)), ?_, Ext.refl _ _, st2, hx⟩
  rw [hl] at hi
  unfold rangeU
  rw [List.getElem?_map, List.getElem?_range hi]
  rfl
theorem ei_range1 (hg : Gl X "range") (hm : X.mg "range" = none) (ha : EA G X [a] cl) (hs : starEach [a] X.env = [(false, eval a X.env)] := by rfl) : EI G X tg (.Call (.Name "range" p) [a] [] pos) (itR1 cl) := (pi_range1 hg hm ha hs).imp fun σ H R ⟨m, S, env, us, S', st, re, hc, q⟩ => by
  unfold itR1 at hc
  split at hc
  · rename_i j S1 e1
    split at hc
    · rename_i hj
      cases hc
      refine ⟨m, S, _, _, _, st, re, e1, fun m1 H1 vs x1 st1 r1 => ?_⟩
      obtain ⟨v, r, ev, rv, rr⟩ := r1.uncons
      have := rr.eqnil
      subst this
      cases rv
      exact ⟨j, ev, hj.1, hj.2, q m1 H1 x1 st1 _ itok_range⟩
    · cases hc
  · cases hc
def zipU (us ws : List U) : List U := (us.zip ws).map fun q => U.tup [q.1, q.2]
def itZip (c : Cm (List U)) : Cm (List U) := fun env S => match c env S with
  | some ([u, w], S1) => match seqU u, seqU w with
    | some us, some ws => some (zipU us ws, S1)
    | _, _ => none
  | _ => none
section
variable {K : PySem.W.Frag} {m : Mp} {H : Hp}
theorem itok_pair {us ws : List U} {vs zs : List V} {J : It} {Gd : Hp → Prop} (r : RUs K G m H us vs) (r' : RUs K G m H ws zs) (w : Walk J (min vs.length zs.length) Gd (YPair (fun i => vs[i]?) (fun i => zs[i]?))) (hG : ∀ m2 H2, Ext m H m2 H2 → Gd H2) : ItOk K G m H (zipU us ws) J := by
  have hl : (zipU us ws).length = min vs.length zs.length := by simp [zipU, r.length, r'.length]
  refine ⟨Gd, YPair (fun i => vs[i]?) (fun i => zs[i]?), by rw [hl]; exact w, hG, fun i m2 S2 H2 x H3 x2 st2 hi ⟨T, x1, y1, ev, hT, eH, hx, hy⟩ => ?_⟩
  subst ev eH
  rw [hl, r.length, r'.length] at hi
  have h1 : i < us.length := by omega
  have h2 : i < ws.length := by omega
  obtain ⟨v1, e1, q1⟩ := (RUs.keep x2.keeps _ _ r).get (List.getElem?_eq_getElem h1)
  obtain ⟨v2, e2, q2⟩ := (RUs.keep x2.keeps _ _ r').get (List.getElem?_eq_getElem h2)
  have hx' : vs[i]? = some x1 := hx
  have hy' : zs[i]? = some y1 := hy
  rw [hx'] at e1; cases e1
  rw [hy'] at e2; cases e2
  refine ⟨.tup [us[i], ws[i]], ?_, Ext.upd hT, st2.new hT, RU.newTup st2 hT (RUs.cons q1 (RUs.one q2))⟩
  unfold zipU
  rw [List.getElem?_map, List.getElem?_zip_eq_some (i := i) (z := (us[i], ws[i])) |>.mpr ⟨by simp [h1], by simp [h2]⟩]
  rfl
end
mutual
def toD : U → Option PyData
  | .non => some .none
  | .bl b => some (.bool b)
  | .int i => some (.int i)
  | .str x => some (.str x)
  | .tup us => match toDs us with
    | some ds => some (.tuple ds)
    | none => none
  | .lst us => match toDs us with
    | some ds => some (.list ds)
    | none => none
  | _ => none
def toDs : List U → Option (List PyData)
  | [] => some []
  | u :: us => match toD u with
    | none => none
    | some d => match toDs us with
      | none => none
      | some ds => some (d :: ds)
end
def toDS (S : Sto) : U → Option PyData
  | .ref n => match S[n]? with
    | some (.lst us) => match toDs us with
      | some ds => some (.list ds)
      | none => none
    | _ => none
  | u => toD u
section
variable {K : PySem.W.Frag} {m : Mp} {H : Hp} {S : Sto}
mutual
theorem toD_ok : ∀ (u : U) (v : V) (d : PyData), RU K G m H u v → toD u = some d → Dp K H v d
  | .non, v, d, r, h => by
    simp only [toD, Option.some.injEq] at h
    cases r; subst h; exact .non
  | .bl b, v, d, r, h => by
    simp only [toD, Option.some.injEq] at h
    cases r; subst h; exact .bl b
  | .int i, v, d, r, h => by
    simp only [toD, Option.some.injEq] at h
    cases r; subst h; exact .int i
  | .str x, v, d, r, h => by
    simp only [toD, Option.some.injEq] at h
    cases r; subst h; exact .str x
  | .tup us, v, d, r, h => by
    simp only [toD] at h
    split at h
    · rename_i ds e
      cases h
      obtain ⟨a, vs, rfl, hq, rv⟩ := r.tupT
      exact .tup hq (toDs_ok us vs ds rv e)
    · cases h
  | .lst us, v, d, r, h => by
    simp only [toD] at h
    split at h
    · rename_i ds e
      cases h
      obtain ⟨a, vs, rfl, hq, rv⟩ := r.lstL
      exact .lst hq (toDs_ok us vs ds rv e)
    · cases h
  | .scr us, v, d, r, h => by simp only [toD] at h; cases h
  | .ptp us, v, d, r, h => by simp only [toD] at h; cases h
  | .dct us, v, d, r, h => by simp only [toD] at h; cases h
  | .fn x, v, d, r, h => by simp only [toD] at h; cases h
  | .ref x, v, d, r, h => by simp only [toD] at h; cases h
theorem toDs_ok : ∀ (us : List U) (vs : List V) (ds : List PyData), RUs K G m H us vs → toDs us = some ds → DpAll K H vs ds
  | [], vs, ds, r, h => by
    simp only [toDs, Option.some.injEq] at h
    subst h
    rw [r.eqnil]
    exact .nil
  | u :: us, vs, ds, r, h => by
    simp only [toDs] at h
    split at h
    · cases h
    · rename_i d e1
      split at h
      · cases h
      · rename_i ds' e2
        cases h
        obtain ⟨v, t, rfl, q, tl⟩ := r.uncons
        exact .cons (toD_ok u v d q e1) (toDs_ok us t ds' tl e2)
end
theorem toDS_ok (st : Rst K G m H S) {u : U} {v : V} {d : PyData} (r : RU K G m H u v) (h : toDS S u = some d) : Dp K H v d := by
  cases u with
  | ref n =>
    simp only [toDS] at h
    split at h
    · rename_i us e
      split at h
      · rename_i ds e2
        cases h
        obtain ⟨a, ho, ha, hH, vs, rfl, rv⟩ := st.at e
        unfold RU at r
        obtain ⟨a', rfl, ha'⟩ := r
        rw [ha] at ha'; cases ha'
        exact .lst (SqL.of hH) (toDs_ok us vs ds rv e2)
      · cases h
    · cases h
  | _ => exact toD_ok _ _ _ r h
end
def eqDU (neg : Bool) : Op2 := fun a b S => match toDS S a, toDS S b with
  | some d, some e => if SeqAt.shaped d = true ∧ SeqAt.shaped e = true then some (.bl (if neg then !PyData.eqv d e else PyData.eqv d e), S) else none
  | _, _ => none
theorem opU_eqD (hu : X.A.units + 64 < cLine) : OpU G X (compareOp .Eq) (eqDU false) := OpR.imp (op_eqD hu) fun x y H Q ⟨m, S, u1, u2, z, S', st, r1, r2, e, q⟩ => by
  unfold eqDU at e
  split at e
  · rename_i d e' h1 h2
    split at e
    · rename_i hs
      cases e
      exact ⟨d, e', toDS_ok st r1 h1, toDS_ok st r2 h2, hs.1, hs.2, q.here st rfl⟩
    · cases e
  · cases e
theorem opU_neD (hu : X.A.units + 64 < cLine) : OpU G X (compareOp .NotEq) (eqDU true) := OpR.imp (op_neD hu) fun x y H Q ⟨m, S, u1, u2, z, S', st, r1, r2, e, q⟩ => by
  unfold eqDU at e
  split at e
  · rename_i d e' h1 h2
    split at e
    · rename_i hs
      cases e
      exact ⟨d, e', toDS_ok st r1 h1, toDS_ok st r2 h2, hs.1, hs.2, q.here st rfl⟩
    · cases e
  · cases e
end OF
namespace OF
open PySem PySem.Spec PyProof.Rows L2
variable {X : Cx} {G : Gx}
variable {e o a b tg iter : Expr} {es : List Expr} {ca cb : Cm U} {cl ck : Cm (List U)} {pos apos p : Pos}
theorem ou_add : OpU G X (binaryOp .Add) (o2I fun i j => some (.int (i + j))) := opU_I0 (g := fun i j => .int (i + j)) op_add fun _ _ _ _ => rfl
def mulI (i j : Int) : Option U := if i.natAbs.log2 + j.natAbs.log2 < 1000000 then some (.int (i * j)) else none
theorem ou_mul : OpU G X (binaryOp .Mult) (o2I mulI) := opU_I (g := fun i j => .int (i * j)) op_mulW fun i j u h => by
  unfold mulI at h
  split at h
  · cases h; exact ⟨by assumption, fun _ _ => rfl⟩
  · cases h
def divI (i j : Int) : Option U := if 0 < j ∧ j.natAbs.log2 < 9000 then some (.int (i / j)) else none
theorem ou_div : OpU G X (binaryOp .FloorDiv) (o2I divI) := opU_I (g := fun i j => .int (i / j)) op_fdivW fun i j u h => by
  unfold divI at h
  split at h
  · cases h; exact ⟨by assumption, fun _ _ => rfl⟩
  · cases h
def modI (i j : Int) : Option U := if 0 < j then some (.int (i % j)) else none
theorem ou_mod : OpU G X (binaryOp .Mod) (o2I modI) := opU_I (g := fun i j => .int (i % j)) op_mod fun i j u h => by
  unfold modI at h
  split at h
  · cases h; exact ⟨by assumption, fun _ _ => rfl⟩
  · cases h
def powI (i j : Int) : Option U := if 0 ≤ j ∧ j ≤ 1000000 ∧ i.natAbs < 2 ^ 64 then some (.int (i ^ j.toNat)) else none
theorem ou_pow : OpU G X (binaryOp .Pow) (o2I powI) := opU_I (g := fun i j => .int (i ^ j.toNat)) op_pow fun i j u h => by
  unfold powI at h
  split at h
  · cases h; exact ⟨by assumption, fun _ _ => rfl⟩
  · cases h
theorem ou_lt : OpU G X (compareOp .Lt) (o2I fun i j => some (.bl (decide (i < j)))) := opU_I0 (g := fun i j => .bl (decide (i < j))) op_lt fun _ _ _ _ => rfl
theorem ou_le : OpU G X (compareOp .LtE) (o2I fun i j => some (.bl (decide (i ≤ j)))) := opU_I0 (g := fun i j => .bl (decide (i ≤ j))) op_le fun _ _ _ _ => rfl
theorem ou_gt : OpU G X (compareOp .Gt) (o2I fun i j => some (.bl (decide (j < i)))) := opU_I0 (g := fun i j => .bl (decide (j < i))) op_gt fun _ _ _ _ => rfl
theorem ou_ge : OpU G X (compareOp .GtE) (o2I fun i j => some (.bl (decide (j ≤ i)))) := opU_I0 (g := fun i j => .bl (decide (j ≤ i))) op_ge fun _ _ _ _ => rfl
def o1I (f : Int → U) : Op1 := fun u S => match u with
  | .int i => some (f i, S)
  | _ => none
theorem uu_neg : UnU G X (unaryOp .USub) (o1I fun i => .int (-i)) := UnR.imp un_neg fun x H Q ⟨m, S, u, z, S', st, r, e, q⟩ => by
  unfold o1I at e
  split at e
  · rename_i i
    cases e
    exact ⟨i, r, q.here st rfl⟩
  · cases e
def strAdd : Op2 := fun a b S => match a, b with
  | .str x, .str y => if x.length + y.length ≤ sizeLine then some (.str (x ++ y), S) else none
  | _, _ => none
theorem ou_addS : OpU G X (binaryOp .Add) strAdd := OpR.imp op_add_str fun x y H Q ⟨m, S, u1, u2, z, S', st, r1, r2, e, q⟩ => by
  unfold strAdd at e
  split at e
  · split at e
    · cases e
      exact ⟨_, _, r1, r2, by assumption, q.here st rfl⟩
    · cases e
  · cases e
def tupAdd : Op2 := fun a b S => match a, b with
  | .tup us, .tup ws => if us.length + ws.length ≤ sizeLine then some (.tup (us ++ ws), S) else none
  | _, _ => none
theorem ou_addT : OpU G X (binaryOp .Add) tupAdd := OpR.imp op_catA fun x y H Q ⟨m, S, u1, u2, z, S', st, r1, r2, e, q⟩ => by
  unfold tupAdd at e
  split at e
  · split at e
    · rename_i us ws hl
      cases e
      have r1' := r1
      have r2' := r2
      obtain ⟨a, vs, rfl, hq, rv⟩ := r1.tupT
      obtain ⟨b, zs, rfl, hq2, rv2⟩ := r2.tupT
      refine ⟨a, b, vs, zs, rfl, rfl, hq, hq2, by rw [rv.length, rv2.length]; exact hl, fun h => ?_, fun _ h => ?_, fun h1 h2 => q.tup st (rv.append rv2)⟩
      · subst h
        have : us = [] := by
          have := rv.length
          cases us with
          | nil => rfl
          | cons _ _ => simp at this
        subst this
        exact q.here st r2'
      · subst h
        have : ws = [] := by
          have := rv2.length
          cases ws with
          | nil => rfl
          | cons _ _ => simp at this
        subst this
        rw [List.append_nil] at q
        exact q.here st r1'
    · cases e
  · cases e
def lstU (S : Sto) : U → Option (List U)
  | .lst us => some us
  | .ref n => match S[n]? with
    | some (.lst us) => some us
    | _ => none
  | _ => none
theorem lstU_ok {K : PySem.W.Frag} {m : Mp} {H : Hp} {S : Sto} (st : Rst K G m H S) {u : U} {v : V} {us : List U} (r : RU K G m H u v) (h : lstU S u = some us) : ∃ a vs, v = .ref a ∧ Rd H a (.lst vs) ∧ RUs K G m H us vs := by
  cases u with
  | lst us' =>
    cases h
    obtain ⟨a, vs, rfl, hq, _, _, rv⟩ := r.lstR
    exact ⟨a, vs, rfl, hq, rv⟩
  | ref n =>
    simp only [lstU] at h
    split at h
    · rename_i us' e
      cases h
      obtain ⟨a, ho, ha, hH, vs, rfl, rv⟩ := st.at e
      unfold RU at r
      obtain ⟨a', rfl, ha'⟩ := r
      rw [ha] at ha'; cases ha'
      exact ⟨a, vs, rfl, .inl hH, rv⟩
    · cases h
  | _ => cases h
theorem _root_.L2.Inv.lstR {pins : List (Addr × Obj)} {σ : L2.St} {H : Hp} {s : Shared} {p : Addr} {xs : List V} (I : Inv X pins σ H s) (h : Rd H p (.lst xs)) : xs.length ≤ sizeLine ∧ ∃ (its : List Value) (n : Nat), Vals xs its ∧ s.heap.get? p = some { cls := .type "list", data := .seq its.toArray n } := h.ok I.hok
theorem op_catR : OpR X (binaryOp .Add) (fun x y H Q => ∃ l b xs zs, x = .ref l ∧ y = .ref b ∧ Rd H l (.lst xs) ∧ Rd H b (.lst zs) ∧ xs.length + zs.length ≤ sizeLine ∧ ∀ p, H p = none → Q (.ref p) (upd H p (.lst (xs ++ zs)))) := by
  intro pins s σ H x y v u Q I rx ry h
  obtain ⟨l, b, xs, zs, rfl, rfl, hH, hB, hz, q⟩ := h
  cases rx
  cases ry
  obtain ⟨z, its, n, r, e⟩ := I.lstR hH
  obtain ⟨z2, its2, n2, r2, e2⟩ := I.lstR hB
  have hl := r.length
  have hl2 := r2.length
  refine PySem.P.add_list e e2 ?_ (by rw [List.size_toArray, List.size_toArray]; omega)
  have ea : its.toArray ++ its2.toArray = (its ++ its2).toArray := by simp
  rw [ea]
  exact ⟨.ref _, _, I.lnew (t' := s.toks) (r.append r2) (by rw [List.length_append]; omega), rfl, q _ I.fresh⟩
def lstAdd (mu : Bool) : Op2 := fun a b S => match lstU S a, lstU S b with
  | some us, some ws => if us.length + ws.length ≤ sizeLine then (if mu then some (.ref S.length, S ++ [.lst (us ++ ws)]) else some (.lst (us ++ ws), S)) else none
  | _, _ => none
theorem ou_addL (mu : Bool) : OpU G X (binaryOp .Add) (lstAdd mu) := OpR.imp op_catR fun x y H Q ⟨m, S, u1, u2, z, S', st, r1, r2, e, q⟩ => by
  unfold lstAdd at e
  split at e
  · rename_i us ws e1 e2
    split at e
    · rename_i hl
      obtain ⟨a, vs, rfl, hq, rv⟩ := lstU_ok st r1 e1
      obtain ⟨b, zs, rfl, hq2, rv2⟩ := lstU_ok st r2 e2
      refine ⟨a, b, vs, zs, rfl, rfl, hq, hq2, by rw [rv.length, rv2.length]; exact hl, ?_⟩
      cases mu with
      | true => cases e; exact q.cell st ⟨_, rfl, rv.append rv2⟩
      | false => cases e; exact q.lst st (rv.append rv2)
    · cases e
  · cases e
def addU (mu : Bool) : Op2 := orO (o2I fun i j => some (.int (i + j))) (orO strAdd (orO tupAdd (lstAdd mu)))
theorem ou_addA (mu : Bool) : OpU G X (binaryOp .Add) (addU mu) := opU_or ou_add (opU_or ou_addS (opU_or ou_addT (ou_addL mu)))
def itmU (S : Sto) : U → Option (List U)
  | .tup us => some us
  | .lst us => some us
  | .scr us => some us
  | .ref n => match S[n]? with
    | some (.lst us) => some us
    | _ => none
  | _ => none
def ixU : Op2 := fun a b S => match a, b with
  | .str z, .int i => if z.length ≤ sizeLine then (match atI z.cps.toList i with
    | some c => some (.str ⟨#[c]⟩, S)
    | none => none) else none
  | u, .int i => match itmU S u with
    | some us => match atI us i with
      | some w => some (w, S)
      | none => none
    | none => none
  | _, _ => none
theorem RUs.at' {K : PySem.W.Frag} {m : Mp} {H : Hp} {us : List U} {vs : List V} {i : Int} {u : U} (r : RUs K G m H us vs) (h : atI us i = some u) : ∃ v, atI vs i = some v ∧ RU K G m H u v := by
  unfold atI at h ⊢
  rw [r.length]
  cases q : ixN us.length i with
  | none => rw [q] at h; cases h
  | some j =>
    rw [q] at h
    exact r.get h
theorem re_ix {K : PySem.W.Frag} {x y : V} {H : Hp} {Q : VK} (h : r2U K G ixU x y H Q) : rIx K x y H Q := by
  obtain ⟨m, S, u1, u2, z, S', st, r1, r2, e, q⟩ := h
  unfold ixU at e
  split at e
  · rename_i z0 i
    split at e
    · split at e
      · rename_i c hc
        cases e
        exact .inr (.inr ⟨z0, i, c, r1, r2, by assumption, hc, q.here st rfl⟩)
      · cases e
    · cases e
  · rename_i i hne
    split at e
    · rename_i us e1
      split at e
      · rename_i w e2
        cases e
        cases r2
        cases u1 with
        | tup us' =>
          cases e1
          obtain ⟨a, vs, rfl, hq, rv⟩ := r1.tupT
          obtain ⟨v, ev, rv'⟩ := rv.at' e2
          exact .inr (.inl ⟨a, vs, i, v, rfl, rfl, hq, ev, q.here st rv'⟩)
        | lst us' =>
          cases e1
          obtain ⟨a, vs, rfl, hq, rv⟩ := r1.lstL
          obtain ⟨v, ev, rv'⟩ := rv.at' e2
          exact .inl ⟨a, vs, i, v, rfl, rfl, hq, ev, q.here st rv'⟩
        | scr us' =>
          cases e1
          obtain ⟨a, vs, rfl, hq, rv⟩ := r1.scrL
          obtain ⟨v, ev, rv'⟩ := rv.at' e2
          exact .inl ⟨a, vs, i, v, rfl, rfl, hq, ev, q.here st rv'⟩
        | ref n =>
          simp only [itmU] at e1
          split at e1
          · rename_i us' es
            cases e1
            obtain ⟨a, ho, ha, hH, vs, rfl, rv⟩ := st.at es
            unfold RU at r1
            obtain ⟨a', rfl, ha'⟩ := r1
            rw [ha] at ha'; cases ha'
            obtain ⟨v, ev, rv'⟩ := rv.at' e2
            exact .inl ⟨a, vs, i, v, rfl, rfl, SqL.of hH, ev, q.here st rv'⟩
          · cases e1
        | _ => cases e1
      · cases e
    · cases e
  · cases e
theorem ee_ix (ha : EE G X a ca) (hb : EE G X b cb) (hs : PlainIx b := by intro _ _; rfl) : EE G X (.Subscript a b pos) (cBin ixU ca cb) := (pe_ix ix_seq ha hb hs).imp fun σ H Q h => by
  obtain ⟨m, S, env, u, S1, st, re, e1, q⟩ := re_op h
  refine ⟨m, S, env, u, S1, st, re, e1, fun m1 H1 x x1 st1 r1 => ?_⟩
  obtain ⟨m2, S2, env2, u2, S3, st2, re2, e2, q2⟩ := q m1 H1 x x1 st1 r1
  exact ⟨m2, S2, env2, u2, S3, st2, re2, e2, fun m3 H3 y x3 st3 r3 => re_ix (q2 m3 H3 y x3 st3 r3)⟩
end OF
namespace OF
open PySem PySem.Spec PyProof.Rows L2
section
variable {X : Cx} {G : Gx} {es : List Expr} {e : Expr} {pos : Pos}
theorem itmU_ok {K : PySem.W.Frag} {m : Mp} {H : Hp} {S : Sto} (st : Rst K G m H S) {u : U} {v : V} {us : List U} (r : RU K G m H u v) (h : itmU S u = some us) : ∃ a vs, v = .ref a ∧ (SqT K H a vs ∨ SqL K H a vs) ∧ RUs K G m H us vs := by
  cases u with
  | tup us' =>
    cases h
    obtain ⟨a, vs, rfl, hq, rv⟩ := r.tupT
    exact ⟨a, vs, rfl, .inl hq, rv⟩
  | lst us' =>
    cases h
    obtain ⟨a, vs, rfl, hq, rv⟩ := r.lstL
    exact ⟨a, vs, rfl, .inr hq, rv⟩
  | scr us' =>
    cases h
    obtain ⟨a, vs, rfl, hq, rv⟩ := r.scrL
    exact ⟨a, vs, rfl, .inr hq, rv⟩
  | ref n =>
    simp only [itmU] at h
    split at h
    · rename_i us' e
      cases h
      obtain ⟨a, ho, ha, hH, vs, rfl, rv⟩ := st.at e
      unfold RU at r
      obtain ⟨a', rfl, ha'⟩ := r
      rw [ha] at ha'; cases ha'
      exact ⟨a, vs, rfl, .inr (SqL.of hH), rv⟩
    · cases h
  | _ => cases h
end
end OF
namespace OF
open PySem PySem.Spec PyProof.Rows L2
variable {X : Cx} {G : Gx}
variable {e o a b c tg iter : Expr} {es : List Expr} {ca cb cc : Cm U} {cl ck : Cm (List U)} {pos apos cpos p : Pos} {x : Str}
theorem re_cb {K : PySem.W.Frag} {f : OpN} {σ : L2.St} {H : Hp} {Q : VK} (h : RE K G (cArg f cl) σ H Q) : tCB (rNU K G f) (RA K G cl) σ H Q := re_arg h
theorem ee_callB {id : String} {f : OpN} (hc : CallU G X (.builtin id) f) (hg : Gl X x) (hm : X.mg x = none) (hv : bootBuiltins x = some (.builtin id)) (ha : EA G X (e :: es) cl) (hn : x ≠ "__name__" := by decide) (hdb : (x == ("__debug__" : Str)) = false := by decide)
    (he : starEach (e :: es) X.env = (false, eval e X.env) :: starEach es X.env := by rfl) (hpl : (backTo pos (starEach es X.env)).any (·.1) = false := by rfl) : EE G X (.Call (.Name x p) (e :: es) [] pos) (cArg f cl) := (pe_callB hc hg hm hv ha hn hdb he hpl).imp fun _ _ _ => re_cb
theorem ee_callTy {T : String} {f : OpN} (hc : CallU G X (.type T) f) (hg : Gl X x) (hm : X.mg x = none) (hv : bootBuiltins x = some (.type T)) (ha : EA G X (e :: es) cl) (hn : x ≠ "__name__" := by decide) (hdb : (x == ("__debug__" : Str)) = false := by decide)
    (he : starEach (e :: es) X.env = (false, eval e X.env) :: starEach es X.env := by rfl) (hpl : (backTo pos (starEach es X.env)).any (·.1) = false := by rfl) : EE G X (.Call (.Name x p) (e :: es) [] pos) (cArg f cl) := (pe_callTy hc hg hm hv ha hn hdb he hpl).imp fun _ _ _ => re_cb
def on1 (f : Op1) : OpN := fun us S => match us with
  | [u] => f u S
  | _ => none
def on2 (f : Op2) : OpN := fun us S => match us with
  | [u, w] => f u w S
  | _ => none
theorem on1_some {f : Op1} {us : List U} {S : Sto} {r : U × Sto} (h : on1 f us S = some r) : ∃ u, us = [u] ∧ f u S = some r := by
  unfold on1 at h
  split at h
  · exact ⟨_, rfl, h⟩
  · cases h
theorem on2_some {f : Op2} {us : List U} {S : Sto} {r : U × Sto} (h : on2 f us S = some r) : ∃ u w, us = [u, w] ∧ f u w S = some r := by
  unfold on2 at h
  split at h
  · exact ⟨_, _, rfl, h⟩
  · cases h
section
variable {K : PySem.W.Frag} {m : Mp} {H : Hp} {S : Sto}
theorem RUs.one1 {u : U} {vs : List V} (r : RUs K G m H [u] vs) : ∃ v, vs = [v] ∧ RU K G m H u v := by
  obtain ⟨v, t, e, q, tl⟩ := r.uncons
  rw [tl.eqnil] at e
  exact ⟨v, e, q⟩
theorem RUs.two {u w : U} {vs : List V} (r : RUs K G m H [u, w] vs) : ∃ v z, vs = [v, z] ∧ RU K G m H u v ∧ RU K G m H w z := by
  obtain ⟨v, t, e, q, tl⟩ := r.uncons
  obtain ⟨z, e2, q2⟩ := tl.one1
  rw [e2] at e
  exact ⟨v, z, e, q, q2⟩
end
def lenU : Op1 := fun u S => match u with
  | .str y => if y.length ≤ sizeLine then some (.int y.length, S) else none
  | u => match itmU S u with
    | some us => some (.int us.length, S)
    | none => none
theorem cu_len : CallU G X (.builtin "len") (on1 lenU) := CallR.imp call_len fun xs H Q ⟨m, S, us, z, S', st, r0, e0, q⟩ => by
  obtain ⟨u, rfl, e⟩ := on1_some e0
  obtain ⟨v, rfl, r⟩ := r0.one1
  unfold lenU at e
  split at e
  · split at e
    · cases e
      cases r
      exact ⟨_, _, rfl, ⟨by assumption, rfl⟩, q.here st rfl⟩
    · cases e
  · split at e
    · rename_i us e1
      cases e
      obtain ⟨a, vs, rfl, hq, rv⟩ := itmU_ok st r e1
      refine ⟨_, vs.length, rfl, ?_, q.here st (by rw [rv.length]; rfl)⟩
      rcases hq with hq | hq
      · exact .inr ⟨vs, hq, rfl⟩
      · exact .inl ⟨vs, hq, rfl⟩
    · cases e
def absU : Op1 := o1I fun i => .int (if i < 0 then -i else i)
theorem o1I_some {f : Int → U} {u : U} {S : Sto} {r : U × Sto} (h : o1I f u S = some r) : ∃ i, u = .int i ∧ r = (f i, S) := by
  unfold o1I at h
  split at h
  · cases h; exact ⟨_, rfl, rfl⟩
  · cases h
theorem cu_abs : CallU G X (.builtin "abs") (on1 absU) := CallR.imp call_abs fun xs H Q ⟨m, S, us, z, S', st, r0, e0, q⟩ => by
  obtain ⟨u, rfl, e⟩ := on1_some e0
  obtain ⟨v, rfl, r⟩ := r0.one1
  obtain ⟨i, rfl, er⟩ := o1I_some e
  cases er
  cases r
  exact ⟨i, rfl, q.here st rfl⟩
def maxU : Op2 := o2I fun i j => some (.int (if j > i then j else i))
def minU : Op2 := o2I fun i j => some (.int (if j < i then j else i))
theorem cu_max (hc : X.calm = true) : CallU G X (.builtin "max") (on2 maxU) := CallR.imp (call_max2 hc) fun xs H Q ⟨m, S, us, z, S', st, r0, e0, q⟩ => by
  obtain ⟨u, w, rfl, e⟩ := on2_some e0
  obtain ⟨v, v2, rfl, r, r2⟩ := r0.two
  obtain ⟨i, j, y, rfl, rfl, e1, er⟩ := o2I_some e
  cases e1; cases er; cases r; cases r2
  exact ⟨i, j, rfl, q.here st rfl⟩
theorem cu_min (hc : X.calm = true) : CallU G X (.builtin "min") (on2 minU) := CallR.imp (call_min2 hc) fun xs H Q ⟨m, S, us, z, S', st, r0, e0, q⟩ => by
  obtain ⟨u, w, rfl, e⟩ := on2_some e0
  obtain ⟨v, v2, rfl, r, r2⟩ := r0.two
  obtain ⟨i, j, y, rfl, rfl, e1, er⟩ := o2I_some e
  cases e1; cases er; cases r; cases r2
  exact ⟨i, j, rfl, q.here st rfl⟩
def intU : Op1 := fun u S => match u with
  | .int i => some (.int i, S)
  | .bl k => some (.int (if k then 1 else 0), S)
  | _ => none
theorem cu_int : CallU G X (.type "int") (on1 intU) := CallR.imp call_int1 fun xs H Q ⟨m, S, us, z, S', st, r0, e0, q⟩ => by
  obtain ⟨u, rfl, e⟩ := on1_some e0
  obtain ⟨v, rfl, r⟩ := r0.one1
  unfold intU at e
  split at e
  · cases e; cases r
    exact .inl ⟨_, rfl, q.here st rfl⟩
  · cases e; cases r
    exact .inr ⟨_, rfl, q.here st rfl⟩
  · cases e
def boolsU : List U → Option (List Bool)
  | [] => some []
  | .bl b :: r => match boolsU r with
    | some bs => some (b :: bs)
    | none => none
  | _ => none
theorem boolsU_ok {K : PySem.W.Frag} {m : Mp} {H : Hp} : ∀ {us : List U} {vs : List V} {bs : List Bool}, RUs K G m H us vs → boolsU us = some bs → vs = bs.map V.bl
  | [], vs, bs, r, h => by
    cases h
    exact r.eqnil
  | u :: us, vs, bs, r, h => by
    obtain ⟨v, t, rfl, q, tl⟩ := r.uncons
    cases u with
    | bl b =>
      simp only [boolsU] at h
      split at h
      · rename_i bs' e
        cases h
        cases q
        rw [boolsU_ok tl e]
        rfl
      · cases h
    | _ => simp only [boolsU] at h; cases h
def allU (any : Bool) : Op1 := fun u S => match lstU S u with
  | some us => match boolsU us with
    | some bs => some (.bl (if any then bs.any id else bs.all id), S)
    | none => none
  | none => none
theorem cu_all (hc : X.calm = true) : CallU G X (.builtin "all") (on1 (allU false)) := CallR.imp (cr_all hc) fun xs H Q ⟨m, S, us, z, S', st, r0, e0, q⟩ => by
  obtain ⟨u, rfl, e⟩ := on1_some e0
  obtain ⟨v, rfl, r⟩ := r0.one1
  unfold allU at e
  split at e
  · rename_i us e1
    split at e
    · rename_i bs e2
      cases e
      obtain ⟨a, vs, rfl, hq, rv⟩ := lstU_ok st r e1
      exact ⟨a, bs, rfl, by rw [← boolsU_ok rv e2]; exact .inl hq, q.here st rfl⟩
    · cases e
  · cases e
def tyU (S : Sto) : U → Option String
  | .non => some "NoneType"
  | .bl _ => some "bool"
  | .int _ => some "int"
  | .str _ => some "str"
  | .tup _ => some "tuple"
  | .lst _ => some "list"
  | .dct _ => some "dict"
  | .ref n => match S[n]? with
    | some (.lst _) => some "list"
    | some (.dct _) => some "dict"
    | some (.dtt _) => some "dict"
    | _ => none
  | _ => none
def cIsi (T : String) (c : Cm U) : Cm U := fun env S => match c env S with
  | none => none
  | some (u, S1) => match tyU S1 u with
    | none => none
    | some t => match kitB t T with
      | some r => some (.bl r, S1)
      | none => none
def cTab (tbl : List (Str × U)) (c : Cm U) : Cm U := fun env S => match c env S with
  | some (.str z, S1) => match tbl.lookup z with
    | some u => some (u, S1)
    | none => none
  | _ => none
def cMth (f : U → OpN) (a : Cm U) (r : Cm (List U)) : Cm U := fun env S => match a env S with
  | none => none
  | some (u, S1) => match r env S1 with
    | none => none
    | some (us, S2) => f u us S2
def tyOkU (T : String) (S : Sto) : U → Bool
  | .str _ => T == "str"
  | .lst _ => T == "list"
  | .ref n => match S[n]? with
    | some (.lst _) => T == "list"
    | some (.dct _) => T == "dict"
    | some (.dtt _) => T == "dict"
    | _ => false
  | _ => false
theorem tyOkU_ok {K : PySem.W.Frag} {m : Mp} {H : Hp} {S : Sto} {T : String} (st : Rst K G m H S) {u : U} {v : V} (r : RU K G m H u v) (h : tyOkU T S u = true) : tyV K T v H := by
  cases u with
  | str x => cases r; exact eq_of_beq h
  | lst us =>
    obtain ⟨a, vs, rfl, hq, rv⟩ := r.lstL
    exact .inl ⟨eq_of_beq h, vs, hq⟩
  | ref n =>
    unfold RU at r
    obtain ⟨a', rfl, ha'⟩ := r
    simp only [tyOkU] at h
    split at h
    · rename_i us e
      obtain ⟨a, ho, ha, hH, vs, rfl, rv⟩ := st.at e
      rw [ha] at ha'; cases ha'
      exact .inl ⟨eq_of_beq h, vs, SqL.of hH⟩
    · rename_i us e
      obtain ⟨a, ho, ha, hH, vs, rfl, rv⟩ := st.at e
      rw [ha] at ha'; cases ha'
      exact .inr (.inr (.inl ⟨eq_of_beq h, .inl ⟨vs, hH⟩⟩))
    · rename_i us e
      obtain ⟨a, ho, ha, hH, vs, rfl, rv⟩ := st.at e
      rw [ha] at ha'; cases ha'
      exact .inr (.inr (.inl ⟨eq_of_beq h, .inr ⟨vs, hH⟩⟩))
    · cases h
  | _ => cases h
def cMt (T : String) (f : U → OpN) (a : Cm U) (r : Cm (List U)) : Cm U := fun env S => match a env S with
  | none => none
  | some (u, S1) => if tyOkU T S1 u = true then (match r env S1 with
    | none => none
    | some (us, S2) => f u us S2) else none
abbrev MtU (G : Gx) (X : Cx) (id : String) (f : U → OpN) : Prop := MtR X id (rMU X.K G f)
theorem MtR.imp {id : String} {r r' : V → List V → Hp → VK → Prop} (h : MtR X id r) (i : ∀ x xs H Q, r' x xs H Q → r x xs H Q) : MtR X id r' := fun pins s σ H x xs v us Q I rx rv q => h pins s σ H x xs v us Q I rx rv (i x xs H Q q)
variable {name : Str} {T id : String} {f : U → OpN}
theorem re_mt {K : PySem.W.Frag} {σ : L2.St} {H : Hp} {Q : VK} (h : RE K G (cMt T f ca cl) σ H Q) : tBM K T (rMU K G f) (RE K G ca) (RA K G cl) σ H Q := by
  obtain ⟨m, S, env, z, S', st, re, hc, q⟩ := h
  unfold cMt at hc
  split at hc
  · cases hc
  · rename_i u S1 e1
    split at hc
    · rename_i ht
      split at hc
      · cases hc
      · rename_i us S2 e2
        refine ⟨m, S, env, u, S1, st, re, e1, fun m1 H1 v x1 st1 r1 => ⟨tyOkU_ok st1 r1 ht, m1, S1, env, us, S2, st1, re.keep x1.keeps, e2, fun m2 H2 xs x2 st2 r2 => ?_⟩⟩
        exact ⟨m2, S2, u, us, z, S', st2, RU.keep x2.keeps _ _ r1, r2, hc, (q.mono x1).mono x2⟩
    · cases hc
theorem ee_mt (pa : PlainAttrs T) (slot : Slot T name id) (hty : typeOf (.builtin id) = pure (.type "method_descriptor")) (hm : MtU G X id f) (ho : EE G X o ca) (ha : EA G X (e :: es) cl)
    (hbase : attributeBase o name X.env (eval o X.env) = eval o X.env := by rfl)
    (hfew : ((backTo cpos (starEach (e :: es) X.env)).all (fun x => !x.1) && (backToKw cpos (keywordEach [] X.env)).all (fun x => x.1.isSome)
      && decide ((e :: es).length + ([] : List Keyword).length + (if ([] : List Keyword).isEmpty then 0 else 1) < 30)) = true := by rfl)
    (hline : (apos.endLine == cpos.line) = true := by rfl) (hs : starEach (e :: es) X.env = (false, eval e X.env) :: starEach es X.env := by rfl) (hplain : (backTo cpos (starEach es X.env)).any (·.1) = false := by rfl) :
    EE G X (.Call (.Attribute o name apos) (e :: es) [] cpos) (cMt T f ca cl) := (pe_bm pa slot hty hm ho ha hbase hfew hline hs hplain).imp fun _ _ _ => re_mt
def cellL (S : Sto) (u : U) (k : Nat → List U → Option (U × Sto)) : Option (U × Sto) := match u with
  | .ref n => match S[n]? with
    | some (.lst us) => k n us
    | _ => none
  | _ => none
theorem cellL_some {S : Sto} {u : U} {k : Nat → List U → Option (U × Sto)} {r : U × Sto} (h : cellL S u k = some r) : ∃ n us, u = .ref n ∧ S[n]? = some (.lst us) ∧ k n us = some r := by
  unfold cellL at h
  split at h
  · rename_i n
    split at h
    · rename_i us e
      exact ⟨n, us, rfl, e, h⟩
    · cases h
  · cases h
theorem RU.cellAt {K : PySem.W.Frag} {m : Mp} {H : Hp} {n : Nat} {v : V} (h : RU K G m H (.ref n) v) : ∃ a, v = .ref a ∧ m.c[n]? = some a := by
  unfold RU at h
  exact h
theorem After.setc {K : PySem.W.Frag} {m : Mp} {H : Hp} {S : Sto} {n : Nat} {a : Addr} {u : U} {v : V} {o : O} {ho : HO} {Q : VK} (q : After K G m H u (S.set n o) Q) (st : Rst K G m H S) (ha : m.c[n]? = some a) (ro : RO K G m H o ho) (ru : RU K G m H u v) {hz : HO} (hH : H a = some hz) (hf : ∀ ob u, hz ≠ .frz ob u := by intro _ _ e; cases e) : Q v (upd H a ho) := by
  have hm : a ∈ m.c := List.mem_of_getElem? ha
  exact q m _ v (Ext.set hm (fun ob u e => by rw [hH] at e; cases e; exact hf ob u rfl)) (st.set ha (RO.keep (keeps_set hm) _ _ ro)) (RU.keep (keeps_set hm) _ _ ru)
def appU : U → OpN := fun u us S => match us with
  | [y] => cellL S u fun n xs => if xs.length < sizeLine then some (.non, S.set n (.lst (xs ++ [y]))) else none
  | _ => none
theorem mu_append : MtU G X "list.append" appU := MtR.imp mt_append fun x xs H Q ⟨m, S, u, us, z, S', st, r, rs, e, q⟩ => by
  unfold appU at e
  split at e
  · rename_i y
    obtain ⟨n, ws, rfl, es, e1⟩ := cellL_some e
    replace e := e1
    split at e
    · rename_i hl
      cases e
      obtain ⟨a, rfl, ha⟩ := r.cellAt
      obtain ⟨a', ho, ha', hH, vs, rfl, rv⟩ := st.at es
      rw [ha] at ha'; cases ha'
      obtain ⟨v, rfl, ry⟩ := rs.one1
      exact ⟨a, vs, v, rfl, rfl, hH, by rw [rv.length]; exact hl, q.setc st ha ⟨_, rfl, rv.append (RUs.one ry)⟩ rfl hH⟩
    · cases e
  · cases e
def popAtU : U → OpN := fun u us S => match us with
  | [.int i] => cellL S u fun n xs => if -(2 ^ 63) ≤ i ∧ i < 2 ^ 63 then (match seqIndex? i xs.length with
    | some k => match xs[k]? with
      | some y => some (y, S.set n (.lst (xs.eraseIdx k)))
      | none => none
    | none => none) else none
  | _ => none
def sSetI (f : U → U → U → Sto → Option Sto) (o i v : Cm U) : Sm := fun env S => match v env S with
  | none => none
  | some (w, S1) => match o env S1 with
    | none => none
    | some (u, S2) => match i env S2 with
      | none => none
      | some (j, S3) => match f u j w S3 with
        | some S4 => some (.nx, env, S4)
        | none => none
def setL : U → U → U → Sto → Option Sto := fun u j w S => match u, j with
  | .ref n, .int k => match S[n]? with
    | some (.lst us) => match ixN us.length k with
      | some i => some (S.set n (.lst (us.set i w)))
      | none => none
    | _ => none
  | _, _ => none
theorem es_setL {i : Expr} {ci cv : Cm U} {pos' : Pos} (ho : EE G X o ca) (hi : EE G X i ci) (hv : EE G X e cv) (hs : swapsWithSole [.Subscript o i pos'] e pos.line X.env = pure false := by rfl) (hw : swappedStores [.Subscript o i pos'] e X.env = pure none := by rfl)
    (h1 : (assignEach [.Subscript o i pos'] X.env).map (·.2) = [assign (.Subscript o i pos') X.env] := by rfl) (ha : ∀ v, assign (.Subscript o i pos') X.env v = (do
      let ov ← holding [v] (eval o X.env)
      let iv ← holding [v, ov] (eval i X.env)
      standAt pos'
      holding [v, ov, iv] (setItem ov iv v)
      release [v, ov, iv] []) := by intro _; rfl) : ES G X (.Assign [.Subscript o i pos'] e pos) (sSetI setL ca ci cv) :=
  (ps_asg hv (pg_sub ho hi set_list ha) hs hw h1).imp fun D σ H ⟨m, S, env, fl, env', S', st, re, hc, q⟩ => by
    unfold sSetI at hc
    split at hc
    · cases hc
    · rename_i w S1 e1
      split at hc
      · cases hc
      · rename_i u S2 e2
        split at hc
        · cases hc
        · rename_i j S3 e3
          split at hc
          · rename_i S4 e4
            cases hc
            refine ⟨m, S, _, w, S1, st, re, e1, fun m1 H1 v x1 st1 r1 => ⟨m1, S1, _, u, S2, st1, re.keep x1.keeps, e2, fun m2 H2 y x2 st2 r2 => ⟨m2, S2, _, j, S3, st2, (re.keep x1.keeps).keep x2.keeps, e3, fun m3 H3 z x3 st3 r3 => ?_⟩⟩⟩
            unfold setL at e4
            split at e4
            · rename_i n k
              split at e4
              · rename_i us es
                split at e4
                · rename_i i' hi'
                  cases e4
                  obtain ⟨a, rfl, ha⟩ := r2.cellAt
                  have ha3 := x3.at ha
                  obtain ⟨a', ho, ha', hH, vs, rfl, rv⟩ := st3.at es
                  rw [ha3] at ha'; cases ha'
                  cases r3
                  have hm3 : a ∈ m3.c := List.mem_of_getElem? ha3
                  have rw3 := RU.keep (x2.trans x3).keeps _ _ r1
                  have x4 : Ext m3 H3 m3 (upd H3 a (.lst (vs.set i' v))) := Ext.set hm3 (fun ob u e => by rw [hH] at e; cases e)
                  refine ⟨a, vs, k, i', rfl, rfl, hH, by rw [rv.length]; exact hi', ?_⟩
                  exact q m3 _ σ (((x1.trans x2).trans x3).trans x4) (st3.set ha3 ⟨_, rfl, RUs.keep (keeps_set hm3) _ _ (rv.set i' rw3)⟩) ((((re.keep x1.keeps).keep x2.keeps).keep x3.keeps).keep x4.keeps)
                · cases e4
              · cases e4
            · cases e4
          · cases hc
end OF
namespace OF
open PySem PySem.Spec PyProof.Rows L2
variable {X : Cx} {G : Gx}
variable {e f o a b c i tg iter : Expr} {es : List Expr} {ca cb cc ci cv : Cm U} {cl ck : Cm (List U)} {pos apos cpos p : Pos} {x : Str}
def keyU : U → Option Key
  | .int i => some (.inl i)
  | .str x => some (.inr x)
  | _ => none
theorem keyU_ok {K : PySem.W.Frag} {m : Mp} {H : Hp} {u : U} {v : V} {k : Key} (r : RU K G m H u v) (h : keyU u = some k) : v = kV k := by
  cases u with
  | int i => cases r; cases h; rfl
  | str i => cases r; cases h; rfl
  | _ => cases h
def getK {α : Type} (kvs : List (Key × α)) (k : Key) : Option α := (kvs.find? fun kv => decide (kv.1 = k)).map (·.2)
def putKU {α : Type} (kvs : List (Key × α)) (k : Key) (v : α) : List (Key × α) :=
  if (kvs.any fun kv => decide (kv.1 = k)) = true then kvs.map (fun kv => if kv.1 = k then (kv.1, v) else kv) else kvs ++ [(k, v)]
section
variable {K : PySem.W.Frag} {m : Mp} {H : Hp} {S : Sto}
theorem RKs.uncons {k : Key} {u : U} {us : List (Key × U)} {vs : List (Key × V)} (r : RKs K G m H ((k, u) :: us) vs) : ∃ v t, vs = (k, v) :: t ∧ RU K G m H u v ∧ RKs K G m H us t := by
  unfold RKs at r
  exact r
theorem RKs.cons {k : Key} {u : U} {v : V} {us : List (Key × U)} {vs : List (Key × V)} (r : RU K G m H u v) (t : RKs K G m H us vs) : RKs K G m H ((k, u) :: us) ((k, v) :: vs) := by
  unfold RKs
  exact ⟨v, vs, rfl, r, t⟩
theorem RKs.nil : RKs K G m H [] [] := by unfold RKs; rfl
theorem RKs.eqnil {vs : List (Key × V)} (r : RKs K G m H [] vs) : vs = [] := by unfold RKs at r; exact r
theorem RKs.get {k : Key} : ∀ {us : List (Key × U)} {vs : List (Key × V)}, RKs K G m H us vs → (getK us k = none → valV vs k = none) ∧ ∀ u, getK us k = some u → ∃ v, valV vs k = some v ∧ RU K G m H u v
  | [], vs, r => by
    rw [r.eqnil]
    exact ⟨fun _ => rfl, fun u h => (by cases h)⟩
  | (k', u) :: us, vs, r => by
    obtain ⟨v, t, rfl, q, tl⟩ := r.uncons
    have ih := RKs.get (k := k) tl
    by_cases hk : k' = k
    · subst hk
      refine ⟨fun h => ?_, fun w h => ?_⟩
      · simp [getK] at h
      · simp [getK] at h
        subst h
        exact ⟨v, by simp [valV], q⟩
    · have e1 : getK ((k', u) :: us) k = getK us k := by simp [getK, hk]
      have e2 : valV ((k', v) :: t) k = valV t k := by simp [valV, hk]
      rw [e1, e2]
      exact ih
theorem RKs.any {k : Key} : ∀ {us : List (Key × U)} {vs : List (Key × V)}, RKs K G m H us vs → (us.any fun kv => decide (kv.1 = k)) = (vs.any fun kv => decide (kv.1 = k))
  | [], vs, r => by rw [r.eqnil]; rfl
  | (k', u) :: us, vs, r => by
    obtain ⟨v, t, rfl, q, tl⟩ := r.uncons
    simp only [List.any_cons]
    rw [RKs.any tl]
theorem RKs.append : ∀ {us us' : List (Key × U)} {vs vs' : List (Key × V)}, RKs K G m H us vs → RKs K G m H us' vs' → RKs K G m H (us ++ us') (vs ++ vs')
  | [], _, _, _, h, h' => by rw [h.eqnil]; exact h'
  | (k, u) :: us, us', vs, vs', h, h' => by
    obtain ⟨v, t, rfl, q, tl⟩ := h.uncons
    exact RKs.cons q (RKs.append tl h')
theorem RKs.mapPut {k : Key} {w : U} {z : V} (r : RU K G m H w z) : ∀ {us : List (Key × U)} {vs : List (Key × V)}, RKs K G m H us vs → RKs K G m H (us.map fun kv => if kv.1 = k then (kv.1, w) else kv) (vs.map fun kv => if kv.1 = k then (kv.1, z) else kv)
  | [], vs, h => by rw [h.eqnil]; exact RKs.nil
  | (k', u) :: us, vs, h => by
    obtain ⟨v, t, rfl, q, tl⟩ := h.uncons
    simp only [List.map_cons]
    by_cases hk : k' = k
    · rw [if_pos hk, if_pos hk]
      exact RKs.cons r (RKs.mapPut r tl)
    · rw [if_neg hk, if_neg hk]
      exact RKs.cons q (RKs.mapPut r tl)
theorem RKs.put {k : Key} {w : U} {z : V} {us : List (Key × U)} {vs : List (Key × V)} (r : RU K G m H w z) (h : RKs K G m H us vs) : RKs K G m H (putKU us k w) (putK vs k z) := by
  unfold putKU putK
  rw [h.any (k := k)]
  split
  · exact RKs.mapPut r h
  · exact h.append (RKs.cons r RKs.nil)
end
def dctU (S : Sto) : U → Option (List (Key × U))
  | .dct kvs => some kvs
  | .ref n => match S[n]? with
    | some (.dct kvs) => some kvs
    | some (.frd kvs) => some kvs
    | _ => none
  | _ => none
end OF
namespace OF
open PySem PySem.Spec PyProof.Rows L2
variable {X : Cx} {G : Gx}
variable {e f o a b c i tg iter : Expr} {es : List Expr} {ca cb cc ci cv : Cm U} {cl ck : Cm (List U)} {pos apos cpos p : Pos} {x y z : Str}
abbrev oLt : Op2 := o2I fun i j => some (.bl (decide (i < j)))
abbrev oLe : Op2 := o2I fun i j => some (.bl (decide (i ≤ j)))
abbrev oGt : Op2 := o2I fun i j => some (.bl (decide (j < i)))
abbrev oGe : Op2 := o2I fun i j => some (.bl (decide (j ≤ i)))
abbrev oNeg : Op1 := o1I fun i => .int (-i)
def sPar2 (i j : Nat) (a : Cm (List U)) : Sm := fun env S => match a env S with
  | some ([u, w], S1) => some (.nx, (env.set i (some u)).set j (some w), S1)
  | _ => none
theorem es_setLc {i : Nat} {py : Pos} {elt : Expr} {ifs : List Expr} {scope : Scope} {own : List (Str × Nat)} {spos : Pos} {it : Cm (List U)} {pt : Pat} {t : Cm Bool} {c : Cm U} (hc : X.calm = true) (hN : X.N.Nodup) (hy : X.N[i]? = some y) (hyl : X.env.scope.names.lookup y = some .local)
    (hsw : swapsWith (.ListComp elt [⟨tg, iter, ifs, 0⟩] scope pos) (some (.Name y py)) spos.line X.env = pure true) (hi : EI G X tg iter it) (ok : BlkOk X.N X.env.scope scope own)
    (hg : ∀ (s : Shared) (H : Hp) (C : Addr) (cl : List (Str × Addr)) (fp : List Addr), EPt (X.blk s H scope (compEnvC scope cl C X.env) fp) tg pt) (ht : ∀ (s : Shared) (H : Hp) (C : Addr) (cl : List (Str × Addr)) (fp : List Addr), ETs G (X.blk s H scope (compEnvC scope cl C X.env) fp) ifs t)
    (he : ∀ (s : Shared) (H : Hp) (C : Addr) (cl : List (Str × Addr)) (fp : List Addr), EE G (X.blk s H scope (compEnvC scope cl C X.env) fp) elt c) (hsl : ∀ i ∈ pt.slots, i ∈ own.map (·.2)) (hs : ∀ x, foldedSetIterable iter X.env x = pure x := by intro _; rfl) :
    ES G X (.Assign [.Name y py] (.ListComp elt [⟨tg, iter, ifs, 0⟩] scope pos) spos) (sAsg (cLc it pt t c (own.map (·.2))) (gmName i)) := (ps_setLc hc hN hy hyl hsw hi ok hg ht he hs).imp fun D σ H h => by
  obtain ⟨m, S, env, fl, env', S', st, re, hc, q⟩ := h
  unfold sAsg at hc
  split at hc
  · cases hc
  · rename_i u S1 e1
    cases hc
    unfold cLc at e1
    split at e1
    · cases e1
    · rename_i ys S2 e2
      cases e1
      refine re_lc hsl st re e2 fun m' H' D zs x hD nx st' hd r => ?_
      have st2 : Rst X.K G m' H' S' := Rst.forget (c := m'.c) (x := D :: m'.x) st' fun a ha => List.mem_cons_of_mem _ ha
      refine q m' H' _ x st2 ((re.keep x.keeps).set i ?_)
      unfold RU
      exact ⟨D, zs, rfl, .inl hd, st'.nx D (by simp), nx, RUs.keep (keeps_forget fun a ha => List.mem_cons_of_mem _ ha) _ _ r⟩
def cChain (f g : Op2) (a b c : Cm U) : Cm U := fun env S => match a env S with
  | none => none
  | some (u, S1) => match b env S1 with
    | none => none
    | some (v, S2) => match f u v S2 with
      | some (.bl true, S3) => (match c env S3 with
        | none => none
        | some (w, S4) => g v w S4)
      | some (.bl false, S3) => some (.bl false, S3)
      | _ => none
theorem re_chain {K : PySem.W.Frag} {f g : Op2} {σ : L2.St} {H : Hp} {Q : VK} (h : RE K G (cChain f g ca cb cc) σ H Q) : tChain (r2U K G f) (r2U K G g) (RE K G ca) (RE K G cb) (RE K G cc) σ H Q := by
  obtain ⟨m, S, env, z, S', st, re, hc, q⟩ := h
  unfold cChain at hc
  split at hc
  · cases hc
  · rename_i u S1 e1
    split at hc
    · cases hc
    · rename_i v S2 e2
      refine ⟨m, S, env, u, S1, st, re, e1, fun m1 H1 x x1 st1 r1 => ⟨m1, S1, env, v, S2, st1, re.keep x1.keeps, e2, fun m2 H2 y x2 st2 r2 => ?_⟩⟩
      have r1' := RU.keep x2.keeps _ _ r1
      split at hc
      · rename_i S3 e3
        split at hc
        · cases hc
        · rename_i w S4 e4
          refine ⟨m2, S2, u, v, _, S3, st2, r1', r2, e3, fun m3 H3 z' x3 st3 r3 => ⟨true, r3, iteT ?_⟩⟩
          refine ⟨m3, S3, env, w, S4, st3, ((re.keep x1.keeps).keep x2.keeps).keep x3.keeps, e4, fun m4 H4 w' x4 st4 r4 => ?_⟩
          exact ⟨m4, S4, v, w, z, S', st4, RU.keep (x3.trans x4).keeps _ _ r2, r4, hc, (((q.mono x1).mono x2).mono x3).mono x4⟩
      · rename_i S3 e3
        cases hc
        exact ⟨m2, S2, u, v, _, _, st2, r1', r2, e3, fun m3 H3 z' x3 st3 r3 => ⟨false, r3, iteF (q m3 H3 _ ((x1.trans x2).trans x3) st3 rfl)⟩⟩
      · cases hc
theorem ee_chain {op op' : CmpOp} {f g : Op2} (ho : OpU G X (compareOp op) f) (ho' : OpU G X (compareOp op') g) (ha : EE G X a ca) (hb : EE G X b cb) (hc : EE G X c cc) (hm : lastMarks [op, op'] [b, c] = false := by with_unfolding_all rfl) : EE G X (.Compare a [op, op'] [b, c] pos) (cChain f g ca cb cc) := (pe_chain ho ho' ha hb hc hm).imp fun _ _ _ => re_chain
end OF
namespace OF
open PySem PySem.Spec PyProof.Rows L2
def spLaw (K : PySem.W.Frag) : Sp := fun vs H Q _ => ∃ (a : Addr) (ns : List Int), vs = [.ref a] ∧ SqL K H a (ns.map V.int) ∧ ns.length ≤ 63 ∧ ∀ H', Q (.bl true) H'
theorem RUs.ints {K : PySem.W.Frag} {G : Gx} {m : Mp} {H : Hp} : ∀ ns : List Int, RUs K G m H (ns.map U.int) (ns.map V.int)
  | [] => RUs.nil
  | _ :: r => RUs.cons rfl (RUs.ints r)
theorem norefs_ints : ∀ ns : List Int, norefs (ns.map U.int) = true
  | [] => rfl
  | _ :: r => by
    show (true && norefs (r.map U.int)) = true
    rw [norefs_ints r]; rfl
theorem sp_law {K : PySem.W.Frag} {G : Gx} {P : Pf} (h : ∀ ns : List Int, ns.length ≤ 63 → P [.scr (ns.map .int)] = some (.bl true)) : ∀ vs H Q E, spLaw K vs H Q E → spU K G (liftP P) vs H Q E := by
  intro vs H Q E ⟨a, ns, ev, hS, hl, q⟩
  subst ev
  have hno : norefs [U.scr (ns.map .int)] = true := by
    show (norefs (ns.map U.int) && true) = true
    rw [norefs_ints]; rfl
  refine ⟨⟨[], []⟩, [], [.scr (ns.map .int)], .bl true, [], ⟨by simp, rfl, fun n o a h => by simp at h, fun a h => by simp at h, fun a h => by simp at h, fun a h => (by cases h)⟩, RUs.one ?_, ?_, fun m' H' v x st r => ?_⟩
  · unfold RU
    refine ⟨a, ns.map V.int, rfl, ?_, RUs.ints ns⟩
    rcases hS with hS | hS
    · exact .inl ⟨hS, by simp, by simp⟩
    · exact .inr hS
  · unfold liftP
    rw [if_pos hno, h ns hl]
  · cases r
    exact q H'
end OF
namespace OF
open PySem PySem.Spec PyProof.Rows L2
variable {X : Cx} {G : Gx}
def eqB : U → U → Option Bool
  | .non, .non => some true
  | .non, .int _ => some false
  | .int _, .non => some false
  | .non, .bl _ => some false
  | .bl _, .non => some false
  | .non, .str _ => some false
  | .str _, .non => some false
  | .int i, .int j => some (decide (i = j))
  | .bl i, .bl j => some (decide (i = j))
  | .str i, .str j => some (decide (i = j))
  | .int _, .str _ => some false
  | .str _, .int _ => some false
  | .bl _, .str _ => some false
  | .str _, .bl _ => some false
  | _, _ => none
def eqS (neg : Bool) : Op2 := fun a b S => match eqB a b with
  | some k => some (.bl (if neg then !k else k), S)
  | none => none
theorem eqB_ok {K : PySem.W.Frag} {m : Mp} {H : Hp} {u1 u2 : U} {x y : V} {k : Bool} (r1 : RU K G m H u1 x) (r2 : RU K G m H u2 y) (h : eqB u1 u2 = some k) : scal x y = true ∧ decide (x = y) = k := by
  cases u1 with
  | non =>
    cases r1
    cases u2 with
    | non => cases r2; cases h; exact ⟨rfl, by simp⟩
    | int j => cases r2; cases h; exact ⟨rfl, by simp⟩
    | bl j => cases r2; cases h; exact ⟨rfl, by simp⟩
    | str j => cases r2; cases h; exact ⟨rfl, by simp⟩
    | _ => cases h
  | bl i =>
    cases r1
    cases u2 with
    | non => cases r2; cases h; exact ⟨rfl, by simp⟩
    | bl j => cases r2; cases h; exact ⟨rfl, by rw [Bool.eq_iff_iff]; simp⟩
    | str j => cases r2; cases h; exact ⟨rfl, by simp⟩
    | _ => cases h
  | int i =>
    cases r1
    cases u2 with
    | non => cases r2; cases h; exact ⟨rfl, by simp⟩
    | int j => cases r2; cases h; exact ⟨rfl, by rw [Bool.eq_iff_iff]; simp⟩
    | str j => cases r2; cases h; exact ⟨rfl, by simp⟩
    | _ => cases h
  | str i =>
    cases r1
    cases u2 with
    | non => cases r2; cases h; exact ⟨rfl, by simp⟩
    | bl j => cases r2; cases h; exact ⟨rfl, by simp⟩
    | int j => cases r2; cases h; exact ⟨rfl, by simp⟩
    | str j => cases r2; cases h; exact ⟨rfl, by rw [Bool.eq_iff_iff]; simp⟩
    | _ => cases h
  | _ => cases h
theorem ou_eqS : OpU G X (compareOp .Eq) (eqS false) := OpR.imp op_eq fun x y H Q ⟨m, S, u1, u2, z, S', st, r1, r2, e, q⟩ => by
  unfold eqS at e
  split at e
  · rename_i k h
    cases e
    have := eqB_ok r1 r2 h
    refine ⟨this.1, ?_⟩
    rw [this.2]
    exact q.here st rfl
  · cases e
theorem ou_neS : OpU G X (compareOp .NotEq) (eqS true) := OpR.imp op_ne fun x y H Q ⟨m, S, u1, u2, z, S', st, r1, r2, e, q⟩ => by
  unfold eqS at e
  split at e
  · rename_i k h
    cases e
    have := eqB_ok r1 r2 h
    refine ⟨this.1, ?_⟩
    rw [this.2]
    exact q.here st rfl
  · cases e
def eqU (neg : Bool) : Op2 := orO (eqS neg) (eqDU neg)
theorem ou_eq (hu : X.A.units + 64 < cLine) : OpU G X (compareOp .Eq) (eqU false) := opU_or ou_eqS (opU_eqD hu)
theorem ou_ne (hu : X.A.units + 64 < cLine) : OpU G X (compareOp .NotEq) (eqU true) := opU_or ou_neS (opU_neD hu)
mutual
def okU : Nat → U → Bool
  | _, .non => true
  | _, .bl _ => true
  | _, .int _ => true
  | _, .str x => PySem.PyData.strOk x
  | n + 1, .tup us => okUs n us
  | n + 1, .lst us => okUs n us
  | _, _ => false
def okUs : Nat → List U → Bool
  | _, [] => true
  | n, u :: us => okU n u && okUs n us
end
mutual
theorem okU_toD : ∀ (n : Nat) (u : U), okU n u = true → ∃ d, toD u = some d ∧ d.canLay0 = true ∧ d.depth ≤ n + 1
  | n, .non, _ => ⟨.none, rfl, rfl, by simp [PyData.depth]⟩
  | n, .bl b, _ => ⟨.bool b, rfl, rfl, by simp [PyData.depth]⟩
  | n, .int b, _ => ⟨.int b, rfl, rfl, by simp [PyData.depth]⟩
  | n, .str b, h => ⟨.str b, rfl, (by simpa [okU] using h : PySem.PyData.strOk b = true), by simp [PyData.depth]⟩
  | 0, .tup us, h => by simp [okU] at h
  | 0, .lst us, h => by simp [okU] at h
  | n + 1, .tup us, h => by
    obtain ⟨ds, e, h1, h2⟩ := okUs_toDs n us (by simpa [okU] using h)
    refine ⟨.tuple ds, by simp only [toD, e], by simpa [PyData.canLay0] using h1, by simp only [PyData.depth]; omega⟩
  | n + 1, .lst us, h => by
    obtain ⟨ds, e, h1, h2⟩ := okUs_toDs n us (by simpa [okU] using h)
    refine ⟨.list ds, by simp only [toD, e], by simpa [PyData.canLay0] using h1, by simp only [PyData.depth]; omega⟩
  | n, .scr us, h => by simp [okU] at h
  | n, .dct us, h => by simp [okU] at h
  | n, .fn us, h => by simp [okU] at h
  | n, .ref us, h => by simp [okU] at h
theorem okUs_toDs : ∀ (n : Nat) (us : List U), okUs n us = true → ∃ ds, toDs us = some ds ∧ PyData.canLayAll0 ds = true ∧ PyData.depthAll ds ≤ n + 1
  | n, [], _ => ⟨[], rfl, rfl, by simp [PyData.depthAll]⟩
  | n, u :: us, h => by
    have h' : okU n u = true ∧ okUs n us = true := by simpa [okUs] using h
    obtain ⟨d, e, h1, h2⟩ := okU_toD n u h'.1
    obtain ⟨ds, es, h3, h4⟩ := okUs_toDs n us h'.2
    refine ⟨d :: ds, by simp only [toDs, e, es], by simp [PyData.canLayAll0, h1, h3], by simp only [PyData.depthAll]; omega⟩
end
theorem toDS_noref {S : Sto} {u : U} {n : Nat} (h : okU n u = true) : toDS S u = toD u := by
  cases u with
  | ref x => simp [okU] at h
  | _ => rfl
theorem eqB_same : ∀ (u : U) (k : Bool), eqB u u = some k → k = true := by
  intro u k h
  cases u <;> simp [eqB] at h <;> simp_all
theorem eqU_same {neg : Bool} {u : U} {S : Sto} (h : okU 60 u = true) : eqU neg u u S = some (.bl (!neg), S) := by
  unfold eqU orO eqS
  cases e : eqB u u with
  | some k =>
    have := eqB_same u k e
    subst this
    cases neg <;> rfl
  | none =>
    show eqDU neg u u S = _
    unfold eqDU
    obtain ⟨d, e1, h1, h2⟩ := okU_toD 60 u h
    rw [toDS_noref h, e1]
    have hs : SeqAt.shaped d = true := by unfold SeqAt.shaped; simp [h1]; omega
    simp only [hs, and_self, if_true, PySem.SeqAt.eqv_refl d h1]
    cases neg <;> rfl
@[simp] theorem eqU_int {neg : Bool} {i j : Int} {S : Sto} : eqU neg (.int i) (.int j) S = some (.bl (if neg then !decide (i = j) else decide (i = j)), S) := rfl
@[simp] theorem eqU_str {neg : Bool} {i j : Str} {S : Sto} : eqU neg (.str i) (.str j) S = some (.bl (if neg then !decide (i = j) else decide (i = j)), S) := rfl
end OF
namespace OF
open PySem PySem.Spec PyProof.Rows L2
@[simp] theorem cVar_ap (i : Nat) (env : Env') (S : Sto) : cVar i env S = (match env[i]? with
  | some (some u) => some (u, S)
  | _ => none) := rfl
@[simp] theorem cCst_ap (u : U) (x0_ : Env') (S : Sto) : cCst u x0_ S = (some (u, S)) := rfl
@[simp] theorem cBin_ap (f : Op2) (a b : Cm U) (env : Env') (S : Sto) : cBin f a b env S = (match a env S with
  | none => none
  | some (u, S1) => match b env S1 with
    | none => none
    | some (v, S2) => f u v S2) := rfl
@[simp] theorem cUn_ap (f : Op1) (a : Cm U) (env : Env') (S : Sto) : cUn f a env S = (match a env S with
  | none => none
  | some (u, S1) => f u S1) := rfl
@[simp] theorem orO_ap (f g : Op2) (a : U) (b : U) (S : Sto) : orO f g a b S = (match f a b S with
  | some r => some r
  | none => g a b S) := rfl
@[simp] theorem o2I_ap (f : Int → Int → Option U) (a : U) (b : U) (S : Sto) : o2I f a b S = (match a, b with
  | .int i, .int j => (f i j).map (·, S)
  | _, _ => none) := rfl
@[simp] theorem cNil_ap (x0_ : Env') (S : Sto) : cNil  x0_ S = (some ([], S)) := rfl
@[simp] theorem cCons_ap (a : Cm U) (r : Cm (List U)) (env : Env') (S : Sto) : cCons a r env S = (match a env S with
  | none => none
  | some (u, S1) => match r env S1 with
    | none => none
    | some (us, S2) => some (u :: us, S2)) := rfl
@[simp] theorem cArg_ap (f : OpN) (a : Cm (List U)) (env : Env') (S : Sto) : cArg f a env S = (match a env S with
  | none => none
  | some (us, S1) => f us S1) := rfl
@[simp] theorem oTup_ap (us : List U) (S : Sto) : oTup  us S = (if us.length ≤ sizeLine then some (.tup us, S) else none) := rfl
@[simp] theorem oLst_ap (us : List U) (S : Sto) : oLst  us S = (if us.length ≤ sizeLine then some (.lst us, S) else none) := rfl
@[simp] theorem oLstM_ap (us : List U) (S : Sto) : oLstM  us S = (if us.length ≤ sizeLine then some (.ref S.length, S ++ [.lst us]) else none) := rfl
@[simp] theorem sNil_ap (env : Env') (S : Sto) : sNil  env S = (some (.nx, env, S)) := rfl
@[simp] theorem sSeq_ap (a b : Sm) (env : Env') (S : Sto) : sSeq a b env S = (match a env S with
  | none => none
  | some (.nx, env1, S1) => b env1 S1
  | some r => some r) := rfl
@[simp] theorem sExpr_ap (a : Cm U) (env : Env') (S : Sto) : sExpr a env S = (match a env S with
  | none => none
  | some (_, S1) => some (.nx, env, S1)) := rfl
@[simp] theorem sRet_ap (a : Cm U) (env : Env') (S : Sto) : sRet a env S = (match a env S with
  | none => none
  | some (u, S1) => some (.ret u, env, S1)) := rfl
@[simp] theorem sIf_ap (c : Cm Bool) (a b : Sm) (env : Env') (S : Sto) : sIf c a b env S = (match c env S with
  | none => none
  | some (true, S1) => a env S1
  | some (false, S1) => b env S1) := rfl
@[simp] theorem gmName_ap (i : Nat) (u : U) (env : Env') (S : Sto) : gmName i u env S = (some (env.set i (some u), S)) := rfl
@[simp] theorem gmsNil_ap (us : List U) (env : Env') (S : Sto) : gmsNil  us env S = (match us with
  | [] => some (env, S)
  | _ => none) := rfl
@[simp] theorem gmsCons_ap (g : Gm) (r : Gms) (us : List U) (env : Env') (S : Sto) : gmsCons g r us env S = (match us with
  | [] => none
  | u :: t => match g u env S with
    | none => none
    | some (env1, S1) => r t env1 S1) := rfl
@[simp] theorem gmTup_ap (n : Nat) (g : Gms) (u : U) (env : Env') (S : Sto) : gmTup n g u env S = (match u with
  | .tup us => if us.length = n then g us env S else none
  | _ => none) := rfl
@[simp] theorem sAsg_ap (a : Cm U) (g : Gm) (env : Env') (S : Sto) : sAsg a g env S = (match a env S with
  | none => none
  | some (u, S1) => match g u env S1 with
    | none => none
    | some (env2, S2) => some (.nx, env2, S2)) := rfl
@[simp] theorem cTru_ap (a : Cm U) (env : Env') (S : Sto) : cTru a env S = (match a env S with
  | none => none
  | some (u, S1) => match truU S1 u with
    | none => none
    | some b => some (b, S1)) := rfl
@[simp] theorem cAndT_ap (a b : Cm Bool) (env : Env') (S : Sto) : cAndT a b env S = (match a env S with
  | none => none
  | some (true, S1) => b env S1
  | some (false, S1) => some (false, S1)) := rfl
@[simp] theorem cOrT_ap (a b : Cm Bool) (env : Env') (S : Sto) : cOrT a b env S = (match a env S with
  | none => none
  | some (true, S1) => some (true, S1)
  | some (false, S1) => b env S1) := rfl
@[simp] theorem cNotT_ap (a : Cm Bool) (env : Env') (S : Sto) : cNotT a env S = (match a env S with
  | none => none
  | some (k, S1) => some (!k, S1)) := rfl
@[simp] theorem cAndV_ap (a b : Cm U) (env : Env') (S : Sto) : cAndV a b env S = (match a env S with
  | none => none
  | some (u, S1) => match truU S1 u with
    | none => none
    | some true => b env S1
    | some false => some (u, S1)) := rfl
@[simp] theorem cOrV_ap (a b : Cm U) (env : Env') (S : Sto) : cOrV a b env S = (match a env S with
  | none => none
  | some (u, S1) => match truU S1 u with
    | none => none
    | some true => some (u, S1)
    | some false => b env S1) := rfl
@[simp] theorem runF_ap (s : Sm) (np n : Nat) (us : List U) (S : Sto) : runF s np n us S = (if us.length = np then (match s (startE n us) S with
  | some (.ret u, _, S') => some (u, S')
  | some (.nx, _, S') => some (.non, S')
  | _ => none) else none) := rfl
@[simp] theorem pureF_ap (f : OpN) (us : List U) : pureF f us = (match f us [] with
  | some (u, _) => if noref u = true then some u else none
  | none => none) := rfl
@[simp] theorem liftP_ap (p : Pf) (us : List U) (S : Sto) : liftP p us S = (if norefs us = true then (match p us with
  | some u => some (u, S)
  | none => none) else none) := rfl
@[simp] theorem cMeth_ap (c : Str) (mm : Str) (F : OpN) (a : Cm U) (r : Cm (List U)) (env : Env') (S : Sto) : cMeth c mm F a r env S = (match a env S with
  | some (.ref n, S1) => match S1[n]? with
    | some (.ins c' fs) => if c' = c ∧ fs.lookup mm = none then (match r env S1 with
      | some (us, S2) => F (.ref n :: us) S2
      | none => none) else none
    | _ => none
  | _ => none) := rfl
@[simp] theorem gmPat_ap (pt : Pat) (u : U) (env : Env') (S : Sto) : gmPat pt u env S = (match bindP pt u with
  | some bs => some (setAll env bs, S)
  | none => none) := rfl
@[simp] theorem sFor_ap (it : Cm (List U)) (pt : Pat) (b : Sm) (env : Env') (S : Sto) : sFor it pt b env S = (match it env S with
  | none => none
  | some (us, S1) => loopF pt b us env S1) := rfl
@[simp] theorem cLcL_ap (it : Cm (List U)) (pt : Pat) (t : Cm Bool) (c : Cm U) (vs : List Nat) (env : Env') (S : Sto) : cLcL it pt t c vs env S = (match it env S with
  | none => none
  | some (us, S1) => match mapC pt t c (wipeE env vs) us S1 with
    | none => none
    | some (ys, S2) => if ys.length ≤ sizeLine then some (ys, S2) else none) := rfl
@[simp] theorem cLc_ap (it : Cm (List U)) (pt : Pat) (t : Cm Bool) (c : Cm U) (vs : List Nat) (env : Env') (S : Sto) : cLc it pt t c vs env S = (match cLcL it pt t c vs env S with
  | none => none
  | some (ys, S2) => some (.lst ys, S2)) := rfl
@[simp] theorem cYes_ap (x0_ : Env') (S : Sto) : cYes  x0_ S = (some (true, S)) := rfl
@[simp] theorem itSeq_ap (c : Cm U) (env : Env') (S : Sto) : itSeq c env S = (match c env S with
  | none => none
  | some (u, S1) => match seqU u with
    | none => none
    | some us => some (us, S1)) := rfl
@[simp] theorem itR1_ap (c : Cm (List U)) (env : Env') (S : Sto) : itR1 c env S = (match c env S with
  | some ([.int j], S1) => if -(2 ^ 62) ≤ j ∧ j < 2 ^ 62 then some (rangeU 0 j.toNat, S1) else none
  | _ => none) := rfl
@[simp] theorem itZip_ap (c : Cm (List U)) (env : Env') (S : Sto) : itZip c env S = (match c env S with
  | some ([u, w], S1) => match seqU u, seqU w with
    | some us, some ws => some (zipU us ws, S1)
    | _, _ => none
  | _ => none) := rfl
@[simp] theorem o1I_ap (f : Int → U) (u : U) (S : Sto) : o1I f u S = (match u with
  | .int i => some (f i, S)
  | _ => none) := rfl
@[simp] theorem strAdd_ap (a : U) (b : U) (S : Sto) : strAdd  a b S = (match a, b with
  | .str x, .str y => if x.length + y.length ≤ sizeLine then some (.str (x ++ y), S) else none
  | _, _ => none) := rfl
@[simp] theorem tupAdd_ap (a : U) (b : U) (S : Sto) : tupAdd  a b S = (match a, b with
  | .tup us, .tup ws => if us.length + ws.length ≤ sizeLine then some (.tup (us ++ ws), S) else none
  | _, _ => none) := rfl
@[simp] theorem lstAdd_ap (mu : Bool) (a : U) (b : U) (S : Sto) : lstAdd mu a b S = (match lstU S a, lstU S b with
  | some us, some ws => if us.length + ws.length ≤ sizeLine then (if mu then some (.ref S.length, S ++ [.lst (us ++ ws)]) else some (.lst (us ++ ws), S)) else none
  | _, _ => none) := rfl
@[simp] theorem ixU_ap (a : U) (b : U) (S : Sto) : ixU  a b S = (match a, b with
  | .str z, .int i => if z.length ≤ sizeLine then (match atI z.cps.toList i with
    | some c => some (.str ⟨#[c]⟩, S)
    | none => none) else none
  | u, .int i => match itmU S u with
    | some us => match atI us i with
      | some w => some (w, S)
      | none => none
    | none => none
  | _, _ => none) := rfl
@[simp] theorem on1_ap (f : Op1) (us : List U) (S : Sto) : on1 f us S = (match us with
  | [u] => f u S
  | _ => none) := rfl
@[simp] theorem on2_ap (f : Op2) (us : List U) (S : Sto) : on2 f us S = (match us with
  | [u, w] => f u w S
  | _ => none) := rfl
@[simp] theorem lenU_ap (u : U) (S : Sto) : lenU  u S = (match u with
  | .str y => if y.length ≤ sizeLine then some (.int y.length, S) else none
  | u => match itmU S u with
    | some us => some (.int us.length, S)
    | none => none) := rfl
@[simp] theorem intU_ap (u : U) (S : Sto) : intU  u S = (match u with
  | .int i => some (.int i, S)
  | .bl k => some (.int (if k then 1 else 0), S)
  | _ => none) := rfl
@[simp] theorem allU_ap (any : Bool) (u : U) (S : Sto) : allU any u S = (match lstU S u with
  | some us => match boolsU us with
    | some bs => some (.bl (if any then bs.any id else bs.all id), S)
    | none => none
  | none => none) := rfl
@[simp] theorem cIsi_ap (T : String) (c : Cm U) (env : Env') (S : Sto) : cIsi T c env S = (match c env S with
  | none => none
  | some (u, S1) => match tyU S1 u with
    | none => none
    | some t => match kitB t T with
      | some r => some (.bl r, S1)
      | none => none) := rfl
@[simp] theorem cTab_ap (tbl : List (Str × U)) (c : Cm U) (env : Env') (S : Sto) : cTab tbl c env S = (match c env S with
  | some (.str z, S1) => match tbl.lookup z with
    | some u => some (u, S1)
    | none => none
  | _ => none) := rfl
@[simp] theorem cMth_ap (f : U → OpN) (a : Cm U) (r : Cm (List U)) (env : Env') (S : Sto) : cMth f a r env S = (match a env S with
  | none => none
  | some (u, S1) => match r env S1 with
    | none => none
    | some (us, S2) => f u us S2) := rfl
@[simp] theorem cMt_ap (T : String) (f : U → OpN) (a : Cm U) (r : Cm (List U)) (env : Env') (S : Sto) : cMt T f a r env S = (match a env S with
  | none => none
  | some (u, S1) => if tyOkU T S1 u = true then (match r env S1 with
    | none => none
    | some (us, S2) => f u us S2) else none) := rfl
@[simp] theorem appU_ap (u : U) (us : List U) (S : Sto) : appU  u us S = (match us with
  | [y] => cellL S u fun n xs => if xs.length < sizeLine then some (.non, S.set n (.lst (xs ++ [y]))) else none
  | _ => none) := rfl
@[simp] theorem popAtU_ap (u : U) (us : List U) (S : Sto) : popAtU  u us S = (match us with
  | [.int i] => cellL S u fun n xs => if -(2 ^ 63) ≤ i ∧ i < 2 ^ 63 then (match seqIndex? i xs.length with
    | some k => match xs[k]? with
      | some y => some (y, S.set n (.lst (xs.eraseIdx k)))
      | none => none
    | none => none) else none
  | _ => none) := rfl
@[simp] theorem sSetI_ap (f : U → U → U → Sto → Option Sto) (o i v : Cm U) (env : Env') (S : Sto) : sSetI f o i v env S = (match v env S with
  | none => none
  | some (w, S1) => match o env S1 with
    | none => none
    | some (u, S2) => match i env S2 with
      | none => none
      | some (j, S3) => match f u j w S3 with
        | some S4 => some (.nx, env, S4)
        | none => none) := rfl
@[simp] theorem setL_ap (u : U) (j : U) (w : U) (S : Sto) : setL  u j w S = (match u, j with
  | .ref n, .int k => match S[n]? with
    | some (.lst us) => match ixN us.length k with
      | some i => some (S.set n (.lst (us.set i w)))
      | none => none
    | _ => none
  | _, _ => none) := rfl
@[simp] theorem sPar2_ap (i j : Nat) (a : Cm (List U)) (env : Env') (S : Sto) : sPar2 i j a env S = (match a env S with
  | some ([u, w], S1) => some (.nx, (env.set i (some u)).set j (some w), S1)
  | _ => none) := rfl
@[simp] theorem cChain_ap (f g : Op2) (a b c : Cm U) (env : Env') (S : Sto) : cChain f g a b c env S = (match a env S with
  | none => none
  | some (u, S1) => match b env S1 with
    | none => none
    | some (v, S2) => match f u v S2 with
      | some (.bl true, S3) => (match c env S3 with
        | none => none
        | some (w, S4) => g v w S4)
      | some (.bl false, S3) => some (.bl false, S3)
      | _ => none) := rfl
@[simp] theorem loopF_nil (pt : Pat) (b : Sm) (env : Env') (S : Sto) : loopF pt b [] env S = some (.nx, env, S) := rfl
@[simp] theorem loopF_cons (pt : Pat) (b : Sm) (u : U) (us : List U) (env : Env') (S : Sto) : loopF pt b (u :: us) env S = (match bindP pt u with
    | none => none
    | some bs => match b (setAll env bs) S with
      | none => none
      | some (.nx, env2, S2) => loopF pt b us env2 S2
      | some (.ct, env2, S2) => loopF pt b us env2 S2
      | some (.brk, env2, S2) => some (.nx, env2, S2)
      | some (.ret z, env2, S2) => some (.ret z, env2, S2)) := rfl
end OF
namespace OF
open PySem
theorem map_toNat_inj : ∀ (a b : List Char), a.map Char.toNat = b.map Char.toNat → a = b
  | [], [], _ => rfl
  | [], _ :: _, h => by simp at h
  | _ :: _, [], h => by simp at h
  | x :: a, y :: b, h => by
    simp only [List.map_cons, List.cons.injEq] at h
    rw [map_toNat_inj a b h.2]
    have : x = y := by
      apply Char.ext
      apply UInt32.toNat_inj.mp
      exact h.1
    rw [this]
@[simp] theorem ofStr_inj (a b : String) : (Str.ofString a = Str.ofString b) ↔ a = b := by
  constructor
  · intro h
    rw [Str.ofString_eq_toList, Str.ofString_eq_toList] at h
    have h2 : (a.toList.map Char.toNat) = (b.toList.map Char.toNat) := by simpa using h
    have h3 := map_toNat_inj _ _ h2
    exact String.toList_inj.mp h3
  · intro h; rw [h]
@[simp] theorem startE_c (n : Nat) (us : List U) : startE n us = us.map some ++ List.replicate (n - us.length) none := rfl
end OF
namespace OF
open PySem PySem.Spec PyProof.Rows L2
@[simp] theorem mapC_nil (pt : Pat) (t : Cm Bool) (c : Cm U) (env : Env') (S : Sto) : mapC pt t c env [] S = some ([], S) := rfl
@[simp] theorem mapC_cons (pt : Pat) (t : Cm Bool) (c : Cm U) (env : Env') (u : U) (us : List U) (S : Sto) : mapC pt t c env (u :: us) S = (match bindP pt u with
    | none => none
    | some bs => match t (setAll env bs) S with
      | none => none
      | some (false, S1) => mapC pt t c env us S1
      | some (true, S1) => match c (setAll env bs) S1 with
        | none => none
        | some (y, S2) => match mapC pt t c env us S2 with
          | none => none
          | some (ys, S3) => some (y :: ys, S3)) := rfl
@[simp] theorem wipeE_nil (env : Env') : wipeE env [] = env := rfl
@[simp] theorem wipeE_cons (env : Env') (v : Nat) (vs : List Nat) : wipeE env (v :: vs) = (wipeE env vs).set v none := rfl
@[simp] theorem setAll_nil {α : Type} (σ : List (Option α)) : setAll σ [] = σ := rfl
@[simp] theorem setAll_cons {α : Type} (σ : List (Option α)) (i : Nat) (v : α) (r : List (Nat × α)) : setAll σ ((i, v) :: r) = setAll (σ.set i (some v)) r := rfl
@[simp] theorem truU_non (S : Sto) : truU S .non = some false := rfl
@[simp] theorem truU_bl (S : Sto) (b : Bool) : truU S (.bl b) = some b := rfl
@[simp] theorem truU_int (S : Sto) (b : Int) : truU S (.int b) = some (b != 0) := rfl
@[simp] theorem truU_tup (S : Sto) (b : List U) : truU S (.tup b) = some (!b.isEmpty) := rfl
@[simp] theorem truU_lst (S : Sto) (b : List U) : truU S (.lst b) = some (!b.isEmpty) := rfl
@[simp] theorem truU_scr (S : Sto) (b : List U) : truU S (.scr b) = some (!b.isEmpty) := rfl
@[simp] theorem truU_ref (S : Sto) (n : Nat) : truU S (.ref n) = (match S[n]? with
    | some (.lst us) => some (!us.isEmpty)
    | some (.dct us) => some (!us.isEmpty)
    | _ => none) := rfl
@[simp] theorem seqU_tup (us : List U) : seqU (.tup us) = some us := rfl
@[simp] theorem seqU_lst (us : List U) : seqU (.lst us) = some us := rfl
@[simp] theorem seqU_scr (us : List U) : seqU (.scr us) = some us := rfl
@[simp] theorem itmU_tup (S : Sto) (us : List U) : itmU S (.tup us) = some us := rfl
@[simp] theorem itmU_lst (S : Sto) (us : List U) : itmU S (.lst us) = some us := rfl
@[simp] theorem itmU_scr (S : Sto) (us : List U) : itmU S (.scr us) = some us := rfl
@[simp] theorem itmU_ref (S : Sto) (n : Nat) : itmU S (.ref n) = (match S[n]? with
    | some (.lst us) => some us
    | _ => none) := rfl
@[simp] theorem lstU_lst (S : Sto) (us : List U) : lstU S (.lst us) = some us := rfl
@[simp] theorem lstU_ref (S : Sto) (n : Nat) : lstU S (.ref n) = (match S[n]? with
    | some (.lst us) => some us
    | _ => none) := rfl
@[simp] theorem dctU_ref (S : Sto) (n : Nat) : dctU S (.ref n) = (match S[n]? with
    | some (.dct us) => some us
    | some (.frd us) => some us
    | _ => none) := rfl
@[simp] theorem tyOkU_str (S : Sto) (T : String) (x : Str) : tyOkU T S (.str x) = (T == "str") := rfl
@[simp] theorem tyOkU_lst (S : Sto) (T : String) (x : List U) : tyOkU T S (.lst x) = (T == "list") := rfl
@[simp] theorem tyOkU_ref (S : Sto) (T : String) (n : Nat) : tyOkU T S (.ref n) = (match S[n]? with
    | some (.lst _) => T == "list"
    | some (.dct _) => T == "dict"
    | some (.dtt _) => T == "dict"
    | _ => false) := rfl
@[simp] theorem cellL_ref (S : Sto) (n : Nat) (k : Nat → List U → Option (U × Sto)) : cellL S (.ref n) k = (match S[n]? with
    | some (.lst us) => k n us
    | _ => none) := rfl
@[simp] theorem keyU_str (x : Str) : keyU (.str x) = some (.inr x) := rfl
@[simp] theorem keyU_int (x : Int) : keyU (.int x) = some (.inl x) := rfl
theorem atI_nat (α : Type) (us : List α) (n : Nat) : atI us (n : Int) = us[n]? := by
  unfold atI ixN
  by_cases h : n < us.length
  · simp [h]
  · simp [h]
@[simp] theorem atI_zero {α : Type} (us : List α) : atI us 0 = us[0]? := atI_nat α us 0
@[simp] theorem atI_one {α : Type} (us : List α) : atI us 1 = us[1]? := atI_nat α us 1
@[simp] theorem le_size (n : Nat) (h : n < 16777217) : n ≤ sizeLine := by unfold sizeLine; omega
@[simp] theorem lt_size (n : Nat) (h : n < 16777216) : n < sizeLine := by unfold sizeLine; omega
end OF
namespace OF
open PySem PySem.Spec PyProof.Rows L2
structure FnG (P : Program) (w : World) (K : PySem.W.Frag) (mg : Str → Option Value) (base : Heap) (k : Nat) (f : Addr) (fd : FuncData) (ps : List Str) (sp : Sp) : Prop where
  len : ∀ vs H Q E, sp vs H Q E → vs.length = ps.length
  run : ∀ (B : Around) (out : List Env) (t : Shared) (H : Hp) (args : Args) (us : List Value) (vs : List V) (Q : VK) (E : XK), B.guards = some [] → Room k B → Env0 P w K mg base B out t H → BindsTo t fd args (ps.zip us) → Vals vs us →
    sp vs H Q E → codeAny (model P w) B (.call (.ref f) args) (CR CX0 out P w H t Q E) t
section
variable {P : Program} {w : World} {K : PySem.W.Frag} {mg : Str → Option Value} {base : Heap}
theorem FnG.imp {k : Nat} {f : Addr} {fd : FuncData} {ps : List Str} {sp sp' : Sp} (F : FnG P w K mg base k f fd ps sp) (h : ∀ vs H Q E, sp' vs H Q E → sp vs H Q E) : FnG P w K mg base k f fd ps sp' :=
  ⟨fun vs H Q E q => F.len vs H Q E (h _ _ _ _ q), fun B out t H args us vs Q E hg hr e0 hb r q => F.run B out t H args us vs Q E hg hr e0 hb r (h _ _ _ _ q)⟩
theorem FnG.mk' {name qual : Str} {st : Stmt} {f : Addr} {fd : FuncData} {N ps : List Str} {k : Nat} {sp : Sp} (F : Fun K name qual st f fd) (S : FnScope N ps (defScope st)) (len : ∀ vs H Q E, sp vs H Q E → vs.length = ps.length)
    (body : ∀ (cdv : Value) (B : Around) (out : List Env) (t : Shared) (H : Hp) (vs : List V) (Q : VK) (E : XK), B.guards = some [] → Room k (B.deeper (envOfC qual (defScope st) t.heap.objs.size f cdv)) → sp vs H Q E →
      ∃ c, PSs (cxOf CX0 P w K mg base N qual (defScope st) f cdv B out t H E).nox (defBody st) c ∧ c { nx := fun _ H' => Q .non H', rt := Q } (start N vs) H) : FnG P w K mg base (k + 1) f fd ps sp := by
  obtain ⟨oc, od, kV, doc, pm, an, cdv, ct, osl, rfl, lk, hcd⟩ := F.ex
  constructor
  · exact len
  · intro B out t H args us vs Q E hg hr e0 hb r q
    have old : ∀ b o, base.get? b = some o → t.heap.get? b = some o := fun b o e => (e0.bs b o e).1
    have inK : K.In t.heap := e0.mod.kin.keeps old
    have free : t.heap.NoLimit := e0.mod.nolimit.keeps old
    refine codeAny_call_function hr.depth (inK _ _ lk) rfl S.co S.gen rfl (PySem.W.codeRec_of inK hcd) (hb _ _ _ _ (wpAny_newFunctionEnv_cells S.kind (fun y hy => ?_) fun env he t1 x => ?_))
    · obtain ⟨n, v⟩ := y
      rcases S.par n (List.of_mem_zip hy).1 with z | z
      · exact Or.inl z
      · exact Or.inr ⟨z, PySem.W.cellsFrom_some _ _ _ (Or.inl z)⟩
    · cases he
      refine ⟨free.keeps x.toInCall.keep, codeAny_func ?_⟩
      obtain ⟨c, hc, hq⟩ := body cdv B out t H vs Q E hg (hr.deeper _) q
      have J := inv_start (CX := CX0) (E := E) S hr.hd e0 (len _ _ _ _ q) r x
      apply wpAny_mono (hc.nox.run [] t1 (start N vs) H _ J hq)
      · intro fl t2 z
        cases fl with
        | ret u => obtain ⟨v, σ2, H2, J2, rv, q2⟩ := z; exact ⟨v, H2, J2.os, J2.bare, J2.base, J2.hok, rv, q2⟩
        | next => obtain ⟨σ2, H2, J2, q2⟩ := z; exact ⟨.non, H2, J2.os, J2.bare, J2.base, J2.hok, rfl, q2⟩
        | brk => exact z.elim fun _ z => z.elim fun _ z => z.2.elim
        | cont => exact z.elim fun _ z => z.elim fun _ z => z.2.elim
      · exact fun _ _ z => z
variable {G : Gx}
theorem fn_okG {x qual : Str} {st : Stmt} {f : Addr} {fd : FuncData} {N ps : List Str} {k np n : Nat} {s : Sm} (hnp : ps.length = np) (hn : N.length = n) (F : Fun K x qual st f fd) (S : FnScope N ps (defScope st))
    (h : ∀ (cdv : Value) (A : Around) (outer : List Env) (s0 : Shared) (H : Hp) (E : XK), A.guards = some [] → Room k (A.deeper (envOfC qual (defScope st) s0.heap.objs.size f cdv)) →
      ESs G (cxOf CX0 P w K mg base N qual (defScope st) f cdv A outer s0 H E).nox (defBody st) s) :
    FnG P w K mg base (k + 1) f fd ps (spU K G (runF s np n)) := by
  subst hnp hn
  refine FnG.mk' F S (fun vs H Q E h => spU_len runF_len h) fun cdv A outer s0 H vs Q E hg hr hsp => ?_
  obtain ⟨m, S0, us, z, S', st, r, e, q⟩ := hsp
  refine ⟨_, h cdv A outer s0 H E hg hr, ?_⟩
  unfold runF at e
  split at e
  · split at e
    · rename_i u env' S1 e1
      cases e
      exact ⟨m, S0, _, _, _, _, st, r.begin_, e1, q⟩
    · rename_i env' S1 e1
      cases e
      exact ⟨m, S0, _, _, _, _, st, r.begin_, e1, fun m1 H1 σ1 x1 st1 re1 => q m1 H1 .non x1 st1 rfl⟩
    · cases e
  · cases e
theorem fn_pureG {f : Addr} {fd : FuncData} {ps : List Str} {k : Nat} {F : OpN} (h : FnG P w K mg base k f fd ps (spU K G F)) : FnG P w K mg base k f fd ps (spU K G (liftP (pureF F))) := h.imp fun vs H Q E s => spU_pure s
end
section
variable {X : Cx} {G : Gx} {e : Expr} {es : List Expr} {cl : Cm (List U)} {pos p : Pos} {x : Str} {k : Nat} {f : Addr} {fd : FuncData} {ps : List Str} {F : OpN}
theorem pe_callG {sp : Sp} {t : TA} (F : FnG X.prog X.w X.K X.mg X.base k f fd ps sp) (gd : X.A.guards = some []) (hr : Room k X.A) (hg : Gl X x) (hm : X.mg x = some (.ref f)) (hk : PySem.W.keepIn X.K (.ref f) = true) (hb : Binds X.K fd ps [])
    (ha : PA X (e :: es) t) (hdb : (x == ("__debug__" : Str)) = false) (he : starEach (e :: es) X.env = (false, eval e X.env) :: starEach es X.env) (hpl : (backTo pos (starEach es X.env)).any (·.1) = false) :
    PE X (.Call (.Name x p) (e :: es) [] pos) (tCall sp [] E0 t) := PE.mk fun pins s σ H Q I h =>
  wpAny_Call_Name_kw (ld_glob I hg hm (PySem.W.callWith_K (h₀ := X.base) I.ok.mod.kin hk (thn (ha.run pos pins s σ H _ I h) fun us s1 z => by
    obtain ⟨vs, H1, J, r, q⟩ := z
    refine ⟨J.kIn, wpAny_call (codeAny_mono (F.run X.A X.stack s1 H1 ⟨us, []⟩ us vs Q E0 gd hr J.env0 ?_ r (by simpa using q)) ?_)⟩
    · have := hb s1 us J.kIn (by rw [List.append_nil, ← r.length]; exact F.len _ _ _ _ (by simpa using q))
      simpa using this
    · intro res s2 z
      match res, z with
      | .error ex, z => exact False.elim z
      | .ok (.ret u), z => exact J.after z
      | .ok .next, z => exact False.elim z
      | .ok .brk, z => exact False.elim z
      | .ok .cont, z => exact False.elim z) he hpl) hdb)
theorem ee_callG (h : FnG X.prog X.w X.K X.mg X.base k f fd ps (spU X.K G F)) (gd : X.A.guards = some []) (hr : Room k X.A) (hg : Gl X x) (hm : X.mg x = some (.ref f)) (hk : PySem.W.keepIn X.K (.ref f) = true) (hb : Binds X.K fd ps [])
    (ha : EA G X (e :: es) cl) (hdb : (x == ("__debug__" : Str)) = false := by decide) (he : starEach (e :: es) X.env = (false, eval e X.env) :: starEach es X.env := by rfl) (hpl : (backTo pos (starEach es X.env)).any (·.1) = false := by rfl) :
    EE G X (.Call (.Name x p) (e :: es) [] pos) (cArg F cl) := (pe_callG h gd hr hg hm hk hb ha hdb he hpl).imp fun σ H Q h => by
  obtain ⟨m, S, env, us, S1, st, re, e1, q⟩ := re_arg h
  exact ⟨m, S, env, us, S1, st, re, e1, fun m1 H1 vs x1 st1 r1 => by
    show spU X.K G F (vs ++ []) H1 Q E0
    rw [List.append_nil]; exact q m1 H1 vs x1 st1 r1⟩
end
end OF
namespace OF
open PySem PySem.Spec PyProof.Rows L2
theorem callG_core {P : Program} {w : World} {K : PySem.W.Frag} {mg mb : Str → Option Value} {k : Nat} {fa a : Addr} {fd : FuncData} {x : Str} {sp : Sp} {t : Shared} {vs : List Value} {H : Hp}
    (inK : K.In t.heap) (gl : t.heap.Ns mainGlobals mg) (bi : t.heap.Ns builtinsNs mb) (bb : ∀ y : Str, y ≠ "__name__" → mb y = bootBuiltins y) (nl : t.heap.NoLimit) (ng : t.gens = #[])
    (ha : t.heap.get? a = some { cls := .type "list", data := .seq vs.toArray }) (hr : Room k callerA) (F : ∀ base : Heap, K.In base → base.Ns mainGlobals mg → FnG P w K mg base k fa fd [x] sp)
    (bind : ∀ (s : Shared) (u : Value), BindsTo s fd ⟨[u], []⟩ [(x, u)]) (hO : Only H) (hok : HOk P w H t.heap) (one : ∀ b, H b ≠ none → b = a) (out : H a ≠ none → K.lookup a = none)
    (hsp : sp [.ref a] H (fun v _ => v = .bl true) fun _ _ _ => False) :
    codeAny (model P w) callerA (.call (.ref fa) ⟨[.ref a], []⟩) (fun r s' => r = .ok (.ret (.bool true)) ∧ OldK t.heap s'.heap ∧ s'.os = t.os ∧ AllBare s'.gens) t := by
  have away : ∀ b, b ≠ a → H b = none := fun b hb => by
    cases q : H b with
    | none => rfl
    | some u => exact absurd (one b (by rw [q]; simp)) hb
  have dicts : ∀ {b : Addr} {m : Str → Option Value}, t.heap.Ns b m → (hidT t.heap H).Ns b m := by
    rintro b m ⟨o, es, ep, e, d, r⟩
    refine ⟨o, es, ep, hidT_get e (away b ?_), d, r⟩
    rintro rfl
    rw [ha] at e
    cases e
    cases d
  have kb : K.In (hidT t.heap H) := by
    intro b o e
    refine hidT_get (inK b o e) ?_
    by_cases hb : b = a
    · subst hb
      cases q : H b with
      | none => rfl
      | some u =>
        have z := out (by rw [q]; simp)
        rw [z] at e
        cases e
    · exact away b hb
  obtain ⟨mc, l1, l2⟩ := nl
  have md : L2.Mod K mg (hidT t.heap H) := ⟨kb, dicts gl, ⟨mb, dicts bi, bb⟩, mc, dicts l1, l2⟩
  have e0 : Env0 P w K mg (hidT t.heap H) callerA [] t H :=
    { frames := rfl, mod := md, bs := fun b o e => of_hidT e, bsz := Nat.le_of_eq (hidT_size _ _), funs := trivial, frf := fun b hb => absurd (show b ∈ ([] : List Addr) from hb) List.not_mem_nil, hok := hok, bare := .of_eq ng }
  have go := (F _ kb (dicts gl)).run callerA [] t H ⟨[.ref a], []⟩ [.ref a] [.ref a] _ _ rfl hr e0 (bind t (.ref a)) (.cons rfl .nil) hsp
  apply codeAny_mono go
  intro r t2 z
  match r, z with
  | .error e, z => exact False.elim z
  | .ok .next, z => exact False.elim z
  | .ok .brk, z => exact False.elim z
  | .ok .cont, z => exact False.elim z
  | .ok (.ret u), ⟨v, H2, os, bare, un, hok2, rv, q⟩ =>
    have hv : v = .bl true := q
    subst hv
    have hu : u = Value.bool true := rv
    subst hu
    refine ⟨rfl, OldK.of_keep fun b o e => ?_, os, bare⟩
    rcases hO b with hn | ⟨ob, xs, hs⟩
    · exact un.keep b o e hn (fun z => absurd (show b ∈ ([] : List Addr) from z) List.not_mem_nil) (by simp)
    · have h1 := (hok b _ hs).1
      have h2 := (hok2 b _ (un.frzs b ob _ hs)).1
      rw [e] at h1
      cases h1
      exact h2
theorem callG {P : Program} {w : World} {K : PySem.W.Frag} {mg mb : Str → Option Value} {k : Nat} {fa a : Addr} {fd : FuncData} {x : Str} {sp : Sp} {t : Shared} {vs : List Value} {ns : List Int}
    (inK : K.In t.heap) (gl : t.heap.Ns mainGlobals mg) (bi : t.heap.Ns builtinsNs mb) (bb : ∀ y : Str, y ≠ "__name__" → mb y = bootBuiltins y) (nl : t.heap.NoLimit) (ng : t.gens = #[])
    (ha : t.heap.get? a = some { cls := .type "list", data := .seq vs.toArray }) (hi : IntsAre vs ns) (hl : ns.length ≤ sizeLine) (hr : Room k callerA) (F : ∀ base : Heap, K.In base → base.Ns mainGlobals mg → FnG P w K mg base k fa fd [x] sp)
    (bind : ∀ (s : Shared) (u : Value), BindsTo s fd ⟨[u], []⟩ [(x, u)]) (hsp : ∀ H : Hp, SqL K H a (ns.map V.int) → sp [.ref a] H (fun v _ => v = .bl true) fun _ _ _ => False) :
    codeAny (model P w) callerA (.call (.ref fa) ⟨[.ref a], []⟩) (fun r s' => r = .ok (.ret (.bool true)) ∧ OldK t.heap s'.heap ∧ s'.os = t.os ∧ AllBare s'.gens) t := by
  have rv := vals_ints hi
  have lv := hi.length
  cases hk : K.lookup a with
  | some o =>
    have e := inK a o hk
    rw [ha] at e
    cases e
    refine callG_core (H := fun _ => none) inK gl bi bb nl ng ha hr F bind (fun _ => Or.inl rfl) (fun b u z => (by cases z)) (fun b z => absurd rfl z) (fun z => absurd rfl z) (hsp _ (Or.inr ?_))
    exact ⟨_, vs.toArray, _, hk, rfl, rfl, rfl, by rw [List.size_toArray, lv]; exact hl, by simpa using rv⟩
  | none =>
    let ob : Obj := { cls := .type "list", data := .seq vs.toArray }
    let H : Hp := fun b => if b = a then some (.frz ob (.lst (ns.map V.int))) else none
    have Ha : H a = some (.frz ob (.lst (ns.map V.int))) := if_pos rfl
    have Hn : ∀ b, b ≠ a → H b = none := fun b hb => if_neg hb
    refine callG_core (H := H) inK gl bi bb nl ng ha hr F bind (fun b => ?_) (fun b u z => ?_) (fun b z => ?_) (fun _ => hk) (hsp H (Or.inl (Or.inr ⟨ob, Ha⟩)))
    · by_cases hb : b = a
      · subst hb; exact Or.inr ⟨_, _, Ha⟩
      · exact Or.inl (Hn b hb)
    · by_cases hb : b = a
      · subst hb
        rw [Ha] at z
        cases z
        exact ⟨ha, by rw [List.length_map]; exact hl, vs, _, rv, ha⟩
      · rw [Hn b hb] at z; cases z
    · by_cases hb : b = a
      · exact hb
      · exact absurd (Hn b hb) z
theorem walkG {l : PySem.W.OpenLaw} {n k : Nat} {q : Program} {loose : List Str} {XP : (Str → Option Value) → Heap → Prop} {YP : World → Heap → Prop} {d : DefRec} {K : Params → PySem.W.Frag} {x : Str}
    (hn : l.most = some n) (h63 : n = 63) (hdf : d.params.defaults = []) (hr : Room k callerA) (hY : ∀ (w : World) (h : Heap), YP w h → (K w.params).In h)
    (F : ∀ (w : World) (mg : Str → Option Value) (fa : Addr) (h : Heap), (K w.params).In h → h.Ns mainGlobals mg → mg d.name = some (.ref fa) →
      ∃ fd : FuncData, (∀ (s : Shared) (u : Value), BindsTo s fd ⟨[u], []⟩ [(x, u)]) ∧ ∀ base : Heap, (K w.params).In base → base.Ns mainGlobals mg → FnG l.prog w (K w.params) mg base k fa fd [x] (spLaw (K w.params))) :
    PySem.W.WalkO q loose XP YP l.row.toRowW d [] (fun f vs => PySem.call f vs) := Att.attach_call hn hdf fun w s₀ s₁ mg mb fa o pm cd doc a vs ns gr y ho hd hcd hmg hobj hints hlen hg => by
  subst h63
  obtain ⟨fd, hb, hF⟩ := F w mg fa _ (hY w _ y) gr.T.g hmg
  exact callG (hY w _ y) gr.T.g gr.T.b gr.T.builtins gr.T.nolimit hg hobj hints (Nat.le_trans hlen (by decide)) hr hF hb fun H hS => ⟨a, ns, rfl, hS, hlen, fun _ => rfl⟩
theorem ok_endG {P : Program} {w : World} {K : PySem.W.Frag} {mg : Str → Option Value} {base : Heap} {G : Gx} {k : Nat} {f : Addr} {fd : FuncData} {ps : List Str} {F : Pf} (h : FnG P w K mg base k f fd ps (spU K G (liftP F))) (ht : ∀ ns : List Int, ns.length ≤ 63 → F [.scr (ns.map .int)] = some (.bl true)) :
    FnG P w K mg base k f fd ps (spLaw K) := h.imp (sp_law ht)
end OF
namespace OF
open PySem PySem.Spec PyProof.Rows L2
variable {X : Cx} {G : Gx}
@[simp] def flatU : U → Bool
  | .non => true
  | .bl _ => true
  | .int _ => true
  | .str _ => true
  | _ => false
@[simp] def eqF : U → U → Bool
  | .non, .non => true
  | .bl a, .bl b => a == b
  | .bl a, .int b => (if a then 1 else 0) == b
  | .int a, .bl b => a == (if b then 1 else 0)
  | .int a, .int b => a == b
  | .str a, .str b => a == b
  | _, _ => false
def inB (S : Sto) (a b : U) : Option Bool := match b with
  | .str z => (match a with
    | .str x => (match x.cps.toList with
      | [c] => some (decide (c ∈ z.cps.toList))
      | _ => none)
    | _ => none)
  | b => match itmU S b with
    | some us => if flatU a = true ∧ us.all flatU = true then some (us.any fun y => eqF y a) else none
    | none => match dctU S b, keyU a with
      | some kvs, some k => some (getK kvs k).isSome
      | _, _ => none
def cPairs : List (Cm U × Cm U) → Cm (List (U × U))
  | [] => fun _ S => some ([], S)
  | (k, v) :: r => fun env S => match k env S with
    | none => none
    | some (a, S1) => match v env S1 with
      | none => none
      | some (b, S2) => match cPairs r env S2 with
        | none => none
        | some (ps, S3) => some ((a, b) :: ps, S3)
def keysU : List (U × U) → Option (List (Key × U))
  | [] => some []
  | (k, v) :: r => match keyU k, keysU r with
    | some k, some t => some ((k, v) :: t)
    | _, _ => none
def mergeU (kvs more : List (Key × U)) : List (Key × U) := more.foldl (fun acc kv => putKU acc kv.1 kv.2) kvs
def cDisp (mu : Bool) (prs : List (Cm U × Cm U)) : Cm U := fun env S => match cPairs prs env S with
  | none => none
  | some (ps, S1) => match keysU ps with
    | none => none
    | some kvs => if kvs.length ≤ 15 then (if mu then some (.ref S1.length, S1 ++ [.dct (mergeU [] kvs)]) else some (.dct (mergeU [] kvs), S1)) else none
section
variable {K : PySem.W.Frag} {m m' : Mp} {H H' : Hp} {S S' : Sto}
theorem res_cell {D : Addr} {o : O} {ho : HO} (x : Ext m H m' H') (hD : H D = none) (nx : D ∉ m'.x) (st' : Rst K G ⟨m'.c, D :: m'.x⟩ H' S') (hd : H' D = some ho) (r : RO K G ⟨m'.c, D :: m'.x⟩ H' o ho) :
    Ext m H ⟨m'.c ++ [D], m'.x⟩ H' ∧ Rst K G ⟨m'.c ++ [D], m'.x⟩ H' (S' ++ [o]) ∧ RU K G ⟨m'.c ++ [D], m'.x⟩ H' (.ref S'.length) (.ref D) := by
  have k : Keeps ⟨m'.c, D :: m'.x⟩ H' ⟨m'.c ++ [D], m'.x⟩ H' := ⟨fun a u r n nx => ⟨r, by
    intro h
    rcases List.mem_append.mp h with h | h
    · exact n h
    · exact nx (by simp at h; simp [h]), fun h => nx (List.mem_cons_of_mem _ h)⟩, fun n a h => by
    show (m'.c ++ [D])[n]? = some a
    rw [List.getElem?_append_left (List.getElem?_eq_some_iff.mp h).1]; exact h, fun _ _ h _ _ => h⟩
  have hDc : D ∉ m'.c := st'.nx D (by simp)
  refine ⟨⟨?_, x.x, x.keep, x.cells, fun a ha n => ?_, x.fz⟩, ⟨?_, by simp [st'.len], fun n ob a h1 h2 => ?_, fun a ha => st'.xs a (List.mem_cons_of_mem _ ha), fun a ha h => ?_, fun a ha => st'.tx a (List.mem_cons_of_mem _ ha)⟩, RU.cell ?_⟩
  · obtain ⟨r, hr⟩ := x.pre
    exact ⟨r ++ [D], by rw [← List.append_assoc, ← hr]⟩
  · rcases List.mem_append.mp ha with h | h
    · exact x.new a h n
    · have : a = D := by simpa using h
      rw [this]; exact hD
  · refine List.nodup_append.mpr ⟨st'.nd, by simp, fun a ha b hb => ?_⟩
    have : b = D := by simpa using hb
    subst this
    intro e; subst e
    exact hDc ha
  · by_cases hn : n < S'.length
    · rw [List.getElem?_append_left hn] at h1
      have h2' : m'.c[n]? = some a := by
        have h2'' : (m'.c ++ [D])[n]? = some a := h2
        rw [List.getElem?_append_left (by have := st'.len; simp at this; omega)] at h2''
        exact h2''
      obtain ⟨ho, e, r⟩ := st'.ob n ob a h1 h2'
      exact ⟨ho, e, RO.keep k _ _ r⟩
    · rw [List.getElem?_append_right (by omega)] at h1
      have e0 : n - S'.length = 0 := by
        have := (List.getElem?_eq_some_iff.mp h1).1
        simp at this; omega
      rw [e0] at h1
      cases h1
      have hlen : m'.c.length = S'.length := st'.len
      have h2'' : (m'.c ++ [D])[n]? = some a := h2
      rw [List.getElem?_append_right (by omega), hlen, e0] at h2''
      cases h2''
      exact ⟨_, hd, RO.keep k _ _ r⟩
  · rcases List.mem_append.mp h with h | h
    · exact st'.nx a (List.mem_cons_of_mem _ ha) h
    · have : a = D := by simpa using h
      subst this
      exact nx ha
  · have hlen : m'.c.length = S'.length := st'.len
    show (m'.c ++ [D])[S'.length]? = some D
    rw [← hlen]; simp
theorem re_pairs : ∀ (prs : List (Cm U × Cm U)) {m : Mp} {H : Hp} {S S' : Sto} {env : Env'} {σ : L2.St} {ps : List (U × U)} {Q : List (V × V) → Hp → Prop}, Rst K G m H S → Renv K G m H env σ → cPairs prs env S = some (ps, S') →
    (∀ m' H' vs, Ext m H m' H' → Rst K G m' H' S' → RUs K G m' H' (ps.map (·.1)) (vs.map (·.1)) → RUs K G m' H' (ps.map (·.2)) (vs.map (·.2)) → Q vs H') → tPairs (prs.map fun p => (RE K G p.1, RE K G p.2)) σ H Q
  | [], m, H, S, S', env, σ, ps, Q, st, re, hc, q => by
    unfold cPairs at hc
    cases hc
    exact q m H [] (Ext.refl m H) st RUs.nil RUs.nil
  | (k, v) :: r, m, H, S, S', env, σ, ps, Q, st, re, hc, q => by
    unfold cPairs at hc
    split at hc
    · cases hc
    · rename_i a S1 e1
      split at hc
      · cases hc
      · rename_i b S2 e2
        split at hc
        · cases hc
        · rename_i ps' S3 e3
          cases hc
          show tPairs ((RE K G k, RE K G v) :: r.map fun p => (RE K G p.1, RE K G p.2)) σ H Q
          refine ⟨m, S, env, a, S1, st, re, e1, fun m1 H1 x x1 st1 r1 => ⟨m1, S1, env, b, S2, st1, re.keep x1.keeps, e2, fun m2 H2 y x2 st2 r2 => ?_⟩⟩
          refine re_pairs r st2 ((re.keep x1.keeps).keep x2.keeps) e3 fun m3 H3 vs x3 st3 r3 r4 => ?_
          exact q m3 H3 ((x, y) :: vs) (x1.trans (x2.trans x3)) st3 (RUs.cons (RU.keep (x2.trans x3).keeps _ _ r1) r3) (RUs.cons (RU.keep x3.keeps _ _ r2) r4)
theorem keysU_ok : ∀ {ps : List (U × U)} {kvs : List (Key × U)} {vs : List (V × V)}, keysU ps = some kvs → RUs K G m H (ps.map (·.1)) (vs.map (·.1)) → RUs K G m H (ps.map (·.2)) (vs.map (·.2)) →
    ∃ ws : List (Key × V), vs = ws.map (fun kv => (kV kv.1, kv.2)) ∧ RKs K G m H kvs ws ∧ ws.length = kvs.length
  | [], kvs, vs, h, r1, r2 => by
    unfold keysU at h
    cases h
    have := r1.eqnil
    have hv : vs = [] := by cases vs with
      | nil => rfl
      | cons _ _ => simp at this
    subst hv
    exact ⟨[], rfl, RKs.nil, rfl⟩
  | (k, v) :: ps, kvs, vs, h, r1, r2 => by
    unfold keysU at h
    split at h
    · rename_i k' t h1 h2
      cases h
      cases vs with
      | nil => obtain ⟨_, _, e, _⟩ := r1.uncons; cases e
      | cons p vs =>
        obtain ⟨a, ra, e1, q1, t1⟩ := r1.uncons
        obtain ⟨b, rb, e2, q2, t2⟩ := r2.uncons
        simp only [List.map_cons, List.cons.injEq] at e1 e2
        obtain ⟨rfl, rfl⟩ := e1
        obtain ⟨rfl, rfl⟩ := e2
        obtain ⟨ws, ew, rw', hl⟩ := keysU_ok h2 t1 t2
        refine ⟨(k', p.2) :: ws, ?_, RKs.cons q2 rw', by simp [hl]⟩
        rw [List.map_cons, ← ew, ← keyU_ok q1 h1]
    · cases h
theorem mergeU_ok : ∀ {more : List (Key × U)} {ws : List (Key × V)} {kvs : List (Key × U)} {vs : List (Key × V)}, RKs K G m H more ws → RKs K G m H kvs vs → RKs K G m H (mergeU kvs more) (mergeK vs ws)
  | [], ws, kvs, vs, r, r0 => by have := r.eqnil; subst this; exact r0
  | (k, u) :: more, ws, kvs, vs, r, r0 => by
    obtain ⟨v, t, rfl, q, tl⟩ := r.uncons
    exact mergeU_ok (more := more) (kvs := putKU kvs k u) (vs := putK vs k v) tl (r0.put q)
end
abbrev EDs (G : Gx) (X : Cx) (pos : Pos) (keys : List (Option Expr)) (values : List Expr) (prs : List (Cm U × Cm U)) : Prop := PPs X pos keys values (prs.map fun p => (RE X.K G p.1, RE X.K G p.2))
theorem ed_nil {pos : Pos} : EDs G X pos [] [] [] := pps_nil
theorem ed_cons {pos : Pos} {k v : Expr} {ks : List (Option Expr)} {vs : List Expr} {ck cv : Cm U} {prs : List (Cm U × Cm U)} (hk : EE G X k ck) (hv : EE G X v cv) (hr : EDs G X pos ks vs prs) : EDs G X pos (some k :: ks) (v :: vs) ((ck, cv) :: prs) := pps_cons hk hv hr
theorem ee_disp {pos : Pos} {keys : List (Option Expr)} {values : List Expr} {prs : List (Cm U × Cm U)} (mu : Bool) (h : EDs G X pos keys values prs) (hall : keys.all (·.isSome) = true := by rfl) (hl : keys.length = values.length := by rfl) (h0 : keys ≠ [] := by simp)
    (h15 : keys.length ≤ 15 := by decide) : EE G X (.Dict keys values pos) (cDisp mu prs) := (pe_disp h hall hl h0 h15).imp fun σ H Q ⟨m, S, env, z, S', st, re, hc, q⟩ => by
  unfold cDisp at hc
  split at hc
  · cases hc
  · rename_i ps S1 e1
    split at hc
    · cases hc
    · rename_i kvs hk
      split at hc
      · rename_i hl15
        intro D hD
        refine re_pairs prs (st.res (o := .dK []) hD) (re.keep (Ext.res (o := .dK []) hD).keeps) e1 fun m' H' vs x' st' r1 r2 => ?_
        have hx : D ∈ m'.x := x'.xmem (by simp)
        have nc : D ∉ m'.c := st'.nx D hx
        have hd : H' D = some (.dK []) := x'.keep D _ upd_same (st.none_c hD)
        obtain ⟨ws, ew, rk, hw⟩ := keysU_ok hk r1 r2
        refine ⟨hd, ws, ew, by omega, ?_⟩
        have rm := mergeU_ok rk (RKs.nil (K := X.K) (G := G) (m := m') (H := H'))
        have st2 : Rst X.K G m' (upd H' D (.dK (mergeK [] ws))) S1 := st'.setx hx
        have k2 : Keeps m' H' m' (upd H' D (.dK (mergeK [] ws))) := keeps_x hx
        have rm2 := RKs.keep k2 _ _ rm
        -- forget all that is reserved here but D
        have hsub : ∀ a ∈ D :: m.x, a ∈ m'.x := fun a ha => x'.xmem ha
        have st3 : Rst X.K G ⟨m'.c, D :: m.x⟩ (upd H' D (.dK (mergeK [] ws))) S1 := Rst.forget (x := m'.x) st2 hsub
        have rm3 := RKs.keep (keeps_forget (c := m'.c) (x := m'.x) (H := upd H' D (.dK (mergeK [] ws))) hsub) _ _ rm2
        have x0 := (Ext.res (m := m) (o := .dK []) hD).trans x'
        have x3 : Ext m H ⟨m'.c, m.x⟩ (upd H' D (.dK (mergeK [] ws))) := by
          have x5 := x0.forget
          refine ⟨x5.pre, x5.x, fun a o h n => ?_, fun a ha h => ?_, x5.new, fun a ob u h => by rw [upd_ne (ne_of_none h hD)]; exact x5.fz a ob u h⟩
          · have : a ≠ D := ne_of_none h hD
            rw [upd_ne this]; exact x5.keep a o h n
          · by_cases e : a = D
            · subst e; rw [upd_same]; rfl
            · rw [upd_ne e]; exact x5.cells a ha h
        split at hc
        · cases hc
          obtain ⟨y1, y2, y3⟩ := res_cell (o := .dct (mergeU [] kvs)) x3 hD (st.none_x hD) st3 upd_same ⟨_, rfl, rm3⟩
          exact q _ _ _ y1 y2 y3
        · cases hc
          have hs2 : ∀ a ∈ m.x, a ∈ D :: m.x := fun a ha => List.mem_cons_of_mem _ ha
          refine q ⟨m'.c, m.x⟩ _ (.ref D) x3 (Rst.forget (x := D :: m.x) st3 hs2) ?_
          unfold RU
          exact ⟨D, _, rfl, .inl upd_same, nc, st.none_x hD, RKs.keep (keeps_forget (x := D :: m.x) hs2) _ _ rm3⟩
      · cases hc
@[simp] theorem inB_tup (S : Sto) (a : U) (us : List U) : inB S a (.tup us) = if flatU a = true ∧ us.all flatU = true then some (us.any fun y => eqF y a) else none := rfl
@[simp] theorem inB_lst (S : Sto) (a : U) (us : List U) : inB S a (.lst us) = if flatU a = true ∧ us.all flatU = true then some (us.any fun y => eqF y a) else none := rfl
@[simp] theorem cPairs_nil (env : Env') (S : Sto) : cPairs [] env S = some ([], S) := rfl
@[simp] theorem cPairs_cons (k v : Cm U) (r : List (Cm U × Cm U)) (env : Env') (S : Sto) : cPairs ((k, v) :: r) env S = match k env S with
    | none => none
    | some (a, S1) => match v env S1 with
      | none => none
      | some (b, S2) => match cPairs r env S2 with
        | none => none
        | some (ps, S3) => some ((a, b) :: ps, S3) := rfl
@[simp] theorem cDisp_ap (mu : Bool) (prs : List (Cm U × Cm U)) (env : Env') (S : Sto) : cDisp mu prs env S = match cPairs prs env S with
  | none => none
  | some (ps, S1) => match keysU ps with
    | none => none
    | some kvs => if kvs.length ≤ 15 then (if mu then some (.ref S1.length, S1 ++ [.dct (mergeU [] kvs)]) else some (.dct (mergeU [] kvs), S1)) else none := rfl
@[simp] theorem keysU_nil : keysU [] = some [] := rfl
@[simp] theorem keysU_cons (k v : U) (r : List (U × U)) : keysU ((k, v) :: r) = match keyU k, keysU r with
    | some k, some t => some ((k, v) :: t)
    | _, _ => none := rfl
@[simp] theorem mergeU_nil (kvs : List (Key × U)) : mergeU kvs [] = kvs := rfl
@[simp] theorem mergeU_cons (kvs : List (Key × U)) (k : Key) (v : U) (r : List (Key × U)) : mergeU kvs ((k, v) :: r) = mergeU (putKU kvs k v) r := rfl
theorem hu70 {A : Around} {k : Nat} (hr : Room k A) : A.units + 70 < cLine := by have := hr.un; omega
end OF
namespace OF
open PySem PySem.Spec PyProof.Rows L2
variable {X : Cx} {G : Gx}
variable {e o tg iter : Expr} {es : List Expr} {ca cb : Cm U} {cl ck : Cm (List U)} {pos apos p : Pos}
abbrev CmG := Env' → Sto → Option ((List U × Option Nat) × Sto)
def gok (g : Option Nat) (us : List U) (S : Sto) : Prop := match g with
  | none => True
  | some n => S[n]? = some (.lst us)
@[simp] theorem gok_none (us : List U) (S : Sto) : gok none us S = True := rfl
@[simp] theorem gok_some (n : Nat) (us : List U) (S : Sto) : gok (some n) us S = (S[n]? = some (.lst us)) := rfl
def ItOkG (K : PySem.W.Frag) (G : Gx) (m1 : Mp) (H1 : Hp) (us : List U) (g : Option Nat) (J : It) : Prop := ∃ Gd Y, Walk J us.length Gd Y ∧ (∀ m2 H2 S2, Ext m1 H1 m2 H2 → Rst K G m2 H2 S2 → gok g us S2 → Gd H2) ∧
  ∀ i m2 S2 H2 x H3, Ext m1 H1 m2 H2 → Rst K G m2 H2 S2 → gok g us S2 → i < us.length → Y i H2 x H3 → ∃ u, us[i]? = some u ∧ Ext m2 H2 m2 H3 ∧ Rst K G m2 H3 S2 ∧ RU K G m2 H3 u x
def RIG (K : PySem.W.Frag) (G : Gx) (it : CmG) : TI := fun σ H R => ∃ m S env us g S', Rst K G m H S ∧ Renv K G m H env σ ∧ it env S = some ((us, g), S') ∧ ∀ m1 H1, Ext m H m1 H1 → Rst K G m1 H1 S' → ∀ J, ItOkG K G m1 H1 us g J → R J H1
abbrev EIG (G : Gx) (X : Cx) (tg iter : Expr) (it : CmG) : Prop := PI X tg iter (RIG X.K G it)
open Classical in
noncomputable def loopG (pt : Pat) (b : Sm) (g : Option Nat) (us0 : List U) : List U → Sm
  | [], env, S => if gok g us0 S then some (.nx, env, S) else none
  | u :: us, env, S => if gok g us0 S then (match bindP pt u with
    | none => none
    | some bs => match b (setAll env bs) S with
      | none => none
      | some (.nx, env2, S2) => loopG pt b g us0 us env2 S2
      | some (.ct, env2, S2) => loopG pt b g us0 us env2 S2
      | some (.brk, env2, S2) => some (.nx, env2, S2)
      | some (.ret z, env2, S2) => some (.ret z, env2, S2)) else none
noncomputable def sForG (it : CmG) (pt : Pat) (b : Sm) : Sm := fun env S => match it env S with
  | none => none
  | some ((us, g), S1) => loopG pt b g us us env S1
open Classical in
noncomputable def mapG (pt : Pat) (t : Cm Bool) (c : Cm U) (env : Env') (g : Option Nat) (us0 : List U) : List U → Sto → Option (List U × Sto)
  | [], S => if gok g us0 S then some ([], S) else none
  | u :: us, S => if gok g us0 S then (match bindP pt u with
    | none => none
    | some bs => match t (setAll env bs) S with
      | none => none
      | some (false, S1) => mapG pt t c env g us0 us S1
      | some (true, S1) => match c (setAll env bs) S1 with
        | none => none
        | some (y, S2) => match mapG pt t c env g us0 us S2 with
          | none => none
          | some (ys, S3) => some (y :: ys, S3)) else none
theorem mapG_gok {pt : Pat} {t : Cm Bool} {c : Cm U} {env : Env'} {g : Option Nat} {us0 us : List U} {S : Sto} {r : List U × Sto} (h : mapG pt t c env g us0 us S = some r) : gok g us0 S := by
  cases us <;> (unfold mapG at h; split at h; assumption; cases h)
noncomputable def cLcGL (it : CmG) (pt : Pat) (t : Cm Bool) (c : Cm U) (vs : List Nat) : Cm (List U) := fun env S => match it env S with
  | none => none
  | some ((us, g), S1) => match mapG pt t c (wipeE env vs) g us us S1 with
    | none => none
    | some (ys, S2) => if ys.length ≤ sizeLine then some (ys, S2) else none
noncomputable def cLcG (it : CmG) (pt : Pat) (t : Cm Bool) (c : Cm U) (vs : List Nat) : Cm U := fun env S => match cLcGL it pt t c vs env S with
  | none => none
  | some (ys, S2) => some (.lst ys, S2)
theorem re_lcG {K : PySem.W.Frag} {it : CmG} {pt : Pat} {t : Cm Bool} {c : Cm U} {vs : List Nat} {σ : L2.St} {H : Hp} {Q : VK} (hsl : ∀ i ∈ pt.slots, i ∈ vs)
    {m : Mp} {S : Sto} {env : Env'} {ys : List U} {S' : Sto} (st : Rst K G m H S) (re : Renv K G m H env σ) (hc : cLcGL it pt t c vs env S = some (ys, S'))
    (q : ∀ m' H' D zs, Ext m H m' H' → H D = none → D ∉ m'.x → Rst K G ⟨m'.c, D :: m'.x⟩ H' S' → H' D = some (.lst zs) → RUs K G ⟨m'.c, D :: m'.x⟩ H' ys zs → Q (.ref D) H') :
    tLc (RIG K G it) (tPat K pt) (RT K G t) (RE K G c) vs σ H Q := by
  unfold cLcGL at hc
  split at hc
  · cases hc
  · rename_i us g S1 e1
    split at hc
    · cases hc
    · rename_i ys' S2 e2
      split at hc
      · rename_i hsz
        cases hc
        refine ⟨m, S, env, us, g, S1, st, re, e1, fun m1 H1 x1 st1 J hJ D hD => ?_⟩
        obtain ⟨Gd, Y, w, hG, hY⟩ := hJ
        have reW := (re.keep x1.keeps).wipe vs
        refine lc_it w (fun i H => ∃ m S acc zs rest, Ext m1 H1 m H ∧ D ∈ m.x ∧ Rst K G m H S ∧ H D = some (.lst zs) ∧ RUs K G m H acc zs ∧ mapG pt t c (wipeE env vs) g us (us.drop i) S = some (rest, S') ∧ ys = acc ++ rest)
          ⟨⟨m1.c, D :: m1.x⟩, S1, [], [], ys, Ext.res hD, by simp, st1.res hD, upd_same, RUs.nil, e2, rfl⟩ (fun i H _ ⟨m, S, acc, zs, rest, x, _, st, _, _, hm, _⟩ => hG m H S x st (mapG_gok hm)) (fun i y H H' hi ⟨m, S, acc, zs, rest, x, hx, st, hd, ra, hm, ey⟩ hy => ?_) (fun H ⟨m, S, acc, zs, rest, x, hx, st, hd, ra, hm, ey⟩ => ?_)
        · obtain ⟨u, hu, x2, st2, ru⟩ := hY i m S H y H' x st (mapG_gok hm) hi hy
          rw [drop_cons hu] at hm
          have hk := mapG_gok hm
          unfold mapG at hm
          rw [if_pos hk] at hm
          split at hm
          · cases hm
          · rename_i bs eb
            obtain ⟨bv, h1, h2⟩ := bindP_ok _ _ _ _ eb ru
            have re2 := ((reW.keep x.keeps).keep x2.keeps).setAll h2
            have nc : D ∉ m.c := st.nx D hx
            refine ⟨bv, h1, wipe_setAll_wipe (fun i hi => hsl i (by rw [PatV.slots _ _ _ h1] at hi; exact hi)), ?_⟩
            split at hm
            · cases hm
            · rename_i S3 e3
              refine ⟨m, S, _, false, S3, st2, re2, e3, fun m3 H3 x3 st3 => iteF ?_⟩
              exact ⟨m3, S3, acc, zs, rest, (x.trans x2).trans x3, x3.xmem hx, st3, x3.keep D _ (x2.keep D _ hd nc) nc, RUs.keep (x2.trans x3).keeps _ _ ra, hm, ey⟩
            · rename_i S3 e3
              refine ⟨m, S, _, true, S3, st2, re2, e3, fun m3 H3 x3 st3 => iteT ?_⟩
              split at hm
              · cases hm
              · rename_i z S4 e4
                split at hm
                · cases hm
                · rename_i zs' S5 e5
                  cases hm
                  have d3 : H3 D = some (.lst zs) := x3.keep D _ (x2.keep D _ hd nc) nc
                  have nc3 : D ∉ m3.c := st3.nx D (x3.xmem hx)
                  refine ⟨m3, S3, _, z, S4, st3, re2.keep x3.keeps, e4, fun m4 H4 v x4 st4 r4 => ?_⟩
                  have hx4 : D ∈ m4.x := x4.xmem (x3.xmem hx)
                  have d4 : H4 D = some (.lst zs) := x4.keep D _ d3 nc3
                  have k4 : Keeps m4 H4 m4 (L2.upd H4 D (.lst (zs ++ [v]))) := keeps_x hx4
                  have ra4 := RUs.keep ((x2.trans x3).trans x4).keeps _ _ ra
                  have hl : zs.length < sizeLine := by
                    have h1 := ra.length
                    have h2 : ys.length ≤ sizeLine := hsz
                    rw [ey] at h2
                    simp at h2
                    omega
                  refine ⟨zs, d4, hl, m4, S4, acc ++ [z], zs ++ [v], zs', ?_, hx4, st4.setx hx4, upd_same, RUs.keep k4 _ _ (ra4.append (RUs.one r4)), e5, by rw [ey]; simp⟩
                  have x5 := ((x.trans x2).trans x3).trans x4
                  refine ⟨x5.pre, x5.x, fun a o h n => ?_, fun a ha h => ?_, x5.new, fun a ob u h => by rw [upd_ne (ne_of_none h hD)]; exact x5.fz a ob u h⟩
                  · have : a ≠ D := ne_of_none h hD
                    rw [upd_ne this]; exact x5.keep a o h n
                  · by_cases e : a = D
                    · subst e; rw [upd_same]; rfl
                    · rw [upd_ne e]; exact x5.cells a ha h
        · rw [List.drop_length] at hm
          have hk := mapG_gok hm
          unfold mapG at hm
          rw [if_pos hk] at hm
          cases hm
          rw [List.append_nil] at ey
          subst ey
          have hsub : ∀ a ∈ D :: m1.x, a ∈ m.x := fun a ha => by
            rcases List.mem_cons.mp ha with h | h
            · rw [h]; exact hx
            · exact x.xmem h
          exact q ⟨m.c, m1.x⟩ H D zs (x1.trans x.forget) (x1.back hD) (st1.none_x hD) (Rst.forget (x := m.x) st hsub) hd (RUs.keep (keeps_forget (x := m.x) hsub) _ _ ra)
      · cases hc
theorem ee_lcG {elt : Expr} {ifs : List Expr} {scope : Scope} {own : List (Str × Nat)} {it : CmG} {pt : Pat} {t : Cm Bool} {c : Cm U} (hc : X.calm = true) (hN : X.N.Nodup) (hi : EIG G X tg iter it) (ok : BlkOk X.N X.env.scope scope own)
    (hg : ∀ (s : Shared) (H : Hp) (C : Addr) (cl : List (Str × Addr)) (fp : List Addr), EPt (X.blk s H scope (compEnvC scope cl C X.env) fp) tg pt) (ht : ∀ (s : Shared) (H : Hp) (C : Addr) (cl : List (Str × Addr)) (fp : List Addr), ETs G (X.blk s H scope (compEnvC scope cl C X.env) fp) ifs t)
    (he : ∀ (s : Shared) (H : Hp) (C : Addr) (cl : List (Str × Addr)) (fp : List Addr), EE G (X.blk s H scope (compEnvC scope cl C X.env) fp) elt c) (hsl : ∀ i ∈ pt.slots, i ∈ own.map (·.2)) (hs : ∀ x, foldedSetIterable iter X.env x = pure x := by intro _; rfl) :
    EE G X (.ListComp elt [⟨tg, iter, ifs, 0⟩] scope pos) (cLcG it pt t c (own.map (·.2))) := (pe_lc hc hN hi ok hg ht he hs).imp fun σ H Q ⟨m, S, env, z, S', st, re, hc, q⟩ => by
  unfold cLcG at hc
  split at hc
  · cases hc
  · rename_i ys S2 e1
    cases hc
    refine re_lcG hsl st re e1 fun m' H' D zs x hD nx st' hd r => ?_
    have st2 : Rst X.K G m' H' S' := Rst.forget (c := m'.c) (x := D :: m'.x) st' fun a ha => List.mem_cons_of_mem _ ha
    refine q m' H' _ x st2 ?_
    unfold RU
    exact ⟨D, zs, rfl, .inl hd, st'.nx D (by simp), nx, RUs.keep (keeps_forget fun a ha => List.mem_cons_of_mem _ ha) _ _ r⟩
def itAny (c : Cm U) : CmG := fun env S => match c env S with
  | none => none
  | some (u, S1) => match u with
    | .ref n => match S1[n]? with
      | some (.lst us) => some ((us, some n), S1)
      | _ => none
    | u => match seqU u with
      | none => none
      | some us => some ((us, none), S1)
theorem itok_g {K : PySem.W.Frag} {m : Mp} {H : Hp} {us : List U} {J : It} (h : ItOk K G m H us J) : ItOkG K G m H us none J := by
  obtain ⟨Gd, Y, w, hG, hY⟩ := h
  exact ⟨Gd, Y, w, fun m2 H2 S2 x _ _ => hG m2 H2 x, fun i m2 S2 H2 y H3 x st _ hi hy => hY i m2 S2 H2 y H3 x st hi hy⟩
theorem walk_cell {K : PySem.W.Frag} {a : Addr} {n : Nat} : Walk (Itl K a) n (fun H => ∃ vs, H a = some (.lst vs) ∧ vs.length = n) (fun i H x H' => H' = H ∧ ∀ vs, H a = some (.lst vs) → vs[i]? = some x) :=
  ⟨fun i H hi ⟨vs, h, hl⟩ => ⟨vs, vs[i]'(by omega), .inl (.inl h), by simp [hl, hi]⟩, fun H ⟨vs, h, hl⟩ => ⟨vs, .inl (.inl h), by omega⟩, fun i H x H' hi ⟨vs, h, hl⟩ y => ⟨y.1, fun ws hw => y.2 ws (.inl (.inl hw))⟩⟩
theorem itok_cell {K : PySem.W.Frag} {m : Mp} {H : Hp} {n : Nat} {us : List U} {a : Addr} (hm : m.c[n]? = some a) : ItOkG K G m H us (some n) (Itl K a) := by
  have look : ∀ m2 H2 S2, Ext m H m2 H2 → Rst K G m2 H2 S2 → gok (some n) us S2 → ∃ vs, H2 a = some (.lst vs) ∧ RUs K G m2 H2 us vs := by
    intro m2 H2 S2 x st g
    obtain ⟨ho, e, vs, rfl, r⟩ := st.ob n _ a g (x.at hm)
    exact ⟨vs, e, r⟩
  refine ⟨_, _, walk_cell, fun m2 H2 S2 x st g => ?_, fun i m2 S2 H2 y H3 x st g hi ⟨e, hy⟩ => ?_⟩
  · obtain ⟨vs, h, r⟩ := look m2 H2 S2 x st g
    exact ⟨vs, h, r.length⟩
  · subst e
    obtain ⟨vs, h, r⟩ := look m2 H3 S2 x st g
    obtain ⟨v, e', q⟩ := r.get (List.getElem?_eq_getElem hi)
    rw [hy vs h] at e'
    cases e'
    exact ⟨_, List.getElem?_eq_getElem hi, Ext.refl _ _, st, q⟩
theorem ei_any (he : EE G X e ca) : EIG G X tg e (itAny ca) := (PI.or3 (pi_tup he) (pi_list he) (pi_str he)).imp fun σ H R ⟨m, S, env, us, g, S', st, re, hc, q⟩ => by
  unfold itAny at hc
  split at hc
  · cases hc
  · rename_i u S1 e1
    split at hc
    · rename_i n
      split at hc
      · rename_i us' hn
        cases hc
        refine .inr (.inl ⟨m, S, env, _, S', st, re, e1, fun m1 H1 v x1 st1 r1 => ?_⟩)
        unfold RU at r1
        obtain ⟨a, ev, ha⟩ := r1
        obtain ⟨ho, e, vs, rfl, r⟩ := st1.ob n _ a hn ha
        exact ⟨a, ev, ⟨vs, .inl (.inl e)⟩, q m1 H1 x1 st1 _ (itok_cell ha)⟩
      · cases hc
    · split at hc
      · cases hc
      · rename_i us' e2
        cases hc
        cases u with
        | tup us' =>
          cases e2
          refine .inl ⟨m, S, env, _, S', st, re, e1, fun m1 H1 v x1 st1 r1 => ?_⟩
          obtain ⟨a, vs, ev, rv, hq⟩ := r1.tupSt
          exact ⟨a, ev, ⟨vs, hq m1 H1 (Ext.refl _ _)⟩, q m1 H1 x1 st1 _ (itok_g (itok_at rv walk_tup hq))⟩
        | lst us' =>
          cases e2
          refine .inr (.inl ⟨m, S, env, _, S', st, re, e1, fun m1 H1 v x1 st1 r1 => ?_⟩)
          obtain ⟨a, vs, ev, rv, hq⟩ := r1.lstSt
          exact ⟨a, ev, ⟨vs, hq m1 H1 (Ext.refl _ _)⟩, q m1 H1 x1 st1 _ (itok_g (itok_at rv walk_list hq))⟩
        | scr us' =>
          cases e2
          refine .inr (.inl ⟨m, S, env, _, S', st, re, e1, fun m1 H1 v x1 st1 r1 => ?_⟩)
          obtain ⟨a, vs, ev, rv, hq⟩ := r1.scrSt
          exact ⟨a, ev, ⟨vs, hq m1 H1 (Ext.refl _ _)⟩, q m1 H1 x1 st1 _ (itok_g (itok_at rv walk_list hq))⟩
        | str x =>
          cases e2
          refine .inr (.inr ⟨m, S, env, _, S', st, re, e1, fun m1 H1 v x1 st1 r1 => ?_⟩)
          exact ⟨x, r1, q m1 H1 x1 st1 _ (itok_g (itok_at (RUs.signs x) walk_strV fun _ _ _ => trivial))⟩
        | _ => cases e2
end OF
namespace OF
open PySem PySem.Spec PyProof.Rows L2
variable {X : Cx} {G : Gx}
def powJ (i j : Int) : Option U := if 0 ≤ j ∧ (Builtin.Int.intBits i : Int) * j ≤ 2 ^ 27 then some (.int (i ^ j.toNat)) else none
theorem ou_powJ : OpU G X (binaryOp .Pow) (o2I powJ) := by
  intro pins s σ H x y v u Q I rx ry ⟨m, S, u1, u2, z, S', st, r1, r2, e, q⟩
  obtain ⟨i, j, w, rfl, rfl, e', er⟩ := o2I_some e
  cases er
  unfold powJ at e'
  split at e'
  · rename_i h
    cases e'
    cases r1
    cases r2
    obtain ⟨t1, rfl⟩ := rx
    obtain ⟨t2, rfl⟩ := ry
    exact PyProof.Rows.pow_int h.1 h.2 ⟨.int _, H, I.tok _, ⟨_, rfl⟩, q.here st rfl⟩
  · cases e'
end OF
namespace OF
open PySem PySem.Spec PyProof.Rows L2
mutual
inductive RdX (h : Heap) : Value → PyData → Prop
  | non : RdX h .none .none
  | bl (b : Bool) : RdX h (.bool b) (.bool b)
  | int (i : Int) (t : Tok) : RdX h (.int i t) (.int i)
  | str (x : Str) (t : Tok) : RdX h (.str x t) (.str x)
  | lst {a : Addr} {o : Obj} {vs : List Value} {n : Nat} {xs : List PyData} : h.get? a = some o → o.cls = .type "list" → o.data = .seq vs.toArray n → RdXs h vs xs → RdX h (.ref a) (.list xs)
  | tup {a : Addr} {o : Obj} {vs : List Value} {n : Nat} {xs : List PyData} : h.get? a = some o → o.cls = .type "tuple" → o.data = .seq vs.toArray n → RdXs h vs xs → RdX h (.ref a) (.tuple xs)
  | dct {a : Addr} {o : Obj} {es : Array DictEntry} {n : Nat} {kvs : List (PyData × PyData)} : h.get? a = some o → o.cls = .type "dict" → o.data = .dict es n → (a == sysModules) = false →
      RdXs h (es.toList.map (·.key)) (kvs.map (·.1)) → RdXs h (es.toList.map (·.val)) (kvs.map (·.2)) → RdX h (.ref a) (.dict kvs)
inductive RdXs (h : Heap) : List Value → List PyData → Prop
  | nil : RdXs h [] []
  | cons {v : Value} {vs : List Value} {d : PyData} {ds : List PyData} : RdX h v d → RdXs h vs ds → RdXs h (v :: vs) (d :: ds)
end
section
variable {h : Heap}
mutual
theorem RdX.reads : ∀ {v : Value} {d : PyData}, RdX h v d → ∃ as, Reads h v d as
  | _, _, .non => ⟨_, .none⟩
  | _, _, .bl b => ⟨_, .bool b⟩
  | _, _, .int i t => ⟨_, .int i t⟩
  | _, _, .str x t => ⟨_, .str x t⟩
  | _, _, .lst h1 h2 h3 r => by obtain ⟨as, q⟩ := RdXs.reads r; exact ⟨_, .list h1 h2 h3 (by simpa using q)⟩
  | _, _, .tup h1 h2 h3 r => by obtain ⟨as, q⟩ := RdXs.reads r; exact ⟨_, .tuple h1 h2 h3 (by simpa using q)⟩
  | _, _, .dct h1 h2 h3 _ r1 r2 => by
    obtain ⟨as, q1⟩ := RdXs.reads r1
    obtain ⟨bs, q2⟩ := RdXs.reads r2
    exact ⟨_, .dict h1 h2 h3 q1 q2⟩
theorem RdXs.reads : ∀ {vs : List Value} {ds : List PyData}, RdXs h vs ds → ∃ as, ReadsAll h vs ds as
  | _, _, .nil => ⟨_, .nil⟩
  | _, _, .cons r rs => by
    obtain ⟨as, q1⟩ := RdX.reads r
    obtain ⟨bs, q2⟩ := RdXs.reads rs
    exact ⟨_, .cons q1 q2⟩
end
variable {prog : Program} {w : World}
mutual
theorem RdX.rk : ∀ {v : Value} {d : PyData}, RdX h v d → d.showable = true → d.shown.length ≤ sizeLine → ∃ bs, ReadAtMost h d.depth bs ∧ ReprK prog w bs h d.depth v d.shown
  | _, _, .non, _, _ => by obtain ⟨bs, q⟩ := ReprK.of_reads (prog := prog) (w := w) (h₀ := h) .none rfl (fun _ => by simp) (by decide); exact ⟨bs, q⟩
  | _, _, .bl b, _, z => by obtain ⟨bs, q⟩ := ReprK.of_reads (prog := prog) (w := w) (h₀ := h) (.bool b) rfl (fun _ => by simp) z; exact ⟨bs, q⟩
  | _, _, .int i t, sw, z => by obtain ⟨bs, q⟩ := ReprK.of_reads (prog := prog) (w := w) (h₀ := h) (.int i t) sw (fun _ => by simp) z; exact ⟨bs, q⟩
  | _, _, .str x t, sw, z => by obtain ⟨bs, q⟩ := ReprK.of_reads (prog := prog) (w := w) (h₀ := h) (.str x t) sw (fun _ => by simp) z; exact ⟨bs, q⟩
  | _, _, .lst (a := p) (vs := vs) (xs := ds) g1 g2 g3 g4, sw, z => by
    have zz : (listText (PyData.shownAll ds)).length ≤ sizeLine := by simpa only [PyData.shown] using z
    have hsw : PyData.showableAll ds = true := by simpa [PyData.showable] using sw
    obtain ⟨cs, hc, hk⟩ := RdXs.rk g4 hsw (fun y hy => Nat.le_trans (listText_mem_le hy) zz)
    obtain ⟨as, rr⟩ := (RdX.lst g1 g2 g3 g4).reads
    have lt : PyData.depthAll ds < (PyData.list ds).depth := by simp only [PyData.depth]; omega
    refine ⟨p :: cs, ReadAtMost.cons rr (Nat.le_of_lt lt) hc, ?_⟩
    have out : p ∉ cs := not_mem_of_deeper rr lt hc
    simp only [PyData.depth, PyData.shown]
    cases g4 with
    | nil => simp only [PyData.shownAll, listText_nil]; exact ReprK.listEmpty g1 g2 g3
    | cons r rs => exact ReprK.list g1 g2 g3 out (by simpa using hk.length_eq) fun i y e => hk.item i y (by simpa using e)
  | _, _, .tup (a := p) (xs := ds) g1 g2 g3 g4, sw, z => by
    have zz : (tupleText (PyData.shownAll ds)).length ≤ sizeLine := by simpa only [PyData.shown] using z
    have hsw : PyData.showableAll ds = true := by simpa [PyData.showable] using sw
    obtain ⟨cs, hc, hk⟩ := RdXs.rk g4 hsw (fun y hy => Nat.le_trans (tupleText_mem_le hy) zz)
    obtain ⟨as, rr⟩ := (RdX.tup g1 g2 g3 g4).reads
    have lt : PyData.depthAll ds < (PyData.tuple ds).depth := by simp only [PyData.depth]; omega
    refine ⟨p :: cs, ReadAtMost.cons rr (Nat.le_of_lt lt) hc, ?_⟩
    have out : p ∉ cs := not_mem_of_deeper rr lt hc
    simp only [PyData.depth, PyData.shown]
    exact ReprK.tuple g1 g2 g3 out (by simpa using hk)
  | _, _, .dct (a := p) (es := es) (kvs := kvs) g1 g2 g3 sys g4 g5, sw, z => by
    have zz : (dictText (PyData.shownKv kvs)).length ≤ sizeLine := by simpa only [PyData.shown] using z
    obtain ⟨w1, w2⟩ := PyData.showableKv_split kvs (by simpa [PyData.showable] using sw)
    obtain ⟨c1, m1, k1⟩ := RdXs.rk g4 w1 (fun y hy => let ⟨q, hq, le⟩ := PyData.shownKv_key_le kvs y hy; Nat.le_trans le (Nat.le_trans (dictText_mem_le hq) zz))
    obtain ⟨c2, m2, k2⟩ := RdXs.rk g5 w2 (fun y hy => let ⟨q, hq, le⟩ := PyData.shownKv_val_le kvs y hy; Nat.le_trans le (Nat.le_trans (dictText_mem_le hq) zz))
    obtain ⟨as, rr⟩ := (RdX.dct g1 g2 g3 sys g4 g5).reads
    have lt : PyData.depthKv kvs < (PyData.dict kvs).depth := by simp only [PyData.depth]; omega
    have hm : ReadAtMost h (PyData.depthKv kvs) (c1 ++ c2) := (m1.mono (PyData.depthAll_keys_le kvs)).append (m2.mono (PyData.depthAll_vals_le kvs))
    refine ⟨p :: (c1 ++ c2), ReadAtMost.cons rr (Nat.le_of_lt lt) hm, ?_⟩
    have out : p ∉ c1 ++ c2 := not_mem_of_deeper rr lt hm
    simp only [PyData.depth, PyData.shown, PyData.shownKv_eq]
    exact ReprK.dict g1 g2 g3 sys out (ReprEntriesK.of_two es.toList _ _ (k1.more_le (fun b hb => List.mem_append_left _ hb) (PyData.depthAll_keys_le kvs)) (k2.more_le (fun b hb => List.mem_append_right _ hb) (PyData.depthAll_vals_le kvs)))
theorem RdXs.rk : ∀ {vs : List Value} {ds : List PyData}, RdXs h vs ds → PyData.showableAll ds = true → (∀ t ∈ PyData.shownAll ds, t.length ≤ sizeLine) → ∃ bs, ReadAtMost h (PyData.depthAll ds) bs ∧ ReprAllK prog w bs h (PyData.depthAll ds) vs (PyData.shownAll ds)
  | _, _, .nil, _, _ => ⟨[], (fun _ z => nomatch z), by simp only [PyData.shownAll]; exact .nil⟩
  | _, _, .cons (d := d) (ds := ds) r rs, sw, z => by
    have sw2 : d.showable = true ∧ PyData.showableAll ds = true := by simpa [PyData.showableAll] using sw
    simp only [PyData.shownAll, List.mem_cons, forall_eq_or_imp] at z
    obtain ⟨c1, m1, k1⟩ := RdX.rk r sw2.1 z.1
    obtain ⟨c2, m2, k2⟩ := RdXs.rk rs sw2.2 z.2
    simp only [PyData.depthAll, PyData.shownAll]
    refine ⟨c1 ++ c2, (m1.mono (Nat.le_max_left _ _)).append (m2.mono (Nat.le_max_right _ _)), ?_⟩
    exact .cons ((k1.more fun b hb => List.mem_append_left _ hb).level_le (Nat.le_max_left _ _)) (k2.more_le (fun b hb => List.mem_append_right _ hb) (Nat.le_max_right _ _))
end
variable {A : Around} {E : Value → Shared → Prop} {s : Shared} {Q : Value → Shared → Prop}
theorem repr_x {v : Value} {d : PyData} (r : RdX s.heap v d) (sw : d.showable = true) (gd : A.guards = some []) (hu : A.units + (d.depth + 1) < cLine) (z : d.shown.length ≤ sizeLine)
    (fin : ∀ h' u tk, (∀ b o, s.heap.get? b = some o → h'.get? b = some o) → Q (.str d.shown u) { s with heap := h', toks := tk }) : wpAny (model prog w) A (call (.builtin "repr") [v]) Q E s := by
  have self : ∀ b o, s.heap.get? b = some o → s.heap.get? b = some o := fun _ _ e => e
  cases r with
  | non => exact call_repr_gives (typeIs_none s) F.slot_NoneType_repr F.entry_NoneType_repr (F.args_NoneType_repr_1 _) gives_none_repr (fin s.heap _ _ self)
  | bl b => exact PySem.P.repr_of_bool (by have := fin s.heap s.toks (s.toks + 1) self; simpa only [PyData.shown] using this)
  | int i t => exact PySem.P.repr_of_int (by simpa [PyData.showable] using sw) (by have := fin s.heap s.toks (s.toks + 1) self; simpa only [PyData.shown] using this)
  | str x t => exact PySem.P.repr_of_str (by have := fin s.heap s.toks (s.toks + 1) self; simpa only [PyData.shown] using this) (by simpa only [PyData.shown] using z)
  | @lst p o vs n ds g1 g2 g3 g4 =>
    have zz : (listText (PyData.shownAll ds)).length ≤ sizeLine := by simpa only [PyData.shown] using z
    obtain ⟨cs, hc, hk⟩ := RdXs.rk (prog := prog) (w := w) g4 (by simpa [PyData.showable] using sw) (fun y hy => Nat.le_trans (listText_mem_le hy) zz)
    obtain ⟨as, rr⟩ := (RdX.lst g1 g2 g3 g4).reads
    have lt : PyData.depthAll ds < (PyData.list ds).depth := by simp only [PyData.depth]; omega
    have out : p ∉ cs := not_mem_of_deeper rr lt hc
    simp only [PyData.depth] at hu
    simp only [PyData.shown] at fin
    refine call_repr_slot (by omega) (T := "list") ⟨o, g1, g2⟩ F.slot_list_repr.toG ?_
    cases g4 with
    | nil =>
      simp only [PyData.shownAll, listText_nil] at fin
      exact call_list_repr_empty ⟨o, g1, g2⟩ g1 g3 ⟨_, _, rfl, fin s.heap _ _ self⟩
    | cons r rs => exact call_list_reprK g1 g2 g3 out (by simpa using hk.length_eq) (fun i y e => hk.item i y (by simpa using e)) gd (fun b _ => Clear.nil b) (by show A.units + 1 + _ < _; omega) self (fun h' u tk k => ⟨_, _, rfl, fin h' u tk k⟩) zz
  | @tup p o vs n ds g1 g2 g3 g4 =>
    have zz : (tupleText (PyData.shownAll ds)).length ≤ sizeLine := by simpa only [PyData.shown] using z
    obtain ⟨cs, hc, hk⟩ := RdXs.rk (prog := prog) (w := w) g4 (by simpa [PyData.showable] using sw) (fun y hy => Nat.le_trans (tupleText_mem_le hy) zz)
    obtain ⟨as, rr⟩ := (RdX.tup g1 g2 g3 g4).reads
    have lt : PyData.depthAll ds < (PyData.tuple ds).depth := by simp only [PyData.depth]; omega
    have out : p ∉ cs := not_mem_of_deeper rr lt hc
    simp only [PyData.depth] at hu
    simp only [PyData.shown] at fin
    refine call_repr_slot (by omega) (T := "tuple") ⟨o, g1, g2⟩ F.slot_tuple_repr ?_
    exact call_tuple_reprK g1 g2 g3 out (by simpa using hk) gd (fun b _ => Clear.nil b) (by show A.units + 1 + _ < _; omega) self (fun h' u tk k => ⟨_, _, rfl, fin h' u tk k⟩) zz
  | @dct p o es n kvs g1 g2 g3 sys g4 g5 =>
    have zz : (dictText (PyData.shownKv kvs)).length ≤ sizeLine := by simpa only [PyData.shown] using z
    obtain ⟨w1, w2⟩ := PyData.showableKv_split kvs (by simpa [PyData.showable] using sw)
    obtain ⟨c1, m1, k1⟩ := RdXs.rk (prog := prog) (w := w) g4 w1 (fun y hy => let ⟨q, hq, le⟩ := PyData.shownKv_key_le kvs y hy; Nat.le_trans le (Nat.le_trans (dictText_mem_le hq) zz))
    obtain ⟨c2, m2, k2⟩ := RdXs.rk (prog := prog) (w := w) g5 w2 (fun y hy => let ⟨q, hq, le⟩ := PyData.shownKv_val_le kvs y hy; Nat.le_trans le (Nat.le_trans (dictText_mem_le hq) zz))
    obtain ⟨as, rr⟩ := (RdX.dct g1 g2 g3 sys g4 g5).reads
    have lt : PyData.depthKv kvs < (PyData.dict kvs).depth := by simp only [PyData.depth]; omega
    have hm : ReadAtMost s.heap (PyData.depthKv kvs) (c1 ++ c2) := (m1.mono (PyData.depthAll_keys_le kvs)).append (m2.mono (PyData.depthAll_vals_le kvs))
    have out : p ∉ c1 ++ c2 := not_mem_of_deeper rr lt hm
    simp only [PyData.depth] at hu
    simp only [PyData.shown, PyData.shownKv_eq] at fin
    refine call_repr_slot (by omega) (T := "dict") ⟨o, g1, g2⟩ F.slot_dict_repr ?_
    exact call_dict_reprK g1 g2 g3 sys out (ReprEntriesK.of_two es.toList _ _ (k1.more_le (fun b hb => List.mem_append_left _ hb) (PyData.depthAll_keys_le kvs)) (k2.more_le (fun b hb => List.mem_append_right _ hb) (PyData.depthAll_vals_le kvs))) gd (fun b _ => Clear.nil b) (by show A.units + 1 + _ < _; omega) self (fun h' u tk k => ⟨_, _, rfl, fin h' u tk k⟩) (by rw [← PyData.shownKv_eq]; exact zz)
end
end OF
namespace OF
open PySem PySem.Spec PyProof.Rows L2
def keyD : Key → PyData
  | .inl i => .int i
  | .inr x => .str x
mutual
def toX : U → Option PyData
  | .non => some .none
  | .bl b => some (.bool b)
  | .int i => some (.int i)
  | .str x => some (.str x)
  | .tup us => (toXs us).map .tuple
  | .lst us => (toXs us).map .list
  | .dct kvs => (toXk kvs).map .dict
  | _ => none
def toXs : List U → Option (List PyData)
  | [] => some []
  | u :: us => match toX u, toXs us with
    | some d, some ds => some (d :: ds)
    | _, _ => none
def toXk : List (Key × U) → Option (List (PyData × PyData))
  | [] => some []
  | (k, u) :: us => match toX u, toXk us with
    | some d, some ds => some ((keyD k, d) :: ds)
    | _, _ => none
end
section
variable {X : Cx} {G : Gx} {pins : List (Addr × Obj)} {σ : L2.St} {H : Hp} {s : Shared} {m : Mp}
mutual
theorem rdx_of (I : Inv X pins σ H s) : ∀ (u : U) (v : V) (z : Value) (d : PyData), RU X.K G m H u v → RelV v z → toX u = some d → RdX s.heap z d
  | .non, v, z, d, r, rv, e => by unfold RU at r; subst r; simp only [toX] at e; cases e; cases rv; exact .non
  | .bl b, v, z, d, r, rv, e => by unfold RU at r; subst r; simp only [toX] at e; cases e; cases rv; exact .bl b
  | .int i, v, z, d, r, rv, e => by unfold RU at r; subst r; simp only [toX] at e; cases e; obtain ⟨t, rfl⟩ := rv; exact .int i t
  | .str x, v, z, d, r, rv, e => by unfold RU at r; subst r; simp only [toX] at e; cases e; obtain ⟨t, rfl⟩ := rv; exact .str x t
  | .tup us, v, z, d, r, rv, e => by
    obtain ⟨a, vs, rfl, hq, rs⟩ := r.tupT
    simp only [toX] at e
    obtain ⟨ds, eds, rfl⟩ := Option.map_eq_some_iff.mp e
    cases rv
    obtain ⟨its, hv, ⟨o, ho, hc, n, hd⟩, _⟩ := I.tuple hq
    exact .tup ho hc hd (rdxs_of I us vs its ds rs hv eds)
  | .lst us, v, z, d, r, rv, e => by
    obtain ⟨a, vs, rfl, hq, rs⟩ := r.lstL
    simp only [toX] at e
    obtain ⟨ds, eds, rfl⟩ := Option.map_eq_some_iff.mp e
    cases rv
    obtain ⟨its, hv, ⟨o, n, ho, hc, _, hd⟩, _⟩ := I.list hq
    exact .lst ho hc hd (rdxs_of I us vs its ds rs hv eds)
  | .dct kvs, v, z, d, r, rv, e => by
    unfold RU at r
    obtain ⟨a, vs, rfl, hq, _, _, rs⟩ := r
    simp only [toX] at e
    obtain ⟨ds, eds, rfl⟩ := Option.map_eq_some_iff.mp e
    cases rv
    obtain ⟨_, sys, ws, hkv, o, es, ep, ho, hx, hd, _, hp, _⟩ := dk_rd I.hok hq
    obtain ⟨k1, k2⟩ := rdxk_of I kvs vs ws es.toList ds rs hkv hp eds
    exact .dct ho hx.1 hd sys k1 k2
  | .scr us, v, z, d, r, rv, e => by simp only [toX] at e; cases e
  | .ptp us, v, z, d, r, rv, e => by simp only [toX] at e; cases e
  | .fn x, v, z, d, r, rv, e => by simp only [toX] at e; cases e
  | .ref n, v, z, d, r, rv, e => by simp only [toX] at e; cases e
theorem rdxs_of (I : Inv X pins σ H s) : ∀ (us : List U) (vs : List V) (zs : List Value) (ds : List PyData), RUs X.K G m H us vs → Vals vs zs → toXs us = some ds → RdXs s.heap zs ds
  | [], vs, zs, ds, r, rv, e => by have := r.eqnil; subst this; cases rv; simp only [toXs] at e; cases e; exact .nil
  | u :: us, vs, zs, ds, r, rv, e => by
    obtain ⟨v, t, rfl, r1, r2⟩ := r.uncons
    cases rv with
    | cons q1 q2 =>
      simp only [toXs] at e
      split at e
      · rename_i d ds' e1 e2
        cases e
        exact .cons (rdx_of I u v _ d r1 q1 e1) (rdxs_of I us t _ ds' r2 q2 e2)
      · cases e
theorem rdxk_of (I : Inv X pins σ H s) : ∀ (us : List (Key × U)) (vs : List (Key × V)) (ws : List (Key × Value)) (es : List DictEntry) (ds : List (PyData × PyData)), RKs X.K G m H us vs → KV vs ws → PySem.Pairs (mixKind X.prog X.w) es ws → toXk us = some ds →
    RdXs s.heap (es.map (·.key)) (ds.map (·.1)) ∧ RdXs s.heap (es.map (·.val)) (ds.map (·.2))
  | [], vs, ws, es, ds, r, kv, p, e => by
    have := r.eqnil
    subst this
    cases kv
    cases p
    simp only [toXk] at e
    cases e
    exact ⟨.nil, .nil⟩
  | (k, u) :: us, vs, ws, es, ds, r, kv, p, e => by
    obtain ⟨v, t, rfl, r1, r2⟩ := r.uncons
    cases kv with
    | cons q1 q2 =>
      cases p with
      | cons p1 p2 p3 =>
        simp only [toXk] at e
        split at e
        · rename_i d ds' e1 e2
          cases e
          obtain ⟨a, b⟩ := rdxk_of I us t _ _ ds' r2 q2 p3 e2
          obtain ⟨hk, hv⟩ := q1
          dsimp only at hk hv
          refine ⟨.cons ?_ a, .cons ?_ b⟩
          · rw [← hk] at p1
            rcases keyIs_shape p1 with ⟨i, tt, ek, ev⟩ | ⟨x, tt, ek, ev⟩
            · subst ek; dsimp only; rw [ev]; exact .int i tt
            · subst ek; dsimp only; rw [ev]; exact .str x tt
          · dsimp only
            rw [p2]
            exact rdx_of I u v _ d r1 hv e1
        · cases e
end
end
def showX (d : PyData) : Bool := d.showable && (decide (d.depth ≤ 60) && decide (d.shown.length ≤ sizeLine))
def reprX : Op1 := fun u S => match toX u with
  | some d => if showX d = true then some (.str d.shown, S) else none
  | none => none
theorem cu_reprX {X : Cx} {G : Gx} (gd : X.A.guards = some []) (hu : X.A.units + 70 < cLine) : CallU G X (.builtin "repr") (on1 reprX) := by
  intro pins s σ H xs us0 Q I r1 ⟨m, S, us, z, S', st, r0, e0, q⟩
  obtain ⟨u, rfl, e⟩ := on1_some e0
  obtain ⟨v, rfl, r⟩ := r0.one1
  obtain ⟨y, rfl, ry⟩ := vals1 r1
  unfold reprX at e
  split at e
  · rename_i d hd
    split at e
    · rename_i ok
      cases e
      simp only [showX, Bool.and_eq_true, decide_eq_true_eq] at ok
      obtain ⟨sw, dep, sz⟩ := ok
      exact repr_x (rdx_of I u v y d r ry hd) sw gd (by omega) sz fun h' u tk hk => ⟨.str d.shown, H, I.un (Un.kept hk) (I.hok.kept hk), ⟨u, rfl⟩, q.here st rfl⟩
    · cases e
  · cases e
end OF
namespace OF
open PySem PySem.Spec PyProof.Rows L2
variable {X : Cx} {G : Gx}
variable {e a b st : Expr} {ca cs : Cm U} {cl : Cm (List U)} {pos p p2 p3 : Pos}
def lsqU : U → Option (List U)
  | .lst us => some us
  | .scr us => some us
  | _ => none
def enumU (us : List U) : List U := zipU (rangeU 0 us.length) us
def itEnum (c : Cm (List U)) : Cm (List U) := fun env S => match c env S with
  | some ([u], S1) => match lsqU u with
    | some us => some (enumU us, S1)
    | none => none
  | _ => none
theorem RUs.rangeN {K : PySem.W.Frag} {m : Mp} {H : Hp} (n : Nat) : RUs K G m H (rangeU 0 n) ((List.range n).map fun (i : Nat) => V.int (i : Int)) := by
  unfold rangeU
  induction List.range n with
  | nil => exact RUs.nil
  | cons i t ih => exact RUs.cons (by show V.int _ = V.int _; simp) ih
theorem itok_enum {K : PySem.W.Frag} {m : Mp} {H : Hp} {us : List U} {vs : List V} {a : Addr} (r : RUs K G m H us vs) (hG : ∀ m2 H2, Ext m H m2 H2 → SqL K H2 a vs) : ItOk K G m H (enumU us) (Ite K a) := by
  have hl := r.length
  have w := walk_enum (K := K) (a := a) (xs := vs)
  refine itok_pair (vs := (List.range us.length).map fun (i : Nat) => V.int (i : Int)) (RUs.rangeN us.length) r (Gd := fun H => SqL K H a vs) ?_ hG
  rw [show min ((List.range us.length).map fun (i : Nat) => V.int (i : Int)).length vs.length = vs.length by simp; omega]
  refine w.mono (fun _ h => h) fun i H x H' hi _ ⟨T, x1, y1, ev, hT, eH, hx, hy⟩ => ⟨T, x1, y1, ev, hT, eH, ?_, hy⟩
  have hi' : i < us.length := by omega
  show ((List.range us.length).map fun (i : Nat) => V.int (i : Int))[i]? = some x1
  rw [List.getElem?_map, List.getElem?_range hi']
  exact hx
theorem ei_enum {elts : List Expr} {kk : Nat} {tpos : Pos} (hg : Gl X "enumerate") (hm : X.mg "enumerate" = none) (ha : EA G X [e] cl) (hs : starEach [e] X.env = [(false, eval e X.env)] := by rfl) : EI G X (.Tuple elts kk tpos) (.Call (.Name "enumerate" p) [e] [] pos) (itEnum cl) := (pi_enum hg hm ha hs).imp fun σ H R ⟨m, S, env, us, S', st, re, hc, q⟩ => by
  unfold itEnum at hc
  split at hc
  · rename_i u S1 e1
    split at hc
    · rename_i us1 e2
      cases hc
      refine ⟨m, S, _, _, _, st, re, e1, fun m1 H1 vs x1 st1 r1 => ?_⟩
      obtain ⟨v, r, ev, rv, rr⟩ := r1.uncons
      have := rr.eqnil
      subst this
      cases u with
      | lst us' =>
        cases e2
        obtain ⟨a, vs', ev', rv', hq⟩ := rv.lstSt
        exact ⟨a, vs', by rw [ev, ev'], hq m1 H1 (Ext.refl _ _), q m1 H1 x1 st1 _ (itok_enum rv' hq)⟩
      | scr us' =>
        cases e2
        obtain ⟨a, vs', ev', rv', hq⟩ := rv.scrSt
        exact ⟨a, vs', by rw [ev, ev'], hq m1 H1 (Ext.refl _ _), q m1 H1 x1 st1 _ (itok_enum rv' hq)⟩
      | _ => cases e2
    · cases hc
  · cases hc
@[simp] theorem itEnum_ap (c : Cm (List U)) (env : Env') (S : Sto) : itEnum c env S = (match c env S with
  | some ([u], S1) => match lsqU u with
    | some us => some (enumU us, S1)
    | none => none
  | _ => none) := rfl
@[simp] theorem lsqU_lst (us : List U) : lsqU (.lst us) = some us := rfl
@[simp] theorem lsqU_scr (us : List U) : lsqU (.scr us) = some us := rfl
end OF
namespace OF
open PySem PySem.Spec PyProof.Rows L2
inductive FX where
  | fl (f : Fl)
  | exc (c f : Str) (u : U)
abbrev SmX := Env' → Sto → Option (FX × Env' × Sto)
def AfterW (K : PySem.W.Frag) (G : Gx) (W : WX) (m : Mp) (H : Hp) (c f : Str) (u : U) (env : Env') (S' : Sto) : Prop :=
  ∀ m' H' σ' C d v, Ext m H m' H' → Rst K G m' H' S' → Renv K G m' H' env σ' → RU K G m' H' u v → G.cls c = some C → H' d = some (.xd [(f, v)]) → W (.ref C) (some d) σ' H'
def AfterX (K : PySem.W.Frag) (G : Gx) (W : WX) (m : Mp) (H : Hp) (fx : FX) (env : Env') (S' : Sto) (D : Ends) : Prop := match fx with
  | .fl f => AfterS K G m H f env S' D
  | .exc c f u => AfterW K G W m H c f u env S'
theorem AfterW.mono {K : PySem.W.Frag} {G : Gx} {W : WX} {m m1 : Mp} {H H1 : Hp} {c f : Str} {u : U} {e : Env'} {S : Sto} (q : AfterW K G W m H c f u e S) (x : Ext m H m1 H1) : AfterW K G W m1 H1 c f u e S := fun m' H' σ' C d v x' st re r hc hd => q m' H' σ' C d v (x.trans x') st re r hc hd
theorem AfterX.mono {K : PySem.W.Frag} {G : Gx} {W : WX} {m m1 : Mp} {H H1 : Hp} {fx : FX} {e : Env'} {S : Sto} {D : Ends} (q : AfterX K G W m H fx e S D) (x : Ext m H m1 H1) : AfterX K G W m1 H1 fx e S D := by
  cases fx with
  | fl f => exact AfterS.mono q x
  | exc c f u => exact AfterW.mono q x
def RSX (K : PySem.W.Frag) (G : Gx) (W : WX) (s : SmX) : TS := fun D σ H => ∃ m S env fx env' S', Rst K G m H S ∧ Renv K G m H env σ ∧ s env S = some (fx, env', S') ∧ AfterX K G W m H fx env' S' D
abbrev ESX (G : Gx) (X : Cx) (W : WX) (st : Stmt) (s : SmX) : Prop := PS X st (RSX X.K G W s)
abbrev ESXs (G : Gx) (X : Cx) (W : WX) (st : List Stmt) (s : SmX) : Prop := PSs X st (RSX X.K G W s)
section
variable {X : Cx} {G : Gx} {W : WX} {pos : Pos}
def xL (s : Sm) : SmX := fun env S => match s env S with
  | some (f, e, S') => some (.fl f, e, S')
  | none => none
theorem rsx_L {K : PySem.W.Frag} {s : Sm} {D : Ends} {σ : L2.St} {H : Hp} (h : RSX K G W (xL s) D σ H) : RS K G s D σ H := by
  obtain ⟨m, S, env, fx, env', S', st, re, hc, q⟩ := h
  unfold xL at hc
  split at hc
  · rename_i f e S1 e1
    cases hc
    exact ⟨m, S, env, f, _, _, st, re, e1, q⟩
  · cases hc
theorem ex_Ls {st : List Stmt} {s : Sm} (h : ESs G X st s) : ESXs G X W st (xL s) := h.imp fun _ _ _ => rsx_L
def xSeq (a b : SmX) : SmX := fun env S => match a env S with
  | none => none
  | some (.fl .nx, env1, S1) => b env1 S1
  | some r => some r
theorem rsx_seq {K : PySem.W.Frag} {a b : SmX} {D : Ends} {σ : L2.St} {H : Hp} (h : RSX K G W (xSeq a b) D σ H) : tSeq (RSX K G W a) (RSX K G W b) D σ H := by
  obtain ⟨m, S, env, fx, env', S', st, re, hc, q⟩ := h
  unfold xSeq at hc
  split at hc
  · cases hc
  · rename_i env1 S1 e
    exact ⟨m, S, env, .fl .nx, env1, S1, st, re, e, fun m1 H1 σ1 x1 st1 re1 => ⟨m1, S1, env1, fx, env', S', st1, re1, hc, q.mono x1⟩⟩
  · rename_i r hne e
    cases hc
    refine ⟨m, S, env, fx, env', S', st, re, e, ?_⟩
    cases fx with
    | exc c f u => exact q
    | fl f =>
      cases f with
      | nx => exact absurd rfl (hne _ _)
      | ret u => exact q
      | brk => exact q
      | ct => exact q
theorem xs_cons {st : Stmt} {rest : List Stmt} {a b : SmX} (h1 : ESX G X W st a) (h2 : ESXs G X W rest b) : ESXs G X W (st :: rest) (xSeq a b) := (pss_cons h1 h2).imp fun _ _ _ => rsx_seq
theorem xs_one {st : Stmt} {a : SmX} (h1 : ESX G X W st a) : ESXs G X W [st] a := pss_one h1
theorem xs_nil : ESXs G X W [] (xL sNil) := ex_Ls ss_nil
def xIf (c : Cm Bool) (a b : SmX) : SmX := fun env S => match c env S with
  | none => none
  | some (true, S1) => a env S1
  | some (false, S1) => b env S1
theorem ex_if {c : Expr} {a b : List Stmt} {cc : Cm Bool} {sa sb : SmX} (hc : ET G X c cc) (ha : ESXs G X W a sa) (hb : ESXs G X W b sb) : ESX G X W (.If c a b pos) (xIf cc sa sb) := (ps_if hc ha hb).imp fun D σ H ⟨m, S, env, fx, env', S', st, re, hc, q⟩ => by
  unfold xIf at hc
  split at hc
  · cases hc
  · rename_i S1 e1
    exact ⟨m, S, _, true, S1, st, re, e1, fun m1 H1 x1 st1 => iteT ⟨m1, S1, env, fx, env', S', st1, re.keep x1.keeps, hc, q.mono x1⟩⟩
  · rename_i S1 e1
    exact ⟨m, S, _, false, S1, st, re, e1, fun m1 H1 x1 st1 => iteF ⟨m1, S1, env, fx, env', S', st1, re.keep x1.keeps, hc, q.mono x1⟩⟩
end
end OF
namespace PySem
namespace ExcT
open PySem.W PySem.Calls PyProof.Rows PySem.HandSPX
def iA (nf : Str) (p1 p2 : Pos) : Arguments := { posonlyargs := [], args := [{ arg := "self", annotation := none, pos := p1 }, { arg := nf, annotation := none, pos := p2 }], vararg := none, kwonlyargs := [], kw_defaults := [], kwarg := none, defaults := [] }
def iB (nf : Str) (q1 q2 q3 q4 : Pos) : List Stmt := [.Assign [.Attribute (.Name "self" q1) nf q2] (.Name nf q3) q4]
def iS (nf : Str) : Scope := { kind := .function, names := [(PySem.Str.ofString "self", .local), (nf, .local)], isGenerator := false, isCoroutine := false, more := [] }
structure NameOk (nf qi : Str) : Prop where
  bnd : ∀ (doc pm : Value) (an : Option Addr) (cdv ct : Value) (p1 p2 q1 q2 q3 q4 : Pos) (u v : Value), bindArgs (fnOf "__init__" qi (iA nf p1 p2) (iB nf q1 q2 q3 q4) (iS nf) .none .none doc pm an cdv ct) ⟨[u, v], []⟩ = pure [(("self" : Str), u), (nf, v)]
  knd : ∀ u v : Value, (([(("self" : Str), u), (nf, v)] : List (Str × Value)).all fun y => (iS nf).names.lookup y.1 == some .local || (iS nf).names.lookup y.1 == some .cell) = true
  loc : ∀ (L a : Addr) (cd : Value), (envOfC qi (iS nf) L a cd).kindOf nf = some .local
  slf : ∀ (L a : Addr) (cd : Value), (envOfC qi (iS nf) L a cd).kindOf "self" = some .local
  dbg : (nf == ("__debug__" : Str)) = false
  val : ∀ (L a : Addr) (cd u v : Value), bindL (envOfC qi (iS nf) L a cd).kindOf [(("self" : Str), u), (nf, v)] (fun _ => none) nf = some v
  sel : ∀ (L a : Addr) (cd u v : Value), bindL (envOfC qi (iS nf) L a cd).kindOf [(("self" : Str), u), (nf, v)] (fun _ => none) "self" = some u
def refsT (tl : List Value) : List Value → Bool
  | .ref _ :: r => refsT tl r
  | l => l == tl
theorem refsT_cases {tl : List Value} : ∀ l : List Value, refsT tl l = true → (∃ c r, l = .ref c :: r ∧ refsT tl r = true) ∨ l = tl
  | [], e => .inr (beq_iff_eq.mp e)
  | .ref c :: r, e => .inl ⟨c, r, rfl, e⟩
  | .none :: _, e => .inr (beq_iff_eq.mp e)
  | .ellipsis :: _, e => .inr (beq_iff_eq.mp e)
  | .notImplemented :: _, e => .inr (beq_iff_eq.mp e)
  | .bool _ :: _, e => .inr (beq_iff_eq.mp e)
  | .int _ _ :: _, e => .inr (beq_iff_eq.mp e)
  | .float _ _ :: _, e => .inr (beq_iff_eq.mp e)
  | .str _ _ :: _, e => .inr (beq_iff_eq.mp e)
  | .bytes _ _ :: _, e => .inr (beq_iff_eq.mp e)
  | .type _ :: _, e => .inr (beq_iff_eq.mp e)
  | .builtin _ :: _, e => .inr (beq_iff_eq.mp e)
theorem refsT_contains {tl : List Value} (X : String) : ∀ l : List Value, refsT tl l = true → l.contains (.type X) = tl.contains (.type X) := by
  intro l
  induction l with
  | nil => intro e; rw [show [] = tl from beq_iff_eq.mp e]
  | cons a r ih =>
    intro e
    rcases refsT_cases (a :: r) e with ⟨c, r', q, h⟩ | q
    · obtain ⟨rfl, rfl⟩ := List.cons.inj q
      rw [List.contains_cons, ih h]; rfl
    · rw [q]
theorem refsT_pass {tl : List Value} (self : Value) (h : refuseLoop self "__setattr__" tl = pure ()) : ∀ l : List Value, refsT tl l = true → refuseLoop self "__setattr__" l = pure () := by
  intro l
  induction l with
  | nil => intro e; rw [show [] = tl from beq_iff_eq.mp e]; exact h
  | cons a r ih =>
    intro e
    rcases refsT_cases (a :: r) e with ⟨c, r', q, h'⟩ | q
    · obtain ⟨rfl, rfl⟩ := List.cons.inj q
      rw [refuseLoop_ref]; exact ih h'
    · rw [q]; exact h
structure XTail (nw : String) (bm : List Value) : Prop where
  ex : ∃ (B ini : String) (tl : List Value), PySem.ExcBaseFacts B nw ini tl ∧ (∀ X : String, bm.contains (.type X) = tl.contains (.type X))
  pass : ∀ self : Value, refuseLoop self "__setattr__" bm = pure ()
  ob : bm.contains (.type "object") = true
theorem XTail.of {nw B ini : String} {bm tl : List Value} (f : PySem.ExcBaseFacts B nw ini tl) (p : ∀ self : Value, refuseLoop self "__setattr__" tl = pure ()) (ho : tl.contains (.type "object") = true) (e : refsT tl bm = true) : XTail nw bm :=
  ⟨⟨B, ini, tl, f, fun X => refsT_contains X bm e⟩, fun self => refsT_pass self (p self) bm e, (refsT_contains "object" bm e).trans ho⟩
theorem tail_VE {bm : List Value} (e : refsT [.type "ValueError", .type "Exception", .type "BaseException", .type "object"] bm = true) : XTail "ValueError.__new__" bm := .of F.excBase_ValueError (fun self => F.store_ValueError.passes self) (by decide +kernel) e
theorem tail_LE {bm : List Value} (e : refsT [.type "LookupError", .type "Exception", .type "BaseException", .type "object"] bm = true) : XTail "LookupError.__new__" bm := .of F.excBase_LookupError (fun self => by kernel_rfl) (by decide +kernel) e
theorem tail_RE {bm : List Value} (e : refsT [.type "RuntimeError", .type "Exception", .type "BaseException", .type "object"] bm = true) : XTail "RuntimeError.__new__" bm := .of F.excBase_RuntimeError (fun self => by kernel_rfl) (by decide +kernel) e
structure XTxt (K : Frag) (mg : Str → Option Value) (nx nf qi : Str) (C fI : Addr) : Prop where
  nok : NameOk nf qi
  gC : mg nx = some (.ref C)
  cls : ∃ nm q N bs bm sn sub ab col dd k0 k1 k2 k3 k5 nw, K.lookup C = some (excClassObj nm q C N bs bm true sn sub ab col dd k0 k1 k2 k3 k5 nw) ∧ XTail nw bm
  sa : findIn K (.ref C) "__setattr__" = some (some (.builtin "object.__setattr__"))
  ga : findIn K (.ref C) "__getattribute__" = some (some (.builtin "BaseException.__getattribute__"))
  gg : findIn K (.ref C) "__getattr__" = some none
  noN : findIn K (.ref C) nf = some none
  iC : findIn K (.ref C) "__init__" = some (some (.ref fI))
  tC : typeIn K (.ref fI) = some (.type "function")
  kC : keepIn K (.ref C) = true
  exC : subIn K (.ref C) (.type "BaseException") = some true
  tyC : typeIn K (.ref C) = some (.type "type")
  hdC : hasDictIn K C = true
  te : exmOne K (.ref C) (.ref C) = some true
  fn : ∃ (oc : Value) (od : Option Addr) (doc pm : Value) (an : Option Addr) (cdv ct : Value) (osl : Array (Option Value)) (p1 p2 q1 q2 q3 q4 : Pos),
    K.lookup fI = some ⟨oc, od, .func (fnOf "__init__" qi (iA nf p1 p2) (iB nf q1 q2 q3 q4) (iS nf) .none .none doc pm an cdv ct), osl⟩ ∧ codeIn K cdv qi = true
section
variable {prog : Program} {w : World} {A : Around} {E : Value → Shared → Prop} {R : Result → Shared → Prop} {hp : Heap} {g : Array GenState} {d : Drawn} {t : Nat} {os : OsState}
open Builtin Builtin.ObjectAttr in
theorem exc_osaT {K : W.Frag} {name : Str} {tk : Tok} {v : Value} {x C : Addr} {fv : Array Value} {cd : ClassData}
    (X : K.In hp) (hx : hp.get? x = some { cls := .ref C, data := .fields fv }) (hcd : W.clsIn K C = some cd) (ne : cd.mro.isEmpty = false) (hob : cd.mro.contains (.type "object") = true) (hpass : ∀ self, refuseLoop self "__setattr__" cd.mro = pure ()) (hh : cd.hasDict = true) (ha : W.findIn K (.ref C) name = some none)
    (hq : ∀ h' tk' dx, (∀ b o, b ≠ x → hp.get? b = some o → h'.get? b = some o) → hp.objs.size ≤ dx → dx ≠ x → h'.get? x = some { cls := .ref C, dict := some dx, data := .fields fv } →
      h'.Ns1 dx (fun y => if y = name then some v else none) → R (.ok (.ret .none)) ⟨h', g, d, tk', os⟩) :
    codeAny (model prog w) A (.call (.builtin "object.__setattr__") ⟨[.ref x, .str name tk, v], []⟩) R ⟨hp, g, d, t, os⟩ := by
  have I : W.InstAt hp x { cls := .ref C, data := .fields fv } C none := ⟨hx, rfl, rfl, trivial⟩
  have SF := F.store_object
  have hxs : x ≠ hp.objs.size := Nat.ne_of_lt (Heap.lt_size hx)
  have sub : W.Looks (model prog w) hp (isInstance (.ref x) (.type "object")) true := I.type.andThen (W.looks_mroIn X (by unfold W.mroIn; rw [hcd, Option.bind_some, if_neg (by rw [ne]; decide), hob]))
  refine codeAny_call_builtin SF.slot.plain SF.entry (@W.check_slot (model prog w) _ _ ⟨hp, g, d, t, os⟩ "object.__setattr__" "object" "__setattr__" (.ref x) [.str name tk, v] [] _ SF.kind SF.split sub (SF.args (.ref x) (.str name tk) v) ?_)
  have hmr : W.Looks (model prog w) hp (mroOf (.ref C)) cd.mro := (W.looks_clsIn X hcd).andThen .now
  have L3 : W.Looks (model prog w) hp (storeTaker? none) none := .now
  have hcls : W.Looks (model prog w) hp (classData C) cd := W.looks_clsIn X hcd
  rw [W.osa_eq, refuse_eq]
  refine wpAny_bind (wpAny_bind (I.type.at (wpAny_bind (hmr.at ?_))))
  rw [hpass]
  refine wpAny_pure (wpAny_bind (I.type.at (wpAny_bind ((W.looks_findIn X ha).at (wpAny_bind (L3.at ?_))))))
  show wpAny _ _ (storeInOwnDict (.ref x) (.ref C) (.str name tk) name v false) _ _ _
  obtain ⟨nm, bs, mro, ns, qn, hd, sn, sb, ab, col, del⟩ := cd
  dsimp only at hh
  subst hh
  unfold storeInOwnDict ownDictForStores
  repeat (first | with_reducible refine store_in_new ?_ ?_ | with_reducible refine wpAny_loadPart_at hx ?_ | with_reducible refine hcls.at ?_ | wp_step)
  · exact ⟨_, #[], _, (Heap.get?_update_ne _ _ _ _ hxs.symm).trans (Heap.get?_push_at rfl rfl), rfl, fun e he => absurd he (by simp), fun _ => rfl⟩
  · intro h' tk' hn' hs
    have hx₁ : (hp.push { cls := .type "dict", data := .dict #[] }).get? x = some { cls := .ref C, data := .fields fv } := Heap.get?_push_of_some _ hx
    refine hq h' tk' hp.objs.size (fun b o hb ho => ?_) (Nat.le_refl _) hxs.symm ?_ hn'
    · exact (hs.2 b (Nat.ne_of_lt (Heap.lt_size ho))).trans ((Heap.get?_update_ne _ _ _ _ hb).trans (Heap.get?_push_of_some _ ho))
    · exact (hs.2 x hxs).trans (Heap.get?_update_self _ hx₁ rfl)
end
theorem one_size (v : Value) : [v].length ≤ sizeLine := by
  rw [sizeLine_eq]
  exact (by decide : 1 ≤ 16777216)
theorem kept_but {K : Frag} {h h' : Heap} {x : Addr} (X : K.In h) (hx : K.lookup x = none) (k : ∀ b o, b ≠ x → h.get? b = some o → h'.get? b = some o) : K.In h' := fun a o e =>
  k a o (fun z => by rw [z, hx] at e; cases e) (X a o e)
theorem ldC {M : Model} {s : Shared} {name : Str} {scope : Scope} {L a : Addr} {cd : Value} {m : Str → Option Value} {x : Str} {pos : Pos} {v : Value} {Q : Value → Shared → Prop} {A : Around} {E : Value → Shared → Prop} (hn : s.heap.Ns L m) (hv : m x = some v) (h : Q v s)
    (hk : scope.kind = .function := by rfl) (hl : (envOfC name scope L a cd).kindOf x = some .local := by rfl) (hd : (x == ("__debug__" : Str)) = false := by decide) :
    wpAny M A (eval (.Name x pos) (envOfC name scope L a cd)) Q E s := wpAny_Name (wpAny_loadName_local hk hl hn hv h) hd
structure InitEnd (nf : Str) (h h' : Heap) (x C dx t1 : Addr) (v : Value) : Prop where
  keep : ∀ b o, b ≠ x → h.get? b = some o → h'.get? b = some o
  obj : h'.get? x = some { cls := .ref C, dict := some dx, data := .fields #[.ref t1, .none, .none, .none, .bool false, .none] }
  dbig : h.objs.size ≤ dx
  dne : dx ≠ x
  ns : h'.Ns1 dx (fun y => if y = nf then some v else none)
structure OwnMade (nf : Str) (h h' : Heap) (e C d : Addr) (v : Value) : Prop where
  keep : ∀ b o, h.get? b = some o → h'.get? b = some o
  new : h.objs.size ≤ e
  obj : ∃ oe vs, h'.get? e = some oe ∧ oe.cls = .ref C ∧ oe.dict = some d ∧ oe.data = .fields vs ∧ vs[1]? = some .none
  dbig : h.objs.size ≤ d
  dne : d ≠ e
  ns : h'.Ns1 d (fun y => if y = nf then some v else none)
section
variable {prog : Program} {w : World} {A : Around} {E : Value → Shared → Prop} {R : Result → Shared → Prop} {s : Shared} {K : Frag} {mg : Str → Option Value} {nx nf qi : Str} {C fI : Addr}
theorem low_init (T : XTxt K mg nx nf qi C fI) {x t0 : Addr} {v : Value} (X : K.In s.heap) (hlim : s.heap.NoLimit) (hx : s.heap.get? x = some (excO C t0)) (hnx : K.lookup x = none) (hroom : A.depth < recursionLimit)
    (hq : ∀ h' tk dx, InitEnd nf s.heap h' x C dx t0 v → R (.ok (.ret .none)) { s with heap := h', toks := tk }) :
    codeAny (model prog w) A (.call (.ref fI) ⟨[.ref x, v], []⟩) R s := by
  obtain ⟨oc, od, doc, pm, an, cdv, ct, osl, p1, p2, q1, q2, q3, q4, ho, hcd⟩ := T.fn
  obtain ⟨nm, q, N, bs, bm, sn, sub, ab, col, dd, k0, k1, k2, k3, k5, nw, hC, hbm⟩ := T.cls
  have hcl : clsIn K C = some { name := nm, bases := bs, mro := .ref C :: bm, ns := N, qualname := q, hasDict := true, slotNames := sn, subclasses := sub, abstract := ab, collection := col, hasDel := false } := by unfold clsIn; rw [hC] <;> rfl
  refine Att.call_fn (binds := [(("self" : Str), .ref x), (nf, v)]) X hlim ho hcd hroom (BindsTo.of_eq (T.nok.bnd _ _ _ _ _ _ _ _ _ _ _ _ _)) (T.nok.knd _ _) (fun s₁ IC => ?_) rfl rfl rfl
  obtain ⟨h₁, tk₁, rfl⟩ := IC.toInCall.same
  have k : ∀ b o, s.heap.get? b = some o → h₁.get? b = some o := IC.toInCall.keep
  have hn := IC.toInCall.ns
  have hxL : s.heap.objs.size ≠ x := Nat.ne_of_gt (Heap.lt_size hx)
  have X₁ : K.In h₁ := X.keeps k
  have hx₁ := k _ _ hx
  -- self.by = by
  show wpAny _ _ (execs _ _) _ _ _
  refine wpAny_execs_cons (plainObj_wpAny_Assign_Attribute ?_)
  refine ldC (v := v) hn (T.nok.val _ _ _ _ _) (ldC (v := .ref x) hn (T.nok.sel _ _ _ _ _) ?_ rfl (T.nok.slf _ _ _) (by decide)) rfl (T.nok.loc _ _ _) T.nok.dbg
  refine set_plain X₁ (ox := excO C t0) (od := none) ⟨hx₁, rfl, rfl, trivial⟩ T.sa ?_
  refine exc_osaT X₁ hx₁ hcl (show (Value.ref C :: bm).isEmpty = false from rfl) (by rw [show (Value.ref C :: bm).contains (.type "object") = ((Value.type "object" == Value.ref C) || bm.contains (.type "object")) from List.contains_cons, hbm.ob, Bool.or_true]) (fun self => by rw [refuseLoop_ref]; exact hbm.pass self) rfl T.noN (fun h₃ tk₃ dx k₃ dn dne hx₃ hn₃ => ?_)
  show wpAny _ _ (execs _ _) _ _ _
  have z : s.heap.objs.size < h₁.objs.size := hn.lt
  exact wpAny_execs_nil (hq h₃ tk₃ dx ⟨fun b o hb e => k₃ b o hb (k b o e), hx₃, Nat.le_of_lt (Nat.lt_of_lt_of_le z dn), dne, hn₃⟩)
theorem low_made (T : XTxt K mg nx nf qi C fI) {v : Value} (X : K.In s.heap) (hlim : s.heap.NoLimit) (hroom : A.depth + 1 < recursionLimit)
    (hq : ∀ h' tk e d, OwnMade nf s.heap h' e C d v → R (.ok (.ret (.ref e))) { s with heap := h', toks := tk }) :
    codeAny (model prog w) A (.call (.ref C) ⟨[v], []⟩) R s := by
  obtain ⟨nm, q, N, bs, bm, sn, sub, ab, col, dd, k0, k1, k2, k3, k5, nw, hC, hbm⟩ := T.cls
  obtain ⟨hp, g, dr, tk, os⟩ := s
  have k : ∀ b o, hp.get? b = some o → ((hp.push (kdv_tup [v])).push (excO C hp.objs.size)).get? b = some o := fun b o e => Heap.get?_push_of_some _ (Heap.get?_push_of_some _ e)
  have hget : ((hp.push (kdv_tup [v])).push (excO C hp.objs.size)).get? (hp.objs.size + 1) = some (excO C hp.objs.size) := by heap_get
  have hnx : K.lookup (hp.objs.size + 1) = none := by
    cases e : K.lookup (hp.objs.size + 1) with
    | none => rfl
    | some o =>
      have z : hp.get? (hp.objs.size + 1) = some o := X _ _ e
      exact absurd (Nat.lt_of_succ_lt (Heap.lt_size z)) (Nat.lt_irrefl _)
  obtain ⟨B, ini, tl, hF, hcont⟩ := hbm.ex
  refine call_own hF hcont (X _ _ hC) (looks_findIn X T.iC) (fun self => bind_fn X self T.tC) (one_size v) ?_
  refine low_init (s := ⟨(hp.push (kdv_tup [v])).push (excO C hp.objs.size), g, dr, tk, os⟩) T (X.keeps k) (hlim.keeps k) hget hnx ?_ fun h' tk' dx ⟨k', hx, dn, dne, hns⟩ => ?_
  · show A.depth + 1 < recursionLimit
    exact hroom
  · have old : ∀ b o, hp.get? b = some o → h'.get? b = some o := fun b o e => k' b o (Nat.ne_of_lt (Nat.lt_succ_of_lt (Heap.lt_size e))) (k b o e)
    have z : hp.objs.size + 1 + 1 ≤ dx := by
      first
        | (simpa only [Heap.size_push] using dn)
        | exact dn
        | (have q := dn; rw [Heap.size_push, Heap.size_push] at q; exact q)
    exact ⟨rfl, hq h' tk' (hp.objs.size + 1) dx ⟨old, Nat.le_succ _, ⟨_, _, hx, rfl, rfl, rfl, rfl⟩, Nat.le_trans (Nat.le_trans (Nat.le_succ _) (Nat.le_succ _)) z, dne, hns⟩⟩
end
end ExcT
end PySem
namespace L2
open PySem PySem.Spec PyProof.Rows
theorem relO_low {nf : Str} {v : V} {v' : Value} (r : RelV v v') (f : Str) : RelO (List.lookup f [(nf, v)]) (if f = nf then some v' else none) := by
  by_cases hw : f = nf
  · subst hw
    rw [if_pos rfl]
    have q : List.lookup f [(f, v)] = some v := by simp [List.lookup]
    rw [q]
    exact r
  · rw [if_neg hw]
    have qw : (f == nf) = false := by simpa using hw
    have q2 : List.lookup f [(nf, v)] = none := by simp [List.lookup, qw]
    rw [q2]
    trivial
section
variable {X : Cx} {nx nf qi : Str} {C fI : Addr}
def tMkLow (nf : Str) (C : Addr) (ta : TA) : St → Hp → XK → Prop := fun σ H Q => ta σ H fun vs H1 => ∃ v, vs = [v] ∧ ∀ d, H1 d = none → Q (.ref C) (some d) (upd H1 d (.xd [(nf, v)]))
theorem pmk_low {a : Expr} {ta : TA} {p pos : Pos} {k : Nat} (T : PySem.ExcT.XTxt X.K X.mg nx nf qi C fI) (hr : Room k X.A) (ha : PA X [a] ta) (hg : Gl X nx) (hdb : (nx == ("__debug__" : Str)) = false)
    (he : starEach (a :: []) X.env = (false, eval a X.env) :: starEach [] X.env := by rfl) (hpl : (backTo pos (starEach [] X.env)).any (·.1) = false := by rfl) :
    PMk X (.Call (.Name nx p) [a] [] pos) (tMkLow nf C ta) := by
  intro pins s σ H Q I h
  refine wpAny_Call_Name_kw (ld_glob I hg T.gC ?_ hdb)
  refine PySem.W.callWith_K (h₀ := X.base) I.ok.mod.kin T.kC (thn (ha.run pos pins s σ H _ I h) fun us s1 hh => ?_) he hpl
  obtain ⟨vs, H1, I1, r1, v, ev, q1⟩ := hh
  subst ev
  refine ⟨I1.kIn, ?_⟩
  cases r1 with
  | cons rv rn =>
    rename_i v' us'
    cases rn
    show wpAny _ _ (call (.ref C) [v']) _ _ _
    have hlim := I1.nolimit
    obtain ⟨hp, g, dr, tk, os⟩ := s1
    refine wpAny_call (PySem.ExcT.low_made T I1.kIn hlim (by have := hr.dp; omega) fun h' tk' e d M => ?_)
    show MkP X pins σ Q (.ref e) ⟨h', g, dr, tk', os⟩
    obtain ⟨oe, fv, hoe, hc, hd, hdat, h1⟩ := M.obj
    have hns := M.ns
    obtain ⟨G', g1, g2⟩ := restrict h' fun b => decide (b ≠ e)
    have gk : ∀ b, b ≠ e → G'.get? b = h'.get? b := fun b hb => g1 b (decide_eq_true hb)
    have ge : G'.get? e = none := g2 e (by simp)
    have old : ∀ b o, hp.get? b = some o → G'.get? b = some o := fun b o q => (gk b (Nat.ne_of_lt (Nat.lt_of_lt_of_le (Heap.lt_size q) M.new))).trans (M.keep b o q)
    have ob : ObjOk X.prog X.w (upd H1 d (.xd [(nf, v)])) G' d (.xd [(nf, v)]) :=
      ⟨_, hns.at (fun o q => (gk d M.dne).trans q), fun f => relO_low rv f⟩
    have J : Inv X pins σ (upd H1 d (.xd [(nf, v)])) ⟨G', g, dr, tk', os⟩ := I1.laid (t' := tk') old M.dbig ob
    refine ⟨e, oe, fv, ⟨G', g, dr, tk', os⟩, _, .ref C, some d, rfl, J, fun b o q => ?_, ge, hoe, ⟨hc, hd⟩, hdat, h1, ?_, rfl, I1.bare, raises_own T.exC T.tyC, q1 d (I1.hok.fresh M.dbig)⟩
    · by_cases hb : b = e
      · have q' : G'.get? b = some o := q
        rw [hb, ge] at q'; cases q'
      · exact (gk b hb).symm.trans q
    · rw [upd_ne (Ne.symm M.dne)]
      exact I1.hok.fresh M.new
def tRaiseLow (nf : Str) (C : Addr) (W : WX) (ta : TA) : TS := fun _ σ H => tMkLow nf C ta σ H fun cls d H' => W cls d σ H'
theorem ps_raiseLow {a : Expr} {ta : TA} {W : WX} {p pos pos2 : Pos} {k : Nat} (hc : X.calm = true) (T : PySem.ExcT.XTxt X.K X.mg nx nf qi C fI) (hr : Room k X.A) (tk : Takes X W) (ha : PA X [a] ta) (hg : Gl X nx) (hdb : (nx == ("__debug__" : Str)) = false)
    (he : starEach (a :: []) X.env = (false, eval a X.env) :: starEach [] X.env := by rfl) (hpl : (backTo pos (starEach [] X.env)).any (·.1) = false := by rfl) :
    PS X (.Raise (some (.Call (.Name nx p) [a] [] pos)) none pos2) (tRaiseLow nf C W ta) := ps_raise hc tk (pmk_low T hr ha hg hdb he hpl)
def tByLow (nf : Str) (C : Addr) (a : Addr) (cls : Value) (d : Option Addr) (te : TE) : TE := fun σ H Q => te σ H fun x H1 => x = .ref a ∧ cls = .ref C ∧ ∃ (dd : Addr) (v : V), d = some dd ∧ H1 dd = some (.xd [(nf, v)]) ∧ Q v H1
theorem pe_byLow {a : Addr} {oe : Obj} {cls : Value} {d : Option Addr} {pn : List (Addr × Obj)} {e : Expr} {te : TE} {pos : Pos} (T : PySem.ExcT.XTxt X.K X.mg nx nf qi C fI) (hz : Zc cls d oe) (hf : ∃ vs, oe.data = .fields vs) (he : PE (X.suite a ((a, oe) :: pn)) e te)
    (hb : attributeBase e nf X.env (eval e X.env) = eval e X.env := by rfl) :
    PE (X.suite a ((a, oe) :: pn)) (.Attribute e nf pos) (tByLow nf C a cls d te) := by
  refine ⟨fun pins s σ H Q I h => ?_⟩
  refine attr_of hb (thn (he.run pins s σ H _ I h) fun u s1 hh => ?_)
  obtain ⟨x, H1, I1, rx, ex, ec, dd, v, ed, ea, q⟩ := hh
  subst ex
  obtain rfl : u = Value.ref a := rx
  subst ec
  subst ed
  obtain ⟨ha, _⟩ := I1.pin (a, oe) (List.mem_append_left _ List.mem_cons_self)
  obtain ⟨vs, hd⟩ := hf
  have hx : ObjOk X.prog X.w H1 s1.heap dd (.xd [(nf, v)]) := I1.hok dd _ ea
  obtain ⟨mA, hns, hr⟩ := hx
  obtain ⟨od, ho, hl⟩ := lookIn_ns hns
  have l : List.lookup nf [(nf, v)] = some v := by simp [List.lookup]
  obtain ⟨u, hu, ru⟩ := RelO.some_of (v := v) (o := mA nf) (by rw [← l]; exact hr nf)
  have J : PySem.W.InstAt s1.heap a oe C (some od) := ⟨ha, hz.1, by unfold PySem.W.notCls; rw [hd] <;> rfl, by rw [hz.2]; exact ho⟩
  exact HandSPX.exc_get I1.kIn J T.ga T.gg T.exC (PySem.W.findObj_own T.hdC T.noN rfl (by rw [hl, hu])) (handed_of ru) ⟨v, H1, I1.tok _, ru, q⟩
end
end L2
namespace OF
open PySem PySem.Spec PyProof.Rows L2 PySem.ExcT
theorem nok_line (x : Str) : NameOk "line" x := ⟨fun _ _ _ _ _ _ _ _ _ _ _ _ _ => rfl, fun _ _ => rfl, fun _ _ _ => rfl, fun _ _ _ => rfl, by decide, fun _ _ _ _ _ => rfl, fun _ _ _ _ _ => rfl⟩
section
variable {X : Cx} {G : Gx} {W : WX} {pos : Pos}
def xRaise (c f : Str) (e : Cm U) : SmX := fun env S => match e env S with
  | some (u, S1) => some (.exc c f u, env, S1)
  | none => none
theorem ex_raise {c nf qi : Str} {C fI : Addr} {e : Expr} {ce : Cm U} {p pos2 : Pos} {k : Nat} (hc : X.calm = true) (T : XTxt X.K X.mg c nf qi C fI) (hG : G.cls c = some C) (hr : Room k X.A) (tk : Takes X W) (he : EE G X e ce) (hg : Gl X c) (hdb : (c == ("__debug__" : Str)) = false := by decide)
    (hst : starEach (e :: []) X.env = (false, eval e X.env) :: starEach [] X.env := by rfl) (hpl : (backTo pos (starEach [] X.env)).any (·.1) = false := by rfl) :
    ESX G X W (.Raise (some (.Call (.Name c p) [e] [] pos)) none pos2) (xRaise c nf ce) := (ps_raiseLow hc T hr tk (pa_cons he pa_nil (hs := hst)) hg hdb hst hpl).imp fun D σ H ⟨m, S, env, fx, env', S', st, re, hc, q⟩ => by
  unfold xRaise at hc
  split at hc
  · rename_i u S1 e1
    cases hc
    refine ⟨m, S, _, u, S', st, re, e1, fun m1 H1 v x1 st1 r1 => ⟨v, rfl, fun d hd => ?_⟩⟩
    exact q m1 _ σ C d v (x1.trans (Ext.upd hd)) (st1.new hd) ((re.keep x1.keeps).keep (keeps_upd hd)) (RU.keep (keeps_upd hd) _ _ r1) hG upd_same
  · cases hc
variable {e : Expr} {es : List Expr} {cl ck : Cm (List U)} {p : Pos} {x : Str} {k n : Nat} {f : Addr} {fd : FuncData} {ps ks : List Str} {F : OpX} {kws : List Keyword} {g : List Value → List Value → List Value} {gV : List V → List V → List V}
end
end OF
namespace OF
open PySem PySem.Spec PyProof.Rows L2
theorem exm_of {K : PySem.W.Frag} {S T : Addr} (h1 : PySem.W.subIn K (.ref T) (.type "BaseException") = some true) (h2 : PySem.W.isClsIn K T = true) (h3 : PySem.W.typeIn K (.ref T) = some (.type "type")) (h4 : PySem.W.subIn K (.ref S) (.ref T) = some true) :
    PySem.W.exmOne K (.ref S) (.ref T) = some true := by
  have e1 : (PySem.W.subIn K (.ref T) (.type "BaseException") == some true) = true := by rw [h1] <;> rfl
  have e2 : ((PySem.W.clsIn K T).isSome && PySem.W.typeIn K (.ref T) == some (.type "type")) = true := by
    have h2' : (PySem.W.clsIn K T).isSome = true := h2
    rw [h2', h3] <;> rfl
  show (if (PySem.W.subIn K (.ref T) (.type "BaseException") == some true) = true then (if ((PySem.W.clsIn K T).isSome && PySem.W.typeIn K (.ref T) == some (.type "type")) = true then PySem.W.subIn K (.ref S) (.ref T) else none) else none) = some true
  rw [if_pos e1, if_pos e2]
  exact h4
end OF
namespace OF
open PySem PySem.Spec PyProof.Rows L2 PySem.ExcT
section
variable {X : Cx} {G : Gx} {pos : Pos}
structure SuiteOk (G : Gx) (X : Cx) (L : List Str) (i : Nat) (suite : List Stmt) (sh : Str → Str → U → Sm) (ts : Addr → Value → Option Addr → TS) : Prop where
  run : ∀ (a : Addr) (oe : Obj) (cls : Value) (d : Option Addr) (pn : List (Addr × Obj)), Zc cls d oe → (∃ vs, oe.data = .fields vs) → PSs (X.suite a ((a, oe) :: pn)) suite (ts a cls d)
  ok : ∀ (c f : Str) (u : U) (C dd : Addr) (v : V) (a : Addr) (m : Mp) (H : Hp) (S : Sto) (env : Env') (σ : L2.St) (D : Ends) (fl : Fl) (env' : Env') (S' : Sto), c ∈ L → G.cls c = some C → Rst X.K G m H S → Renv X.K G m H env σ → RU X.K G m H u v → H dd = some (.xd [(f, v)]) → H a = none →
    sh c f u env S = some (fl, env', S') → AfterS X.K G m H fl env' S' D →
    ts a (.ref C) (some dd) { nx := fun σ' H' => D.nx (σ'.set i none) H', rt := D.rt, bk := fun σ' H' => D.bk (σ'.set i none) H', ct := fun σ' H' => D.ct (σ'.set i none) H' } (σ.set i (some (.ref a))) H
end
end OF
namespace OF
open PySem PySem.Spec PyProof.Rows L2 PySem.ExcT
theorem nok_name (x : Str) : NameOk "name" x := ⟨fun _ _ _ _ _ _ _ _ _ _ _ _ _ => rfl, fun _ _ => rfl, fun _ _ _ => rfl, fun _ _ _ => rfl, by decide, fun _ _ _ _ _ => rfl, fun _ _ _ _ _ => rfl⟩
theorem nok_thing (x : Str) : NameOk "thing" x := ⟨fun _ _ _ _ _ _ _ _ _ _ _ _ _ => rfl, fun _ _ => rfl, fun _ _ _ => rfl, fun _ _ _ => rfl, by decide, fun _ _ _ _ _ => rfl, fun _ _ _ _ _ => rfl⟩
theorem nok_what (x : Str) : NameOk "what" x := ⟨fun _ _ _ _ _ _ _ _ _ _ _ _ _ => rfl, fun _ _ => rfl, fun _ _ _ => rfl, fun _ _ _ => rfl, by decide, fun _ _ _ _ _ => rfl, fun _ _ _ _ _ => rfl⟩
theorem nok_number (x : Str) : NameOk "number" x := ⟨fun _ _ _ _ _ _ _ _ _ _ _ _ _ => rfl, fun _ _ => rfl, fun _ _ _ => rfl, fun _ _ _ => rfl, by decide, fun _ _ _ _ _ => rfl, fun _ _ _ _ _ => rfl⟩
end OF
namespace L2
open PySem PySem.Spec PyProof.Rows
def ExH (oe : Obj) : HO := .frz oe (.own 0)
def tXg (K : PySem.W.Frag) (f : Str) (te : TE) : TE := fun σ H Q => te σ H fun x H1 => ∃ (a : Addr) (oe : Obj) (C dd : Addr) (fs : List (Str × V)) (v : V), x = .ref a ∧ H1 a = some (ExH oe) ∧ oe.cls = .ref C ∧ oe.dict = some dd ∧ (∃ vs, oe.data = .fields vs) ∧ XfC K C ∧ PySem.W.findIn K (.ref C) f = some none ∧ H1 dd = some (.xd fs) ∧ fs.lookup f = some v ∧ Q v H1
theorem pe_xg {X : Cx} {e : Expr} {te : TE} {pos : Pos} {f : Str} (he : PE X e te) (hb : attributeBase e f X.env (eval e X.env) = eval e X.env := by rfl) : PE X (.Attribute e f pos) (tXg X.K f te) := by
  refine ⟨fun pins s σ H Q I h => ?_⟩
  refine attr_of hb (thn (he.run pins s σ H _ I h) fun u s1 hh => ?_)
  obtain ⟨x, H1, I1, rx, a, oe, C, dd, fs, v, ex, ha, hc, hdi, ⟨vs, hd⟩, T, hno, ea, l, q⟩ := hh
  subst ex
  obtain rfl : u = Value.ref a := rx
  obtain ⟨ha', _⟩ : ObjOk X.prog X.w H1 s1.heap a (.frz oe (.own 0)) := I1.hok a _ ha
  have hx : ObjOk X.prog X.w H1 s1.heap dd (.xd fs) := I1.hok dd _ ea
  obtain ⟨mA, hns, hr⟩ := hx
  obtain ⟨od, ho, hl⟩ := lookIn_ns hns
  obtain ⟨u, hu, ru⟩ := RelO.some_of (v := v) (o := mA f) (by rw [← l]; exact hr f)
  have J : PySem.W.InstAt s1.heap a oe C (some od) := ⟨ha', hc, by unfold PySem.W.notCls; rw [hd] <;> rfl, by rw [hdi]; exact ho⟩
  exact HandSPX.exc_get I1.kIn J T.ga T.gg T.exC (PySem.W.findObj_own T.hdC hno rfl (by rw [hl, hu])) (handed_of ru) ⟨v, H1, I1.tok _, ru, q⟩
def rIsX (K : PySem.W.Frag) : List V → Hp → VK → Prop := fun xs H Q => ∃ (a : Addr) (oe : Obj) (D : Addr) (c : V) (cv : Value) (b : Bool), xs = [.ref a, c] ∧ H a = some (ExH oe) ∧ oe.cls = .ref D ∧ (∃ vs, oe.data = .fields vs) ∧ (oe.dict = none ∨ ∃ dd fs, oe.dict = some dd ∧ H dd = some (.xd fs)) ∧ ExcC K D ∧ (∀ u, RelV c u → u = cv) ∧ PySem.W.kitOne K (.ref D) cv = some b ∧ Q (.bl b) H
theorem call_isX {X : Cx} : CallR X (.builtin "isinstance") (rIsX X.K) := by
  intro pins s σ H xs us Q I r h
  obtain ⟨a, oe, D, c, cv, b, rfl, ha, hc, ⟨vs, hv⟩, hdi, C, hcv, e, q⟩ := h
  cases r with
  | cons rx rr =>
    cases rr with
    | cons rt rr =>
      cases rr
      cases rx
      have ec := hcv _ rt
      subst ec
      obtain ⟨ha', _⟩ : ObjOk X.prog X.w H s.heap a (.frz oe (.own 0)) := I.hok a _ ha
      have nt : PySem.W.notCls oe := by unfold PySem.W.notCls; rw [hv] <;> rfl
      have hcl : (PySem.W.clsIn X.K D).isSome = true := by
        obtain ⟨cd, hc, _⟩ := PySem.W.any_some C.hd
        rw [hc]; rfl
      rcases hdi with h0 | ⟨dd, fs, h1, h2⟩
      · have J : PySem.W.InstAt s.heap a oe D none := ⟨ha', hc, nt, by rw [h0]; trivial⟩
        exact PySem.W.kia_one (PySem.W.kitx_exc hcl C.hg C.hk C.hs C.ha C.hn C.ht C.hm) I.kIn J e (fun z => nomatch z) fun tk => ⟨.bl b, H, I.kept (t' := tk) fun _ _ z => z, rfl, q⟩
      · obtain ⟨mA, hns, hr⟩ : ObjOk X.prog X.w H s.heap dd (.xd fs) := I.hok dd _ h2
        obtain ⟨od, ho, hl⟩ := lookIn_ns hns
        have J : PySem.W.InstAt s.heap a oe D (some od) := ⟨ha', hc, nt, by rw [h1]; exact ho⟩
        exact PySem.W.kia_one (PySem.W.kitx_exc hcl C.hg C.hk C.hs C.ha C.hn C.ht C.hm) I.kIn J e (fun z => nomatch z) fun tk => ⟨.bl b, H, I.kept (t' := tk) fun _ _ z => z, rfl, q⟩
end L2
namespace OF
open PySem PySem.Spec PyProof.Rows L2 PySem.ExcT
section
variable {X : Cx} {G : Gx} {pos : Pos}
def cXFld (cs : List Str) (fn : Str) (a : Cm U) : Cm U := fun env S => match a env S with
  | some (.ref n, S1) => match S1[n]? with
    | some (.exc c fs) => if cs.contains c = true then (match fs.lookup fn with
      | some u => some (u, S1)
      | none => none) else none
    | _ => none
  | _ => none
theorem ee_xfld {o : Expr} {ca : Cm U} {cs : List Str} {fn : Str} (hC : ∀ c C, cs.contains c = true → G.cls c = some C → XfC X.K C ∧ PySem.W.findIn X.K (.ref C) fn = some none) (he : EE G X o ca) (hb : attributeBase o fn X.env (eval o X.env) = eval o X.env := by rfl) : EE G X (.Attribute o fn pos) (cXFld cs fn ca) :=
  (pe_xg he hb).imp fun σ H Q ⟨m, S, env, z, S', st, re, hc, q⟩ => by
    unfold cXFld at hc
    split at hc
    · rename_i n S1 e1
      refine ⟨m, S, env, .ref n, S1, st, re, e1, fun m1 H1 v x1 st1 r1 => ?_⟩
      split at hc
      · rename_i c fs e2
        split at hc
        · rename_i hcs
          split at hc
          · rename_i u e3
            cases hc
            obtain ⟨a, ho, ha, hH, oe, C', d, rfl, hcl, hdi, hda, hC', rf⟩ := st1.at e2
            unfold RU at r1
            obtain ⟨a', rfl, ha'⟩ := r1
            rw [ha] at ha'; cases ha'
            rcases rf with ⟨_, rfl⟩ | ⟨dx, vs, hd, hx, _, _, rf⟩
            · cases e3
            obtain ⟨w, ew, rw'⟩ := (rf.lookup).2 _ e3
            obtain ⟨h1, h2⟩ := hC c C' hcs hC'
            exact ⟨a, oe, C', dx, vs, w, rfl, hH, hcl, hdi.trans hd, hda, h1, h2, hx, ew, q m1 H1 w x1 st1 rw'⟩
          · cases hc
        · cases hc
      · cases hc
    · cases hc
def cIsX (L T : List Str) (c : Cm U) : Cm U := fun env S => match c env S with
  | some (.ref n, S1) => match S1[n]? with
    | some (.exc k _) => if L.contains k = true then some (.bl (T.contains k), S1) else none
    | _ => none
  | _ => none
theorem ee_isx {a : Expr} {ca : Cm U} {p : Pos} {L T : List Str} {D : Addr} {xT : Str} {pT : Pos} (hg : Gl X "isinstance") (hm : X.mg "isinstance" = none) (hgT : Gl X xT) (hmT : X.mg xT = some (.ref D))
    (hC : ∀ k C, L.contains k = true → G.cls k = some C → ExcC X.K C ∧ PySem.W.kitOne X.K (.ref C) (.ref D) = some (T.contains k)) (ha : EE G X a ca) (hdT : (xT == ("__debug__" : Str)) = false := by decide)
    (he : starEach [a, .Name xT pT] X.env = (false, eval a X.env) :: starEach [.Name xT pT] X.env := by rfl) (he2 : starEach [.Name xT pT] X.env = (false, eval (.Name xT pT) X.env) :: starEach [] X.env := by rfl) (hpl : (backTo pos (starEach [.Name xT pT] X.env)).any (·.1) = false := by rfl) :
    EE G X (.Call (.Name "isinstance" p) [a, .Name xT pT] [] pos) (cIsX L T ca) :=
  (pe_callB call_isX hg hm (by decide +kernel) (pa_cons ha (pa_cons (pe_glob (v := .ref D) hgT hmT rfl hdT) pa_nil he2) he) (he := he) (hpl := hpl)).imp fun σ H Q ⟨m, S, env, z, S', st, re, hc, q⟩ => by
    unfold cIsX at hc
    split at hc
    · rename_i n S1 e1
      split at hc
      · rename_i k fs e2
        split at hc
        · rename_i hk
          cases hc
          refine ⟨m, S, _, .ref n, _, st, re, e1, fun m1 H1 v x1 st1 r1 => ?_⟩
          obtain ⟨b, ho, hb, hH, oe, C', d, rfl, hcl, hdi, hda, hC', rf⟩ := st1.at e2
          unfold RU at r1
          obtain ⟨a', rfl, ha'⟩ := r1
          rw [hb] at ha'; cases ha'
          obtain ⟨h1, h2⟩ := hC k C' hk hC'
          refine ⟨b, oe, C', .ref D, .ref D, _, rfl, hH, hcl, hda, ?_, h1, fun u r => r, h2, q m1 H1 _ x1 st1 rfl⟩
          rcases rf with ⟨h0, _⟩ | ⟨dx, vs, hd, hx, _, _, _⟩
          · exact .inl (hdi.trans h0)
          · exact .inr ⟨dx, vs, hdi.trans hd, hx⟩
        · cases hc
      · cases hc
    · cases hc
end
end OF
namespace OF
open PySem PySem.Spec PyProof.Rows L2
theorem kit_of {K : PySem.W.Frag} {C D : Addr} {b : Bool} (h2 : PySem.W.isClsIn K D = true) (h3 : PySem.W.typeIn K (.ref D) = some (.type "type")) (h5 : PySem.W.subIn K (.ref D) (.ref D) = some true) (h4 : PySem.W.subIn K (.ref C) (.ref D) = some b) :
    PySem.W.kitOne K (.ref C) (.ref D) = some b := by
  unfold PySem.W.kitOne
  by_cases e : C = D
  · subst e
    rw [h4] at h5
    rw [if_pos (beq_self_eq_true _)]
    exact h5.symm
  · have ne : ¬ ((Value.ref C == Value.ref D) = true) := fun z => e (Value.ref.inj (eq_of_beq z))
    rw [if_neg ne]
    have e2 : ((PySem.W.clsIn K D).isSome && PySem.W.typeIn K (.ref D) == some (.type "type")) = true := by
      have h2' : (PySem.W.clsIn K D).isSome = true := h2
      rw [h2', h3] <;> rfl
    show (if ((PySem.W.clsIn K D).isSome && PySem.W.typeIn K (.ref D) == some (.type "type")) = true then PySem.W.subIn K (.ref C) (.ref D) else none) = some b
    rw [if_pos e2]
    exact h4
end OF
namespace L2
open PySem PySem.Spec PyProof.Rows
def endsAs (i : Nat) (D : Ends) : Ends := { nx := fun σ' H' => D.nx (σ'.set i none) H', rt := D.rt, bk := fun σ' H' => D.bk (σ'.set i none) H', ct := fun σ' H' => D.ct (σ'.set i none) H' }
def wEach (K : PySem.W.Frag) (i : Nat) (Wout : WX) (D : Ends) : List (Value × (Addr → Value → Option Addr → TS)) → WX
  | [] => Wout
  | (c, ts) :: r => fun cls d σ H => ∃ b, PySem.W.exmOne K cls c = some b ∧ (b = true → ∀ a, H a = none → ts a cls d (endsAs i D) (σ.set i (some (.ref a))) H) ∧ (b = false → wEach K i Wout D r cls d σ H)
inductive EachOk (X : Cx) (n : Str) : List ExceptHandler → List (Value × (Addr → Value → Option Addr → TS)) → Prop
  | nil : EachOk X n [] []
  | cons {x : Str} {c : Value} {ts : Addr → Value → Option Addr → TS} {b₀ : Stmt} {suite : List Stmt} {np pos' : Pos} {hds : List ExceptHandler} {l : List (Value × (Addr → Value → Option Addr → TS))} (hc : Names X x c)
      (hsu : ∀ (a : Addr) (oe : Obj) (cls : Value) (d : Option Addr) (pn : List (Addr × Obj)), Zc cls d oe → (∃ vs, oe.data = .fields vs) → PSs (X.suite a ((a, oe) :: pn)) (b₀ :: suite) (ts a cls d)) (r : EachOk X n hds l) :
      EachOk X n (.ExceptHandler (some (.Name x np)) (some n) (b₀ :: suite) pos' :: hds) ((c, ts) :: l)
section
variable {X : Cx} {body : List Stmt} {n : Str} {i : Nat} {h₀ : ExceptHandler} {hds : List ExceptHandler} {l : List (Value × (Addr → Value → Option Addr → TS))} {pos : Pos} {tb : WX → TS} {Wout : WX}
theorem ps_try_each (hs : X.stack = X.env :: X.outer) (hf : X.env.frame = some X.env.locals) (hN : X.N.Nodup) (hi : X.N[i]? = some n) (hln : X.env.kindOf n = some .local) (tk : Takes X Wout)
    (hb : ∀ (W : WX) (pn : List (Addr × Obj)) (xe : Value → Shared → Prop), Takes (X.tr pn xe) W → PassesOwn (model X.prog X.w) X.A X.env xe → PSs (X.tr pn xe) body (tb W))
    (hh : EachOk X n (h₀ :: hds) l) : PS X (.Try body (h₀ :: hds) [] [] pos) (fun D σ H => tb (wEach X.K i Wout D l) D σ H) := by
  refine ⟨fun pins s σ H D I h => ?_⟩
  have ok := I.ok
  have hfr : X.A.frames = some (X.env :: X.outer) := by rw [ok.frames, hs]
  have hloc : Loc X.env.scope n := .inl hln
  refine wpAny_Try_except ?_
  refine wpAny_mono ((hb (wEach X.K i Wout D l) (X.pn ++ pins) (fun e s₁ => wpAny (model X.prog X.w) X.A (noteFrame e X.env) (fun _ s₂ => wpAny (model X.prog X.w) X.A (setFlight e none) (fun _ s₃ =>
    wpAny (model X.prog X.w) X.A (handleBy e X.env (h₀ :: hds)) (SP X pins D) X.xe s₃) X.xe s₂) X.xe s₁) (fun u s' xx => ?_) PassesOwn.looking).run [] s σ H D (I.toTry _) h) (fun f s1 hsp => ?_) (fun e s1 he => he)
  · obtain ⟨a, B, sI, pins', σ', H', cls, d, rfl, J', nb, up, sky, na, os, ag, w⟩ := xx
    have J : Inv X pins σ' H' sI := J'.ofTry ok
    have sky' : Sky B (X.env :: X.outer) a (Zc cls d) X.env.locals s'.heap := by rw [← hs]; exact sky
    show wpAny (model X.prog X.w) X.A (noteFrame (.ref a) X.env) _ _ _
    refine Sky.land Zc.steady hfr hf sky' fun h3 fl3 up3 => ?_
    have J3 : Inv X pins σ' H' { s' with heap := h3 } := J.landed nb fl3.1 (up.trans up3) os ag
    obtain ⟨oe3, vs3, he3, hz3, hd3⟩ := fl3.there
    have notFr : ∀ {h : Heap} {o : Obj} {vs : Array Value}, h.FunFrames B (X.env :: X.outer) → h.get? a = some o → o.data = .fields vs → a ∉ frs (X.env :: X.outer) := fun {h o vs} ff e dd hm => by
      obtain ⟨_, o', e', hnf⟩ := ff.mem hm
      rw [e] at e'; cases e'
      exact hnf _ dd
    have nfr := notFr fl3.2.2.1 he3 hd3
    have nL : a ≠ X.env.locals := fun z => nfr (List.mem_filterMap.mpr ⟨X.env, List.mem_cons_self, by rw [hf, z]⟩)
    have nF : a ∉ X.fs := fun hm => by
      obtain ⟨e, he, q⟩ := List.mem_filterMap.mp hm
      exact nfr (List.mem_filterMap.mpr ⟨e, List.mem_cons_of_mem _ he, q⟩)
    have S3 := J3.suite he3 hd3 na nL nF
    have go : ∀ {hds' : List ExceptHandler} {l' : List (Value × (Addr → Value → Option Addr → TS))}, EachOk X n hds' l' → wEach X.K i Wout D l' cls d σ' H' →
        wpAny (model X.prog X.w) X.A (handleBy (.ref a) X.env hds') (SP X pins D) X.xe { s' with heap := h3 } := by
      intro hds' l' hk
      induction hk with
      | nil =>
        intro w
        refine wpAny_handleBy_nil ?_
        obtain ⟨k1, k2, k3, oe, vs, T, oT, ts', he, hz, hd, h1, hr⟩ := id fl3
        unfold PySem.passOn
        refine wpAny_bind (wpAny_field he hd h1 ?_)
        rw [if_neg (show ¬ ((Value.ref T == Value.none) = true) from by simp)]
        have fin : wpAny (model X.prog X.w) X.A (setFlight (.ref a) X.env.frame) (fun _ s4 => wpAny (model X.prog X.w) X.A (throw (.ref a) : Sem Flow) (SP X pins D) X.xe s4) X.xe { s' with heap := h3 } := by
          rw [hf]
          refine HandSPX.setFlight_upZ fl3 fun h4 hh4 up4 => wpAny_throw (tk _ _ ?_)
          exact ⟨a, B, sI, pins, σ', H', cls, d, rfl, J, nb, (up.trans up3).trans up4, .inr (.inr (by rw [hs]; exact hh4)), na, os, ag, w⟩
        first
          | exact wpAny_bind (wpAny_pure (wpAny_bind fin))
          | exact wpAny_bind fin
      | @cons x c ts b₀ suite np pos' hds2 l2 hc hsu r ih =>
        intro w
        obtain ⟨b, hb1, hyes, hno⟩ := w
        refine wpAny_handleBy_cons (codeAny_handlers_test ?_) (by intro q; cases q)
        have LT : PySem.W.Looks (model X.prog X.w) h3 (typeOf (.ref a)) cls := fun A Q E s k q => wpAny_typeOf_ref (k _ _ he3) (by rw [hz3.1]; exact q)
        have LM := PySem.W.exm_one (M := model X.prog X.w) (J3.kIn) LT hb1
        have test : ∀ {Q : Value → Shared → Prop} {E : Value → Shared → Prop}, Q c { s' with heap := h3 } → wpAny (model X.prog X.w) (X.A.mark (some (.ref a))) (eval (.Name x np) X.env) Q E { s' with heap := h3 } := fun {Q E} q => by
          obtain ⟨hg, hdbg, hm | ⟨hm, hv, hnn⟩⟩ := hc
          · exact ld_glob (X := X.suite a ((a, oe3) :: (X.pn ++ pins))) S3 hg hm q hdbg
          · exact ld_blt (X := X.suite a ((a, oe3) :: (X.pn ++ pins))) S3 hg hm hv q hnn hdbg
        refine test (LM.here ?_)
        cases b with
        | true =>
          refine codeAny_handlers_suite_as ?_
          refine HandSPX.lands_againZ fl3 fun h4 fl4 up4 => ?_
          have J4 : Inv X pins σ' H' { s' with heap := h4 } := J.landed nb fl4.1 ((up.trans up3).trans up4) os ag
          obtain ⟨oe4, vs4, he4, hz4, hd4⟩ := fl4.there
          have S4 := J4.suite he4 hd4 na nL nF
          refine store_ok (X := X.suite a ((a, oe4) :: (X.pn ++ pins))) (v := .ref a) S4 hN hi hloc rfl (fun s5 S5 => ?_) (.inr hln)
          refine wpAny_mono ((hsu a oe4 cls d (X.pn ++ pins) hz4 ⟨_, hd4⟩).run [] s5 _ H' _ S5 (hyes rfl a na)) (fun f s6 hsp => ?_) (fun _ _ z => False.elim z)
          have end_ : ∀ {σ6 : St} {H6 : Hp} {Q : Shared → Prop}, Inv (X.suite a ((a, oe4) :: (X.pn ++ pins))) [] σ6 H6 s6 → (∀ s7, Inv X pins (σ6.set i none) H6 s7 → Q s7) →
              wpAny (model X.prog X.w) X.A (do bindName X.env n .none; unbindBehindTheSuite X.env n pos') (fun _ s7 => Q s7) X.xe s6 := fun {σ6 H6 Q} S6 hq => gone_ok (S6.unsuite ok) hN hi hln hq
          cases f with
          | next =>
            obtain ⟨σ6, H6, S6, q6⟩ := hsp
            exact end_ S6 fun s7 J7 => ⟨_, _, J7, q6⟩
          | brk =>
            obtain ⟨σ6, H6, S6, q6⟩ := hsp
            exact end_ S6 fun s7 J7 => ⟨_, _, J7, q6⟩
          | cont =>
            obtain ⟨σ6, H6, S6, q6⟩ := hsp
            exact end_ S6 fun s7 J7 => ⟨_, _, J7, q6⟩
          | ret u =>
            obtain ⟨v6, σ6, H6, S6, r6, q6⟩ := hsp
            exact end_ S6 fun s7 J7 => ⟨_, _, _, J7, r6, q6⟩
        | false =>
          show wpAny _ X.A (handleBy (.ref a) X.env hds2) _ _ _
          exact ih (hno rfl)
    exact go hh w
  · cases f with
    | next =>
      obtain ⟨σ', H', J', q⟩ := hsp
      exact wpAny_execs_nil ⟨σ', H', J'.ofTry ok, q⟩
    | brk =>
      obtain ⟨σ', H', J', q⟩ := hsp
      exact ⟨σ', H', J'.ofTry ok, q⟩
    | cont =>
      obtain ⟨σ', H', J', q⟩ := hsp
      exact ⟨σ', H', J'.ofTry ok, q⟩
    | ret u =>
      obtain ⟨v, σ', H', J', r, q⟩ := hsp
      exact ⟨v, σ', H', J'.ofTry ok, r, q⟩
end
end L2
namespace PySem
namespace ExcT
open Builtin Builtin.ObjectAttr PySem.HandSPX
section
variable {M : Model} {A : Around} {E : Value → Shared → Prop} {h : Heap} {g : Array GenState} {d : Drawn} {t : Nat} {os : OsState}
variable {nm q : Str} {C N : Addr} {bs bm bmB : List Value} {hdct : Bool} {sn : List Str} {sub : List Value} {ab : Bool} {col : Option Bool} {dd : Option Addr} {k0 k1 k2 k3 k5 : Option Value} {B newId initId : String}
theorem check_new_kw (F : ExcBaseFacts B newId initId bmB) (hT : ∀ X : String, bm.contains (.type X) = bmB.contains (.type X)) {rest : List Value} {kws : List (Str × Value)} {Q : Unit → Shared → Prop}
    (hC : h.get? C = some (excClassObj nm q C N bs bm hdct sn sub ab col dd k0 k1 k2 k3 k5 newId)) (hq : Q () ⟨h, g, d, t, os⟩) : wpAny M A (checkBuiltinCall newId ⟨.ref C :: rest, kws⟩) Q E ⟨h, g, d, t, os⟩ := by
  have hcont : (Value.ref C :: bm).contains (.type B) = true := by rw [List.contains_cons, hT, F.hasB, Bool.or_true]
  have hstar := F.noStar
  simp only [checkBuiltinCall, F.newKind, F.newSplit, F.newRow]
  repeat (first | refine wpAny_loadPart_at hC ?_ | (refine wpAny_isSubtype_exc hC ?_; rw [hcont]) | refine wpAny_staticBase_exc hC ?_ | refine wpAny_madeBy_exc hC ?_ | simp only [bne_self_eq_false, Bool.false_eq_true, if_false] | wp_step)
  exact hq
end
section
variable {prog : Program} {w : World} {A : Around} {E : Value → Shared → Prop} {R : Result → Shared → Prop} {h : Heap} {g : Array GenState} {d : Drawn} {t : Nat} {os : OsState}
variable {nm q : Str} {C N : Addr} {bs bm bmB : List Value} {hdct : Bool} {sn : List Str} {sub : List Value} {ab : Bool} {col : Option Bool} {dd : Option Addr} {k0 k1 k2 k3 k5 : Option Value} {B newId initId : String}
theorem check_type_kw {rest : List Value} {kws : List (Str × Value)} {Q : Unit → Shared → Prop} {M : Model} (hC : h.get? C = some (excClassObj nm q C N bs bm hdct sn sub ab col dd k0 k1 k2 k3 k5 newId))
    (hq : Q () ⟨h, g, d, t, os⟩) : wpAny M A (checkBuiltinCall "type.__call__" ⟨.ref C :: rest, kws⟩) Q E ⟨h, g, d, t, os⟩ := by
  have f3 := tc_sub
  have hT : (⟨h, g, d, t, os⟩ : Shared).TypeIs (.ref C) "type" := ⟨_, hC, rfl⟩
  simp only [checkBuiltinCall, tc_kind, tc_split]
  repeat (any_goals (first | assumption | with_reducible refine wpAny_loadPart_at hC ?_ | with_reducible refine wpAny_onRaise ?_ | with_reducible refine wpAny_map ?_ | wp_step))
theorem new_kw (F : ExcBaseFacts B newId initId bmB) (hT : ∀ X : String, bm.contains (.type X) = bmB.contains (.type X)) {rest : List Value} {kws : List (Str × Value)}
    (hC : h.get? C = some (excClassObj nm q C N bs bm hdct sn sub ab col dd k0 k1 k2 k3 k5 newId))
    (hq : R (.ok (.ret (.ref (h.objs.size + 1)))) ⟨(h.push { cls := .type "tuple", data := .seq rest.toArray }).push
      { cls := .ref C, data := .fields #[.ref h.objs.size, .none, .none, .none, .bool false, .none] }, g, d, t, os⟩) (hrest : rest.length ≤ sizeLine) :
    codeAny (model prog w) A (.builtin newId ⟨.ref C :: rest, kws⟩) R ⟨h, g, d, t, os⟩ := by
  have hends := F.ends
  have hcB : (Value.ref C :: bm).contains (.type B) = true := by rw [List.contains_cons, hT, F.hasB, Bool.or_true]
  have hcA : (Value.ref C :: bm).contains (.type "AttributeError") = false := by rw [List.contains_cons, hT, F.noAttr]; rfl
  have hcN : (Value.ref C :: bm).contains (.type "NameError") = false := by rw [List.contains_cons, hT, F.noName]; rfl
  refine codeAny_builtinAt F.entry ?_
  unfold Builtin.«BaseException.__new__»
  refine wpAt_bind ?_
  show wpAt _ _ _ (stack >>= _) _ _ _
  refine wpAt_bind (wpAt_stack fun p below => wpAt_of_wpAny ?_)
  wp_walk
  refine wpAt_of_wpAny ?_
  rw [F.owner]
  repeat (first | with_reducible refine wpAny_madeHere_exc F.canon hC ?_ | with_reducible refine wpAny_loadPart_at hC ?_ | (with_reducible refine wpAny_isSubtype_exc hC ?_; first | rw [hcB] | rw [hcA] | rw [hcN]) | wp_step)
  show R _ _
  rw [Heap.size_push]
  exact hq
theorem type_call_kw (F : ExcBaseFacts B newId initId bmB) (hT : ∀ X : String, bm.contains (.type X) = bmB.contains (.type X)) {rest : List Value} {kws : List (Str × Value)} {fI : Addr} {Q : Fin → Shared → Prop}
    (hC : h.get? C = some (excClassObj nm q C N bs bm hdct sn sub ab col dd k0 k1 k2 k3 k5 newId))
    (hi : W.Looks (model prog w) h (typeLookup (.ref C) "__init__") (some (.ref fI))) (hb : ∀ self, W.Looks (model prog w) h (bindSpecial (.ref fI) self) (.ref fI, [self])) (hrest : rest.length ≤ sizeLine)
    (hq : codeAny (model prog w) A (.call (.ref fI) ⟨.ref (h.objs.size + 1) :: rest, kws⟩)
      (fun r s' => match r with | .ok (.ret v) => v = .none ∧ Q (.done (.ret (.ref (h.objs.size + 1)))) s' | .ok _ => False | .error e => E e s')
      ⟨(h.push (W.kdv_tup rest)).push (excO C h.objs.size), g, d, t, os⟩) :
    wpAny (model prog w) A (Builtin.«type.__call__» ⟨.ref C :: rest, kws⟩) Q E ⟨h, g, d, t, os⟩ := by
  repeat (first | with_reducible refine wpAny_loadPart_at hC ?_ | with_reducible refine wpAny_madeBy_exc hC ?_ | wp_step)
  refine codeAny_call_builtin_code (Code.quiet_builtin _ F.quiet) (check_new_kw F hT hC ?_)
  refine new_kw F hT hC ?_ hrest
  show wpAny _ _ _ _ _ _
  have k : ∀ b o, h.get? b = some o → ((h.push (W.kdv_tup rest)).push (excO C h.objs.size)).get? b = some o := fun b o e => Heap.get?_push_of_some _ (Heap.get?_push_of_some _ e)
  have hC₁ := k _ _ hC
  have hget : ((h.push (W.kdv_tup rest)).push (excO C h.objs.size)).get? (h.objs.size + 1) = some (excO C h.objs.size) := by heap_get
  have hcC : (Value.ref C :: bm).contains (.ref C) = true := by simp
  have i1 := hi.keeps k
  have b1 := (hb (.ref (h.objs.size + 1))).keeps k
  unfold isInstance
  repeat (first | with_reducible refine wpAny_loadPart_at hget ?_ | (with_reducible refine wpAny_isSubtype_exc hC₁ ?_; rw [hcC]) | wp_step)
  show wpAny _ _ (typeLookup (.ref C) _) _ _ _
  refine i1.at ?_
  refine wpAny_holding (wpAny_bind (b1.at ?_))
  refine wpAny_bind (wpAny_call (codeAny_mono hq fun r s' z => ?_))
  rcases r with e | (v | _ | _ | _) <;> first | exact z | exact z.elim | skip
  obtain ⟨rfl, z⟩ := z
  first
    | exact wpAny_pure (wpAny_pure z)
    | (wp_walk; exact z)
theorem call_own_kw (F : ExcBaseFacts B newId initId bmB) (hT : ∀ X : String, bm.contains (.type X) = bmB.contains (.type X)) {rest : List Value} {kws : List (Str × Value)} {fI : Addr}
    (hC : h.get? C = some (excClassObj nm q C N bs bm hdct sn sub ab col dd k0 k1 k2 k3 k5 newId))
    (hi : W.Looks (model prog w) h (typeLookup (.ref C) "__init__") (some (.ref fI))) (hb : ∀ self, W.Looks (model prog w) h (bindSpecial (.ref fI) self) (.ref fI, [self])) (hrest : rest.length ≤ sizeLine)
    (hq : codeAny (model prog w) (A.under (.builtin "type.__call__" ⟨.ref C :: rest, kws⟩)) (.call (.ref fI) ⟨.ref (h.objs.size + 1) :: rest, kws⟩) (W.InitBack (h.objs.size + 1) R)
      ⟨(h.push (W.kdv_tup rest)).push (excO C h.objs.size), g, d, t, os⟩) :
    codeAny (model prog w) A (.call (.ref C) ⟨rest, kws⟩) R ⟨h, g, d, t, os⟩ := by
  have f1 := tc_lookup
  have f2 := tc_bind (.ref C)
  have hTy : (⟨h, g, d, t, os⟩ : Shared).TypeIs (.ref C) "type" := ⟨_, hC, rfl⟩
  refine codeAny_of_tree ?_
  show wpAny _ _ (callAny (.ref C) _) _ _ _
  repeat (any_goals (first | assumption | with_reducible refine wpAny_loadPart_at hC ?_ | wp_step))
  refine ⟨rfl, ?_⟩
  refine codeAny_call_builtin_at (Code.quiet_builtin _ (by decide +kernel)) entry_typeCall (check_type_kw hC (type_call_kw F hT hC hi hb hrest ?_))
  refine codeAny_mono hq fun r s' z => ?_
  rcases r with e | (v | _ | _ | _) <;> exact z
end
open PySem.W PySem.Calls PyProof.Rows
structure NameOkK (nf qi : Str) : Prop where
  bnd : ∀ (doc pm : Value) (an : Option Addr) (cdv ct : Value) (p1 p2 q1 q2 q3 q4 : Pos) (u v : Value), bindArgs (fnOf "__init__" qi (iA nf p1 p2) (iB nf q1 q2 q3 q4) (iS nf) .none .none doc pm an cdv ct) ⟨[u], [(nf, v)]⟩ = pure [(("self" : Str), u), (nf, v)]
section
variable {prog : Program} {w : World} {A : Around} {E : Value → Shared → Prop} {R : Result → Shared → Prop} {s : Shared} {K : Frag} {mg : Str → Option Value} {nx nf qi : Str} {C fI : Addr}
theorem init_G (T : XTxt K mg nx nf qi C fI) {args : Args} {x t0 : Addr} {v : Value} (X : K.In s.heap) (hlim : s.heap.NoLimit) (hx : s.heap.get? x = some (excO C t0)) (hnx : K.lookup x = none) (hroom : A.depth < recursionLimit)
    (hbd : ∀ (doc pm : Value) (an : Option Addr) (cdv ct : Value) (p1 p2 q1 q2 q3 q4 : Pos), bindArgs (fnOf "__init__" qi (iA nf p1 p2) (iB nf q1 q2 q3 q4) (iS nf) .none .none doc pm an cdv ct) args = pure [(("self" : Str), .ref x), (nf, v)])
    (hq : ∀ h' tk dx, InitEnd nf s.heap h' x C dx t0 v → R (.ok (.ret .none)) { s with heap := h', toks := tk }) :
    codeAny (model prog w) A (.call (.ref fI) args) R s := by
  obtain ⟨oc, od, doc, pm, an, cdv, ct, osl, p1, p2, q1, q2, q3, q4, ho, hcd⟩ := T.fn
  obtain ⟨nm, q, N, bs, bm, sn, sub, ab, col, dd, k0, k1, k2, k3, k5, nw, hC, hbm⟩ := T.cls
  have hcl : clsIn K C = some { name := nm, bases := bs, mro := .ref C :: bm, ns := N, qualname := q, hasDict := true, slotNames := sn, subclasses := sub, abstract := ab, collection := col, hasDel := false } := by unfold clsIn; rw [hC] <;> rfl
  refine Att.call_fn (binds := [(("self" : Str), .ref x), (nf, v)]) X hlim ho hcd hroom (BindsTo.of_eq (hbd _ _ _ _ _ _ _ _ _ _ _)) (T.nok.knd _ _) (fun s₁ IC => ?_) rfl rfl rfl
  obtain ⟨h₁, tk₁, rfl⟩ := IC.toInCall.same
  have k : ∀ b o, s.heap.get? b = some o → h₁.get? b = some o := IC.toInCall.keep
  have hn := IC.toInCall.ns
  have hxL : s.heap.objs.size ≠ x := Nat.ne_of_gt (Heap.lt_size hx)
  have X₁ : K.In h₁ := X.keeps k
  have hx₁ := k _ _ hx
  show wpAny _ _ (execs _ _) _ _ _
  refine wpAny_execs_cons (plainObj_wpAny_Assign_Attribute ?_)
  refine ldC (v := v) hn (T.nok.val _ _ _ _ _) (ldC (v := .ref x) hn (T.nok.sel _ _ _ _ _) ?_ rfl (T.nok.slf _ _ _) (by decide)) rfl (T.nok.loc _ _ _) T.nok.dbg
  refine set_plain X₁ (ox := excO C t0) (od := none) ⟨hx₁, rfl, rfl, trivial⟩ T.sa ?_
  refine exc_osaT X₁ hx₁ hcl (show (Value.ref C :: bm).isEmpty = false from rfl) (by rw [show (Value.ref C :: bm).contains (.type "object") = ((Value.type "object" == Value.ref C) || bm.contains (.type "object")) from List.contains_cons, hbm.ob, Bool.or_true]) (fun self => by rw [refuseLoop_ref]; exact hbm.pass self) rfl T.noN (fun h₃ tk₃ dx k₃ dn dne hx₃ hn₃ => ?_)
  show wpAny _ _ (execs _ _) _ _ _
  have z : s.heap.objs.size < h₁.objs.size := hn.lt
  exact wpAny_execs_nil (hq h₃ tk₃ dx ⟨fun b o hb e => k₃ b o hb (k b o e), hx₃, Nat.le_of_lt (Nat.lt_of_lt_of_le z dn), dne, hn₃⟩)
theorem made_G (T : XTxt K mg nx nf qi C fI) {rest : List Value} {kws : List (Str × Value)} {v : Value} (X : K.In s.heap) (hlim : s.heap.NoLimit) (hroom : A.depth + 1 < recursionLimit) (hrest : rest.length ≤ sizeLine)
    (hbd : ∀ (x : Addr) (doc pm : Value) (an : Option Addr) (cdv ct : Value) (p1 p2 q1 q2 q3 q4 : Pos), bindArgs (fnOf "__init__" qi (iA nf p1 p2) (iB nf q1 q2 q3 q4) (iS nf) .none .none doc pm an cdv ct) ⟨.ref x :: rest, kws⟩ = pure [(("self" : Str), .ref x), (nf, v)])
    (hq : ∀ h' tk e d, OwnMade nf s.heap h' e C d v → R (.ok (.ret (.ref e))) { s with heap := h', toks := tk }) :
    codeAny (model prog w) A (.call (.ref C) ⟨rest, kws⟩) R s := by
  obtain ⟨nm, q, N, bs, bm, sn, sub, ab, col, dd, k0, k1, k2, k3, k5, nw, hC, hbm⟩ := T.cls
  obtain ⟨hp, g, dr, tk, os⟩ := s
  have k : ∀ b o, hp.get? b = some o → ((hp.push (kdv_tup rest)).push (excO C hp.objs.size)).get? b = some o := fun b o e => Heap.get?_push_of_some _ (Heap.get?_push_of_some _ e)
  have hget : ((hp.push (kdv_tup rest)).push (excO C hp.objs.size)).get? (hp.objs.size + 1) = some (excO C hp.objs.size) := by heap_get
  have hnx : K.lookup (hp.objs.size + 1) = none := by
    cases e : K.lookup (hp.objs.size + 1) with
    | none => rfl
    | some o =>
      have z : hp.get? (hp.objs.size + 1) = some o := X _ _ e
      exact absurd (Nat.lt_of_succ_lt (Heap.lt_size z)) (Nat.lt_irrefl _)
  obtain ⟨B, ini, tl, hF, hcont⟩ := hbm.ex
  refine call_own_kw hF hcont (X _ _ hC) (looks_findIn X T.iC) (fun self => bind_fn X self T.tC) hrest ?_
  refine init_G (s := ⟨(hp.push (kdv_tup rest)).push (excO C hp.objs.size), g, dr, tk, os⟩) T (X.keeps k) (hlim.keeps k) hget hnx ?_ (hbd _) fun h' tk' dx ⟨k', hx, dn, dne, hns⟩ => ?_
  · show A.depth + 1 < recursionLimit
    exact hroom
  · have old : ∀ b o, hp.get? b = some o → h'.get? b = some o := fun b o e => k' b o (Nat.ne_of_lt (Nat.lt_succ_of_lt (Heap.lt_size e))) (k b o e)
    have z : hp.objs.size + 1 + 1 ≤ dx := by
      first
        | (simpa only [Heap.size_push] using dn)
        | exact dn
        | (have q := dn; rw [Heap.size_push, Heap.size_push] at q; exact q)
    exact ⟨rfl, hq h' tk' (hp.objs.size + 1) dx ⟨old, Nat.le_succ _, ⟨_, _, hx, rfl, rfl, rfl, rfl⟩, Nat.le_trans (Nat.le_trans (Nat.le_succ _) (Nat.le_succ _)) z, dne, hns⟩⟩
end
end ExcT
end PySem
namespace L2
open PySem PySem.Spec PyProof.Rows PySem.ExcT
section
variable {X : Cx} {nx nf qi : Str} {C fI : Addr}
def tExc1 (nf : Str) (C : Addr) (ta : TA) : TE := fun σ H Q => ta σ H fun vs H1 => ∃ v, vs = [v] ∧ ∀ (oe : Obj) (e d : Addr), H1 e = none → H1 d = none → d ≠ e → oe.cls = .ref C → oe.dict = some d → (∃ ws, oe.data = .fields ws) → Q (.ref e) (upd (upd H1 d (.xd [(nf, v)])) e (ExH oe))
theorem exc_end {pins : List (Addr × Obj)} {σ : St} {H1 : Hp} {Q : VK} {hp h' : Heap} {g : Array GenState} {dr : Drawn} {tk tk' : Nat} {os : OsState} {v : V} {v' : Value} {e d : Addr} (I1 : Inv X pins σ H1 ⟨hp, g, dr, tk, os⟩) (M : OwnMade nf hp h' e C d v') (rv : RelV v v')
    (q1 : ∀ (oe : Obj) (e d : Addr), H1 e = none → H1 d = none → d ≠ e → oe.cls = .ref C → oe.dict = some d → (∃ ws, oe.data = .fields ws) → Q (.ref e) (upd (upd H1 d (.xd [(nf, v)])) e (ExH oe))) : EP X pins σ Q (.ref e) ⟨h', g, dr, tk', os⟩ := by
  obtain ⟨oe, fv, hoe, hc, hd, hdat, h1⟩ := M.obj
  have hns := M.ns
  obtain ⟨G', g1, g2⟩ := restrict h' fun b => decide (b ≠ e)
  have gk : ∀ b, b ≠ e → G'.get? b = h'.get? b := fun b hb => g1 b (decide_eq_true hb)
  have ge : G'.get? e = none := g2 e (by simp)
  have old : ∀ b o, hp.get? b = some o → G'.get? b = some o := fun b o q => (gk b (Nat.ne_of_lt (Nat.lt_of_lt_of_le (Heap.lt_size q) M.new))).trans (M.keep b o q)
  have ob : ObjOk X.prog X.w (upd H1 d (.xd [(nf, v)])) G' d (.xd [(nf, v)]) :=
    ⟨_, hns.at (fun o q => (gk d M.dne).trans q), fun f => relO_low rv f⟩
  have J : Inv X pins σ (upd H1 d (.xd [(nf, v)])) ⟨G', g, dr, tk', os⟩ := I1.laid (t' := tk') old M.dbig ob
  have he : H1 e = none := I1.hok.fresh M.new
  have hdn : H1 d = none := I1.hok.fresh M.dbig
  have L := J.laidN (h' := h') (a := e) (o := ExH oe) (t' := tk') (fun b u q => by
    by_cases hb : b = e
    · have q' : G'.get? b = some u := q
      rw [hb, ge] at q'; cases q'
    · exact (gk b hb).symm.trans q) ge (by rw [upd_ne (Ne.symm M.dne)]; exact he) ⟨hoe, oe, hoe⟩
  exact ⟨.ref e, _, L, rfl, q1 oe e d he hdn M.dne hc hd ⟨_, hdat⟩⟩
theorem pe_exc1v {a : Expr} {ta : TA} {p pos : Pos} {k : Nat} (T : XTxt X.K X.mg nx nf qi C fI) (hr : Room k X.A) (ha : PA X [a] ta) (hg : Gl X nx) (hdb : (nx == ("__debug__" : Str)) = false := by decide)
    (he : starEach (a :: []) X.env = (false, eval a X.env) :: starEach [] X.env := by rfl) (hpl : (backTo pos (starEach [] X.env)).any (·.1) = false := by rfl) :
    PE X (.Call (.Name nx p) [a] [] pos) (tExc1 nf C ta) := by
  refine ⟨fun pins s σ H Q I h => ?_⟩
  refine wpAny_Call_Name_kw (ld_glob I hg T.gC ?_ hdb)
  refine PySem.W.callWith_K (h₀ := X.base) I.ok.mod.kin T.kC (thn (ha.run pos pins s σ H _ I h) fun us s1 hh => ?_) he hpl
  obtain ⟨vs, H1, I1, r1, v, ev, q1⟩ := hh
  subst ev
  refine ⟨I1.kIn, ?_⟩
  cases r1 with
  | cons rv rn =>
    rename_i v' us'
    cases rn
    show wpAny _ _ (call (.ref C) [v']) _ _ _
    have hlim := I1.nolimit
    obtain ⟨hp, g, dr, tk, os⟩ := s1
    exact wpAny_call (PySem.ExcT.low_made T I1.kIn hlim (by have := hr.dp; omega) fun h' tk' e d M => exc_end I1 M rv q1)
theorem pe_exc1k {a : Expr} {kpos : Pos} {te : TE} {p pos : Pos} {k : Nat} (T : XTxt X.K X.mg nx nf qi C fI) (NK : NameOkK nf qi) (hr : Room k X.A) (ha : PE X a te) (hg : Gl X nx) (hdb : (nx == ("__debug__" : Str)) = false := by decide)
    (hall : (backToKw pos (keywordEach [⟨some nf, a, kpos⟩] X.env)).all (·.1.isSome) = true := by rfl) (hks : (backToKw pos (keywordEach [⟨some nf, a, kpos⟩] X.env)).filterMap (·.1) = [nf] := by rfl)
    (hpl : ((backTo pos (starEach [] X.env)).any (·.1) || (backToKw pos (keywordEach [⟨some nf, a, kpos⟩] X.env)).any (·.1.isNone)) = false := by rfl) :
    PE X (.Call (.Name nx p) [] [⟨some nf, a, kpos⟩] pos) (tExc1 nf C (tCons te tNil)) := by
  refine ⟨fun pins s σ H Q I h => ?_⟩
  refine wpAny_Call_Name_kw (ld_glob I hg T.gC ?_ hdb)
  refine PySem.W.callWith_KW0 (h₀ := X.base) I.ok.mod.kin T.kC hall (thn ((pk_cons (nm := some nf) (kpos := kpos) ha pk_nil).run pos pins s σ H _ I h) fun us s1 hh => ?_) hpl
  obtain ⟨vs, H1, I1, r1, v, ev, q1⟩ := hh
  subst ev
  refine ⟨I1.kIn, ?_⟩
  rw [hks]
  cases r1 with
  | cons rv rn =>
    rename_i v' us'
    cases rn
    show wpAny _ _ (call (.ref C) [] [(nf, v')]) _ _ _
    have hlim := I1.nolimit
    obtain ⟨hp, g, dr, tk, os⟩ := s1
    exact wpAny_call (PySem.ExcT.made_G T (rest := []) (kws := [(nf, v')]) I1.kIn hlim (by have := hr.dp; omega) (by rw [sizeLine_eq]; exact Nat.zero_le _) (fun x doc pm an cdv ct p1 p2 q1 q2 q3 q4 => NK.bnd doc pm an cdv ct p1 p2 q1 q2 q3 q4 _ _) fun h' tk' e d M => exc_end I1 M rv q1)
def tExc0 (C : Addr) (ta : TE) : TE := fun σ H Q => ta σ H fun _ H1 => ∀ (oe : Obj) (a : Addr), H1 a = none → oe.cls = .ref C → oe.dict = none → (∃ ws, oe.data = .fields ws) → Q (.ref a) (upd H1 a (ExH oe))
theorem pe_exc0v {bmB : List Value} {B newId initId : String} {x : Str} {e : Expr} {ta : TE} {p pos : Pos} (F : ExcBaseFacts B newId initId bmB) (q : PySem.W.excIn X.K C bmB newId = true) (gC : X.mg x = some (.ref C)) (kC : PySem.W.keepIn X.K (.ref C) = true) (hg : Gl X x)
    (he : PE X e ta) (hs : starEach [e] X.env = (false, eval e X.env) :: starEach [] X.env := by rfl) (hdb : (x == ("__debug__" : Str)) = false := by decide) :
    PE X (.Call (.Name x p) [e] [] pos) (tExc0 C ta) := by
  refine ⟨fun pins s σ H Q I h => ?_⟩
  refine wpAny_Call_Name_kw (ld_glob I hg gC ?_ hdb)
  refine PySem.W.callWith_K (h₀ := X.base) I.ok.mod.kin kC ?_ hs (by rfl)
  rw [hs]
  show wpAny _ _ (spliced ((false, eval e X.env) :: backTo pos (starEach [] X.env))) _ _ s
  refine Calls.spliced_cons (thn (he.run pins s σ H _ I h) fun u s1 ⟨v, H1, I1, r1, q1⟩ => ?_)
  refine Calls.spliced_nil ⟨I1.kIn, ?_⟩
  show wpAny _ _ (call (.ref C) [u]) _ _ _
  obtain ⟨bm, N, nm, qn, bs, hdct, sn, sub, ab, col, dd, k0, k1, k2, k3, k5, mN, hC, hN, hni, T⟩ := exc_obj I1.kIn q
  refine wpAny_call_exc_subT F T hC hN hni (fun h' a hm => ?_) (by show 1 ≤ sizeLine; rw [sizeLine_eq]; omega)
  have hn : H1 a = none := I1.hok.gone hm.new
  obtain ⟨t, ht, _, _⟩ := hm.there
  have L := I1.laidN (o := ExH _) (t' := s1.toks) hm.keeps hm.new hn ⟨ht, _, ht⟩
  exact ⟨.ref a, _, L, rfl, q1 _ a hn rfl rfl ⟨_, rfl⟩⟩
end
end L2
namespace PySem
namespace ExcT
open Builtin Builtin.ObjectAttr PySem.HandSPX PySem.W PySem.Calls PyProof.Rows
def iA2 (f1 f2 : Str) (p1 p2 p3 : Pos) : Arguments := { posonlyargs := [], args := [{ arg := "self", annotation := none, pos := p1 }, { arg := f1, annotation := none, pos := p2 }, { arg := f2, annotation := none, pos := p3 }], vararg := none, kwonlyargs := [], kw_defaults := [], kwarg := none, defaults := [] }
def iB2 (f1 f2 : Str) (q1 q2 q3 q4 r1 r2 r3 r4 : Pos) : List Stmt := [.Assign [.Attribute (.Name "self" q1) f1 q2] (.Name f1 q3) q4, .Assign [.Attribute (.Name "self" r1) f2 r2] (.Name f2 r3) r4]
def iS2 (f1 f2 : Str) : Scope := { kind := .function, names := [(PySem.Str.ofString "self", .local), (f1, .local), (f2, .local)], isGenerator := false, isCoroutine := false, more := [] }
def bs2 (f1 f2 : Str) (u v1 v2 : Value) : List (Str × Value) := [(("self" : Str), u), (f1, v1), (f2, v2)]
structure NameOk2 (f1 f2 qi : Str) : Prop where
  bnd : ∀ (doc pm : Value) (an : Option Addr) (cdv ct : Value) (p1 p2 p3 q1 q2 q3 q4 r1 r2 r3 r4 : Pos) (u v1 v2 : Value), bindArgs (fnOf "__init__" qi (iA2 f1 f2 p1 p2 p3) (iB2 f1 f2 q1 q2 q3 q4 r1 r2 r3 r4) (iS2 f1 f2) .none .none doc pm an cdv ct) ⟨[u, v1, v2], []⟩ = pure (bs2 f1 f2 u v1 v2)
  bndk : ∀ (doc pm : Value) (an : Option Addr) (cdv ct : Value) (p1 p2 p3 q1 q2 q3 q4 r1 r2 r3 r4 : Pos) (u v1 v2 : Value), bindArgs (fnOf "__init__" qi (iA2 f1 f2 p1 p2 p3) (iB2 f1 f2 q1 q2 q3 q4 r1 r2 r3 r4) (iS2 f1 f2) .none .none doc pm an cdv ct) ⟨[u], [(f2, v2), (f1, v1)]⟩ = pure (bs2 f1 f2 u v1 v2)
  knd : ∀ u v1 v2 : Value, ((bs2 f1 f2 u v1 v2)).all (fun y => (iS2 f1 f2).names.lookup y.1 == some .local || (iS2 f1 f2).names.lookup y.1 == some .cell) = true
  loc1 : ∀ (L a : Addr) (cd : Value), (envOfC qi (iS2 f1 f2) L a cd).kindOf f1 = some .local
  loc2 : ∀ (L a : Addr) (cd : Value), (envOfC qi (iS2 f1 f2) L a cd).kindOf f2 = some .local
  slf : ∀ (L a : Addr) (cd : Value), (envOfC qi (iS2 f1 f2) L a cd).kindOf "self" = some .local
  dbg1 : (f1 == ("__debug__" : Str)) = false
  dbg2 : (f2 == ("__debug__" : Str)) = false
  val1 : ∀ (L a : Addr) (cd u v1 v2 : Value), bindL (envOfC qi (iS2 f1 f2) L a cd).kindOf (bs2 f1 f2 u v1 v2) (fun _ => none) f1 = some v1
  val2 : ∀ (L a : Addr) (cd u v1 v2 : Value), bindL (envOfC qi (iS2 f1 f2) L a cd).kindOf (bs2 f1 f2 u v1 v2) (fun _ => none) f2 = some v2
  sel : ∀ (L a : Addr) (cd u v1 v2 : Value), bindL (envOfC qi (iS2 f1 f2) L a cd).kindOf (bs2 f1 f2 u v1 v2) (fun _ => none) "self" = some u
structure XTxt2 (K : Frag) (mg : Str → Option Value) (nx f1 f2 qi : Str) (C fI : Addr) : Prop where
  nok : NameOk2 f1 f2 qi
  gC : mg nx = some (.ref C)
  cls : ∃ nm q N bs bm sn sub ab col dd k0 k1 k2 k3 k5 nw, K.lookup C = some (excClassObj nm q C N bs bm true sn sub ab col dd k0 k1 k2 k3 k5 nw) ∧ XTail nw bm ∧ refsVE (.ref C :: bm) = true
  sa : findIn K (.ref C) "__setattr__" = some (some (.builtin "object.__setattr__"))
  noN1 : findIn K (.ref C) f1 = some none
  noN2 : findIn K (.ref C) f2 = some none
  iC : findIn K (.ref C) "__init__" = some (some (.ref fI))
  tC : typeIn K (.ref fI) = some (.type "function")
  kC : keepIn K (.ref C) = true
  fn : ∃ (oc : Value) (od : Option Addr) (doc pm : Value) (an : Option Addr) (cdv ct : Value) (osl : Array (Option Value)) (p1 p2 p3 q1 q2 q3 q4 r1 r2 r3 r4 : Pos),
    K.lookup fI = some ⟨oc, od, .func (fnOf "__init__" qi (iA2 f1 f2 p1 p2 p3) (iB2 f1 f2 q1 q2 q3 q4 r1 r2 r3 r4) (iS2 f1 f2) .none .none doc pm an cdv ct), osl⟩ ∧ codeIn K cdv qi = true
def ns2 (f1 f2 : Str) (v1 v2 : Value) : Str → Option Value := fun y => if y = f2 then some v2 else (if y = f1 then some v1 else none)
structure InitEnd2 (f1 f2 : Str) (h h' : Heap) (x C dx t1 : Addr) (v1 v2 : Value) : Prop where
  keep : ∀ b o, b ≠ x → h.get? b = some o → h'.get? b = some o
  obj : h'.get? x = some { cls := .ref C, dict := some dx, data := .fields #[.ref t1, .none, .none, .none, .bool false, .none] }
  dbig : h.objs.size ≤ dx
  dne : dx ≠ x
  ns : h'.Ns1 dx (ns2 f1 f2 v1 v2)
structure OwnMade2 (f1 f2 : Str) (h h' : Heap) (e C d : Addr) (v1 v2 : Value) : Prop where
  keep : ∀ b o, h.get? b = some o → h'.get? b = some o
  new : h.objs.size ≤ e
  obj : ∃ oe vs, h'.get? e = some oe ∧ oe.cls = .ref C ∧ oe.dict = some d ∧ oe.data = .fields vs ∧ vs[1]? = some .none
  dbig : h.objs.size ≤ d
  dne : d ≠ e
  ns : h'.Ns1 d (ns2 f1 f2 v1 v2)
section
variable {prog : Program} {w : World} {A : Around} {E : Value → Shared → Prop} {R : Result → Shared → Prop} {s : Shared} {K : Frag} {mg : Str → Option Value} {nx f1 f2 qi : Str} {C fI : Addr}
theorem init_2 (T : XTxt2 K mg nx f1 f2 qi C fI) {args : Args} {x t0 : Addr} {v1 v2 : Value} (X : K.In s.heap) (hlim : s.heap.NoLimit) (hx : s.heap.get? x = some (excO C t0)) (hnx : K.lookup x = none) (hroom : A.depth < recursionLimit)
    (hbd : ∀ (doc pm : Value) (an : Option Addr) (cdv ct : Value) (p1 p2 p3 q1 q2 q3 q4 r1 r2 r3 r4 : Pos), bindArgs (fnOf "__init__" qi (iA2 f1 f2 p1 p2 p3) (iB2 f1 f2 q1 q2 q3 q4 r1 r2 r3 r4) (iS2 f1 f2) .none .none doc pm an cdv ct) args = pure (bs2 f1 f2 (.ref x) v1 v2))
    (hq : ∀ h' tk dx, InitEnd2 f1 f2 s.heap h' x C dx t0 v1 v2 → R (.ok (.ret .none)) { s with heap := h', toks := tk }) :
    codeAny (model prog w) A (.call (.ref fI) args) R s := by
  obtain ⟨oc, od, doc, pm, an, cdv, ct, osl, p1, p2, p3, q1, q2, q3, q4, r1, r2, r3, r4, ho, hcd⟩ := T.fn
  obtain ⟨nm, q, N, bs, bm, sn, sub, ab, col, dd, k0, k1, k2, k3, k5, nw, hC, hbm, hve⟩ := T.cls
  have hcl : clsIn K C = some { name := nm, bases := bs, mro := .ref C :: bm, ns := N, qualname := q, hasDict := true, slotNames := sn, subclasses := sub, abstract := ab, collection := col, hasDel := false } := by unfold clsIn; rw [hC] <;> rfl
  refine Att.call_fn (binds := bs2 f1 f2 (.ref x) v1 v2) X hlim ho hcd hroom (BindsTo.of_eq (hbd _ _ _ _ _ _ _ _ _ _ _ _ _ _ _ _)) (T.nok.knd _ _ _) (fun s₁ IC => ?_) rfl rfl rfl
  obtain ⟨h₁, tk₁, rfl⟩ := IC.toInCall.same
  have k : ∀ b o, s.heap.get? b = some o → h₁.get? b = some o := IC.toInCall.keep
  have hn := IC.toInCall.ns
  have hxL : s.heap.objs.size ≠ x := Nat.ne_of_gt (Heap.lt_size hx)
  have X₁ : K.In h₁ := X.keeps k
  have hx₁ := k _ _ hx
  show wpAny _ _ (execs _ _) _ _ _
  refine wpAny_execs_cons (plainObj_wpAny_Assign_Attribute ?_)
  refine ldC (v := v1) hn (T.nok.val1 _ _ _ _ _ _) (ldC (v := .ref x) hn (T.nok.sel _ _ _ _ _ _) ?_ rfl (T.nok.slf _ _ _) (by decide)) rfl (T.nok.loc1 _ _ _) T.nok.dbg1
  refine set_plain X₁ (ox := excO C t0) (od := none) ⟨hx₁, rfl, rfl, trivial⟩ T.sa ?_
  refine exc_osaT X₁ hx₁ hcl (show (Value.ref C :: bm).isEmpty = false from rfl) (by rw [show (Value.ref C :: bm).contains (.type "object") = ((Value.type "object" == Value.ref C) || bm.contains (.type "object")) from List.contains_cons, hbm.ob, Bool.or_true]) (fun self => by rw [refuseLoop_ref]; exact hbm.pass self) rfl T.noN1 (fun h₃ tk₃ dx k₃ dn dne hx₃ hn₃ => ?_)
  have z : s.heap.objs.size < h₁.objs.size := hn.lt
  have X₃ : K.In h₃ := kept_but X₁ hnx k₃
  have hn' := hn.at (fun o q => k₃ _ _ hxL q)
  obtain ⟨oD, hoD, hlD⟩ := L2.lookIn_ns hn₃
  refine wpAny_execs_cons (plainObj_wpAny_Assign_Attribute ?_)
  refine ldC (v := v2) hn' (T.nok.val2 _ _ _ _ _ _) (ldC (v := .ref x) hn' (T.nok.sel _ _ _ _ _ _) ?_ rfl (T.nok.slf _ _ _) (by decide)) rfl (T.nok.loc2 _ _ _) T.nok.dbg2
  refine set_plain X₃ (od := some oD) ⟨hx₃, rfl, rfl, hoD⟩ T.sa ?_
  refine PySem.OEX.osa_old (nl := [f1]) X₃ hx₃ hn₃ (fun y hy => ?_) (show 1 ≤ 1000 by decide) hcl hve rfl T.noN2 (fun h₄ tk₄ k₄ hn₄ => ?_)
  · by_cases e : y = f1
    · rw [e]; exact List.mem_singleton.mpr rfl
    · rw [if_neg e] at hy
      exact absurd rfl hy
  · show wpAny _ _ (execs _ _) _ _ _
    exact wpAny_execs_nil (hq h₄ tk₄ dx ⟨fun b o hb e => k₄ b o (fun zz => by
      have h0 := Heap.lt_size e
      rw [zz] at h0
      exact absurd (Nat.lt_of_lt_of_le (Nat.lt_trans h0 z) dn) (Nat.lt_irrefl _)) (k₃ b o hb (k b o e)), k₄ _ _ (Ne.symm dne) hx₃, Nat.le_of_lt (Nat.lt_of_lt_of_le z dn), dne, hn₄⟩)
theorem made_2 (T : XTxt2 K mg nx f1 f2 qi C fI) {rest : List Value} {kws : List (Str × Value)} {v1 v2 : Value} (X : K.In s.heap) (hlim : s.heap.NoLimit) (hroom : A.depth + 1 < recursionLimit) (hrest : rest.length ≤ sizeLine)
    (hbd : ∀ (x : Addr) (doc pm : Value) (an : Option Addr) (cdv ct : Value) (p1 p2 p3 q1 q2 q3 q4 r1 r2 r3 r4 : Pos), bindArgs (fnOf "__init__" qi (iA2 f1 f2 p1 p2 p3) (iB2 f1 f2 q1 q2 q3 q4 r1 r2 r3 r4) (iS2 f1 f2) .none .none doc pm an cdv ct) ⟨.ref x :: rest, kws⟩ = pure (bs2 f1 f2 (.ref x) v1 v2))
    (hq : ∀ h' tk e d, OwnMade2 f1 f2 s.heap h' e C d v1 v2 → R (.ok (.ret (.ref e))) { s with heap := h', toks := tk }) :
    codeAny (model prog w) A (.call (.ref C) ⟨rest, kws⟩) R s := by
  obtain ⟨nm, q, N, bs, bm, sn, sub, ab, col, dd, k0, k1, k2, k3, k5, nw, hC, hbm, _⟩ := T.cls
  obtain ⟨hp, g, dr, tk, os⟩ := s
  have k : ∀ b o, hp.get? b = some o → ((hp.push (kdv_tup rest)).push (excO C hp.objs.size)).get? b = some o := fun b o e => Heap.get?_push_of_some _ (Heap.get?_push_of_some _ e)
  have hget : ((hp.push (kdv_tup rest)).push (excO C hp.objs.size)).get? (hp.objs.size + 1) = some (excO C hp.objs.size) := by heap_get
  have hnx : K.lookup (hp.objs.size + 1) = none := by
    cases e : K.lookup (hp.objs.size + 1) with
    | none => rfl
    | some o =>
      have z : hp.get? (hp.objs.size + 1) = some o := X _ _ e
      exact absurd (Nat.lt_of_succ_lt (Heap.lt_size z)) (Nat.lt_irrefl _)
  obtain ⟨B, ini, tl, hF, hcont⟩ := hbm.ex
  refine call_own_kw hF hcont (X _ _ hC) (looks_findIn X T.iC) (fun self => bind_fn X self T.tC) hrest ?_
  refine init_2 (s := ⟨(hp.push (kdv_tup rest)).push (excO C hp.objs.size), g, dr, tk, os⟩) T (X.keeps k) (hlim.keeps k) hget hnx ?_ (hbd _) fun h' tk' dx ⟨k', hx, dn, dne, hns⟩ => ?_
  · show A.depth + 1 < recursionLimit
    exact hroom
  · have old : ∀ b o, hp.get? b = some o → h'.get? b = some o := fun b o e => k' b o (Nat.ne_of_lt (Nat.lt_succ_of_lt (Heap.lt_size e))) (k b o e)
    have z : hp.objs.size + 1 + 1 ≤ dx := by
      first
        | (simpa only [Heap.size_push] using dn)
        | exact dn
        | (have q := dn; rw [Heap.size_push, Heap.size_push] at q; exact q)
    exact ⟨rfl, hq h' tk' (hp.objs.size + 1) dx ⟨old, Nat.le_succ _, ⟨_, _, hx, rfl, rfl, rfl, rfl⟩, Nat.le_trans (Nat.le_trans (Nat.le_succ _) (Nat.le_succ _)) z, dne, hns⟩⟩
end
end ExcT
end PySem
namespace L2
open PySem PySem.Spec PyProof.Rows PySem.ExcT
section
variable {X : Cx} {nx f1 f2 qi : Str} {C fI : Addr}
def tExc2 (f1 f2 : Str) (C : Addr) (ta : TA) : TE := fun σ H Q => ta σ H fun vs H1 => ∃ v1 v2, vs = [v1, v2] ∧ ∀ (oe : Obj) (e d : Addr), H1 e = none → H1 d = none → d ≠ e → oe.cls = .ref C → oe.dict = some d → (∃ ws, oe.data = .fields ws) → Q (.ref e) (upd (upd H1 d (.xd [(f2, v2), (f1, v1)])) e (ExH oe))
def tExc2k (f1 f2 : Str) (C : Addr) (ta : TA) : TE := fun σ H Q => ta σ H fun vs H1 => ∃ v1 v2, vs = [v2, v1] ∧ ∀ (oe : Obj) (e d : Addr), H1 e = none → H1 d = none → d ≠ e → oe.cls = .ref C → oe.dict = some d → (∃ ws, oe.data = .fields ws) → Q (.ref e) (upd (upd H1 d (.xd [(f2, v2), (f1, v1)])) e (ExH oe))
theorem relO_two {v1 v2 : V} {u1 u2 : Value} (r1 : RelV v1 u1) (r2 : RelV v2 u2) (f : Str) : RelO (List.lookup f [(f2, v2), (f1, v1)]) (ns2 f1 f2 u1 u2 f) := by
  unfold ns2
  by_cases hw : f = f2
  · subst hw
    rw [if_pos rfl]
    have q : List.lookup f [(f, v2), (f1, v1)] = some v2 := by simp [List.lookup]
    rw [q]
    exact r2
  · rw [if_neg hw]
    have qw : (f == f2) = false := by simpa using hw
    have q2 : List.lookup f [(f2, v2), (f1, v1)] = List.lookup f [(f1, v1)] := by simp [List.lookup, qw]
    rw [q2]
    exact relO_low r1 f
theorem exc_end2 {pins : List (Addr × Obj)} {σ : St} {H1 : Hp} {Q : VK} {hp h' : Heap} {g : Array GenState} {dr : Drawn} {tk tk' : Nat} {os : OsState} {v1 v2 : V} {u1 u2 : Value} {e d : Addr} (I1 : Inv X pins σ H1 ⟨hp, g, dr, tk, os⟩) (M : OwnMade2 f1 f2 hp h' e C d u1 u2) (r1 : RelV v1 u1) (r2 : RelV v2 u2)
    (q1 : ∀ (oe : Obj) (e d : Addr), H1 e = none → H1 d = none → d ≠ e → oe.cls = .ref C → oe.dict = some d → (∃ ws, oe.data = .fields ws) → Q (.ref e) (upd (upd H1 d (.xd [(f2, v2), (f1, v1)])) e (ExH oe))) : EP X pins σ Q (.ref e) ⟨h', g, dr, tk', os⟩ := by
  obtain ⟨oe, fv, hoe, hc, hd, hdat, h1⟩ := M.obj
  have hns := M.ns
  obtain ⟨G', g1, g2⟩ := restrict h' fun b => decide (b ≠ e)
  have gk : ∀ b, b ≠ e → G'.get? b = h'.get? b := fun b hb => g1 b (decide_eq_true hb)
  have ge : G'.get? e = none := g2 e (by simp)
  have old : ∀ b o, hp.get? b = some o → G'.get? b = some o := fun b o q => (gk b (Nat.ne_of_lt (Nat.lt_of_lt_of_le (Heap.lt_size q) M.new))).trans (M.keep b o q)
  have ob : ObjOk X.prog X.w (upd H1 d (.xd [(f2, v2), (f1, v1)])) G' d (.xd [(f2, v2), (f1, v1)]) :=
    ⟨_, hns.at (fun o q => (gk d M.dne).trans q), fun f => relO_two r1 r2 f⟩
  have J : Inv X pins σ (upd H1 d (.xd [(f2, v2), (f1, v1)])) ⟨G', g, dr, tk', os⟩ := I1.laid (t' := tk') old M.dbig ob
  have he : H1 e = none := I1.hok.fresh M.new
  have hdn : H1 d = none := I1.hok.fresh M.dbig
  have L := J.laidN (h' := h') (a := e) (o := ExH oe) (t' := tk') (fun b u q => by
    by_cases hb : b = e
    · have q' : G'.get? b = some u := q
      rw [hb, ge] at q'; cases q'
    · exact (gk b hb).symm.trans q) ge (by rw [upd_ne (Ne.symm M.dne)]; exact he) ⟨hoe, oe, hoe⟩
  exact ⟨.ref e, _, L, rfl, q1 oe e d he hdn M.dne hc hd ⟨_, hdat⟩⟩
theorem pe_exc2v {a b : Expr} {ta : TA} {p pos : Pos} {k : Nat} (T : XTxt2 X.K X.mg nx f1 f2 qi C fI) (hr : Room k X.A) (ha : PA X [a, b] ta) (hg : Gl X nx) (hdb : (nx == ("__debug__" : Str)) = false := by decide)
    (he : starEach (a :: [b]) X.env = (false, eval a X.env) :: starEach [b] X.env := by rfl) (hpl : (backTo pos (starEach [b] X.env)).any (·.1) = false := by rfl) :
    PE X (.Call (.Name nx p) [a, b] [] pos) (tExc2 f1 f2 C ta) := by
  refine ⟨fun pins s σ H Q I h => ?_⟩
  refine wpAny_Call_Name_kw (ld_glob I hg T.gC ?_ hdb)
  refine PySem.W.callWith_K (h₀ := X.base) I.ok.mod.kin T.kC (thn (ha.run pos pins s σ H _ I h) fun us s1 hh => ?_) he hpl
  obtain ⟨vs, H1, I1, r1, v1, v2, ev, q1⟩ := hh
  subst ev
  refine ⟨I1.kIn, ?_⟩
  cases r1 with
  | cons rv rn =>
    rename_i w1 us'
    cases rn with
    | cons rw rn =>
      rename_i w2 us''
      cases rn
      show wpAny _ _ (call (.ref C) [w1, w2]) _ _ _
      have hlim := I1.nolimit
      obtain ⟨hp, g, dr, tk, os⟩ := s1
      exact wpAny_call (PySem.ExcT.made_2 T (rest := [w1, w2]) (kws := []) I1.kIn hlim (by have := hr.dp; omega) (by rw [sizeLine_eq]; show 2 ≤ 16777216; decide) (fun x doc pm an cdv ct p1 p2 p3 q1 q2 q3 q4 r1 r2 r3 r4 => T.nok.bnd doc pm an cdv ct p1 p2 p3 q1 q2 q3 q4 r1 r2 r3 r4 _ _ _) fun h' tk' e d M => exc_end2 I1 M rv rw q1)
theorem pe_exc2k {a b : Expr} {ka kb : Pos} {te tf : TE} {p pos : Pos} {k : Nat} (T : XTxt2 X.K X.mg nx f1 f2 qi C fI) (hr : Room k X.A) (ha : PE X a te) (hb : PE X b tf) (hg : Gl X nx) (hdb : (nx == ("__debug__" : Str)) = false := by decide)
    (hall : (backToKw pos (keywordEach [⟨some f2, a, ka⟩, ⟨some f1, b, kb⟩] X.env)).all (·.1.isSome) = true := by rfl) (hks : (backToKw pos (keywordEach [⟨some f2, a, ka⟩, ⟨some f1, b, kb⟩] X.env)).filterMap (·.1) = [f2, f1] := by rfl)
    (hpl : ((backTo pos (starEach [] X.env)).any (·.1) || (backToKw pos (keywordEach [⟨some f2, a, ka⟩, ⟨some f1, b, kb⟩] X.env)).any (·.1.isNone)) = false := by rfl) :
    PE X (.Call (.Name nx p) [] [⟨some f2, a, ka⟩, ⟨some f1, b, kb⟩] pos) (tExc2k f1 f2 C (tCons te (tCons tf tNil))) := by
  refine ⟨fun pins s σ H Q I h => ?_⟩
  refine wpAny_Call_Name_kw (ld_glob I hg T.gC ?_ hdb)
  refine PySem.W.callWith_KW0 (h₀ := X.base) I.ok.mod.kin T.kC hall (thn ((pk_cons (nm := some f2) (kpos := ka) ha (pk_cons (nm := some f1) (kpos := kb) hb pk_nil)).run pos pins s σ H _ I h) fun us s1 hh => ?_) hpl
  obtain ⟨vs, H1, I1, r1, v1, v2, ev, q1⟩ := hh
  subst ev
  refine ⟨I1.kIn, ?_⟩
  rw [hks]
  cases r1 with
  | cons rv rn =>
    rename_i w2 us'
    cases rn with
    | cons rw rn =>
      rename_i w1 us''
      cases rn
      show wpAny _ _ (call (.ref C) [] [(f2, w2), (f1, w1)]) _ _ _
      have hlim := I1.nolimit
      obtain ⟨hp, g, dr, tk, os⟩ := s1
      exact wpAny_call (PySem.ExcT.made_2 T (rest := []) (kws := [(f2, w2), (f1, w1)]) I1.kIn hlim (by have := hr.dp; omega) (by rw [sizeLine_eq]; exact Nat.zero_le _) (fun x doc pm an cdv ct p1 p2 p3 q1 q2 q3 q4 r1 r2 r3 r4 => T.nok.bndk doc pm an cdv ct p1 p2 p3 q1 q2 q3 q4 r1 r2 r3 r4 _ _ _) fun h' tk' e d M => exc_end2 I1 M rw rv q1)
end
end L2
namespace OF
open PySem PySem.Spec PyProof.Rows L2 PySem.ExcT
section
variable {X : Cx} {G : Gx} {pos : Pos}
theorem push_exc {K : PySem.W.Frag} {m : Mp} {H : Hp} {S : Sto} {c : Str} {C e d : Addr} {oe : Obj} {fs : List (Str × U)} {xs : List (Str × V)} (st : Rst K G m H S) (he : H e = none) (hd : H d = none) (ne : d ≠ e) (h1 : oe.cls = .ref C) (h2 : oe.dict = some d) (h3 : ∃ ws, oe.data = .fields ws) (hG : G.cls c = some C) (r : RFs K G m H fs xs) :
    Ext m H ⟨m.c ++ [e], m.x⟩ (upd (upd H d (.xd xs)) e (ExH oe)) ∧ Rst K G ⟨m.c ++ [e], m.x⟩ (upd (upd H d (.xd xs)) e (ExH oe)) (S ++ [.exc c fs]) ∧ RU K G ⟨m.c ++ [e], m.x⟩ (upd (upd H d (.xd xs)) e (ExH oe)) (.ref S.length) (.ref e) := by
  have st1 : Rst K G m (upd H d (.xd xs)) S := st.new hd
  have x1 : Ext m H m (upd H d (.xd xs)) := Ext.upd hd
  have r1 : RFs K G m (upd H d (.xd xs)) fs xs := RFs.keep x1.keeps _ _ r
  have he' : upd H d (.xd xs) e = none := by rw [upd_ne (Ne.symm ne)]; exact he
  have hdc : d ∉ m.c := fun z => st1.nt z (.x _) upd_same
  have hdx : d ∉ m.x := fun z => st1.tx d z (.x _) upd_same
  have xc : Ext m (upd H d (.xd xs)) ⟨m.c ++ [e], m.x⟩ (upd (upd H d (.xd xs)) e (ExH oe)) := Ext.cell he'
  have r0 : RO K G m (upd H d (.xd xs)) (.exc c fs) (ExH oe) := ⟨oe, C, some d, rfl, h1, h2, h3, hG, .inr ⟨d, xs, rfl, upd_same, hdc, hdx, r1⟩⟩
  exact ⟨x1.trans xc, st1.push he' (RO.keep xc.keeps _ _ r0), RU.cell (by rw [← st1.len]; simp)⟩
theorem push_exc0 {K : PySem.W.Frag} {m : Mp} {H : Hp} {S : Sto} {c : Str} {C e : Addr} {oe : Obj} (st : Rst K G m H S) (he : H e = none) (h1 : oe.cls = .ref C) (h2 : oe.dict = none) (h3 : ∃ ws, oe.data = .fields ws) (hG : G.cls c = some C) :
    Ext m H ⟨m.c ++ [e], m.x⟩ (upd H e (ExH oe)) ∧ Rst K G ⟨m.c ++ [e], m.x⟩ (upd H e (ExH oe)) (S ++ [.exc c []]) ∧ RU K G ⟨m.c ++ [e], m.x⟩ (upd H e (ExH oe)) (.ref S.length) (.ref e) := by
  have xc : Ext m H ⟨m.c ++ [e], m.x⟩ (upd H e (ExH oe)) := Ext.cell he
  have r0 : RO K G m H (.exc c []) (ExH oe) := ⟨oe, C, none, rfl, h1, h2, h3, hG, .inl ⟨rfl, rfl⟩⟩
  exact ⟨xc, st.push he (RO.keep xc.keeps _ _ r0), RU.cell (by rw [← st.len]; simp)⟩
def cExc1 (c f : Str) (a : Cm U) : Cm U := fun env S => match a env S with
  | some (u, S1) => some (.ref S1.length, S1 ++ [.exc c [(f, u)]])
  | none => none
def cExc0 (c : Str) (a : Cm U) : Cm U := fun env S => match a env S with
  | some (_, S1) => some (.ref S1.length, S1 ++ [.exc c []])
  | none => none
def cExc2 (c f1 f2 : Str) (a : Cm (List U)) : Cm U := fun env S => match a env S with
  | some ([u1, u2], S1) => some (.ref S1.length, S1 ++ [.exc c [(f2, u2), (f1, u1)]])
  | _ => none
def cExc2k (c f1 f2 : Str) (a : Cm (List U)) : Cm U := fun env S => match a env S with
  | some ([u2, u1], S1) => some (.ref S1.length, S1 ++ [.exc c [(f2, u2), (f1, u1)]])
  | _ => none
theorem ee_exc1 {c nf qi : Str} {C fI : Addr} {e : Expr} {ce : Cm U} {p : Pos} {k : Nat} (T : XTxt X.K X.mg c nf qi C fI) (hG : G.cls c = some C) (hr : Room k X.A) (he : EE G X e ce) (hg : Gl X c) (hdb : (c == ("__debug__" : Str)) = false := by decide)
    (hst : starEach (e :: []) X.env = (false, eval e X.env) :: starEach [] X.env := by rfl) (hpl : (backTo pos (starEach [] X.env)).any (·.1) = false := by rfl) :
    EE G X (.Call (.Name c p) [e] [] pos) (cExc1 c nf ce) := (pe_exc1v T hr (pa_cons he pa_nil (hs := hst)) hg hdb hst hpl).imp fun σ H Q ⟨m, S, env, z, S', st, re, hc, q⟩ => by
  unfold cExc1 at hc
  split at hc
  · rename_i u S1 e1
    cases hc
    refine ⟨m, S, _, u, S1, st, re, e1, fun m1 H1 v x1 st1 r1 => ⟨v, rfl, fun oe a d ha hd ne h1 h2 h3 => ?_⟩⟩
    obtain ⟨x2, st2, r2⟩ := push_exc st1 ha hd ne h1 h2 h3 hG (fs := [(nf, u)]) (xs := [(nf, v)]) ⟨v, [], rfl, r1, rfl⟩
    exact q _ _ _ (x1.trans x2) st2 r2
  · cases hc
theorem ee_exc1k {c nf qi : Str} {C fI : Addr} {e : Expr} {ce : Cm U} {p kp : Pos} {k : Nat} (T : XTxt X.K X.mg c nf qi C fI) (NK : NameOkK nf qi) (hG : G.cls c = some C) (hr : Room k X.A) (he : EE G X e ce) (hg : Gl X c) (hdb : (c == ("__debug__" : Str)) = false := by decide)
    (hall : (backToKw pos (keywordEach [⟨some nf, e, kp⟩] X.env)).all (·.1.isSome) = true := by rfl) (hks : (backToKw pos (keywordEach [⟨some nf, e, kp⟩] X.env)).filterMap (·.1) = [nf] := by rfl)
    (hpl : ((backTo pos (starEach [] X.env)).any (·.1) || (backToKw pos (keywordEach [⟨some nf, e, kp⟩] X.env)).any (·.1.isNone)) = false := by rfl) :
    EE G X (.Call (.Name c p) [] [⟨some nf, e, kp⟩] pos) (cExc1 c nf ce) := (pe_exc1k T NK hr he hg hdb hall hks hpl).imp fun σ H Q ⟨m, S, env, z, S', st, re, hc, q⟩ => by
  unfold cExc1 at hc
  split at hc
  · rename_i u S1 e1
    cases hc
    refine ⟨m, S, _, u, S1, st, re, e1, fun m1 H1 v x1 st1 r1 => ⟨v, rfl, fun oe a d ha hd ne h1 h2 h3 => ?_⟩⟩
    obtain ⟨x2, st2, r2⟩ := push_exc st1 ha hd ne h1 h2 h3 hG (fs := [(nf, u)]) (xs := [(nf, v)]) ⟨v, [], rfl, r1, rfl⟩
    exact q _ _ _ (x1.trans x2) st2 r2
  · cases hc
theorem ee_exc0 {bmB : List Value} {B newId initId : String} {c : Str} {C : Addr} {e : Expr} {ce : Cm U} {p : Pos} (F : ExcBaseFacts B newId initId bmB) (q : PySem.W.excIn X.K C bmB newId = true) (gC : X.mg c = some (.ref C)) (kC : PySem.W.keepIn X.K (.ref C) = true) (hG : G.cls c = some C) (he : EE G X e ce) (hg : Gl X c)
    (hs : starEach [e] X.env = (false, eval e X.env) :: starEach [] X.env := by rfl) (hdb : (c == ("__debug__" : Str)) = false := by decide) :
    EE G X (.Call (.Name c p) [e] [] pos) (cExc0 c ce) := (pe_exc0v F q gC kC hg he hs hdb).imp fun σ H Q ⟨m, S, env, z, S', st, re, hc, q⟩ => by
  unfold cExc0 at hc
  split at hc
  · rename_i u S1 e1
    cases hc
    refine ⟨m, S, _, u, S1, st, re, e1, fun m1 H1 v x1 st1 r1 => fun oe a ha h1 h2 h3 => ?_⟩
    obtain ⟨x2, st2, r2⟩ := push_exc0 st1 ha h1 h2 h3 hG
    exact q _ _ _ (x1.trans x2) st2 r2
  · cases hc
theorem ee_exc2 {c f1 f2 qi : Str} {C fI : Addr} {a b : Expr} {cl : Cm (List U)} {p : Pos} {k : Nat} (T : XTxt2 X.K X.mg c f1 f2 qi C fI) (hG : G.cls c = some C) (hr : Room k X.A) (ha : EA G X [a, b] cl) (hg : Gl X c) (hdb : (c == ("__debug__" : Str)) = false := by decide)
    (hst : starEach (a :: [b]) X.env = (false, eval a X.env) :: starEach [b] X.env := by rfl) (hpl : (backTo pos (starEach [b] X.env)).any (·.1) = false := by rfl) :
    EE G X (.Call (.Name c p) [a, b] [] pos) (cExc2 c f1 f2 cl) := (pe_exc2v T hr ha hg hdb hst hpl).imp fun σ H Q ⟨m, S, env, z, S', st, re, hc, q⟩ => by
  unfold cExc2 at hc
  split at hc
  · rename_i u1 u2 S1 e1
    cases hc
    refine ⟨m, S, _, _, S1, st, re, e1, fun m1 H1 vs x1 st1 r1 => ?_⟩
    obtain ⟨v1, r, ev, rv, rr⟩ := r1.uncons
    obtain ⟨v2, r2, ev2, rv2, rr2⟩ := rr.uncons
    have := rr2.eqnil
    subst this
    subst ev2
    subst ev
    refine ⟨v1, v2, rfl, fun oe a d ha hd ne h1 h2 h3 => ?_⟩
    obtain ⟨x2, st2, r2⟩ := push_exc st1 ha hd ne h1 h2 h3 hG (fs := [(f2, u2), (f1, u1)]) (xs := [(f2, v2), (f1, v1)]) ⟨v2, [(f1, v1)], rfl, rv2, ⟨v1, [], rfl, rv, rfl⟩⟩
    exact q _ _ _ (x1.trans x2) st2 r2
  · cases hc
theorem ee_exc2k {c f1 f2 qi : Str} {C fI : Addr} {a b : Expr} {ca cb : Cm U} {p ka kb : Pos} {k : Nat} (T : XTxt2 X.K X.mg c f1 f2 qi C fI) (hG : G.cls c = some C) (hr : Room k X.A) (ha : EE G X a ca) (hb : EE G X b cb) (hg : Gl X c) (hdb : (c == ("__debug__" : Str)) = false := by decide)
    (hall : (backToKw pos (keywordEach [⟨some f2, a, ka⟩, ⟨some f1, b, kb⟩] X.env)).all (·.1.isSome) = true := by rfl) (hks : (backToKw pos (keywordEach [⟨some f2, a, ka⟩, ⟨some f1, b, kb⟩] X.env)).filterMap (·.1) = [f2, f1] := by rfl)
    (hpl : ((backTo pos (starEach [] X.env)).any (·.1) || (backToKw pos (keywordEach [⟨some f2, a, ka⟩, ⟨some f1, b, kb⟩] X.env)).any (·.1.isNone)) = false := by rfl) :
    EE G X (.Call (.Name c p) [] [⟨some f2, a, ka⟩, ⟨some f1, b, kb⟩] pos) (cExc2k c f1 f2 (cCons ca (cCons cb cNil))) := (pe_exc2k T hr ha hb hg hdb hall hks hpl).imp fun σ H Q ⟨m, S, env, z, S', st, re, hc, q⟩ => by
  unfold cExc2k cCons cNil at hc
  cases e1 : ca env S with
  | none => rw [e1] at hc; cases hc
  | some p1 =>
    obtain ⟨u2, S1⟩ := p1
    rw [e1] at hc
    dsimp only at hc
    cases e2 : cb env S1 with
    | none => rw [e2] at hc; cases hc
    | some p2 =>
      obtain ⟨u1, S2⟩ := p2
      rw [e2] at hc
      cases hc
      refine ⟨m, S, env, u2, S1, st, re, e1, fun m1 H1 v2 x1 st1 r2 => ⟨m1, S1, env, u1, S2, st1, re.keep x1.keeps, e2, fun m2 H2 v1 x2 st2 r1 => ⟨v1, v2, rfl, fun oe a d ha hd ne h1 h2 h3 => ?_⟩⟩⟩
      obtain ⟨x3, st3, r3⟩ := push_exc st2 ha hd ne h1 h2 h3 hG (fs := [(f2, u2), (f1, u1)]) (xs := [(f2, v2), (f1, v1)]) ⟨v2, [(f1, v1)], rfl, RU.keep x2.keeps _ _ r2, ⟨v1, [], rfl, r1, rfl⟩⟩
      exact q _ _ _ ((x1.trans x2).trans x3) st3 r3
theorem ee_isxB {a : Expr} {ca : Cm U} {p : Pos} {L T : List Str} {xT : Str} {nT : String} {pT : Pos} (hg : Gl X "isinstance") (hm : X.mg "isinstance" = none) (hgT : Gl X xT) (hmT : X.mg xT = none) (hbT : bootBuiltins xT = some (.type nT))
    (hC : ∀ k C, L.contains k = true → G.cls k = some C → ExcC X.K C ∧ PySem.W.kitOne X.K (.ref C) (.type nT) = some (T.contains k)) (ha : EE G X a ca) (hnn : xT ≠ "__name__" := by decide) (hdT : (xT == ("__debug__" : Str)) = false := by decide)
    (he : starEach [a, .Name xT pT] X.env = (false, eval a X.env) :: starEach [.Name xT pT] X.env := by rfl) (he2 : starEach [.Name xT pT] X.env = (false, eval (.Name xT pT) X.env) :: starEach [] X.env := by rfl) (hpl : (backTo pos (starEach [.Name xT pT] X.env)).any (·.1) = false := by rfl) :
    EE G X (.Call (.Name "isinstance" p) [a, .Name xT pT] [] pos) (cIsX L T ca) :=
  (pe_callB call_isX hg hm (by decide +kernel) (pa_cons ha (pa_cons (pe_bltn (v := .ty nT) hgT hmT hbT rfl hnn hdT) pa_nil he2) he) (he := he) (hpl := hpl)).imp fun σ H Q ⟨m, S, env, z, S', st, re, hc, q⟩ => by
    unfold cIsX at hc
    split at hc
    · rename_i n S1 e1
      split at hc
      · rename_i k fs e2
        split at hc
        · rename_i hk
          cases hc
          refine ⟨m, S, _, .ref n, _, st, re, e1, fun m1 H1 v x1 st1 r1 => ?_⟩
          obtain ⟨b, ho, hb, hH, oe, C', d, rfl, hcl, hdi, hda, hC', rf⟩ := st1.at e2
          unfold RU at r1
          obtain ⟨a', rfl, ha'⟩ := r1
          rw [hb] at ha'; cases ha'
          obtain ⟨h1, h2⟩ := hC k C' hk hC'
          refine ⟨b, oe, C', .ty nT, .type nT, _, rfl, hH, hcl, hda, ?_, h1, fun u r => r, h2, q m1 H1 _ x1 st1 rfl⟩
          rcases rf with ⟨h0, _⟩ | ⟨dx, vs, hd, hx, _, _, _⟩
          · exact .inl (hdi.trans h0)
          · exact .inr ⟨dx, vs, hdi.trans hd, hx⟩
        · cases hc
      · cases hc
    · cases hc
end
end OF
namespace OF
open PySem PySem.Spec PyProof.Rows L2 PySem.ExcT
section
variable {X : Cx} {G : Gx} {pos : Pos}
def shRet (lab nf : Str) (i : Nat) : Str → Str → U → Sm := fun _ f u env S => if f = nf ∧ i < env.length then some (.ret (.tup [.str lab, u]), env, S) else none
theorem suite_ret {c nf qi lab : Str} {C fI : Addr} {i j kk : Nat} {n : Str} {p0 p2 p3 p4 pos2 : Pos} (T : XTxt X.K X.mg c nf qi C fI) (hG : G.cls c = some C) (hi : X.N[i]? = some n) (hv : Vis X.env.scope n)
    (hb : attributeBase (.Name n p2) nf X.env (eval (.Name n p2) X.env) = eval (.Name n p2) X.env := by rfl)
    (hd : (n == ("__debug__" : Str)) = false := by decide) (hcd : (n == ("__classdict__" : Str)) = false := by decide) :
    SuiteOk G X [c] i [.Return (some (.Tuple [.Constant (.str lab) j p0, .Attribute (.Name n p2) nf p3] kk p4)) pos2] (shRet lab nf i) (fun a cls d => tRet (tTup (tCons (tC (.str lab)) (tCons (tByLow nf C a cls d (tVar i)) tNil)))) where
  run a oe cls d pn hz hf := pss_one (ps_ret (pe_tup (pa_cons pe_str (pa_cons (pe_byLow T hz hf (pe_var (X := X.suite a ((a, oe) :: pn)) hi hv hd hcd) hb) pa_nil))))
  ok c' f u C' dd v a m0 H S env σ D fl env' S' hL hG' st re r hdd ha hsh q := by
    unfold shRet at hsh
    split at hsh
    · rename_i hl
      obtain ⟨h1, h2⟩ := hl
      cases hsh
      subst h1
      have ec : c' = c := by simpa using hL
      subst ec
      rw [hG] at hG'
      cases hG'
      refine ⟨.ref a, by rw [List.getElem?_set_self (by rw [← re.1]; exact h2)], rfl, rfl, dd, v, rfl, hdd, ?_⟩
      refine ⟨le_size _ (show 2 < 16777217 by decide), fun p hp => ?_⟩
      exact q m0 _ _ (Ext.upd hp) (st.new hp) (RU.newTup st hp (RUs.cons (show RU X.K G m0 H (.str lab) (.str lab) from rfl) (RUs.one r)))
    · cases hsh
def sTryE (l : List (List Str × (Str → Str → U → Sm))) (sx : SmX) : Sm := fun env S => match sx env S with
  | some (.fl f, e, S1) => some (f, e, S1)
  | some (.exc c f u, e, S1) => (match l.find? fun q => q.1.contains c with
    | some q => q.2 c f u e S1
    | none => none)
  | none => none
inductive EachS (G : Gx) (X : Cx) (A : List Str) (i : Nat) (n : Str) : List ExceptHandler → List (Value × (Addr → Value → Option Addr → TS)) → List (List Str × (Str → Str → U → Sm)) → Prop
  | nil : EachS G X A i n [] [] []
  | cons {x : Str} {C0 : Addr} {L : List Str} {ts : Addr → Value → Option Addr → TS} {sh : Str → Str → U → Sm} {b₀ : Stmt} {suite : List Stmt} {np pos' : Pos} {hds : List ExceptHandler} {l : List (Value × (Addr → Value → Option Addr → TS))} {shs : List (List Str × (Str → Str → U → Sm))}
      (hc : Names X x (.ref C0)) (hx : ∀ c ∈ A, ∀ C, G.cls c = some C → PySem.W.exmOne X.K (.ref C) (.ref C0) = some (L.contains c)) (hsu : SuiteOk G X L i (b₀ :: suite) sh ts) (r : EachS G X A i n hds l shs) :
      EachS G X A i n (.ExceptHandler (some (.Name x np)) (some n) (b₀ :: suite) pos' :: hds) ((.ref C0, ts) :: l) ((L, sh) :: shs)
theorem EachS.ok {A : List Str} {i : Nat} {n : Str} {hds : List ExceptHandler} {l : List (Value × (Addr → Value → Option Addr → TS))} {shs : List (List Str × (Str → Str → U → Sm))} (h : EachS G X A i n hds l shs) : EachOk X n hds l := by
  induction h with
  | nil => exact .nil
  | cons hc hx hsu r ih => exact .cons hc hsu.run ih
theorem EachS.wishes {A : List Str} {i : Nat} {n : Str} {hds : List ExceptHandler} {l : List (Value × (Addr → Value → Option Addr → TS))} {shs : List (List Str × (Str → Str → U → Sm))} (h : EachS G X A i n hds l shs) {c f : Str} {u : U} {C d : Addr} {v : V} {m : Mp} {H : Hp} {S : Sto} {env env' : Env'} {σ : L2.St} {D : Ends} {fl : Fl} {S' : Sto} {q : List Str × (Str → Str → U → Sm)}
    (hA : c ∈ A) (hG : G.cls c = some C) (st : Rst X.K G m H S) (re : Renv X.K G m H env σ) (r : RU X.K G m H u v) (hd : H d = some (.xd [(f, v)])) (hq : shs.find? (fun q => q.1.contains c) = some q) (hs : q.2 c f u env S = some (fl, env', S')) (af : AfterS X.K G m H fl env' S' D) :
    wEach X.K i (fun _ _ _ _ => False) D l (.ref C) (some d) σ H := by
  induction h with
  | nil => cases hq
  | @cons x C0 L ts sh b₀ suite np pos' hds l shs hc hx hsu r0 ih =>
    refine ⟨L.contains c, hx c hA C hG, fun hb a ha => ?_, fun hb => ?_⟩
    · simp only [List.find?_cons, hb] at hq
      cases hq
      exact hsu.ok c f u C d v a m H S env σ D fl env' S' (by simpa using hb) hG st re r hd ha hs af
    · simp only [List.find?_cons, hb] at hq
      exact ih hq
theorem es_tryEach {A : List Str} {i : Nat} {n : Str} {h₀ : ExceptHandler} {hds : List ExceptHandler} {l : List (Value × (Addr → Value → Option Addr → TS))} {shs : List (List Str × (Str → Str → U → Sm))} {body : List Stmt} {sx : SmX}
    (hs : X.stack = X.env :: X.outer) (hf : X.env.frame = some X.env.locals) (hN : X.N.Nodup) (hi : X.N[i]? = some n) (hln : X.env.kindOf n = some .local)
    (hb : ∀ (W : WX) (pn : List (Addr × Obj)) (xe : Value → Shared → Prop), Takes (X.tr pn xe) W → PassesOwn (model X.prog X.w) X.A X.env xe → ESXs G (X.tr pn xe) W body sx)
    (hA : ∀ q ∈ shs, ∀ c ∈ q.1, c ∈ A) (hh : EachS G X A i n (h₀ :: hds) l shs) :
    ES G X (.Try body (h₀ :: hds) [] [] pos) (sTryE shs sx) :=
  (ps_try_each (tb := fun W => RSX X.K G W sx) (Wout := fun _ _ _ _ => False) hs hf hN hi hln takes0 hb hh.ok).imp fun D σ H ⟨m, S, env, fl, env', S', st, re, hc', q⟩ => by
    unfold sTryE at hc'
    split at hc'
    · rename_i f e S1 e1
      cases hc'
      exact ⟨m, S, env, .fl _, _, _, st, re, e1, q⟩
    · rename_i c f u e S1 e1
      split at hc'
      · rename_i q' hq'
        refine ⟨m, S, env, .exc c f u, e, S1, st, re, e1, fun m1 H1 σ1 C d v x1 st1 re1 r1 hG hd => ?_⟩
        have hm := List.mem_of_find?_eq_some hq'
        have hp := List.find?_some hq'
        exact hh.wishes (hA q' hm c (by simpa using hp)) hG st1 re1 r1 hd hq' hc' (q.mono x1)
      · cases hc'
    · cases hc'
end
end OF
namespace OF
open PySem PySem.Spec PyProof.Rows L2 PySem.ExcT
theorem kit_ofB {K : PySem.W.Frag} {C : Addr} {n : String} {b : Bool} (hm : PySem.W.kitMeta n = true) (h4 : PySem.W.subIn K (.ref C) (.type n) = some b) : PySem.W.kitOne K (.ref C) (.type n) = some b := by
  unfold PySem.W.kitOne
  have ne : ¬ ((Value.ref C == Value.type n) = true) := fun z => Value.noConfusion (eq_of_beq z)
  rw [if_neg ne]
  show (if PySem.W.kitMeta n = true then PySem.W.subIn K (.ref C) (.type n) else none) = some b
  rw [if_pos hm]
  exact h4
theorem exm_ofb {K : PySem.W.Frag} {S T : Addr} {b : Bool} (h1 : PySem.W.subIn K (.ref T) (.type "BaseException") = some true) (h2 : PySem.W.isClsIn K T = true) (h3 : PySem.W.typeIn K (.ref T) = some (.type "type")) (h4 : PySem.W.subIn K (.ref S) (.ref T) = some b) :
    PySem.W.exmOne K (.ref S) (.ref T) = some b := by
  have e1 : (PySem.W.subIn K (.ref T) (.type "BaseException") == some true) = true := by rw [h1] <;> rfl
  have e2 : ((PySem.W.clsIn K T).isSome && PySem.W.typeIn K (.ref T) == some (.type "type")) = true := by
    have h2' : (PySem.W.clsIn K T).isSome = true := h2
    rw [h2', h3] <;> rfl
  show (if (PySem.W.subIn K (.ref T) (.type "BaseException") == some true) = true then (if ((PySem.W.clsIn K T).isSome && PySem.W.typeIn K (.ref T) == some (.type "type")) = true then PySem.W.subIn K (.ref S) (.ref T) else none) else none) = some b
  rw [if_pos e1, if_pos e2]
  exact h4
theorem nokK_line (x : Str) : NameOkK "line" x := ⟨fun _ _ _ _ _ _ _ _ _ _ _ _ _ => rfl⟩
theorem nokK_thing (x : Str) : NameOkK "thing" x := ⟨fun _ _ _ _ _ _ _ _ _ _ _ _ _ => rfl⟩
theorem nokK_name (x : Str) : NameOkK "name" x := ⟨fun _ _ _ _ _ _ _ _ _ _ _ _ _ => rfl⟩
theorem nokK_what (x : Str) : NameOkK "what" x := ⟨fun _ _ _ _ _ _ _ _ _ _ _ _ _ => rfl⟩
theorem nokK_number (x : Str) : NameOkK "number" x := ⟨fun _ _ _ _ _ _ _ _ _ _ _ _ _ => rfl⟩
theorem nok2_block_name (x : Str) : NameOk2 "block" "name" x := ⟨fun _ _ _ _ _ _ _ _ _ _ _ _ _ _ _ _ _ _ _ => rfl, fun _ _ _ _ _ _ _ _ _ _ _ _ _ _ _ _ _ _ _ => rfl, fun _ _ _ => rfl, fun _ _ _ => rfl, fun _ _ _ => rfl, fun _ _ _ => rfl, by decide, by decide, fun _ _ _ _ _ _ => rfl, fun _ _ _ _ _ _ => rfl, fun _ _ _ _ _ _ => rfl⟩
end OF
namespace K05
open PySem PySem.Spec PyProof.Rows L2 OF
def topS (i : Nat) : Stmt := PySem.Challenge.pw_onceforms_k05_refusals_made.main.body.getD i (.Pass ⟨0, 0, 0, 0⟩)
abbrev st__law_take : Stmt := topS 19
abbrev N__law_take : List Str := ["_law_hand_here", "_law_many", "_law_digit"]
theorem sc__law_take : FnScope N__law_take ["_law_hand_here", "_law_many"] (defScope st__law_take) := ⟨rfl, rfl, rfl, by decide +kernel, rfl, by decide +kernel, by decide +kernel⟩
abbrev st__law_pick : Stmt := topS 20
abbrev N__law_pick : List Str := ["_law_hand_here", "_law_some"]
theorem sc__law_pick : FnScope N__law_pick ["_law_hand_here", "_law_some"] (defScope st__law_pick) := ⟨rfl, rfl, rfl, by decide +kernel, rfl, by decide +kernel, by decide +kernel⟩
abbrev st__law_things : Stmt := topS 21
abbrev N__law_things : List Str := ["_law_hand_here", "_law_many", "_law_whom", "_law_odd"]
theorem sc__law_things : FnScope N__law_things ["_law_hand_here"] (defScope st__law_things) := ⟨rfl, rfl, rfl, by decide +kernel, rfl, by decide +kernel, by decide +kernel⟩
abbrev st__law_made : Stmt := topS 22
abbrev N__law_made : List Str := ["_law_many", "_law_whom", "_law_odd", "_law_first", "_law_other"]
theorem sc__law_made : FnScope N__law_made ["_law_many", "_law_whom", "_law_odd"] (defScope st__law_made) := ⟨rfl, rfl, rfl, by decide +kernel, rfl, by decide +kernel, by decide +kernel⟩
abbrev st__law_hand : Stmt := topS 18
abbrev N__law_hand : List Str := ["_law_script", "_law_k", "_law_cell", "_law_great"]
theorem sc__law_hand : FnScope N__law_hand ["_law_script", "_law_k"] (defScope st__law_hand) := ⟨rfl, rfl, rfl, by decide +kernel, rfl, by decide +kernel, by decide +kernel⟩
abbrev st__law_raised : Stmt := topS 25
abbrev N__law_raised : List Str := ["_law_which", "_law_many", "_law_whom", "e"]
theorem sc__law_raised : FnScope N__law_raised ["_law_which", "_law_many", "_law_whom"] (defScope st__law_raised) := ⟨rfl, rfl, rfl, by decide +kernel, rfl, by decide +kernel, by decide +kernel⟩
abbrev st__law_values_right : Stmt := topS 23
abbrev N__law_values_right : List Str := ["_law_some", "_law_many", "_law_whom", "_law_odd", "_law_told", "_law_due"]
theorem sc__law_values_right : FnScope N__law_values_right ["_law_some", "_law_many", "_law_whom", "_law_odd"] (defScope st__law_values_right) := ⟨rfl, rfl, rfl, by decide +kernel, rfl, by decide +kernel, by decide +kernel⟩
abbrev st__law_classes_right : Stmt := topS 24
abbrev N__law_classes_right : List Str := ["_law_some", "_law_at", "_law_error", "_law_flags", "_law_family", "_law_python", "_law_due", "_law_spot"]
theorem sc__law_classes_right : FnScope N__law_classes_right ["_law_some"] (defScope st__law_classes_right) := ⟨rfl, rfl, rfl, by decide +kernel, rfl, by decide +kernel, by decide +kernel⟩
abbrev st_law : Stmt := topS 26
abbrev N_law : List Str := ["_law_script", "_law_kept", "_law_k", "_law_many", "_law_whom", "_law_odd", "_law_some", "_law_told", "_law_which"]
theorem sc_law : FnScope N_law ["_law_script"] (defScope st_law) := ⟨rfl, rfl, rfl, by decide +kernel, rfl, by decide +kernel, by decide +kernel⟩
noncomputable def c__law_take : Sm := (sSeq (sIf (cTru (cBin oGt (cBin ixU (cVar 0) (cCst (.int 0))) (cCst (.int 0))))
  (sSeq (sAsg (cBin (o2I modI) (cBin ixU (cVar 0) (cCst (.int 0))) (cVar 1)) (gmName 2))
  (sSeq (sSetI setL (cVar 0) (cCst (.int 0)) (cBin (o2I divI) (cBin ixU (cVar 0) (cCst (.int 0))) (cVar 1)))
  (sRet (cVar 2))))
  sNil)
  (sSeq (sSetI setL (cVar 0) (cCst (.int 1)) (cBin (o2I modI) (cBin (addU false) (cBin (o2I mulI) (cBin ixU (cVar 0) (cCst (.int 1))) (cCst (.int 1181783497276652981))) (cCst (.int 12345678910987))) (cCst (.int 2305843009213693951))))
  (sRet (cBin (o2I modI) (cBin (o2I divI) (cBin (o2I modI) (cBin (o2I mulI) (cBin (o2I divI) (cBin ixU (cVar 0) (cCst (.int 1))) (cCst (.int 65537))) (cBin (addU false) (cBin (o2I modI) (cBin ixU (cVar 0) (cCst (.int 1))) (cCst (.int 65537))) (cCst (.int 3)))) (cCst (.int 2305843009213693921))) (cCst (.int 97))) (cVar 1)))))
noncomputable def F__law_take : OpN := runF c__law_take 2 3
noncomputable def c__law_pick : Sm := (sRet (cBin ixU (cVar 1) (cArg F__law_take (cCons (cVar 0) (cCons (cArg (on1 lenU) (cCons (cVar 1) cNil)) cNil)))))
noncomputable def F__law_pick : OpN := runF c__law_pick 2 2
noncomputable def c__law_things : Sm := (sSeq (sAsg (cArg F__law_pick (cCons (cVar 0) (cCons (cArg oLst (cCons (cCst (.int 0)) (cCons (cCst (.int 1)) (cCons (cCst (.int 24)) (cCons (cCst (.int 9999)) (cCons (cBin (o2I powI) (cCst (.int 10)) (cCst (.int 40))) (cCons (cUn oNeg (cCst (.int 1))) cNil))))))) cNil))) (gmName 1))
  (sSeq (sAsg (cArg F__law_pick (cCons (cVar 0) (cCons (cArg oLst (cCons (cCst (.str "a")) (cCons (cCst (.str "loop")) (cCons (cCst (.str "")) (cCons (cCst (.str "abcdefgh")) (cCons (cCst (.str "here")) cNil)))))) cNil))) (gmName 2))
  (sSeq (sAsg (cArg F__law_pick (cCons (cVar 0) (cCons (cArg oLst (cCons (cCst .non) (cCons (cCst (.bl true)) (cCons (cArg oTup (cCons (cCst (.str "put")) (cCons (cCst (.str "a")) cNil))) (cCons (cArg oLst (cCons (cCst (.int 1)) cNil)) (cCons (cDisp false [((cCst (.str "a")), (cCst (.int 1)))]) (cCons (cCst (.int 7)) (cCons (cCst (.str "x")) cNil)))))))) cNil))) (gmName 3))
  (sRet (cArg oTup (cCons (cVar 1) (cCons (cVar 2) (cCons (cVar 3) cNil))))))))
noncomputable def F__law_things : OpN := runF c__law_things 1 4
noncomputable def c__law_made : Sm := (sSeq (sAsg (cArg oLst (cCons (cExc1 "NoText" "line" (cVar 0)) (cCons (cExc2 "NoPlacing" "block" "name" (cCons (cVar 1) (cCons (cVar 2) cNil))) (cCons (cExc1 "NoEdit" "thing" (cVar 2)) (cCons (cExc1 "NoLine" "line" (cVar 0)) (cCons (cExc1 "Taken" "thing" (cVar 2)) (cCons (cExc1 "Held" "name" (cVar 1)) (cCons (cExc1 "Full" "what" (cVar 1)) cNil)))))))) (gmName 3))
  (sSeq (sAsg (cBin (addU false) (cVar 3) (cArg oLst (cCons (cExc1 "NoBlock" "name" (cVar 1)) (cCons (cExc1 "NoRow" "number" (cVar 0)) (cCons (cExc1 "NoPlace" "number" (cVar 0)) (cCons (cExc1 "Stopped" "number" (cVar 0)) (cCons (cExc0 "NoProgram" (cCst (.str "no"))) (cCons (cExc0 "Nothing" (cCst (.str "no"))) cNil)))))))) (gmName 3))
  (sSeq (sAsg (cArg oLst (cCons (cExc1 "NoText" "line" (cVar 0)) (cCons (cExc2k "NoPlacing" "block" "name" (cCons (cVar 2) (cCons (cVar 1) cNil))) (cCons (cExc1 "NoEdit" "thing" (cVar 2)) (cCons (cExc1 "NoLine" "line" (cVar 0)) cNil))))) (gmName 4))
  (sSeq (sAsg (cBin (addU false) (cVar 4) (cArg oLst (cCons (cExc1 "Taken" "thing" (cVar 2)) (cCons (cExc1 "Held" "name" (cVar 1)) (cCons (cExc1 "Full" "what" (cVar 1)) (cCons (cExc1 "NoBlock" "name" (cVar 1)) (cCons (cExc1 "NoRow" "number" (cVar 0)) cNil))))))) (gmName 4))
  (sRet (cArg oTup (cCons (cVar 3) (cCons (cBin (addU false) (cVar 4) (cArg oLst (cCons (cExc1 "NoPlace" "number" (cVar 0)) (cCons (cExc1 "Stopped" "number" (cVar 0)) (cCons (cExc0 "NoProgram" (cCst (.str "so"))) (cCons (cExc0 "Nothing" (cCst (.str "so"))) cNil)))))) cNil))))))))
noncomputable def F__law_made : OpN := runF c__law_made 3 5
noncomputable def c__law_hand : Sm := (sSeq (sAsg (cBin (addU false) (cBin (o2I mulI) (cCst (.int 3)) (cVar 1)) (cArg (on1 lenU) (cCons (cVar 0) cNil))) (gmName 2))
  (sSeq (sIf (cTru (cBin oLt (cVar 1) (cArg (on1 lenU) (cCons (cVar 0) cNil))))
  (sAsg (cBin ixU (cVar 0) (cVar 1)) (gmName 2))
  sNil)
  (sSeq (sAsg (cBin (o2I mulI) (cBin (o2I modI) (cArg (on1 absU) (cCons (cVar 2) cNil)) (cBin (o2I powJ) (cBin (o2I powI) (cCst (.int 10)) (cCst (.int 60))) (cCst (.int 5)))) (cArg (on1 intU) (cCons (cBin oGe (cArg (on1 absU) (cCons (cVar 2) cNil)) (cBin (o2I powI) (cCst (.int 10)) (cCst (.int 18)))) cNil))) (gmName 3))
  (sRet (cArg oLstM (cCons (cVar 3) (cCons (cBin (o2I modI) (cBin (o2I mulI) (cBin (addU false) (cBin (addU false) (cBin (o2I modI) (cVar 2) (cCst (.int 2305843009213693951))) (cBin (o2I mulI) (cBin (o2I mulI) (cCst (.int 7919)) (cVar 1)) (cVar 1))) (cCst (.int 11))) (cCst (.int 48271))) (cCst (.int 2305843009213693951))) cNil)))))))
noncomputable def F__law_hand : OpN := runF c__law_hand 2 4
noncomputable def c__law_raised : Sm := (sTryE [(["NoRow"], shRet "missing" "number" 3), (["Stopped"], shRet "halted" "number" 3), (["Held"], shRet "refused" "name" 3)] (xSeq (xIf (cTru (cBin (eqU false) (cVar 0) (cCst (.int 0))))
  (xRaise "Held" "name" (cVar 2))
  (xL sNil))
  (xSeq (xIf (cTru (cBin (eqU false) (cVar 0) (cCst (.int 1))))
  (xRaise "NoRow" "number" (cVar 1))
  (xL sNil))
  (xRaise "Stopped" "number" (cVar 1)))))
noncomputable def P__law_raised : Pf := pureF (runF c__law_raised 3 4)
noncomputable def c__law_values_right : Sm := (sSeq (sAsg (cArg oLst (cCons (cXFld ["NoText", "NoLine"] "line" (cBin ixU (cVar 0) (cCst (.int 0)))) (cCons (cXFld ["NoPlacing"] "block" (cBin ixU (cVar 0) (cCst (.int 1)))) (cCons (cXFld ["NoPlacing", "Held", "NoBlock"] "name" (cBin ixU (cVar 0) (cCst (.int 1)))) (cCons (cXFld ["NoEdit", "Taken"] "thing" (cBin ixU (cVar 0) (cCst (.int 2)))) (cCons (cXFld ["NoText", "NoLine"] "line" (cBin ixU (cVar 0) (cCst (.int 3)))) (cCons (cXFld ["NoEdit", "Taken"] "thing" (cBin ixU (cVar 0) (cCst (.int 4)))) (cCons (cXFld ["NoPlacing", "Held", "NoBlock"] "name" (cBin ixU (cVar 0) (cCst (.int 5)))) cNil)))))))) (gmName 4))
  (sSeq (sAsg (cBin (addU false) (cVar 4) (cArg oLst (cCons (cXFld ["Full"] "what" (cBin ixU (cVar 0) (cCst (.int 6)))) (cCons (cXFld ["NoPlacing", "Held", "NoBlock"] "name" (cBin ixU (cVar 0) (cCst (.int 7)))) (cCons (cXFld ["NoRow", "NoPlace", "Stopped"] "number" (cBin ixU (cVar 0) (cCst (.int 8)))) (cCons (cXFld ["NoRow", "NoPlace", "Stopped"] "number" (cBin ixU (cVar 0) (cCst (.int 9)))) (cCons (cXFld ["NoRow", "NoPlace", "Stopped"] "number" (cBin ixU (cVar 0) (cCst (.int 10)))) cNil))))))) (gmName 4))
  (sSeq (sAsg (cArg oLst (cCons (cVar 1) (cCons (cVar 2) (cCons (cVar 3) (cCons (cVar 3) (cCons (cVar 1) (cCons (cVar 3) (cCons (cVar 2) (cCons (cVar 2) (cCons (cVar 2) (cCons (cVar 1) (cCons (cVar 1) (cCons (cVar 1) cNil))))))))))))) (gmName 5))
  (sRet (cBin (eqU false) (cArg (on1 reprX) (cCons (cVar 4) cNil)) (cArg (on1 reprX) (cCons (cVar 5) cNil)))))))
noncomputable def F__law_values_right : OpN := runF c__law_values_right 4 6
noncomputable def c__law_classes_right : Sm := (sSeq (sFor (itEnum (cCons (cVar 0) cNil)) (.tp [(.nm 1), (.nm 2)])
  (sSeq (sAsg (cArg oLstM (cCons (cIsX ["NoText", "NoPlacing", "NoEdit", "NoLine", "Taken", "Held", "Full", "NoBlock", "NoRow", "NoPlace", "Stopped", "NoProgram", "Nothing"] ["NoText"] (cVar 2)) (cCons (cIsX ["NoText", "NoPlacing", "NoEdit", "NoLine", "Taken", "Held", "Full", "NoBlock", "NoRow", "NoPlace", "Stopped", "NoProgram", "Nothing"] ["NoPlacing"] (cVar 2)) (cCons (cIsX ["NoText", "NoPlacing", "NoEdit", "NoLine", "Taken", "Held", "Full", "NoBlock", "NoRow", "NoPlace", "Stopped", "NoProgram", "Nothing"] ["NoEdit"] (cVar 2)) cNil)))) (gmName 3))
  (sSeq (sAsg (cBin (addU true) (cVar 3) (cArg oLst (cCons (cIsX ["NoText", "NoPlacing", "NoEdit", "NoLine", "Taken", "Held", "Full", "NoBlock", "NoRow", "NoPlace", "Stopped", "NoProgram", "Nothing"] ["NoLine"] (cVar 2)) (cCons (cIsX ["NoText", "NoPlacing", "NoEdit", "NoLine", "Taken", "Held", "Full", "NoBlock", "NoRow", "NoPlace", "Stopped", "NoProgram", "Nothing"] ["Taken"] (cVar 2)) (cCons (cIsX ["NoText", "NoPlacing", "NoEdit", "NoLine", "Taken", "Held", "Full", "NoBlock", "NoRow", "NoPlace", "Stopped", "NoProgram", "Nothing"] ["Held"] (cVar 2)) cNil))))) (gmName 3))
  (sSeq (sAsg (cBin (addU true) (cVar 3) (cArg oLst (cCons (cIsX ["NoText", "NoPlacing", "NoEdit", "NoLine", "Taken", "Held", "Full", "NoBlock", "NoRow", "NoPlace", "Stopped", "NoProgram", "Nothing"] ["Full"] (cVar 2)) (cCons (cIsX ["NoText", "NoPlacing", "NoEdit", "NoLine", "Taken", "Held", "Full", "NoBlock", "NoRow", "NoPlace", "Stopped", "NoProgram", "Nothing"] ["NoBlock"] (cVar 2)) (cCons (cIsX ["NoText", "NoPlacing", "NoEdit", "NoLine", "Taken", "Held", "Full", "NoBlock", "NoRow", "NoPlace", "Stopped", "NoProgram", "Nothing"] ["NoRow"] (cVar 2)) cNil))))) (gmName 3))
  (sSeq (sAsg (cBin (addU true) (cVar 3) (cArg oLst (cCons (cIsX ["NoText", "NoPlacing", "NoEdit", "NoLine", "Taken", "Held", "Full", "NoBlock", "NoRow", "NoPlace", "Stopped", "NoProgram", "Nothing"] ["NoPlace"] (cVar 2)) (cCons (cIsX ["NoText", "NoPlacing", "NoEdit", "NoLine", "Taken", "Held", "Full", "NoBlock", "NoRow", "NoPlace", "Stopped", "NoProgram", "Nothing"] ["Stopped"] (cVar 2)) (cCons (cIsX ["NoText", "NoPlacing", "NoEdit", "NoLine", "Taken", "Held", "Full", "NoBlock", "NoRow", "NoPlace", "Stopped", "NoProgram", "Nothing"] ["NoProgram"] (cVar 2)) cNil))))) (gmName 3))
  (sSeq (sExpr (cMt "list" appU (cVar 3) (cCons (cIsX ["NoText", "NoPlacing", "NoEdit", "NoLine", "Taken", "Held", "Full", "NoBlock", "NoRow", "NoPlace", "Stopped", "NoProgram", "Nothing"] ["Nothing"] (cVar 2)) cNil)))
  (sSeq (sIf (cTru (cBin (eqU true) (cVar 3) (cLc (itR1 (cCons (cCst (.int 13)) cNil)) (.nm 7) cYes (cBin (eqU false) (cVar 7) (cVar 1)) [7])))
  (sRet (cCst (.bl false)))
  sNil)
  (sSeq (sAsg (cArg oLst (cCons (cIsX ["NoText", "NoPlacing", "NoEdit", "NoLine", "Taken", "Held", "Full", "NoBlock", "NoRow", "NoPlace", "Stopped", "NoProgram", "Nothing"] ["NoText", "NoPlacing", "NoEdit", "NoLine", "Taken", "Held", "Full", "NoProgram", "Nothing"] (cVar 2)) (cCons (cIsX ["NoText", "NoPlacing", "NoEdit", "NoLine", "Taken", "Held", "Full", "NoBlock", "NoRow", "NoPlace", "Stopped", "NoProgram", "Nothing"] ["NoBlock", "NoRow", "NoPlace"] (cVar 2)) (cCons (cIsX ["NoText", "NoPlacing", "NoEdit", "NoLine", "Taken", "Held", "Full", "NoBlock", "NoRow", "NoPlace", "Stopped", "NoProgram", "Nothing"] ["Stopped"] (cVar 2)) cNil)))) (gmName 4))
  (sSeq (sAsg (cArg oLst (cCons (cIsX ["NoText", "NoPlacing", "NoEdit", "NoLine", "Taken", "Held", "Full", "NoBlock", "NoRow", "NoPlace", "Stopped", "NoProgram", "Nothing"] ["NoText", "NoPlacing", "NoEdit", "NoLine", "Taken", "Held", "Full", "NoProgram", "Nothing"] (cVar 2)) (cCons (cIsX ["NoText", "NoPlacing", "NoEdit", "NoLine", "Taken", "Held", "Full", "NoBlock", "NoRow", "NoPlace", "Stopped", "NoProgram", "Nothing"] ["NoBlock", "NoRow", "NoPlace"] (cVar 2)) (cCons (cIsX ["NoText", "NoPlacing", "NoEdit", "NoLine", "Taken", "Held", "Full", "NoBlock", "NoRow", "NoPlace", "Stopped", "NoProgram", "Nothing"] ["Stopped"] (cVar 2)) cNil)))) (gmName 5))
  (sSeq (sAsg (cArg oLst (cCons (cOrV (cBin oLt (cVar 1) (cCst (.int 7))) (cBin oGt (cVar 1) (cCst (.int 10)))) (cCons (cChain oLe oLt (cCst (.int 7)) (cVar 1) (cCst (.int 10))) (cCons (cBin (eqU false) (cVar 1) (cCst (.int 10))) cNil)))) (gmName 6))
  (sIf (cOrT (cTru (cBin (eqU true) (cVar 4) (cVar 6))) (cTru (cBin (eqU true) (cVar 5) (cVar 6))))
  (sRet (cCst (.bl false)))
  sNil)))))))))))
  (sRet (cCst (.bl true))))
noncomputable def F__law_classes_right : OpN := runF c__law_classes_right 1 8
noncomputable def c_law : Sm := (sSeq (sAsg (cArg oLstM cNil) (gmName 1))
  (sSeq (sFor (itR1 (cCons (cArg (on2 maxU) (cCons (cCst (.int 1)) (cCons (cArg (on2 minU) (cCons (cCst (.int 4)) (cCons (cArg (on1 lenU) (cCons (cVar 0) cNil)) cNil))) cNil))) cNil)) (.nm 2)
  (sSeq (sAsg (cArg F__law_things (cCons (cArg F__law_hand (cCons (cVar 0) (cCons (cVar 2) cNil))) cNil)) (gmPat (.tp [(.nm 3), (.nm 4), (.nm 5)])))
  (sSeq (sFor (itSeq (cArg F__law_made (cCons (cVar 3) (cCons (cVar 4) (cCons (cVar 5) cNil))))) (.nm 6)
  (sSeq (sIf (cNotT (cTru (cArg F__law_classes_right (cCons (cVar 6) cNil))))
  (sRet (cCst (.bl false)))
  sNil)
  (sExpr (cMt "list" appU (cVar 1) (cCons (cArg oTup (cCons (cVar 6) (cCons (cVar 3) (cCons (cVar 4) (cCons (cVar 5) cNil))))) cNil)))))
  (sSeq (sAsg (cLc (itR1 (cCons (cCst (.int 3)) cNil)) (.nm 8) cYes (cArg (liftP P__law_raised) (cCons (cVar 8) (cCons (cVar 3) (cCons (cVar 4) cNil)))) [8]) (gmName 7))
  (sIf (cTru (cBin (eqU true) (cVar 7) (cArg oLst (cCons (cArg oTup (cCons (cCst (.str "refused")) (cCons (cVar 4) cNil))) (cCons (cArg oTup (cCons (cCst (.str "missing")) (cCons (cVar 3) cNil))) (cCons (cArg oTup (cCons (cCst (.str "halted")) (cCons (cVar 3) cNil))) cNil))))))
  (sRet (cCst (.bl false)))
  sNil)))))
  (sRet (cArg (on1 (allU false)) (cCons (cLcG (itAny (cVar 1)) (.tp [(.nm 6), (.nm 3), (.nm 4), (.nm 5)]) cYes (cArg F__law_values_right (cCons (cVar 6) (cCons (cVar 3) (cCons (cVar 4) (cCons (cVar 5) cNil))))) [6, 3, 4, 5]) cNil)))))
noncomputable def P_law : Pf := pureF (runF c_law 1 9)
structure Ad where
  f__law_take : Addr
  f__law_pick : Addr
  f__law_things : Addr
  f__law_made : Addr
  f__law_hand : Addr
  f__law_raised : Addr
  f__law_values_right : Addr
  f__law_classes_right : Addr
  f_law : Addr
  C_NoText : Addr
  C_NoEdit : Addr
  C_NoLine : Addr
  C_Taken : Addr
  C_Held : Addr
  C_Full : Addr
  C_NoBlock : Addr
  C_NoRow : Addr
  C_NoPlace : Addr
  C_Stopped : Addr
  C_Halted : Addr
  C_Missing : Addr
  C_NoPlacing : Addr
  C_NoProgram : Addr
  C_Nothing : Addr
  C_Refused : Addr
  i_NoText : Addr
  i_NoEdit : Addr
  i_NoLine : Addr
  i_Taken : Addr
  i_Held : Addr
  i_Full : Addr
  i_NoBlock : Addr
  i_NoRow : Addr
  i_NoPlace : Addr
  i_Stopped : Addr
  i_NoPlacing : Addr
structure Fd where
  _law_take : FuncData
  _law_pick : FuncData
  _law_things : FuncData
  _law_made : FuncData
  _law_hand : FuncData
  _law_raised : FuncData
  _law_values_right : FuncData
  _law_classes_right : FuncData
  law : FuncData
def gx (ad : Ad) : Gx := ⟨fun c => if c = "NoText" then some ad.C_NoText else if c = "NoEdit" then some ad.C_NoEdit else if c = "NoLine" then some ad.C_NoLine else if c = "Taken" then some ad.C_Taken else if c = "Held" then some ad.C_Held else if c = "Full" then some ad.C_Full else if c = "NoBlock" then some ad.C_NoBlock else if c = "NoRow" then some ad.C_NoRow else if c = "NoPlace" then some ad.C_NoPlace else if c = "Stopped" then some ad.C_Stopped else if c = "NoPlacing" then some ad.C_NoPlacing else if c = "NoProgram" then some ad.C_NoProgram else if c = "Nothing" then some ad.C_Nothing else none, fun x => none⟩
structure Top (K : PySem.W.Frag) (w : World) (mg : Str → Option Value) (ad : Ad) (fd : Fd) : Prop where
  F__law_take : Fun K "_law_take" "_law_take" st__law_take ad.f__law_take fd._law_take
  b__law_take : Binds K fd._law_take ["_law_hand_here", "_law_many"] []
  g__law_take : mg "_law_take" = some (.ref ad.f__law_take)
  F__law_pick : Fun K "_law_pick" "_law_pick" st__law_pick ad.f__law_pick fd._law_pick
  b__law_pick : Binds K fd._law_pick ["_law_hand_here", "_law_some"] []
  g__law_pick : mg "_law_pick" = some (.ref ad.f__law_pick)
  F__law_things : Fun K "_law_things" "_law_things" st__law_things ad.f__law_things fd._law_things
  b__law_things : Binds K fd._law_things ["_law_hand_here"] []
  g__law_things : mg "_law_things" = some (.ref ad.f__law_things)
  F__law_made : Fun K "_law_made" "_law_made" st__law_made ad.f__law_made fd._law_made
  b__law_made : Binds K fd._law_made ["_law_many", "_law_whom", "_law_odd"] []
  g__law_made : mg "_law_made" = some (.ref ad.f__law_made)
  F__law_hand : Fun K "_law_hand" "_law_hand" st__law_hand ad.f__law_hand fd._law_hand
  b__law_hand : Binds K fd._law_hand ["_law_script", "_law_k"] []
  g__law_hand : mg "_law_hand" = some (.ref ad.f__law_hand)
  F__law_raised : Fun K "_law_raised" "_law_raised" st__law_raised ad.f__law_raised fd._law_raised
  b__law_raised : Binds K fd._law_raised ["_law_which", "_law_many", "_law_whom"] []
  g__law_raised : mg "_law_raised" = some (.ref ad.f__law_raised)
  F__law_values_right : Fun K "_law_values_right" "_law_values_right" st__law_values_right ad.f__law_values_right fd._law_values_right
  b__law_values_right : Binds K fd._law_values_right ["_law_some", "_law_many", "_law_whom", "_law_odd"] []
  g__law_values_right : mg "_law_values_right" = some (.ref ad.f__law_values_right)
  F__law_classes_right : Fun K "_law_classes_right" "_law_classes_right" st__law_classes_right ad.f__law_classes_right fd._law_classes_right
  b__law_classes_right : Binds K fd._law_classes_right ["_law_some"] []
  g__law_classes_right : mg "_law_classes_right" = some (.ref ad.f__law_classes_right)
  F_law : Fun K "law" "law" st_law ad.f_law fd.law
  b_law : Binds K fd.law ["_law_script"] []
  g_law : mg "law" = some (.ref ad.f_law)
  x_NoText : PySem.ExcT.XTxt K mg "NoText" "line" "NoText.__init__" ad.C_NoText ad.i_NoText
  x_NoEdit : PySem.ExcT.XTxt K mg "NoEdit" "thing" "NoEdit.__init__" ad.C_NoEdit ad.i_NoEdit
  x_NoLine : PySem.ExcT.XTxt K mg "NoLine" "line" "NoLine.__init__" ad.C_NoLine ad.i_NoLine
  x_Taken : PySem.ExcT.XTxt K mg "Taken" "thing" "Taken.__init__" ad.C_Taken ad.i_Taken
  x_Held : PySem.ExcT.XTxt K mg "Held" "name" "Held.__init__" ad.C_Held ad.i_Held
  x_Full : PySem.ExcT.XTxt K mg "Full" "what" "Full.__init__" ad.C_Full ad.i_Full
  x_NoBlock : PySem.ExcT.XTxt K mg "NoBlock" "name" "NoBlock.__init__" ad.C_NoBlock ad.i_NoBlock
  x_NoRow : PySem.ExcT.XTxt K mg "NoRow" "number" "NoRow.__init__" ad.C_NoRow ad.i_NoRow
  x_NoPlace : PySem.ExcT.XTxt K mg "NoPlace" "number" "NoPlace.__init__" ad.C_NoPlace ad.i_NoPlace
  x_Stopped : PySem.ExcT.XTxt K mg "Stopped" "number" "Stopped.__init__" ad.C_Stopped ad.i_Stopped
  g_Halted : mg "Halted" = some (.ref ad.C_Halted)
  g_Missing : mg "Missing" = some (.ref ad.C_Missing)
  g_NoPlacing : mg "NoPlacing" = some (.ref ad.C_NoPlacing)
  g_NoProgram : mg "NoProgram" = some (.ref ad.C_NoProgram)
  g_Nothing : mg "Nothing" = some (.ref ad.C_Nothing)
  g_Refused : mg "Refused" = some (.ref ad.C_Refused)
  x2_NoPlacing : PySem.ExcT.XTxt2 K mg "NoPlacing" "block" "name" "NoPlacing.__init__" ad.C_NoPlacing ad.i_NoPlacing
  xq_NoPlacing : L2.XfC K ad.C_NoPlacing
  xe_NoProgram : PySem.W.excIn K ad.C_NoProgram [.type "ValueError", .type "Exception", .type "BaseException", .type "object"] "ValueError.__new__" = true
  kc_NoProgram : PySem.W.keepIn K (.ref ad.C_NoProgram) = true
  xe_Nothing : PySem.W.excIn K ad.C_Nothing [.type "ValueError", .type "Exception", .type "BaseException", .type "object"] "ValueError.__new__" = true
  kc_Nothing : PySem.W.keepIn K (.ref ad.C_Nothing) = true
  en_Halted_Stopped : PySem.W.exmOne K (.ref ad.C_Stopped) (.ref ad.C_Halted) = some true
  en_Halted_Held : PySem.W.exmOne K (.ref ad.C_Held) (.ref ad.C_Halted) = some false
  en_Halted_NoRow : PySem.W.exmOne K (.ref ad.C_NoRow) (.ref ad.C_Halted) = some false
  en_Missing_Stopped : PySem.W.exmOne K (.ref ad.C_Stopped) (.ref ad.C_Missing) = some false
  en_Missing_Held : PySem.W.exmOne K (.ref ad.C_Held) (.ref ad.C_Missing) = some false
  en_Missing_NoRow : PySem.W.exmOne K (.ref ad.C_NoRow) (.ref ad.C_Missing) = some true
  en_Refused_Stopped : PySem.W.exmOne K (.ref ad.C_Stopped) (.ref ad.C_Refused) = some false
  en_Refused_Held : PySem.W.exmOne K (.ref ad.C_Held) (.ref ad.C_Refused) = some true
  en_Refused_NoRow : PySem.W.exmOne K (.ref ad.C_NoRow) (.ref ad.C_Refused) = some false
  kx_NoText : L2.ExcC K ad.C_NoText
  kx_NoPlacing : L2.ExcC K ad.C_NoPlacing
  kx_NoEdit : L2.ExcC K ad.C_NoEdit
  kx_NoLine : L2.ExcC K ad.C_NoLine
  kx_Taken : L2.ExcC K ad.C_Taken
  kx_Held : L2.ExcC K ad.C_Held
  kx_Full : L2.ExcC K ad.C_Full
  kx_NoBlock : L2.ExcC K ad.C_NoBlock
  kx_NoRow : L2.ExcC K ad.C_NoRow
  kx_NoPlace : L2.ExcC K ad.C_NoPlace
  kx_Stopped : L2.ExcC K ad.C_Stopped
  kx_NoProgram : L2.ExcC K ad.C_NoProgram
  kx_Nothing : L2.ExcC K ad.C_Nothing
  ki_Full_NoText : PySem.W.kitOne K (.ref ad.C_NoText) (.ref ad.C_Full) = some false
  ki_Full_NoPlacing : PySem.W.kitOne K (.ref ad.C_NoPlacing) (.ref ad.C_Full) = some false
  ki_Full_NoEdit : PySem.W.kitOne K (.ref ad.C_NoEdit) (.ref ad.C_Full) = some false
  ki_Full_NoLine : PySem.W.kitOne K (.ref ad.C_NoLine) (.ref ad.C_Full) = some false
  ki_Full_Taken : PySem.W.kitOne K (.ref ad.C_Taken) (.ref ad.C_Full) = some false
  ki_Full_Held : PySem.W.kitOne K (.ref ad.C_Held) (.ref ad.C_Full) = some false
  ki_Full_Full : PySem.W.kitOne K (.ref ad.C_Full) (.ref ad.C_Full) = some true
  ki_Full_NoBlock : PySem.W.kitOne K (.ref ad.C_NoBlock) (.ref ad.C_Full) = some false
  ki_Full_NoRow : PySem.W.kitOne K (.ref ad.C_NoRow) (.ref ad.C_Full) = some false
  ki_Full_NoPlace : PySem.W.kitOne K (.ref ad.C_NoPlace) (.ref ad.C_Full) = some false
  ki_Full_Stopped : PySem.W.kitOne K (.ref ad.C_Stopped) (.ref ad.C_Full) = some false
  ki_Full_NoProgram : PySem.W.kitOne K (.ref ad.C_NoProgram) (.ref ad.C_Full) = some false
  ki_Full_Nothing : PySem.W.kitOne K (.ref ad.C_Nothing) (.ref ad.C_Full) = some false
  ki_Halted_NoText : PySem.W.kitOne K (.ref ad.C_NoText) (.ref ad.C_Halted) = some false
  ki_Halted_NoPlacing : PySem.W.kitOne K (.ref ad.C_NoPlacing) (.ref ad.C_Halted) = some false
  ki_Halted_NoEdit : PySem.W.kitOne K (.ref ad.C_NoEdit) (.ref ad.C_Halted) = some false
  ki_Halted_NoLine : PySem.W.kitOne K (.ref ad.C_NoLine) (.ref ad.C_Halted) = some false
  ki_Halted_Taken : PySem.W.kitOne K (.ref ad.C_Taken) (.ref ad.C_Halted) = some false
  ki_Halted_Held : PySem.W.kitOne K (.ref ad.C_Held) (.ref ad.C_Halted) = some false
  ki_Halted_Full : PySem.W.kitOne K (.ref ad.C_Full) (.ref ad.C_Halted) = some false
  ki_Halted_NoBlock : PySem.W.kitOne K (.ref ad.C_NoBlock) (.ref ad.C_Halted) = some false
  ki_Halted_NoRow : PySem.W.kitOne K (.ref ad.C_NoRow) (.ref ad.C_Halted) = some false
  ki_Halted_NoPlace : PySem.W.kitOne K (.ref ad.C_NoPlace) (.ref ad.C_Halted) = some false
  ki_Halted_Stopped : PySem.W.kitOne K (.ref ad.C_Stopped) (.ref ad.C_Halted) = some true
  ki_Halted_NoProgram : PySem.W.kitOne K (.ref ad.C_NoProgram) (.ref ad.C_Halted) = some false
  ki_Halted_Nothing : PySem.W.kitOne K (.ref ad.C_Nothing) (.ref ad.C_Halted) = some false
  ki_Held_NoText : PySem.W.kitOne K (.ref ad.C_NoText) (.ref ad.C_Held) = some false
  ki_Held_NoPlacing : PySem.W.kitOne K (.ref ad.C_NoPlacing) (.ref ad.C_Held) = some false
  ki_Held_NoEdit : PySem.W.kitOne K (.ref ad.C_NoEdit) (.ref ad.C_Held) = some false
  ki_Held_NoLine : PySem.W.kitOne K (.ref ad.C_NoLine) (.ref ad.C_Held) = some false
  ki_Held_Taken : PySem.W.kitOne K (.ref ad.C_Taken) (.ref ad.C_Held) = some false
  ki_Held_Held : PySem.W.kitOne K (.ref ad.C_Held) (.ref ad.C_Held) = some true
  ki_Held_Full : PySem.W.kitOne K (.ref ad.C_Full) (.ref ad.C_Held) = some false
  ki_Held_NoBlock : PySem.W.kitOne K (.ref ad.C_NoBlock) (.ref ad.C_Held) = some false
  ki_Held_NoRow : PySem.W.kitOne K (.ref ad.C_NoRow) (.ref ad.C_Held) = some false
  ki_Held_NoPlace : PySem.W.kitOne K (.ref ad.C_NoPlace) (.ref ad.C_Held) = some false
  ki_Held_Stopped : PySem.W.kitOne K (.ref ad.C_Stopped) (.ref ad.C_Held) = some false
  ki_Held_NoProgram : PySem.W.kitOne K (.ref ad.C_NoProgram) (.ref ad.C_Held) = some false
  ki_Held_Nothing : PySem.W.kitOne K (.ref ad.C_Nothing) (.ref ad.C_Held) = some false
  ki_Missing_NoText : PySem.W.kitOne K (.ref ad.C_NoText) (.ref ad.C_Missing) = some false
  ki_Missing_NoPlacing : PySem.W.kitOne K (.ref ad.C_NoPlacing) (.ref ad.C_Missing) = some false
  ki_Missing_NoEdit : PySem.W.kitOne K (.ref ad.C_NoEdit) (.ref ad.C_Missing) = some false
  ki_Missing_NoLine : PySem.W.kitOne K (.ref ad.C_NoLine) (.ref ad.C_Missing) = some false
  ki_Missing_Taken : PySem.W.kitOne K (.ref ad.C_Taken) (.ref ad.C_Missing) = some false
  ki_Missing_Held : PySem.W.kitOne K (.ref ad.C_Held) (.ref ad.C_Missing) = some false
  ki_Missing_Full : PySem.W.kitOne K (.ref ad.C_Full) (.ref ad.C_Missing) = some false
  ki_Missing_NoBlock : PySem.W.kitOne K (.ref ad.C_NoBlock) (.ref ad.C_Missing) = some true
  ki_Missing_NoRow : PySem.W.kitOne K (.ref ad.C_NoRow) (.ref ad.C_Missing) = some true
  ki_Missing_NoPlace : PySem.W.kitOne K (.ref ad.C_NoPlace) (.ref ad.C_Missing) = some true
  ki_Missing_Stopped : PySem.W.kitOne K (.ref ad.C_Stopped) (.ref ad.C_Missing) = some false
  ki_Missing_NoProgram : PySem.W.kitOne K (.ref ad.C_NoProgram) (.ref ad.C_Missing) = some false
  ki_Missing_Nothing : PySem.W.kitOne K (.ref ad.C_Nothing) (.ref ad.C_Missing) = some false
  ki_NoBlock_NoText : PySem.W.kitOne K (.ref ad.C_NoText) (.ref ad.C_NoBlock) = some false
  ki_NoBlock_NoPlacing : PySem.W.kitOne K (.ref ad.C_NoPlacing) (.ref ad.C_NoBlock) = some false
  ki_NoBlock_NoEdit : PySem.W.kitOne K (.ref ad.C_NoEdit) (.ref ad.C_NoBlock) = some false
  ki_NoBlock_NoLine : PySem.W.kitOne K (.ref ad.C_NoLine) (.ref ad.C_NoBlock) = some false
  ki_NoBlock_Taken : PySem.W.kitOne K (.ref ad.C_Taken) (.ref ad.C_NoBlock) = some false
  ki_NoBlock_Held : PySem.W.kitOne K (.ref ad.C_Held) (.ref ad.C_NoBlock) = some false
  ki_NoBlock_Full : PySem.W.kitOne K (.ref ad.C_Full) (.ref ad.C_NoBlock) = some false
  ki_NoBlock_NoBlock : PySem.W.kitOne K (.ref ad.C_NoBlock) (.ref ad.C_NoBlock) = some true
  ki_NoBlock_NoRow : PySem.W.kitOne K (.ref ad.C_NoRow) (.ref ad.C_NoBlock) = some false
  ki_NoBlock_NoPlace : PySem.W.kitOne K (.ref ad.C_NoPlace) (.ref ad.C_NoBlock) = some false
  ki_NoBlock_Stopped : PySem.W.kitOne K (.ref ad.C_Stopped) (.ref ad.C_NoBlock) = some false
  ki_NoBlock_NoProgram : PySem.W.kitOne K (.ref ad.C_NoProgram) (.ref ad.C_NoBlock) = some false
  ki_NoBlock_Nothing : PySem.W.kitOne K (.ref ad.C_Nothing) (.ref ad.C_NoBlock) = some false
  ki_NoEdit_NoText : PySem.W.kitOne K (.ref ad.C_NoText) (.ref ad.C_NoEdit) = some false
  ki_NoEdit_NoPlacing : PySem.W.kitOne K (.ref ad.C_NoPlacing) (.ref ad.C_NoEdit) = some false
  ki_NoEdit_NoEdit : PySem.W.kitOne K (.ref ad.C_NoEdit) (.ref ad.C_NoEdit) = some true
  ki_NoEdit_NoLine : PySem.W.kitOne K (.ref ad.C_NoLine) (.ref ad.C_NoEdit) = some false
  ki_NoEdit_Taken : PySem.W.kitOne K (.ref ad.C_Taken) (.ref ad.C_NoEdit) = some false
  ki_NoEdit_Held : PySem.W.kitOne K (.ref ad.C_Held) (.ref ad.C_NoEdit) = some false
  ki_NoEdit_Full : PySem.W.kitOne K (.ref ad.C_Full) (.ref ad.C_NoEdit) = some false
  ki_NoEdit_NoBlock : PySem.W.kitOne K (.ref ad.C_NoBlock) (.ref ad.C_NoEdit) = some false
  ki_NoEdit_NoRow : PySem.W.kitOne K (.ref ad.C_NoRow) (.ref ad.C_NoEdit) = some false
  ki_NoEdit_NoPlace : PySem.W.kitOne K (.ref ad.C_NoPlace) (.ref ad.C_NoEdit) = some false
  ki_NoEdit_Stopped : PySem.W.kitOne K (.ref ad.C_Stopped) (.ref ad.C_NoEdit) = some false
  ki_NoEdit_NoProgram : PySem.W.kitOne K (.ref ad.C_NoProgram) (.ref ad.C_NoEdit) = some false
  ki_NoEdit_Nothing : PySem.W.kitOne K (.ref ad.C_Nothing) (.ref ad.C_NoEdit) = some false
  ki_NoLine_NoText : PySem.W.kitOne K (.ref ad.C_NoText) (.ref ad.C_NoLine) = some false
  ki_NoLine_NoPlacing : PySem.W.kitOne K (.ref ad.C_NoPlacing) (.ref ad.C_NoLine) = some false
  ki_NoLine_NoEdit : PySem.W.kitOne K (.ref ad.C_NoEdit) (.ref ad.C_NoLine) = some false
  ki_NoLine_NoLine : PySem.W.kitOne K (.ref ad.C_NoLine) (.ref ad.C_NoLine) = some true
  ki_NoLine_Taken : PySem.W.kitOne K (.ref ad.C_Taken) (.ref ad.C_NoLine) = some false
  ki_NoLine_Held : PySem.W.kitOne K (.ref ad.C_Held) (.ref ad.C_NoLine) = some false
  ki_NoLine_Full : PySem.W.kitOne K (.ref ad.C_Full) (.ref ad.C_NoLine) = some false
  ki_NoLine_NoBlock : PySem.W.kitOne K (.ref ad.C_NoBlock) (.ref ad.C_NoLine) = some false
  ki_NoLine_NoRow : PySem.W.kitOne K (.ref ad.C_NoRow) (.ref ad.C_NoLine) = some false
  ki_NoLine_NoPlace : PySem.W.kitOne K (.ref ad.C_NoPlace) (.ref ad.C_NoLine) = some false
  ki_NoLine_Stopped : PySem.W.kitOne K (.ref ad.C_Stopped) (.ref ad.C_NoLine) = some false
  ki_NoLine_NoProgram : PySem.W.kitOne K (.ref ad.C_NoProgram) (.ref ad.C_NoLine) = some false
  ki_NoLine_Nothing : PySem.W.kitOne K (.ref ad.C_Nothing) (.ref ad.C_NoLine) = some false
  ki_NoPlace_NoText : PySem.W.kitOne K (.ref ad.C_NoText) (.ref ad.C_NoPlace) = some false
  ki_NoPlace_NoPlacing : PySem.W.kitOne K (.ref ad.C_NoPlacing) (.ref ad.C_NoPlace) = some false
  ki_NoPlace_NoEdit : PySem.W.kitOne K (.ref ad.C_NoEdit) (.ref ad.C_NoPlace) = some false
  ki_NoPlace_NoLine : PySem.W.kitOne K (.ref ad.C_NoLine) (.ref ad.C_NoPlace) = some false
  ki_NoPlace_Taken : PySem.W.kitOne K (.ref ad.C_Taken) (.ref ad.C_NoPlace) = some false
  ki_NoPlace_Held : PySem.W.kitOne K (.ref ad.C_Held) (.ref ad.C_NoPlace) = some false
  ki_NoPlace_Full : PySem.W.kitOne K (.ref ad.C_Full) (.ref ad.C_NoPlace) = some false
  ki_NoPlace_NoBlock : PySem.W.kitOne K (.ref ad.C_NoBlock) (.ref ad.C_NoPlace) = some false
  ki_NoPlace_NoRow : PySem.W.kitOne K (.ref ad.C_NoRow) (.ref ad.C_NoPlace) = some false
  ki_NoPlace_NoPlace : PySem.W.kitOne K (.ref ad.C_NoPlace) (.ref ad.C_NoPlace) = some true
  ki_NoPlace_Stopped : PySem.W.kitOne K (.ref ad.C_Stopped) (.ref ad.C_NoPlace) = some false
  ki_NoPlace_NoProgram : PySem.W.kitOne K (.ref ad.C_NoProgram) (.ref ad.C_NoPlace) = some false
  ki_NoPlace_Nothing : PySem.W.kitOne K (.ref ad.C_Nothing) (.ref ad.C_NoPlace) = some false
  ki_NoPlacing_NoText : PySem.W.kitOne K (.ref ad.C_NoText) (.ref ad.C_NoPlacing) = some false
  ki_NoPlacing_NoPlacing : PySem.W.kitOne K (.ref ad.C_NoPlacing) (.ref ad.C_NoPlacing) = some true
  ki_NoPlacing_NoEdit : PySem.W.kitOne K (.ref ad.C_NoEdit) (.ref ad.C_NoPlacing) = some false
  ki_NoPlacing_NoLine : PySem.W.kitOne K (.ref ad.C_NoLine) (.ref ad.C_NoPlacing) = some false
  ki_NoPlacing_Taken : PySem.W.kitOne K (.ref ad.C_Taken) (.ref ad.C_NoPlacing) = some false
  ki_NoPlacing_Held : PySem.W.kitOne K (.ref ad.C_Held) (.ref ad.C_NoPlacing) = some false
  ki_NoPlacing_Full : PySem.W.kitOne K (.ref ad.C_Full) (.ref ad.C_NoPlacing) = some false
  ki_NoPlacing_NoBlock : PySem.W.kitOne K (.ref ad.C_NoBlock) (.ref ad.C_NoPlacing) = some false
  ki_NoPlacing_NoRow : PySem.W.kitOne K (.ref ad.C_NoRow) (.ref ad.C_NoPlacing) = some false
  ki_NoPlacing_NoPlace : PySem.W.kitOne K (.ref ad.C_NoPlace) (.ref ad.C_NoPlacing) = some false
  ki_NoPlacing_Stopped : PySem.W.kitOne K (.ref ad.C_Stopped) (.ref ad.C_NoPlacing) = some false
  ki_NoPlacing_NoProgram : PySem.W.kitOne K (.ref ad.C_NoProgram) (.ref ad.C_NoPlacing) = some false
  ki_NoPlacing_Nothing : PySem.W.kitOne K (.ref ad.C_Nothing) (.ref ad.C_NoPlacing) = some false
  ki_NoProgram_NoText : PySem.W.kitOne K (.ref ad.C_NoText) (.ref ad.C_NoProgram) = some false
  ki_NoProgram_NoPlacing : PySem.W.kitOne K (.ref ad.C_NoPlacing) (.ref ad.C_NoProgram) = some false
  ki_NoProgram_NoEdit : PySem.W.kitOne K (.ref ad.C_NoEdit) (.ref ad.C_NoProgram) = some false
  ki_NoProgram_NoLine : PySem.W.kitOne K (.ref ad.C_NoLine) (.ref ad.C_NoProgram) = some false
  ki_NoProgram_Taken : PySem.W.kitOne K (.ref ad.C_Taken) (.ref ad.C_NoProgram) = some false
  ki_NoProgram_Held : PySem.W.kitOne K (.ref ad.C_Held) (.ref ad.C_NoProgram) = some false
  ki_NoProgram_Full : PySem.W.kitOne K (.ref ad.C_Full) (.ref ad.C_NoProgram) = some false
  ki_NoProgram_NoBlock : PySem.W.kitOne K (.ref ad.C_NoBlock) (.ref ad.C_NoProgram) = some false
  ki_NoProgram_NoRow : PySem.W.kitOne K (.ref ad.C_NoRow) (.ref ad.C_NoProgram) = some false
  ki_NoProgram_NoPlace : PySem.W.kitOne K (.ref ad.C_NoPlace) (.ref ad.C_NoProgram) = some false
  ki_NoProgram_Stopped : PySem.W.kitOne K (.ref ad.C_Stopped) (.ref ad.C_NoProgram) = some false
  ki_NoProgram_NoProgram : PySem.W.kitOne K (.ref ad.C_NoProgram) (.ref ad.C_NoProgram) = some true
  ki_NoProgram_Nothing : PySem.W.kitOne K (.ref ad.C_Nothing) (.ref ad.C_NoProgram) = some false
  ki_NoRow_NoText : PySem.W.kitOne K (.ref ad.C_NoText) (.ref ad.C_NoRow) = some false
  ki_NoRow_NoPlacing : PySem.W.kitOne K (.ref ad.C_NoPlacing) (.ref ad.C_NoRow) = some false
  ki_NoRow_NoEdit : PySem.W.kitOne K (.ref ad.C_NoEdit) (.ref ad.C_NoRow) = some false
  ki_NoRow_NoLine : PySem.W.kitOne K (.ref ad.C_NoLine) (.ref ad.C_NoRow) = some false
  ki_NoRow_Taken : PySem.W.kitOne K (.ref ad.C_Taken) (.ref ad.C_NoRow) = some false
  ki_NoRow_Held : PySem.W.kitOne K (.ref ad.C_Held) (.ref ad.C_NoRow) = some false
  ki_NoRow_Full : PySem.W.kitOne K (.ref ad.C_Full) (.ref ad.C_NoRow) = some false
  ki_NoRow_NoBlock : PySem.W.kitOne K (.ref ad.C_NoBlock) (.ref ad.C_NoRow) = some false
  ki_NoRow_NoRow : PySem.W.kitOne K (.ref ad.C_NoRow) (.ref ad.C_NoRow) = some true
  ki_NoRow_NoPlace : PySem.W.kitOne K (.ref ad.C_NoPlace) (.ref ad.C_NoRow) = some false
  ki_NoRow_Stopped : PySem.W.kitOne K (.ref ad.C_Stopped) (.ref ad.C_NoRow) = some false
  ki_NoRow_NoProgram : PySem.W.kitOne K (.ref ad.C_NoProgram) (.ref ad.C_NoRow) = some false
  ki_NoRow_Nothing : PySem.W.kitOne K (.ref ad.C_Nothing) (.ref ad.C_NoRow) = some false
  ki_NoText_NoText : PySem.W.kitOne K (.ref ad.C_NoText) (.ref ad.C_NoText) = some true
  ki_NoText_NoPlacing : PySem.W.kitOne K (.ref ad.C_NoPlacing) (.ref ad.C_NoText) = some false
  ki_NoText_NoEdit : PySem.W.kitOne K (.ref ad.C_NoEdit) (.ref ad.C_NoText) = some false
  ki_NoText_NoLine : PySem.W.kitOne K (.ref ad.C_NoLine) (.ref ad.C_NoText) = some false
  ki_NoText_Taken : PySem.W.kitOne K (.ref ad.C_Taken) (.ref ad.C_NoText) = some false
  ki_NoText_Held : PySem.W.kitOne K (.ref ad.C_Held) (.ref ad.C_NoText) = some false
  ki_NoText_Full : PySem.W.kitOne K (.ref ad.C_Full) (.ref ad.C_NoText) = some false
  ki_NoText_NoBlock : PySem.W.kitOne K (.ref ad.C_NoBlock) (.ref ad.C_NoText) = some false
  ki_NoText_NoRow : PySem.W.kitOne K (.ref ad.C_NoRow) (.ref ad.C_NoText) = some false
  ki_NoText_NoPlace : PySem.W.kitOne K (.ref ad.C_NoPlace) (.ref ad.C_NoText) = some false
  ki_NoText_Stopped : PySem.W.kitOne K (.ref ad.C_Stopped) (.ref ad.C_NoText) = some false
  ki_NoText_NoProgram : PySem.W.kitOne K (.ref ad.C_NoProgram) (.ref ad.C_NoText) = some false
  ki_NoText_Nothing : PySem.W.kitOne K (.ref ad.C_Nothing) (.ref ad.C_NoText) = some false
  ki_Nothing_NoText : PySem.W.kitOne K (.ref ad.C_NoText) (.ref ad.C_Nothing) = some false
  ki_Nothing_NoPlacing : PySem.W.kitOne K (.ref ad.C_NoPlacing) (.ref ad.C_Nothing) = some false
  ki_Nothing_NoEdit : PySem.W.kitOne K (.ref ad.C_NoEdit) (.ref ad.C_Nothing) = some false
  ki_Nothing_NoLine : PySem.W.kitOne K (.ref ad.C_NoLine) (.ref ad.C_Nothing) = some false
  ki_Nothing_Taken : PySem.W.kitOne K (.ref ad.C_Taken) (.ref ad.C_Nothing) = some false
  ki_Nothing_Held : PySem.W.kitOne K (.ref ad.C_Held) (.ref ad.C_Nothing) = some false
  ki_Nothing_Full : PySem.W.kitOne K (.ref ad.C_Full) (.ref ad.C_Nothing) = some false
  ki_Nothing_NoBlock : PySem.W.kitOne K (.ref ad.C_NoBlock) (.ref ad.C_Nothing) = some false
  ki_Nothing_NoRow : PySem.W.kitOne K (.ref ad.C_NoRow) (.ref ad.C_Nothing) = some false
  ki_Nothing_NoPlace : PySem.W.kitOne K (.ref ad.C_NoPlace) (.ref ad.C_Nothing) = some false
  ki_Nothing_Stopped : PySem.W.kitOne K (.ref ad.C_Stopped) (.ref ad.C_Nothing) = some false
  ki_Nothing_NoProgram : PySem.W.kitOne K (.ref ad.C_NoProgram) (.ref ad.C_Nothing) = some false
  ki_Nothing_Nothing : PySem.W.kitOne K (.ref ad.C_Nothing) (.ref ad.C_Nothing) = some true
  ki_Refused_NoText : PySem.W.kitOne K (.ref ad.C_NoText) (.ref ad.C_Refused) = some true
  ki_Refused_NoPlacing : PySem.W.kitOne K (.ref ad.C_NoPlacing) (.ref ad.C_Refused) = some true
  ki_Refused_NoEdit : PySem.W.kitOne K (.ref ad.C_NoEdit) (.ref ad.C_Refused) = some true
  ki_Refused_NoLine : PySem.W.kitOne K (.ref ad.C_NoLine) (.ref ad.C_Refused) = some true
  ki_Refused_Taken : PySem.W.kitOne K (.ref ad.C_Taken) (.ref ad.C_Refused) = some true
  ki_Refused_Held : PySem.W.kitOne K (.ref ad.C_Held) (.ref ad.C_Refused) = some true
  ki_Refused_Full : PySem.W.kitOne K (.ref ad.C_Full) (.ref ad.C_Refused) = some true
  ki_Refused_NoBlock : PySem.W.kitOne K (.ref ad.C_NoBlock) (.ref ad.C_Refused) = some false
  ki_Refused_NoRow : PySem.W.kitOne K (.ref ad.C_NoRow) (.ref ad.C_Refused) = some false
  ki_Refused_NoPlace : PySem.W.kitOne K (.ref ad.C_NoPlace) (.ref ad.C_Refused) = some false
  ki_Refused_Stopped : PySem.W.kitOne K (.ref ad.C_Stopped) (.ref ad.C_Refused) = some false
  ki_Refused_NoProgram : PySem.W.kitOne K (.ref ad.C_NoProgram) (.ref ad.C_Refused) = some true
  ki_Refused_Nothing : PySem.W.kitOne K (.ref ad.C_Nothing) (.ref ad.C_Refused) = some true
  ki_Stopped_NoText : PySem.W.kitOne K (.ref ad.C_NoText) (.ref ad.C_Stopped) = some false
  ki_Stopped_NoPlacing : PySem.W.kitOne K (.ref ad.C_NoPlacing) (.ref ad.C_Stopped) = some false
  ki_Stopped_NoEdit : PySem.W.kitOne K (.ref ad.C_NoEdit) (.ref ad.C_Stopped) = some false
  ki_Stopped_NoLine : PySem.W.kitOne K (.ref ad.C_NoLine) (.ref ad.C_Stopped) = some false
  ki_Stopped_Taken : PySem.W.kitOne K (.ref ad.C_Taken) (.ref ad.C_Stopped) = some false
  ki_Stopped_Held : PySem.W.kitOne K (.ref ad.C_Held) (.ref ad.C_Stopped) = some false
  ki_Stopped_Full : PySem.W.kitOne K (.ref ad.C_Full) (.ref ad.C_Stopped) = some false
  ki_Stopped_NoBlock : PySem.W.kitOne K (.ref ad.C_NoBlock) (.ref ad.C_Stopped) = some false
  ki_Stopped_NoRow : PySem.W.kitOne K (.ref ad.C_NoRow) (.ref ad.C_Stopped) = some false
  ki_Stopped_NoPlace : PySem.W.kitOne K (.ref ad.C_NoPlace) (.ref ad.C_Stopped) = some false
  ki_Stopped_Stopped : PySem.W.kitOne K (.ref ad.C_Stopped) (.ref ad.C_Stopped) = some true
  ki_Stopped_NoProgram : PySem.W.kitOne K (.ref ad.C_NoProgram) (.ref ad.C_Stopped) = some false
  ki_Stopped_Nothing : PySem.W.kitOne K (.ref ad.C_Nothing) (.ref ad.C_Stopped) = some false
  ki_Taken_NoText : PySem.W.kitOne K (.ref ad.C_NoText) (.ref ad.C_Taken) = some false
  ki_Taken_NoPlacing : PySem.W.kitOne K (.ref ad.C_NoPlacing) (.ref ad.C_Taken) = some false
  ki_Taken_NoEdit : PySem.W.kitOne K (.ref ad.C_NoEdit) (.ref ad.C_Taken) = some false
  ki_Taken_NoLine : PySem.W.kitOne K (.ref ad.C_NoLine) (.ref ad.C_Taken) = some false
  ki_Taken_Taken : PySem.W.kitOne K (.ref ad.C_Taken) (.ref ad.C_Taken) = some true
  ki_Taken_Held : PySem.W.kitOne K (.ref ad.C_Held) (.ref ad.C_Taken) = some false
  ki_Taken_Full : PySem.W.kitOne K (.ref ad.C_Full) (.ref ad.C_Taken) = some false
  ki_Taken_NoBlock : PySem.W.kitOne K (.ref ad.C_NoBlock) (.ref ad.C_Taken) = some false
  ki_Taken_NoRow : PySem.W.kitOne K (.ref ad.C_NoRow) (.ref ad.C_Taken) = some false
  ki_Taken_NoPlace : PySem.W.kitOne K (.ref ad.C_NoPlace) (.ref ad.C_Taken) = some false
  ki_Taken_Stopped : PySem.W.kitOne K (.ref ad.C_Stopped) (.ref ad.C_Taken) = some false
  ki_Taken_NoProgram : PySem.W.kitOne K (.ref ad.C_NoProgram) (.ref ad.C_Taken) = some false
  ki_Taken_Nothing : PySem.W.kitOne K (.ref ad.C_Nothing) (.ref ad.C_Taken) = some false
  kib_LookupError_NoText : PySem.W.kitOne K (.ref ad.C_NoText) (.type "LookupError") = some false
  kib_LookupError_NoPlacing : PySem.W.kitOne K (.ref ad.C_NoPlacing) (.type "LookupError") = some false
  kib_LookupError_NoEdit : PySem.W.kitOne K (.ref ad.C_NoEdit) (.type "LookupError") = some false
  kib_LookupError_NoLine : PySem.W.kitOne K (.ref ad.C_NoLine) (.type "LookupError") = some false
  kib_LookupError_Taken : PySem.W.kitOne K (.ref ad.C_Taken) (.type "LookupError") = some false
  kib_LookupError_Held : PySem.W.kitOne K (.ref ad.C_Held) (.type "LookupError") = some false
  kib_LookupError_Full : PySem.W.kitOne K (.ref ad.C_Full) (.type "LookupError") = some false
  kib_LookupError_NoBlock : PySem.W.kitOne K (.ref ad.C_NoBlock) (.type "LookupError") = some true
  kib_LookupError_NoRow : PySem.W.kitOne K (.ref ad.C_NoRow) (.type "LookupError") = some true
  kib_LookupError_NoPlace : PySem.W.kitOne K (.ref ad.C_NoPlace) (.type "LookupError") = some true
  kib_LookupError_Stopped : PySem.W.kitOne K (.ref ad.C_Stopped) (.type "LookupError") = some false
  kib_LookupError_NoProgram : PySem.W.kitOne K (.ref ad.C_NoProgram) (.type "LookupError") = some false
  kib_LookupError_Nothing : PySem.W.kitOne K (.ref ad.C_Nothing) (.type "LookupError") = some false
  kib_RuntimeError_NoText : PySem.W.kitOne K (.ref ad.C_NoText) (.type "RuntimeError") = some false
  kib_RuntimeError_NoPlacing : PySem.W.kitOne K (.ref ad.C_NoPlacing) (.type "RuntimeError") = some false
  kib_RuntimeError_NoEdit : PySem.W.kitOne K (.ref ad.C_NoEdit) (.type "RuntimeError") = some false
  kib_RuntimeError_NoLine : PySem.W.kitOne K (.ref ad.C_NoLine) (.type "RuntimeError") = some false
  kib_RuntimeError_Taken : PySem.W.kitOne K (.ref ad.C_Taken) (.type "RuntimeError") = some false
  kib_RuntimeError_Held : PySem.W.kitOne K (.ref ad.C_Held) (.type "RuntimeError") = some false
  kib_RuntimeError_Full : PySem.W.kitOne K (.ref ad.C_Full) (.type "RuntimeError") = some false
  kib_RuntimeError_NoBlock : PySem.W.kitOne K (.ref ad.C_NoBlock) (.type "RuntimeError") = some false
  kib_RuntimeError_NoRow : PySem.W.kitOne K (.ref ad.C_NoRow) (.type "RuntimeError") = some false
  kib_RuntimeError_NoPlace : PySem.W.kitOne K (.ref ad.C_NoPlace) (.type "RuntimeError") = some false
  kib_RuntimeError_Stopped : PySem.W.kitOne K (.ref ad.C_Stopped) (.type "RuntimeError") = some true
  kib_RuntimeError_NoProgram : PySem.W.kitOne K (.ref ad.C_NoProgram) (.type "RuntimeError") = some false
  kib_RuntimeError_Nothing : PySem.W.kitOne K (.ref ad.C_Nothing) (.type "RuntimeError") = some false
  kib_ValueError_NoText : PySem.W.kitOne K (.ref ad.C_NoText) (.type "ValueError") = some true
  kib_ValueError_NoPlacing : PySem.W.kitOne K (.ref ad.C_NoPlacing) (.type "ValueError") = some true
  kib_ValueError_NoEdit : PySem.W.kitOne K (.ref ad.C_NoEdit) (.type "ValueError") = some true
  kib_ValueError_NoLine : PySem.W.kitOne K (.ref ad.C_NoLine) (.type "ValueError") = some true
  kib_ValueError_Taken : PySem.W.kitOne K (.ref ad.C_Taken) (.type "ValueError") = some true
  kib_ValueError_Held : PySem.W.kitOne K (.ref ad.C_Held) (.type "ValueError") = some true
  kib_ValueError_Full : PySem.W.kitOne K (.ref ad.C_Full) (.type "ValueError") = some true
  kib_ValueError_NoBlock : PySem.W.kitOne K (.ref ad.C_NoBlock) (.type "ValueError") = some false
  kib_ValueError_NoRow : PySem.W.kitOne K (.ref ad.C_NoRow) (.type "ValueError") = some false
  kib_ValueError_NoPlace : PySem.W.kitOne K (.ref ad.C_NoPlace) (.type "ValueError") = some false
  kib_ValueError_Stopped : PySem.W.kitOne K (.ref ad.C_Stopped) (.type "ValueError") = some false
  kib_ValueError_NoProgram : PySem.W.kitOne K (.ref ad.C_NoProgram) (.type "ValueError") = some true
  kib_ValueError_Nothing : PySem.W.kitOne K (.ref ad.C_Nothing) (.type "ValueError") = some true
  n_LookupError : mg "LookupError" = none
  n_RuntimeError : mg "RuntimeError" = none
  n_ValueError : mg "ValueError" = none
  n_abs : mg "abs" = none
  n_all : mg "all" = none
  n_enumerate : mg "enumerate" = none
  n_int : mg "int" = none
  n_isinstance : mg "isinstance" = none
  n_len : mg "len" = none
  n_max : mg "max" = none
  n_min : mg "min" = none
  n_range : mg "range" = none
  n_repr : mg "repr" = none
section
variable {P : Program} {w : World} {K : PySem.W.Frag} {mg : Str → Option Value} {base : Heap} {ad : Ad} {fd : Fd}
theorem Top.kp__law_take (T : Top K w mg ad fd) : PySem.W.keepIn K (.ref ad.f__law_take) = true := T.F__law_take.kp
theorem Top.kp__law_pick (T : Top K w mg ad fd) : PySem.W.keepIn K (.ref ad.f__law_pick) = true := T.F__law_pick.kp
theorem Top.kp__law_things (T : Top K w mg ad fd) : PySem.W.keepIn K (.ref ad.f__law_things) = true := T.F__law_things.kp
theorem Top.kp__law_made (T : Top K w mg ad fd) : PySem.W.keepIn K (.ref ad.f__law_made) = true := T.F__law_made.kp
theorem Top.kp__law_hand (T : Top K w mg ad fd) : PySem.W.keepIn K (.ref ad.f__law_hand) = true := T.F__law_hand.kp
theorem Top.kp__law_raised (T : Top K w mg ad fd) : PySem.W.keepIn K (.ref ad.f__law_raised) = true := T.F__law_raised.kp
theorem Top.kp__law_values_right (T : Top K w mg ad fd) : PySem.W.keepIn K (.ref ad.f__law_values_right) = true := T.F__law_values_right.kp
theorem Top.kp__law_classes_right (T : Top K w mg ad fd) : PySem.W.keepIn K (.ref ad.f__law_classes_right) = true := T.F__law_classes_right.kp
theorem Top.c_NoText (_T : Top K w mg ad fd) : (gx ad).cls "NoText" = some ad.C_NoText := by
  unfold gx
  dsimp only
  exact if_pos rfl
theorem Top.c_NoEdit (_T : Top K w mg ad fd) : (gx ad).cls "NoEdit" = some ad.C_NoEdit := by
  unfold gx
  dsimp only
  rw [if_neg (by decide +kernel)]
  exact if_pos rfl
theorem Top.c_NoLine (_T : Top K w mg ad fd) : (gx ad).cls "NoLine" = some ad.C_NoLine := by
  unfold gx
  dsimp only
  rw [if_neg (by decide +kernel)]
  rw [if_neg (by decide +kernel)]
  exact if_pos rfl
theorem Top.c_Taken (_T : Top K w mg ad fd) : (gx ad).cls "Taken" = some ad.C_Taken := by
  unfold gx
  dsimp only
  rw [if_neg (by decide +kernel)]
  rw [if_neg (by decide +kernel)]
  rw [if_neg (by decide +kernel)]
  exact if_pos rfl
theorem Top.c_Held (_T : Top K w mg ad fd) : (gx ad).cls "Held" = some ad.C_Held := by
  unfold gx
  dsimp only
  rw [if_neg (by decide +kernel)]
  rw [if_neg (by decide +kernel)]
  rw [if_neg (by decide +kernel)]
  rw [if_neg (by decide +kernel)]
  exact if_pos rfl
theorem Top.c_Full (_T : Top K w mg ad fd) : (gx ad).cls "Full" = some ad.C_Full := by
  unfold gx
  dsimp only
  rw [if_neg (by decide +kernel)]
  rw [if_neg (by decide +kernel)]
  rw [if_neg (by decide +kernel)]
  rw [if_neg (by decide +kernel)]
  rw [if_neg (by decide +kernel)]
  exact if_pos rfl
theorem Top.c_NoBlock (_T : Top K w mg ad fd) : (gx ad).cls "NoBlock" = some ad.C_NoBlock := by
  unfold gx
  dsimp only
  rw [if_neg (by decide +kernel)]
  rw [if_neg (by decide +kernel)]
  rw [if_neg (by decide +kernel)]
  rw [if_neg (by decide +kernel)]
  rw [if_neg (by decide +kernel)]
  rw [if_neg (by decide +kernel)]
  exact if_pos rfl
theorem Top.c_NoRow (_T : Top K w mg ad fd) : (gx ad).cls "NoRow" = some ad.C_NoRow := by
  unfold gx
  dsimp only
  rw [if_neg (by decide +kernel)]
  rw [if_neg (by decide +kernel)]
  rw [if_neg (by decide +kernel)]
  rw [if_neg (by decide +kernel)]
  rw [if_neg (by decide +kernel)]
  rw [if_neg (by decide +kernel)]
  rw [if_neg (by decide +kernel)]
  exact if_pos rfl
theorem Top.c_NoPlace (_T : Top K w mg ad fd) : (gx ad).cls "NoPlace" = some ad.C_NoPlace := by
  unfold gx
  dsimp only
  rw [if_neg (by decide +kernel)]
  rw [if_neg (by decide +kernel)]
  rw [if_neg (by decide +kernel)]
  rw [if_neg (by decide +kernel)]
  rw [if_neg (by decide +kernel)]
  rw [if_neg (by decide +kernel)]
  rw [if_neg (by decide +kernel)]
  rw [if_neg (by decide +kernel)]
  exact if_pos rfl
theorem Top.c_Stopped (_T : Top K w mg ad fd) : (gx ad).cls "Stopped" = some ad.C_Stopped := by
  unfold gx
  dsimp only
  rw [if_neg (by decide +kernel)]
  rw [if_neg (by decide +kernel)]
  rw [if_neg (by decide +kernel)]
  rw [if_neg (by decide +kernel)]
  rw [if_neg (by decide +kernel)]
  rw [if_neg (by decide +kernel)]
  rw [if_neg (by decide +kernel)]
  rw [if_neg (by decide +kernel)]
  rw [if_neg (by decide +kernel)]
  exact if_pos rfl
theorem Top.c_NoPlacing (_T : Top K w mg ad fd) : (gx ad).cls "NoPlacing" = some ad.C_NoPlacing := by
  unfold gx
  dsimp only
  rw [if_neg (by decide +kernel)]
  rw [if_neg (by decide +kernel)]
  rw [if_neg (by decide +kernel)]
  rw [if_neg (by decide +kernel)]
  rw [if_neg (by decide +kernel)]
  rw [if_neg (by decide +kernel)]
  rw [if_neg (by decide +kernel)]
  rw [if_neg (by decide +kernel)]
  rw [if_neg (by decide +kernel)]
  rw [if_neg (by decide +kernel)]
  exact if_pos rfl
theorem Top.c_NoProgram (_T : Top K w mg ad fd) : (gx ad).cls "NoProgram" = some ad.C_NoProgram := by
  unfold gx
  dsimp only
  rw [if_neg (by decide +kernel)]
  rw [if_neg (by decide +kernel)]
  rw [if_neg (by decide +kernel)]
  rw [if_neg (by decide +kernel)]
  rw [if_neg (by decide +kernel)]
  rw [if_neg (by decide +kernel)]
  rw [if_neg (by decide +kernel)]
  rw [if_neg (by decide +kernel)]
  rw [if_neg (by decide +kernel)]
  rw [if_neg (by decide +kernel)]
  rw [if_neg (by decide +kernel)]
  exact if_pos rfl
theorem Top.c_Nothing (_T : Top K w mg ad fd) : (gx ad).cls "Nothing" = some ad.C_Nothing := by
  unfold gx
  dsimp only
  rw [if_neg (by decide +kernel)]
  rw [if_neg (by decide +kernel)]
  rw [if_neg (by decide +kernel)]
  rw [if_neg (by decide +kernel)]
  rw [if_neg (by decide +kernel)]
  rw [if_neg (by decide +kernel)]
  rw [if_neg (by decide +kernel)]
  rw [if_neg (by decide +kernel)]
  rw [if_neg (by decide +kernel)]
  rw [if_neg (by decide +kernel)]
  rw [if_neg (by decide +kernel)]
  rw [if_neg (by decide +kernel)]
  exact if_pos rfl
theorem Top.ix_Full (T : Top K w mg ad fd) : ∀ c C, (["NoText", "NoPlacing", "NoEdit", "NoLine", "Taken", "Held", "Full", "NoBlock", "NoRow", "NoPlace", "Stopped", "NoProgram", "Nothing"] : List Str).contains c = true → (gx ad).cls c = some C → L2.ExcC K C ∧ PySem.W.kitOne K (.ref C) (.ref ad.C_Full) = some ((["Full"] : List Str).contains c) := fun c C hc h => by
  have hk : c ∈ (["NoText", "NoPlacing", "NoEdit", "NoLine", "Taken", "Held", "Full", "NoBlock", "NoRow", "NoPlace", "Stopped", "NoProgram", "Nothing"] : List Str) := by simpa using hc
  clear hc
  rcases List.mem_cons.mp hk with e | hk
  · subst e
    rw [T.c_NoText] at h
    cases h
    exact ⟨T.kx_NoText, T.ki_Full_NoText.trans (congrArg some (by decide +kernel))⟩
  rcases List.mem_cons.mp hk with e | hk
  · subst e
    rw [T.c_NoPlacing] at h
    cases h
    exact ⟨T.kx_NoPlacing, T.ki_Full_NoPlacing.trans (congrArg some (by decide +kernel))⟩
  rcases List.mem_cons.mp hk with e | hk
  · subst e
    rw [T.c_NoEdit] at h
    cases h
    exact ⟨T.kx_NoEdit, T.ki_Full_NoEdit.trans (congrArg some (by decide +kernel))⟩
  rcases List.mem_cons.mp hk with e | hk
  · subst e
    rw [T.c_NoLine] at h
    cases h
    exact ⟨T.kx_NoLine, T.ki_Full_NoLine.trans (congrArg some (by decide +kernel))⟩
  rcases List.mem_cons.mp hk with e | hk
  · subst e
    rw [T.c_Taken] at h
    cases h
    exact ⟨T.kx_Taken, T.ki_Full_Taken.trans (congrArg some (by decide +kernel))⟩
  rcases List.mem_cons.mp hk with e | hk
  · subst e
    rw [T.c_Held] at h
    cases h
    exact ⟨T.kx_Held, T.ki_Full_Held.trans (congrArg some (by decide +kernel))⟩
  rcases List.mem_cons.mp hk with e | hk
  · subst e
    rw [T.c_Full] at h
    cases h
    exact ⟨T.kx_Full, T.ki_Full_Full.trans (congrArg some (by decide +kernel))⟩
  rcases List.mem_cons.mp hk with e | hk
  · subst e
    rw [T.c_NoBlock] at h
    cases h
    exact ⟨T.kx_NoBlock, T.ki_Full_NoBlock.trans (congrArg some (by decide +kernel))⟩
  rcases List.mem_cons.mp hk with e | hk
  · subst e
    rw [T.c_NoRow] at h
    cases h
    exact ⟨T.kx_NoRow, T.ki_Full_NoRow.trans (congrArg some (by decide +kernel))⟩
  rcases List.mem_cons.mp hk with e | hk
  · subst e
    rw [T.c_NoPlace] at h
    cases h
    exact ⟨T.kx_NoPlace, T.ki_Full_NoPlace.trans (congrArg some (by decide +kernel))⟩
  rcases List.mem_cons.mp hk with e | hk
  · subst e
    rw [T.c_Stopped] at h
    cases h
    exact ⟨T.kx_Stopped, T.ki_Full_Stopped.trans (congrArg some (by decide +kernel))⟩
  rcases List.mem_cons.mp hk with e | hk
  · subst e
    rw [T.c_NoProgram] at h
    cases h
    exact ⟨T.kx_NoProgram, T.ki_Full_NoProgram.trans (congrArg some (by decide +kernel))⟩
  rcases List.mem_cons.mp hk with e | hk
  · subst e
    rw [T.c_Nothing] at h
    cases h
    exact ⟨T.kx_Nothing, T.ki_Full_Nothing.trans (congrArg some (by decide +kernel))⟩
  cases hk
theorem Top.ix_Halted (T : Top K w mg ad fd) : ∀ c C, (["NoText", "NoPlacing", "NoEdit", "NoLine", "Taken", "Held", "Full", "NoBlock", "NoRow", "NoPlace", "Stopped", "NoProgram", "Nothing"] : List Str).contains c = true → (gx ad).cls c = some C → L2.ExcC K C ∧ PySem.W.kitOne K (.ref C) (.ref ad.C_Halted) = some ((["Stopped"] : List Str).contains c) := fun c C hc h => by
  have hk : c ∈ (["NoText", "NoPlacing", "NoEdit", "NoLine", "Taken", "Held", "Full", "NoBlock", "NoRow", "NoPlace", "Stopped", "NoProgram", "Nothing"] : List Str) := by simpa using hc
  clear hc
  rcases List.mem_cons.mp hk with e | hk
  · subst e
    rw [T.c_NoText] at h
    cases h
    exact ⟨T.kx_NoText, T.ki_Halted_NoText.trans (congrArg some (by decide +kernel))⟩
  rcases List.mem_cons.mp hk with e | hk
  · subst e
    rw [T.c_NoPlacing] at h
    cases h
    exact ⟨T.kx_NoPlacing, T.ki_Halted_NoPlacing.trans (congrArg some (by decide +kernel))⟩
  rcases List.mem_cons.mp hk with e | hk
  · subst e
    rw [T.c_NoEdit] at h
    cases h
    exact ⟨T.kx_NoEdit, T.ki_Halted_NoEdit.trans (congrArg some (by decide +kernel))⟩
  rcases List.mem_cons.mp hk with e | hk
  · subst e
    rw [T.c_NoLine] at h
    cases h
    exact ⟨T.kx_NoLine, T.ki_Halted_NoLine.trans (congrArg some (by decide +kernel))⟩
  rcases List.mem_cons.mp hk with e | hk
  · subst e
    rw [T.c_Taken] at h
    cases h
    exact ⟨T.kx_Taken, T.ki_Halted_Taken.trans (congrArg some (by decide +kernel))⟩
  rcases List.mem_cons.mp hk with e | hk
  · subst e
    rw [T.c_Held] at h
    cases h
    exact ⟨T.kx_Held, T.ki_Halted_Held.trans (congrArg some (by decide +kernel))⟩
  rcases List.mem_cons.mp hk with e | hk
  · subst e
    rw [T.c_Full] at h
    cases h
    exact ⟨T.kx_Full, T.ki_Halted_Full.trans (congrArg some (by decide +kernel))⟩
  rcases List.mem_cons.mp hk with e | hk
  · subst e
    rw [T.c_NoBlock] at h
    cases h
    exact ⟨T.kx_NoBlock, T.ki_Halted_NoBlock.trans (congrArg some (by decide +kernel))⟩
  rcases List.mem_cons.mp hk with e | hk
  · subst e
    rw [T.c_NoRow] at h
    cases h
    exact ⟨T.kx_NoRow, T.ki_Halted_NoRow.trans (congrArg some (by decide +kernel))⟩
  rcases List.mem_cons.mp hk with e | hk
  · subst e
    rw [T.c_NoPlace] at h
    cases h
    exact ⟨T.kx_NoPlace, T.ki_Halted_NoPlace.trans (congrArg some (by decide +kernel))⟩
  rcases List.mem_cons.mp hk with e | hk
  · subst e
    rw [T.c_Stopped] at h
    cases h
    exact ⟨T.kx_Stopped, T.ki_Halted_Stopped.trans (congrArg some (by decide +kernel))⟩
  rcases List.mem_cons.mp hk with e | hk
  · subst e
    rw [T.c_NoProgram] at h
    cases h
    exact ⟨T.kx_NoProgram, T.ki_Halted_NoProgram.trans (congrArg some (by decide +kernel))⟩
  rcases List.mem_cons.mp hk with e | hk
  · subst e
    rw [T.c_Nothing] at h
    cases h
    exact ⟨T.kx_Nothing, T.ki_Halted_Nothing.trans (congrArg some (by decide +kernel))⟩
  cases hk
theorem Top.ix_Held (T : Top K w mg ad fd) : ∀ c C, (["NoText", "NoPlacing", "NoEdit", "NoLine", "Taken", "Held", "Full", "NoBlock", "NoRow", "NoPlace", "Stopped", "NoProgram", "Nothing"] : List Str).contains c = true → (gx ad).cls c = some C → L2.ExcC K C ∧ PySem.W.kitOne K (.ref C) (.ref ad.C_Held) = some ((["Held"] : List Str).contains c) := fun c C hc h => by
  have hk : c ∈ (["NoText", "NoPlacing", "NoEdit", "NoLine", "Taken", "Held", "Full", "NoBlock", "NoRow", "NoPlace", "Stopped", "NoProgram", "Nothing"] : List Str) := by simpa using hc
  clear hc
  rcases List.mem_cons.mp hk with e | hk
  · subst e
    rw [T.c_NoText] at h
    cases h
    exact ⟨T.kx_NoText, T.ki_Held_NoText.trans (congrArg some (by decide +kernel))⟩
  rcases List.mem_cons.mp hk with e | hk
  · subst e
    rw [T.c_NoPlacing] at h
    cases h
    exact ⟨T.kx_NoPlacing, T.ki_Held_NoPlacing.trans (congrArg some (by decide +kernel))⟩
  rcases List.mem_cons.mp hk with e | hk
  · subst e
    rw [T.c_NoEdit] at h
    cases h
    exact ⟨T.kx_NoEdit, T.ki_Held_NoEdit.trans (congrArg some (by decide +kernel))⟩
  rcases List.mem_cons.mp hk with e | hk
  · subst e
    rw [T.c_NoLine] at h
    cases h
    exact ⟨T.kx_NoLine, T.ki_Held_NoLine.trans (congrArg some (by decide +kernel))⟩
  rcases List.mem_cons.mp hk with e | hk
  · subst e
    rw [T.c_Taken] at h
    cases h
    exact ⟨T.kx_Taken, T.ki_Held_Taken.trans (congrArg some (by decide +kernel))⟩
  rcases List.mem_cons.mp hk with e | hk
  · subst e
    rw [T.c_Held] at h
    cases h
    exact ⟨T.kx_Held, T.ki_Held_Held.trans (congrArg some (by decide +kernel))⟩
  rcases List.mem_cons.mp hk with e | hk
  · subst e
    rw [T.c_Full] at h
    cases h
    exact ⟨T.kx_Full, T.ki_Held_Full.trans (congrArg some (by decide +kernel))⟩
  rcases List.mem_cons.mp hk with e | hk
  · subst e
    rw [T.c_NoBlock] at h
    cases h
    exact ⟨T.kx_NoBlock, T.ki_Held_NoBlock.trans (congrArg some (by decide +kernel))⟩
  rcases List.mem_cons.mp hk with e | hk
  · subst e
    rw [T.c_NoRow] at h
    cases h
    exact ⟨T.kx_NoRow, T.ki_Held_NoRow.trans (congrArg some (by decide +kernel))⟩
  rcases List.mem_cons.mp hk with e | hk
  · subst e
    rw [T.c_NoPlace] at h
    cases h
    exact ⟨T.kx_NoPlace, T.ki_Held_NoPlace.trans (congrArg some (by decide +kernel))⟩
  rcases List.mem_cons.mp hk with e | hk
  · subst e
    rw [T.c_Stopped] at h
    cases h
    exact ⟨T.kx_Stopped, T.ki_Held_Stopped.trans (congrArg some (by decide +kernel))⟩
  rcases List.mem_cons.mp hk with e | hk
  · subst e
    rw [T.c_NoProgram] at h
    cases h
    exact ⟨T.kx_NoProgram, T.ki_Held_NoProgram.trans (congrArg some (by decide +kernel))⟩
  rcases List.mem_cons.mp hk with e | hk
  · subst e
    rw [T.c_Nothing] at h
    cases h
    exact ⟨T.kx_Nothing, T.ki_Held_Nothing.trans (congrArg some (by decide +kernel))⟩
  cases hk
theorem Top.ix_Missing (T : Top K w mg ad fd) : ∀ c C, (["NoText", "NoPlacing", "NoEdit", "NoLine", "Taken", "Held", "Full", "NoBlock", "NoRow", "NoPlace", "Stopped", "NoProgram", "Nothing"] : List Str).contains c = true → (gx ad).cls c = some C → L2.ExcC K C ∧ PySem.W.kitOne K (.ref C) (.ref ad.C_Missing) = some ((["NoBlock", "NoRow", "NoPlace"] : List Str).contains c) := fun c C hc h => by
  have hk : c ∈ (["NoText", "NoPlacing", "NoEdit", "NoLine", "Taken", "Held", "Full", "NoBlock", "NoRow", "NoPlace", "Stopped", "NoProgram", "Nothing"] : List Str) := by simpa using hc
  clear hc
  rcases List.mem_cons.mp hk with e | hk
  · subst e
    rw [T.c_NoText] at h
    cases h
    exact ⟨T.kx_NoText, T.ki_Missing_NoText.trans (congrArg some (by decide +kernel))⟩
  rcases List.mem_cons.mp hk with e | hk
  · subst e
    rw [T.c_NoPlacing] at h
    cases h
    exact ⟨T.kx_NoPlacing, T.ki_Missing_NoPlacing.trans (congrArg some (by decide +kernel))⟩
  rcases List.mem_cons.mp hk with e | hk
  · subst e
    rw [T.c_NoEdit] at h
    cases h
    exact ⟨T.kx_NoEdit, T.ki_Missing_NoEdit.trans (congrArg some (by decide +kernel))⟩
  rcases List.mem_cons.mp hk with e | hk
  · subst e
    rw [T.c_NoLine] at h
    cases h
    exact ⟨T.kx_NoLine, T.ki_Missing_NoLine.trans (congrArg some (by decide +kernel))⟩
  rcases List.mem_cons.mp hk with e | hk
  · subst e
    rw [T.c_Taken] at h
    cases h
    exact ⟨T.kx_Taken, T.ki_Missing_Taken.trans (congrArg some (by decide +kernel))⟩
  rcases List.mem_cons.mp hk with e | hk
  · subst e
    rw [T.c_Held] at h
    cases h
    exact ⟨T.kx_Held, T.ki_Missing_Held.trans (congrArg some (by decide +kernel))⟩
  rcases List.mem_cons.mp hk with e | hk
  · subst e
    rw [T.c_Full] at h
    cases h
    exact ⟨T.kx_Full, T.ki_Missing_Full.trans (congrArg some (by decide +kernel))⟩
  rcases List.mem_cons.mp hk with e | hk
  · subst e
    rw [T.c_NoBlock] at h
    cases h
    exact ⟨T.kx_NoBlock, T.ki_Missing_NoBlock.trans (congrArg some (by decide +kernel))⟩
  rcases List.mem_cons.mp hk with e | hk
  · subst e
    rw [T.c_NoRow] at h
    cases h
    exact ⟨T.kx_NoRow, T.ki_Missing_NoRow.trans (congrArg some (by decide +kernel))⟩
  rcases List.mem_cons.mp hk with e | hk
  · subst e
    rw [T.c_NoPlace] at h
    cases h
    exact ⟨T.kx_NoPlace, T.ki_Missing_NoPlace.trans (congrArg some (by decide +kernel))⟩
  rcases List.mem_cons.mp hk with e | hk
  · subst e
    rw [T.c_Stopped] at h
    cases h
    exact ⟨T.kx_Stopped, T.ki_Missing_Stopped.trans (congrArg some (by decide +kernel))⟩
  rcases List.mem_cons.mp hk with e | hk
  · subst e
    rw [T.c_NoProgram] at h
    cases h
    exact ⟨T.kx_NoProgram, T.ki_Missing_NoProgram.trans (congrArg some (by decide +kernel))⟩
  rcases List.mem_cons.mp hk with e | hk
  · subst e
    rw [T.c_Nothing] at h
    cases h
    exact ⟨T.kx_Nothing, T.ki_Missing_Nothing.trans (congrArg some (by decide +kernel))⟩
  cases hk
theorem Top.ix_NoBlock (T : Top K w mg ad fd) : ∀ c C, (["NoText", "NoPlacing", "NoEdit", "NoLine", "Taken", "Held", "Full", "NoBlock", "NoRow", "NoPlace", "Stopped", "NoProgram", "Nothing"] : List Str).contains c = true → (gx ad).cls c = some C → L2.ExcC K C ∧ PySem.W.kitOne K (.ref C) (.ref ad.C_NoBlock) = some ((["NoBlock"] : List Str).contains c) := fun c C hc h => by
  have hk : c ∈ (["NoText", "NoPlacing", "NoEdit", "NoLine", "Taken", "Held", "Full", "NoBlock", "NoRow", "NoPlace", "Stopped", "NoProgram", "Nothing"] : List Str) := by simpa using hc
  clear hc
  rcases List.mem_cons.mp hk with e | hk
  · subst e
    rw [T.c_NoText] at h
    cases h
    exact ⟨T.kx_NoText, T.ki_NoBlock_NoText.trans (congrArg some (by decide +kernel))⟩
  rcases List.mem_cons.mp hk with e | hk
  · subst e
    rw [T.c_NoPlacing] at h
    cases h
    exact ⟨T.kx_NoPlacing, T.ki_NoBlock_NoPlacing.trans (congrArg some (by decide +kernel))⟩
  rcases List.mem_cons.mp hk with e | hk
  · subst e
    rw [T.c_NoEdit] at h
    cases h
    exact ⟨T.kx_NoEdit, T.ki_NoBlock_NoEdit.trans (congrArg some (by decide +kernel))⟩
  rcases List.mem_cons.mp hk with e | hk
  · subst e
    rw [T.c_NoLine] at h
    cases h
    exact ⟨T.kx_NoLine, T.ki_NoBlock_NoLine.trans (congrArg some (by decide +kernel))⟩
  rcases List.mem_cons.mp hk with e | hk
  · subst e
    rw [T.c_Taken] at h
    cases h
    exact ⟨T.kx_Taken, T.ki_NoBlock_Taken.trans (congrArg some (by decide +kernel))⟩
  rcases List.mem_cons.mp hk with e | hk
  · subst e
    rw [T.c_Held] at h
    cases h
    exact ⟨T.kx_Held, T.ki_NoBlock_Held.trans (congrArg some (by decide +kernel))⟩
  rcases List.mem_cons.mp hk with e | hk
  · subst e
    rw [T.c_Full] at h
    cases h
    exact ⟨T.kx_Full, T.ki_NoBlock_Full.trans (congrArg some (by decide +kernel))⟩
  rcases List.mem_cons.mp hk with e | hk
  · subst e
    rw [T.c_NoBlock] at h
    cases h
    exact ⟨T.kx_NoBlock, T.ki_NoBlock_NoBlock.trans (congrArg some (by decide +kernel))⟩
  rcases List.mem_cons.mp hk with e | hk
  · subst e
    rw [T.c_NoRow] at h
    cases h
    exact ⟨T.kx_NoRow, T.ki_NoBlock_NoRow.trans (congrArg some (by decide +kernel))⟩
  rcases List.mem_cons.mp hk with e | hk
  · subst e
    rw [T.c_NoPlace] at h
    cases h
    exact ⟨T.kx_NoPlace, T.ki_NoBlock_NoPlace.trans (congrArg some (by decide +kernel))⟩
  rcases List.mem_cons.mp hk with e | hk
  · subst e
    rw [T.c_Stopped] at h
    cases h
    exact ⟨T.kx_Stopped, T.ki_NoBlock_Stopped.trans (congrArg some (by decide +kernel))⟩
  rcases List.mem_cons.mp hk with e | hk
  · subst e
    rw [T.c_NoProgram] at h
    cases h
    exact ⟨T.kx_NoProgram, T.ki_NoBlock_NoProgram.trans (congrArg some (by decide +kernel))⟩
  rcases List.mem_cons.mp hk with e | hk
  · subst e
    rw [T.c_Nothing] at h
    cases h
    exact ⟨T.kx_Nothing, T.ki_NoBlock_Nothing.trans (congrArg some (by decide +kernel))⟩
  cases hk
theorem Top.ix_NoEdit (T : Top K w mg ad fd) : ∀ c C, (["NoText", "NoPlacing", "NoEdit", "NoLine", "Taken", "Held", "Full", "NoBlock", "NoRow", "NoPlace", "Stopped", "NoProgram", "Nothing"] : List Str).contains c = true → (gx ad).cls c = some C → L2.ExcC K C ∧ PySem.W.kitOne K (.ref C) (.ref ad.C_NoEdit) = some ((["NoEdit"] : List Str).contains c) := fun c C hc h => by
  have hk : c ∈ (["NoText", "NoPlacing", "NoEdit", "NoLine", "Taken", "Held", "Full", "NoBlock", "NoRow", "NoPlace", "Stopped", "NoProgram", "Nothing"] : List Str) := by simpa using hc
  clear hc
  rcases List.mem_cons.mp hk with e | hk
  · subst e
    rw [T.c_NoText] at h
    cases h
    exact ⟨T.kx_NoText, T.ki_NoEdit_NoText.trans (congrArg some (by decide +kernel))⟩
  rcases List.mem_cons.mp hk with e | hk
  · subst e
    rw [T.c_NoPlacing] at h
    cases h
    exact ⟨T.kx_NoPlacing, T.ki_NoEdit_NoPlacing.trans (congrArg some (by decide +kernel))⟩
  rcases List.mem_cons.mp hk with e | hk
  · subst e
    rw [T.c_NoEdit] at h
    cases h
    exact ⟨T.kx_NoEdit, T.ki_NoEdit_NoEdit.trans (congrArg some (by decide +kernel))⟩
  rcases List.mem_cons.mp hk with e | hk
  · subst e
    rw [T.c_NoLine] at h
    cases h
    exact ⟨T.kx_NoLine, T.ki_NoEdit_NoLine.trans (congrArg some (by decide +kernel))⟩
  rcases List.mem_cons.mp hk with e | hk
  · subst e
    rw [T.c_Taken] at h
    cases h
    exact ⟨T.kx_Taken, T.ki_NoEdit_Taken.trans (congrArg some (by decide +kernel))⟩
  rcases List.mem_cons.mp hk with e | hk
  · subst e
    rw [T.c_Held] at h
    cases h
    exact ⟨T.kx_Held, T.ki_NoEdit_Held.trans (congrArg some (by decide +kernel))⟩
  rcases List.mem_cons.mp hk with e | hk
  · subst e
    rw [T.c_Full] at h
    cases h
    exact ⟨T.kx_Full, T.ki_NoEdit_Full.trans (congrArg some (by decide +kernel))⟩
  rcases List.mem_cons.mp hk with e | hk
  · subst e
    rw [T.c_NoBlock] at h
    cases h
    exact ⟨T.kx_NoBlock, T.ki_NoEdit_NoBlock.trans (congrArg some (by decide +kernel))⟩
  rcases List.mem_cons.mp hk with e | hk
  · subst e
    rw [T.c_NoRow] at h
    cases h
    exact ⟨T.kx_NoRow, T.ki_NoEdit_NoRow.trans (congrArg some (by decide +kernel))⟩
  rcases List.mem_cons.mp hk with e | hk
  · subst e
    rw [T.c_NoPlace] at h
    cases h
    exact ⟨T.kx_NoPlace, T.ki_NoEdit_NoPlace.trans (congrArg some (by decide +kernel))⟩
  rcases List.mem_cons.mp hk with e | hk
  · subst e
    rw [T.c_Stopped] at h
    cases h
    exact ⟨T.kx_Stopped, T.ki_NoEdit_Stopped.trans (congrArg some (by decide +kernel))⟩
  rcases List.mem_cons.mp hk with e | hk
  · subst e
    rw [T.c_NoProgram] at h
    cases h
    exact ⟨T.kx_NoProgram, T.ki_NoEdit_NoProgram.trans (congrArg some (by decide +kernel))⟩
  rcases List.mem_cons.mp hk with e | hk
  · subst e
    rw [T.c_Nothing] at h
    cases h
    exact ⟨T.kx_Nothing, T.ki_NoEdit_Nothing.trans (congrArg some (by decide +kernel))⟩
  cases hk
theorem Top.ix_NoLine (T : Top K w mg ad fd) : ∀ c C, (["NoText", "NoPlacing", "NoEdit", "NoLine", "Taken", "Held", "Full", "NoBlock", "NoRow", "NoPlace", "Stopped", "NoProgram", "Nothing"] : List Str).contains c = true → (gx ad).cls c = some C → L2.ExcC K C ∧ PySem.W.kitOne K (.ref C) (.ref ad.C_NoLine) = some ((["NoLine"] : List Str).contains c) := fun c C hc h => by
  have hk : c ∈ (["NoText", "NoPlacing", "NoEdit", "NoLine", "Taken", "Held", "Full", "NoBlock", "NoRow", "NoPlace", "Stopped", "NoProgram", "Nothing"] : List Str) := by simpa using hc
  clear hc
  rcases List.mem_cons.mp hk with e | hk
  · subst e
    rw [T.c_NoText] at h
    cases h
    exact ⟨T.kx_NoText, T.ki_NoLine_NoText.trans (congrArg some (by decide +kernel))⟩
  rcases List.mem_cons.mp hk with e | hk
  · subst e
    rw [T.c_NoPlacing] at h
    cases h
    exact ⟨T.kx_NoPlacing, T.ki_NoLine_NoPlacing.trans (congrArg some (by decide +kernel))⟩
  rcases List.mem_cons.mp hk with e | hk
  · subst e
    rw [T.c_NoEdit] at h
    cases h
    exact ⟨T.kx_NoEdit, T.ki_NoLine_NoEdit.trans (congrArg some (by decide +kernel))⟩
  rcases List.mem_cons.mp hk with e | hk
  · subst e
    rw [T.c_NoLine] at h
    cases h
    exact ⟨T.kx_NoLine, T.ki_NoLine_NoLine.trans (congrArg some (by decide +kernel))⟩
  rcases List.mem_cons.mp hk with e | hk
  · subst e
    rw [T.c_Taken] at h
    cases h
    exact ⟨T.kx_Taken, T.ki_NoLine_Taken.trans (congrArg some (by decide +kernel))⟩
  rcases List.mem_cons.mp hk with e | hk
  · subst e
    rw [T.c_Held] at h
    cases h
    exact ⟨T.kx_Held, T.ki_NoLine_Held.trans (congrArg some (by decide +kernel))⟩
  rcases List.mem_cons.mp hk with e | hk
  · subst e
    rw [T.c_Full] at h
    cases h
    exact ⟨T.kx_Full, T.ki_NoLine_Full.trans (congrArg some (by decide +kernel))⟩
  rcases List.mem_cons.mp hk with e | hk
  · subst e
    rw [T.c_NoBlock] at h
    cases h
    exact ⟨T.kx_NoBlock, T.ki_NoLine_NoBlock.trans (congrArg some (by decide +kernel))⟩
  rcases List.mem_cons.mp hk with e | hk
  · subst e
    rw [T.c_NoRow] at h
    cases h
    exact ⟨T.kx_NoRow, T.ki_NoLine_NoRow.trans (congrArg some (by decide +kernel))⟩
  rcases List.mem_cons.mp hk with e | hk
  · subst e
    rw [T.c_NoPlace] at h
    cases h
    exact ⟨T.kx_NoPlace, T.ki_NoLine_NoPlace.trans (congrArg some (by decide +kernel))⟩
  rcases List.mem_cons.mp hk with e | hk
  · subst e
    rw [T.c_Stopped] at h
    cases h
    exact ⟨T.kx_Stopped, T.ki_NoLine_Stopped.trans (congrArg some (by decide +kernel))⟩
  rcases List.mem_cons.mp hk with e | hk
  · subst e
    rw [T.c_NoProgram] at h
    cases h
    exact ⟨T.kx_NoProgram, T.ki_NoLine_NoProgram.trans (congrArg some (by decide +kernel))⟩
  rcases List.mem_cons.mp hk with e | hk
  · subst e
    rw [T.c_Nothing] at h
    cases h
    exact ⟨T.kx_Nothing, T.ki_NoLine_Nothing.trans (congrArg some (by decide +kernel))⟩
  cases hk
theorem Top.ix_NoPlace (T : Top K w mg ad fd) : ∀ c C, (["NoText", "NoPlacing", "NoEdit", "NoLine", "Taken", "Held", "Full", "NoBlock", "NoRow", "NoPlace", "Stopped", "NoProgram", "Nothing"] : List Str).contains c = true → (gx ad).cls c = some C → L2.ExcC K C ∧ PySem.W.kitOne K (.ref C) (.ref ad.C_NoPlace) = some ((["NoPlace"] : List Str).contains c) := fun c C hc h => by
  have hk : c ∈ (["NoText", "NoPlacing", "NoEdit", "NoLine", "Taken", "Held", "Full", "NoBlock", "NoRow", "NoPlace", "Stopped", "NoProgram", "Nothing"] : List Str) := by simpa using hc
  clear hc
  rcases List.mem_cons.mp hk with e | hk
  · subst e
    rw [T.c_NoText] at h
    cases h
    exact ⟨T.kx_NoText, T.ki_NoPlace_NoText.trans (congrArg some (by decide +kernel))⟩
  rcases List.mem_cons.mp hk with e | hk
  · subst e
    rw [T.c_NoPlacing] at h
    cases h
    exact ⟨T.kx_NoPlacing, T.ki_NoPlace_NoPlacing.trans (congrArg some (by decide +kernel))⟩
  rcases List.mem_cons.mp hk with e | hk
  · subst e
    rw [T.c_NoEdit] at h
    cases h
    exact ⟨T.kx_NoEdit, T.ki_NoPlace_NoEdit.trans (congrArg some (by decide +kernel))⟩
  rcases List.mem_cons.mp hk with e | hk
  · subst e
    rw [T.c_NoLine] at h
    cases h
    exact ⟨T.kx_NoLine, T.ki_NoPlace_NoLine.trans (congrArg some (by decide +kernel))⟩
  rcases List.mem_cons.mp hk with e | hk
  · subst e
    rw [T.c_Taken] at h
    cases h
    exact ⟨T.kx_Taken, T.ki_NoPlace_Taken.trans (congrArg some (by decide +kernel))⟩
  rcases List.mem_cons.mp hk with e | hk
  · subst e
    rw [T.c_Held] at h
    cases h
    exact ⟨T.kx_Held, T.ki_NoPlace_Held.trans (congrArg some (by decide +kernel))⟩
  rcases List.mem_cons.mp hk with e | hk
  · subst e
    rw [T.c_Full] at h
    cases h
    exact ⟨T.kx_Full, T.ki_NoPlace_Full.trans (congrArg some (by decide +kernel))⟩
  rcases List.mem_cons.mp hk with e | hk
  · subst e
    rw [T.c_NoBlock] at h
    cases h
    exact ⟨T.kx_NoBlock, T.ki_NoPlace_NoBlock.trans (congrArg some (by decide +kernel))⟩
  rcases List.mem_cons.mp hk with e | hk
  · subst e
    rw [T.c_NoRow] at h
    cases h
    exact ⟨T.kx_NoRow, T.ki_NoPlace_NoRow.trans (congrArg some (by decide +kernel))⟩
  rcases List.mem_cons.mp hk with e | hk
  · subst e
    rw [T.c_NoPlace] at h
    cases h
    exact ⟨T.kx_NoPlace, T.ki_NoPlace_NoPlace.trans (congrArg some (by decide +kernel))⟩
  rcases List.mem_cons.mp hk with e | hk
  · subst e
    rw [T.c_Stopped] at h
    cases h
    exact ⟨T.kx_Stopped, T.ki_NoPlace_Stopped.trans (congrArg some (by decide +kernel))⟩
  rcases List.mem_cons.mp hk with e | hk
  · subst e
    rw [T.c_NoProgram] at h
    cases h
    exact ⟨T.kx_NoProgram, T.ki_NoPlace_NoProgram.trans (congrArg some (by decide +kernel))⟩
  rcases List.mem_cons.mp hk with e | hk
  · subst e
    rw [T.c_Nothing] at h
    cases h
    exact ⟨T.kx_Nothing, T.ki_NoPlace_Nothing.trans (congrArg some (by decide +kernel))⟩
  cases hk
theorem Top.ix_NoPlacing (T : Top K w mg ad fd) : ∀ c C, (["NoText", "NoPlacing", "NoEdit", "NoLine", "Taken", "Held", "Full", "NoBlock", "NoRow", "NoPlace", "Stopped", "NoProgram", "Nothing"] : List Str).contains c = true → (gx ad).cls c = some C → L2.ExcC K C ∧ PySem.W.kitOne K (.ref C) (.ref ad.C_NoPlacing) = some ((["NoPlacing"] : List Str).contains c) := fun c C hc h => by
  have hk : c ∈ (["NoText", "NoPlacing", "NoEdit", "NoLine", "Taken", "Held", "Full", "NoBlock", "NoRow", "NoPlace", "Stopped", "NoProgram", "Nothing"] : List Str) := by simpa using hc
  clear hc
  rcases List.mem_cons.mp hk with e | hk
  · subst e
    rw [T.c_NoText] at h
    cases h
    exact ⟨T.kx_NoText, T.ki_NoPlacing_NoText.trans (congrArg some (by decide +kernel))⟩
  rcases List.mem_cons.mp hk with e | hk
  · subst e
    rw [T.c_NoPlacing] at h
    cases h
    exact ⟨T.kx_NoPlacing, T.ki_NoPlacing_NoPlacing.trans (congrArg some (by decide +kernel))⟩
  rcases List.mem_cons.mp hk with e | hk
  · subst e
    rw [T.c_NoEdit] at h
    cases h
    exact ⟨T.kx_NoEdit, T.ki_NoPlacing_NoEdit.trans (congrArg some (by decide +kernel))⟩
  rcases List.mem_cons.mp hk with e | hk
  · subst e
    rw [T.c_NoLine] at h
    cases h
    exact ⟨T.kx_NoLine, T.ki_NoPlacing_NoLine.trans (congrArg some (by decide +kernel))⟩
  rcases List.mem_cons.mp hk with e | hk
  · subst e
    rw [T.c_Taken] at h
    cases h
    exact ⟨T.kx_Taken, T.ki_NoPlacing_Taken.trans (congrArg some (by decide +kernel))⟩
  rcases List.mem_cons.mp hk with e | hk
  · subst e
    rw [T.c_Held] at h
    cases h
    exact ⟨T.kx_Held, T.ki_NoPlacing_Held.trans (congrArg some (by decide +kernel))⟩
  rcases List.mem_cons.mp hk with e | hk
  · subst e
    rw [T.c_Full] at h
    cases h
    exact ⟨T.kx_Full, T.ki_NoPlacing_Full.trans (congrArg some (by decide +kernel))⟩
  rcases List.mem_cons.mp hk with e | hk
  · subst e
    rw [T.c_NoBlock] at h
    cases h
    exact ⟨T.kx_NoBlock, T.ki_NoPlacing_NoBlock.trans (congrArg some (by decide +kernel))⟩
  rcases List.mem_cons.mp hk with e | hk
  · subst e
    rw [T.c_NoRow] at h
    cases h
    exact ⟨T.kx_NoRow, T.ki_NoPlacing_NoRow.trans (congrArg some (by decide +kernel))⟩
  rcases List.mem_cons.mp hk with e | hk
  · subst e
    rw [T.c_NoPlace] at h
    cases h
    exact ⟨T.kx_NoPlace, T.ki_NoPlacing_NoPlace.trans (congrArg some (by decide +kernel))⟩
  rcases List.mem_cons.mp hk with e | hk
  · subst e
    rw [T.c_Stopped] at h
    cases h
    exact ⟨T.kx_Stopped, T.ki_NoPlacing_Stopped.trans (congrArg some (by decide +kernel))⟩
  rcases List.mem_cons.mp hk with e | hk
  · subst e
    rw [T.c_NoProgram] at h
    cases h
    exact ⟨T.kx_NoProgram, T.ki_NoPlacing_NoProgram.trans (congrArg some (by decide +kernel))⟩
  rcases List.mem_cons.mp hk with e | hk
  · subst e
    rw [T.c_Nothing] at h
    cases h
    exact ⟨T.kx_Nothing, T.ki_NoPlacing_Nothing.trans (congrArg some (by decide +kernel))⟩
  cases hk
theorem Top.ix_NoProgram (T : Top K w mg ad fd) : ∀ c C, (["NoText", "NoPlacing", "NoEdit", "NoLine", "Taken", "Held", "Full", "NoBlock", "NoRow", "NoPlace", "Stopped", "NoProgram", "Nothing"] : List Str).contains c = true → (gx ad).cls c = some C → L2.ExcC K C ∧ PySem.W.kitOne K (.ref C) (.ref ad.C_NoProgram) = some ((["NoProgram"] : List Str).contains c) := fun c C hc h => by
  have hk : c ∈ (["NoText", "NoPlacing", "NoEdit", "NoLine", "Taken", "Held", "Full", "NoBlock", "NoRow", "NoPlace", "Stopped", "NoProgram", "Nothing"] : List Str) := by simpa using hc
  clear hc
  rcases List.mem_cons.mp hk with e | hk
  · subst e
    rw [T.c_NoText] at h
    cases h
    exact ⟨T.kx_NoText, T.ki_NoProgram_NoText.trans (congrArg some (by decide +kernel))⟩
  rcases List.mem_cons.mp hk with e | hk
  · subst e
    rw [T.c_NoPlacing] at h
    cases h
    exact ⟨T.kx_NoPlacing, T.ki_NoProgram_NoPlacing.trans (congrArg some (by decide +kernel))⟩
  rcases List.mem_cons.mp hk with e | hk
  · subst e
    rw [T.c_NoEdit] at h
    cases h
    exact ⟨T.kx_NoEdit, T.ki_NoProgram_NoEdit.trans (congrArg some (by decide +kernel))⟩
  rcases List.mem_cons.mp hk with e | hk
  · subst e
    rw [T.c_NoLine] at h
    cases h
    exact ⟨T.kx_NoLine, T.ki_NoProgram_NoLine.trans (congrArg some (by decide +kernel))⟩
  rcases List.mem_cons.mp hk with e | hk
  · subst e
    rw [T.c_Taken] at h
    cases h
    exact ⟨T.kx_Taken, T.ki_NoProgram_Taken.trans (congrArg some (by decide +kernel))⟩
  rcases List.mem_cons.mp hk with e | hk
  · subst e
    rw [T.c_Held] at h
    cases h
    exact ⟨T.kx_Held, T.ki_NoProgram_Held.trans (congrArg some (by decide +kernel))⟩
  rcases List.mem_cons.mp hk with e | hk
  · subst e
    rw [T.c_Full] at h
    cases h
    exact ⟨T.kx_Full, T.ki_NoProgram_Full.trans (congrArg some (by decide +kernel))⟩
  rcases List.mem_cons.mp hk with e | hk
  · subst e
    rw [T.c_NoBlock] at h
    cases h
    exact ⟨T.kx_NoBlock, T.ki_NoProgram_NoBlock.trans (congrArg some (by decide +kernel))⟩
  rcases List.mem_cons.mp hk with e | hk
  · subst e
    rw [T.c_NoRow] at h
    cases h
    exact ⟨T.kx_NoRow, T.ki_NoProgram_NoRow.trans (congrArg some (by decide +kernel))⟩
  rcases List.mem_cons.mp hk with e | hk
  · subst e
    rw [T.c_NoPlace] at h
    cases h
    exact ⟨T.kx_NoPlace, T.ki_NoProgram_NoPlace.trans (congrArg some (by decide +kernel))⟩
  rcases List.mem_cons.mp hk with e | hk
  · subst e
    rw [T.c_Stopped] at h
    cases h
    exact ⟨T.kx_Stopped, T.ki_NoProgram_Stopped.trans (congrArg some (by decide +kernel))⟩
  rcases List.mem_cons.mp hk with e | hk
  · subst e
    rw [T.c_NoProgram] at h
    cases h
    exact ⟨T.kx_NoProgram, T.ki_NoProgram_NoProgram.trans (congrArg some (by decide +kernel))⟩
  rcases List.mem_cons.mp hk with e | hk
  · subst e
    rw [T.c_Nothing] at h
    cases h
    exact ⟨T.kx_Nothing, T.ki_NoProgram_Nothing.trans (congrArg some (by decide +kernel))⟩
  cases hk
theorem Top.ix_NoRow (T : Top K w mg ad fd) : ∀ c C, (["NoText", "NoPlacing", "NoEdit", "NoLine", "Taken", "Held", "Full", "NoBlock", "NoRow", "NoPlace", "Stopped", "NoProgram", "Nothing"] : List Str).contains c = true → (gx ad).cls c = some C → L2.ExcC K C ∧ PySem.W.kitOne K (.ref C) (.ref ad.C_NoRow) = some ((["NoRow"] : List Str).contains c) := fun c C hc h => by
  have hk : c ∈ (["NoText", "NoPlacing", "NoEdit", "NoLine", "Taken", "Held", "Full", "NoBlock", "NoRow", "NoPlace", "Stopped", "NoProgram", "Nothing"] : List Str) := by simpa using hc
  clear hc
  rcases List.mem_cons.mp hk with e | hk
  · subst e
    rw [T.c_NoText] at h
    cases h
    exact ⟨T.kx_NoText, T.ki_NoRow_NoText.trans (congrArg some (by decide +kernel))⟩
  rcases List.mem_cons.mp hk with e | hk
  · subst e
    rw [T.c_NoPlacing] at h
    cases h
    exact ⟨T.kx_NoPlacing, T.ki_NoRow_NoPlacing.trans (congrArg some (by decide +kernel))⟩
  rcases List.mem_cons.mp hk with e | hk
  · subst e
    rw [T.c_NoEdit] at h
    cases h
    exact ⟨T.kx_NoEdit, T.ki_NoRow_NoEdit.trans (congrArg some (by decide +kernel))⟩
  rcases List.mem_cons.mp hk with e | hk
  · subst e
    rw [T.c_NoLine] at h
    cases h
    exact ⟨T.kx_NoLine, T.ki_NoRow_NoLine.trans (congrArg some (by decide +kernel))⟩
  rcases List.mem_cons.mp hk with e | hk
  · subst e
    rw [T.c_Taken] at h
    cases h
    exact ⟨T.kx_Taken, T.ki_NoRow_Taken.trans (congrArg some (by decide +kernel))⟩
  rcases List.mem_cons.mp hk with e | hk
  · subst e
    rw [T.c_Held] at h
    cases h
    exact ⟨T.kx_Held, T.ki_NoRow_Held.trans (congrArg some (by decide +kernel))⟩
  rcases List.mem_cons.mp hk with e | hk
  · subst e
    rw [T.c_Full] at h
    cases h
    exact ⟨T.kx_Full, T.ki_NoRow_Full.trans (congrArg some (by decide +kernel))⟩
  rcases List.mem_cons.mp hk with e | hk
  · subst e
    rw [T.c_NoBlock] at h
    cases h
    exact ⟨T.kx_NoBlock, T.ki_NoRow_NoBlock.trans (congrArg some (by decide +kernel))⟩
  rcases List.mem_cons.mp hk with e | hk
  · subst e
    rw [T.c_NoRow] at h
    cases h
    exact ⟨T.kx_NoRow, T.ki_NoRow_NoRow.trans (congrArg some (by decide +kernel))⟩
  rcases List.mem_cons.mp hk with e | hk
  · subst e
    rw [T.c_NoPlace] at h
    cases h
    exact ⟨T.kx_NoPlace, T.ki_NoRow_NoPlace.trans (congrArg some (by decide +kernel))⟩
  rcases List.mem_cons.mp hk with e | hk
  · subst e
    rw [T.c_Stopped] at h
    cases h
    exact ⟨T.kx_Stopped, T.ki_NoRow_Stopped.trans (congrArg some (by decide +kernel))⟩
  rcases List.mem_cons.mp hk with e | hk
  · subst e
    rw [T.c_NoProgram] at h
    cases h
    exact ⟨T.kx_NoProgram, T.ki_NoRow_NoProgram.trans (congrArg some (by decide +kernel))⟩
  rcases List.mem_cons.mp hk with e | hk
  · subst e
    rw [T.c_Nothing] at h
    cases h
    exact ⟨T.kx_Nothing, T.ki_NoRow_Nothing.trans (congrArg some (by decide +kernel))⟩
  cases hk
theorem Top.ix_NoText (T : Top K w mg ad fd) : ∀ c C, (["NoText", "NoPlacing", "NoEdit", "NoLine", "Taken", "Held", "Full", "NoBlock", "NoRow", "NoPlace", "Stopped", "NoProgram", "Nothing"] : List Str).contains c = true → (gx ad).cls c = some C → L2.ExcC K C ∧ PySem.W.kitOne K (.ref C) (.ref ad.C_NoText) = some ((["NoText"] : List Str).contains c) := fun c C hc h => by
  have hk : c ∈ (["NoText", "NoPlacing", "NoEdit", "NoLine", "Taken", "Held", "Full", "NoBlock", "NoRow", "NoPlace", "Stopped", "NoProgram", "Nothing"] : List Str) := by simpa using hc
  clear hc
  rcases List.mem_cons.mp hk with e | hk
  · subst e
    rw [T.c_NoText] at h
    cases h
    exact ⟨T.kx_NoText, T.ki_NoText_NoText.trans (congrArg some (by decide +kernel))⟩
  rcases List.mem_cons.mp hk with e | hk
  · subst e
    rw [T.c_NoPlacing] at h
    cases h
    exact ⟨T.kx_NoPlacing, T.ki_NoText_NoPlacing.trans (congrArg some (by decide +kernel))⟩
  rcases List.mem_cons.mp hk with e | hk
  · subst e
    rw [T.c_NoEdit] at h
    cases h
    exact ⟨T.kx_NoEdit, T.ki_NoText_NoEdit.trans (congrArg some (by decide +kernel))⟩
  rcases List.mem_cons.mp hk with e | hk
  · subst e
    rw [T.c_NoLine] at h
    cases h
    exact ⟨T.kx_NoLine, T.ki_NoText_NoLine.trans (congrArg some (by decide +kernel))⟩
  rcases List.mem_cons.mp hk with e | hk
  · subst e
    rw [T.c_Taken] at h
    cases h
    exact ⟨T.kx_Taken, T.ki_NoText_Taken.trans (congrArg some (by decide +kernel))⟩
  rcases List.mem_cons.mp hk with e | hk
  · subst e
    rw [T.c_Held] at h
    cases h
    exact ⟨T.kx_Held, T.ki_NoText_Held.trans (congrArg some (by decide +kernel))⟩
  rcases List.mem_cons.mp hk with e | hk
  · subst e
    rw [T.c_Full] at h
    cases h
    exact ⟨T.kx_Full, T.ki_NoText_Full.trans (congrArg some (by decide +kernel))⟩
  rcases List.mem_cons.mp hk with e | hk
  · subst e
    rw [T.c_NoBlock] at h
    cases h
    exact ⟨T.kx_NoBlock, T.ki_NoText_NoBlock.trans (congrArg some (by decide +kernel))⟩
  rcases List.mem_cons.mp hk with e | hk
  · subst e
    rw [T.c_NoRow] at h
    cases h
    exact ⟨T.kx_NoRow, T.ki_NoText_NoRow.trans (congrArg some (by decide +kernel))⟩
  rcases List.mem_cons.mp hk with e | hk
  · subst e
    rw [T.c_NoPlace] at h
    cases h
    exact ⟨T.kx_NoPlace, T.ki_NoText_NoPlace.trans (congrArg some (by decide +kernel))⟩
  rcases List.mem_cons.mp hk with e | hk
  · subst e
    rw [T.c_Stopped] at h
    cases h
    exact ⟨T.kx_Stopped, T.ki_NoText_Stopped.trans (congrArg some (by decide +kernel))⟩
  rcases List.mem_cons.mp hk with e | hk
  · subst e
    rw [T.c_NoProgram] at h
    cases h
    exact ⟨T.kx_NoProgram, T.ki_NoText_NoProgram.trans (congrArg some (by decide +kernel))⟩
  rcases List.mem_cons.mp hk with e | hk
  · subst e
    rw [T.c_Nothing] at h
    cases h
    exact ⟨T.kx_Nothing, T.ki_NoText_Nothing.trans (congrArg some (by decide +kernel))⟩
  cases hk
theorem Top.ix_Nothing (T : Top K w mg ad fd) : ∀ c C, (["NoText", "NoPlacing", "NoEdit", "NoLine", "Taken", "Held", "Full", "NoBlock", "NoRow", "NoPlace", "Stopped", "NoProgram", "Nothing"] : List Str).contains c = true → (gx ad).cls c = some C → L2.ExcC K C ∧ PySem.W.kitOne K (.ref C) (.ref ad.C_Nothing) = some ((["Nothing"] : List Str).contains c) := fun c C hc h => by
  have hk : c ∈ (["NoText", "NoPlacing", "NoEdit", "NoLine", "Taken", "Held", "Full", "NoBlock", "NoRow", "NoPlace", "Stopped", "NoProgram", "Nothing"] : List Str) := by simpa using hc
  clear hc
  rcases List.mem_cons.mp hk with e | hk
  · subst e
    rw [T.c_NoText] at h
    cases h
    exact ⟨T.kx_NoText, T.ki_Nothing_NoText.trans (congrArg some (by decide +kernel))⟩
  rcases List.mem_cons.mp hk with e | hk
  · subst e
    rw [T.c_NoPlacing] at h
    cases h
    exact ⟨T.kx_NoPlacing, T.ki_Nothing_NoPlacing.trans (congrArg some (by decide +kernel))⟩
  rcases List.mem_cons.mp hk with e | hk
  · subst e
    rw [T.c_NoEdit] at h
    cases h
    exact ⟨T.kx_NoEdit, T.ki_Nothing_NoEdit.trans (congrArg some (by decide +kernel))⟩
  rcases List.mem_cons.mp hk with e | hk
  · subst e
    rw [T.c_NoLine] at h
    cases h
    exact ⟨T.kx_NoLine, T.ki_Nothing_NoLine.trans (congrArg some (by decide +kernel))⟩
  rcases List.mem_cons.mp hk with e | hk
  · subst e
    rw [T.c_Taken] at h
    cases h
    exact ⟨T.kx_Taken, T.ki_Nothing_Taken.trans (congrArg some (by decide +kernel))⟩
  rcases List.mem_cons.mp hk with e | hk
  · subst e
    rw [T.c_Held] at h
    cases h
    exact ⟨T.kx_Held, T.ki_Nothing_Held.trans (congrArg some (by decide +kernel))⟩
  rcases List.mem_cons.mp hk with e | hk
  · subst e
    rw [T.c_Full] at h
    cases h
    exact ⟨T.kx_Full, T.ki_Nothing_Full.trans (congrArg some (by decide +kernel))⟩
  rcases List.mem_cons.mp hk with e | hk
  · subst e
    rw [T.c_NoBlock] at h
    cases h
    exact ⟨T.kx_NoBlock, T.ki_Nothing_NoBlock.trans (congrArg some (by decide +kernel))⟩
  rcases List.mem_cons.mp hk with e | hk
  · subst e
    rw [T.c_NoRow] at h
    cases h
    exact ⟨T.kx_NoRow, T.ki_Nothing_NoRow.trans (congrArg some (by decide +kernel))⟩
  rcases List.mem_cons.mp hk with e | hk
  · subst e
    rw [T.c_NoPlace] at h
    cases h
    exact ⟨T.kx_NoPlace, T.ki_Nothing_NoPlace.trans (congrArg some (by decide +kernel))⟩
  rcases List.mem_cons.mp hk with e | hk
  · subst e
    rw [T.c_Stopped] at h
    cases h
    exact ⟨T.kx_Stopped, T.ki_Nothing_Stopped.trans (congrArg some (by decide +kernel))⟩
  rcases List.mem_cons.mp hk with e | hk
  · subst e
    rw [T.c_NoProgram] at h
    cases h
    exact ⟨T.kx_NoProgram, T.ki_Nothing_NoProgram.trans (congrArg some (by decide +kernel))⟩
  rcases List.mem_cons.mp hk with e | hk
  · subst e
    rw [T.c_Nothing] at h
    cases h
    exact ⟨T.kx_Nothing, T.ki_Nothing_Nothing.trans (congrArg some (by decide +kernel))⟩
  cases hk
theorem Top.ix_Refused (T : Top K w mg ad fd) : ∀ c C, (["NoText", "NoPlacing", "NoEdit", "NoLine", "Taken", "Held", "Full", "NoBlock", "NoRow", "NoPlace", "Stopped", "NoProgram", "Nothing"] : List Str).contains c = true → (gx ad).cls c = some C → L2.ExcC K C ∧ PySem.W.kitOne K (.ref C) (.ref ad.C_Refused) = some ((["NoText", "NoPlacing", "NoEdit", "NoLine", "Taken", "Held", "Full", "NoProgram", "Nothing"] : List Str).contains c) := fun c C hc h => by
  have hk : c ∈ (["NoText", "NoPlacing", "NoEdit", "NoLine", "Taken", "Held", "Full", "NoBlock", "NoRow", "NoPlace", "Stopped", "NoProgram", "Nothing"] : List Str) := by simpa using hc
  clear hc
  rcases List.mem_cons.mp hk with e | hk
  · subst e
    rw [T.c_NoText] at h
    cases h
    exact ⟨T.kx_NoText, T.ki_Refused_NoText.trans (congrArg some (by decide +kernel))⟩
  rcases List.mem_cons.mp hk with e | hk
  · subst e
    rw [T.c_NoPlacing] at h
    cases h
    exact ⟨T.kx_NoPlacing, T.ki_Refused_NoPlacing.trans (congrArg some (by decide +kernel))⟩
  rcases List.mem_cons.mp hk with e | hk
  · subst e
    rw [T.c_NoEdit] at h
    cases h
    exact ⟨T.kx_NoEdit, T.ki_Refused_NoEdit.trans (congrArg some (by decide +kernel))⟩
  rcases List.mem_cons.mp hk with e | hk
  · subst e
    rw [T.c_NoLine] at h
    cases h
    exact ⟨T.kx_NoLine, T.ki_Refused_NoLine.trans (congrArg some (by decide +kernel))⟩
  rcases List.mem_cons.mp hk with e | hk
  · subst e
    rw [T.c_Taken] at h
    cases h
    exact ⟨T.kx_Taken, T.ki_Refused_Taken.trans (congrArg some (by decide +kernel))⟩
  rcases List.mem_cons.mp hk with e | hk
  · subst e
    rw [T.c_Held] at h
    cases h
    exact ⟨T.kx_Held, T.ki_Refused_Held.trans (congrArg some (by decide +kernel))⟩
  rcases List.mem_cons.mp hk with e | hk
  · subst e
    rw [T.c_Full] at h
    cases h
    exact ⟨T.kx_Full, T.ki_Refused_Full.trans (congrArg some (by decide +kernel))⟩
  rcases List.mem_cons.mp hk with e | hk
  · subst e
    rw [T.c_NoBlock] at h
    cases h
    exact ⟨T.kx_NoBlock, T.ki_Refused_NoBlock.trans (congrArg some (by decide +kernel))⟩
  rcases List.mem_cons.mp hk with e | hk
  · subst e
    rw [T.c_NoRow] at h
    cases h
    exact ⟨T.kx_NoRow, T.ki_Refused_NoRow.trans (congrArg some (by decide +kernel))⟩
  rcases List.mem_cons.mp hk with e | hk
  · subst e
    rw [T.c_NoPlace] at h
    cases h
    exact ⟨T.kx_NoPlace, T.ki_Refused_NoPlace.trans (congrArg some (by decide +kernel))⟩
  rcases List.mem_cons.mp hk with e | hk
  · subst e
    rw [T.c_Stopped] at h
    cases h
    exact ⟨T.kx_Stopped, T.ki_Refused_Stopped.trans (congrArg some (by decide +kernel))⟩
  rcases List.mem_cons.mp hk with e | hk
  · subst e
    rw [T.c_NoProgram] at h
    cases h
    exact ⟨T.kx_NoProgram, T.ki_Refused_NoProgram.trans (congrArg some (by decide +kernel))⟩
  rcases List.mem_cons.mp hk with e | hk
  · subst e
    rw [T.c_Nothing] at h
    cases h
    exact ⟨T.kx_Nothing, T.ki_Refused_Nothing.trans (congrArg some (by decide +kernel))⟩
  cases hk
theorem Top.ix_Stopped (T : Top K w mg ad fd) : ∀ c C, (["NoText", "NoPlacing", "NoEdit", "NoLine", "Taken", "Held", "Full", "NoBlock", "NoRow", "NoPlace", "Stopped", "NoProgram", "Nothing"] : List Str).contains c = true → (gx ad).cls c = some C → L2.ExcC K C ∧ PySem.W.kitOne K (.ref C) (.ref ad.C_Stopped) = some ((["Stopped"] : List Str).contains c) := fun c C hc h => by
  have hk : c ∈ (["NoText", "NoPlacing", "NoEdit", "NoLine", "Taken", "Held", "Full", "NoBlock", "NoRow", "NoPlace", "Stopped", "NoProgram", "Nothing"] : List Str) := by simpa using hc
  clear hc
  rcases List.mem_cons.mp hk with e | hk
  · subst e
    rw [T.c_NoText] at h
    cases h
    exact ⟨T.kx_NoText, T.ki_Stopped_NoText.trans (congrArg some (by decide +kernel))⟩
  rcases List.mem_cons.mp hk with e | hk
  · subst e
    rw [T.c_NoPlacing] at h
    cases h
    exact ⟨T.kx_NoPlacing, T.ki_Stopped_NoPlacing.trans (congrArg some (by decide +kernel))⟩
  rcases List.mem_cons.mp hk with e | hk
  · subst e
    rw [T.c_NoEdit] at h
    cases h
    exact ⟨T.kx_NoEdit, T.ki_Stopped_NoEdit.trans (congrArg some (by decide +kernel))⟩
  rcases List.mem_cons.mp hk with e | hk
  · subst e
    rw [T.c_NoLine] at h
    cases h
    exact ⟨T.kx_NoLine, T.ki_Stopped_NoLine.trans (congrArg some (by decide +kernel))⟩
  rcases List.mem_cons.mp hk with e | hk
  · subst e
    rw [T.c_Taken] at h
    cases h
    exact ⟨T.kx_Taken, T.ki_Stopped_Taken.trans (congrArg some (by decide +kernel))⟩
  rcases List.mem_cons.mp hk with e | hk
  · subst e
    rw [T.c_Held] at h
    cases h
    exact ⟨T.kx_Held, T.ki_Stopped_Held.trans (congrArg some (by decide +kernel))⟩
  rcases List.mem_cons.mp hk with e | hk
  · subst e
    rw [T.c_Full] at h
    cases h
    exact ⟨T.kx_Full, T.ki_Stopped_Full.trans (congrArg some (by decide +kernel))⟩
  rcases List.mem_cons.mp hk with e | hk
  · subst e
    rw [T.c_NoBlock] at h
    cases h
    exact ⟨T.kx_NoBlock, T.ki_Stopped_NoBlock.trans (congrArg some (by decide +kernel))⟩
  rcases List.mem_cons.mp hk with e | hk
  · subst e
    rw [T.c_NoRow] at h
    cases h
    exact ⟨T.kx_NoRow, T.ki_Stopped_NoRow.trans (congrArg some (by decide +kernel))⟩
  rcases List.mem_cons.mp hk with e | hk
  · subst e
    rw [T.c_NoPlace] at h
    cases h
    exact ⟨T.kx_NoPlace, T.ki_Stopped_NoPlace.trans (congrArg some (by decide +kernel))⟩
  rcases List.mem_cons.mp hk with e | hk
  · subst e
    rw [T.c_Stopped] at h
    cases h
    exact ⟨T.kx_Stopped, T.ki_Stopped_Stopped.trans (congrArg some (by decide +kernel))⟩
  rcases List.mem_cons.mp hk with e | hk
  · subst e
    rw [T.c_NoProgram] at h
    cases h
    exact ⟨T.kx_NoProgram, T.ki_Stopped_NoProgram.trans (congrArg some (by decide +kernel))⟩
  rcases List.mem_cons.mp hk with e | hk
  · subst e
    rw [T.c_Nothing] at h
    cases h
    exact ⟨T.kx_Nothing, T.ki_Stopped_Nothing.trans (congrArg some (by decide +kernel))⟩
  cases hk
theorem Top.ix_Taken (T : Top K w mg ad fd) : ∀ c C, (["NoText", "NoPlacing", "NoEdit", "NoLine", "Taken", "Held", "Full", "NoBlock", "NoRow", "NoPlace", "Stopped", "NoProgram", "Nothing"] : List Str).contains c = true → (gx ad).cls c = some C → L2.ExcC K C ∧ PySem.W.kitOne K (.ref C) (.ref ad.C_Taken) = some ((["Taken"] : List Str).contains c) := fun c C hc h => by
  have hk : c ∈ (["NoText", "NoPlacing", "NoEdit", "NoLine", "Taken", "Held", "Full", "NoBlock", "NoRow", "NoPlace", "Stopped", "NoProgram", "Nothing"] : List Str) := by simpa using hc
  clear hc
  rcases List.mem_cons.mp hk with e | hk
  · subst e
    rw [T.c_NoText] at h
    cases h
    exact ⟨T.kx_NoText, T.ki_Taken_NoText.trans (congrArg some (by decide +kernel))⟩
  rcases List.mem_cons.mp hk with e | hk
  · subst e
    rw [T.c_NoPlacing] at h
    cases h
    exact ⟨T.kx_NoPlacing, T.ki_Taken_NoPlacing.trans (congrArg some (by decide +kernel))⟩
  rcases List.mem_cons.mp hk with e | hk
  · subst e
    rw [T.c_NoEdit] at h
    cases h
    exact ⟨T.kx_NoEdit, T.ki_Taken_NoEdit.trans (congrArg some (by decide +kernel))⟩
  rcases List.mem_cons.mp hk with e | hk
  · subst e
    rw [T.c_NoLine] at h
    cases h
    exact ⟨T.kx_NoLine, T.ki_Taken_NoLine.trans (congrArg some (by decide +kernel))⟩
  rcases List.mem_cons.mp hk with e | hk
  · subst e
    rw [T.c_Taken] at h
    cases h
    exact ⟨T.kx_Taken, T.ki_Taken_Taken.trans (congrArg some (by decide +kernel))⟩
  rcases List.mem_cons.mp hk with e | hk
  · subst e
    rw [T.c_Held] at h
    cases h
    exact ⟨T.kx_Held, T.ki_Taken_Held.trans (congrArg some (by decide +kernel))⟩
  rcases List.mem_cons.mp hk with e | hk
  · subst e
    rw [T.c_Full] at h
    cases h
    exact ⟨T.kx_Full, T.ki_Taken_Full.trans (congrArg some (by decide +kernel))⟩
  rcases List.mem_cons.mp hk with e | hk
  · subst e
    rw [T.c_NoBlock] at h
    cases h
    exact ⟨T.kx_NoBlock, T.ki_Taken_NoBlock.trans (congrArg some (by decide +kernel))⟩
  rcases List.mem_cons.mp hk with e | hk
  · subst e
    rw [T.c_NoRow] at h
    cases h
    exact ⟨T.kx_NoRow, T.ki_Taken_NoRow.trans (congrArg some (by decide +kernel))⟩
  rcases List.mem_cons.mp hk with e | hk
  · subst e
    rw [T.c_NoPlace] at h
    cases h
    exact ⟨T.kx_NoPlace, T.ki_Taken_NoPlace.trans (congrArg some (by decide +kernel))⟩
  rcases List.mem_cons.mp hk with e | hk
  · subst e
    rw [T.c_Stopped] at h
    cases h
    exact ⟨T.kx_Stopped, T.ki_Taken_Stopped.trans (congrArg some (by decide +kernel))⟩
  rcases List.mem_cons.mp hk with e | hk
  · subst e
    rw [T.c_NoProgram] at h
    cases h
    exact ⟨T.kx_NoProgram, T.ki_Taken_NoProgram.trans (congrArg some (by decide +kernel))⟩
  rcases List.mem_cons.mp hk with e | hk
  · subst e
    rw [T.c_Nothing] at h
    cases h
    exact ⟨T.kx_Nothing, T.ki_Taken_Nothing.trans (congrArg some (by decide +kernel))⟩
  cases hk
theorem Top.ixb_LookupError (T : Top K w mg ad fd) : ∀ c C, (["NoText", "NoPlacing", "NoEdit", "NoLine", "Taken", "Held", "Full", "NoBlock", "NoRow", "NoPlace", "Stopped", "NoProgram", "Nothing"] : List Str).contains c = true → (gx ad).cls c = some C → L2.ExcC K C ∧ PySem.W.kitOne K (.ref C) (.type "LookupError") = some ((["NoBlock", "NoRow", "NoPlace"] : List Str).contains c) := fun c C hc h => by
  have hk : c ∈ (["NoText", "NoPlacing", "NoEdit", "NoLine", "Taken", "Held", "Full", "NoBlock", "NoRow", "NoPlace", "Stopped", "NoProgram", "Nothing"] : List Str) := by simpa using hc
  clear hc
  rcases List.mem_cons.mp hk with e | hk
  · subst e
    rw [T.c_NoText] at h
    cases h
    exact ⟨T.kx_NoText, T.kib_LookupError_NoText.trans (congrArg some (by decide +kernel))⟩
  rcases List.mem_cons.mp hk with e | hk
  · subst e
    rw [T.c_NoPlacing] at h
    cases h
    exact ⟨T.kx_NoPlacing, T.kib_LookupError_NoPlacing.trans (congrArg some (by decide +kernel))⟩
  rcases List.mem_cons.mp hk with e | hk
  · subst e
    rw [T.c_NoEdit] at h
    cases h
    exact ⟨T.kx_NoEdit, T.kib_LookupError_NoEdit.trans (congrArg some (by decide +kernel))⟩
  rcases List.mem_cons.mp hk with e | hk
  · subst e
    rw [T.c_NoLine] at h
    cases h
    exact ⟨T.kx_NoLine, T.kib_LookupError_NoLine.trans (congrArg some (by decide +kernel))⟩
  rcases List.mem_cons.mp hk with e | hk
  · subst e
    rw [T.c_Taken] at h
    cases h
    exact ⟨T.kx_Taken, T.kib_LookupError_Taken.trans (congrArg some (by decide +kernel))⟩
  rcases List.mem_cons.mp hk with e | hk
  · subst e
    rw [T.c_Held] at h
    cases h
    exact ⟨T.kx_Held, T.kib_LookupError_Held.trans (congrArg some (by decide +kernel))⟩
  rcases List.mem_cons.mp hk with e | hk
  · subst e
    rw [T.c_Full] at h
    cases h
    exact ⟨T.kx_Full, T.kib_LookupError_Full.trans (congrArg some (by decide +kernel))⟩
  rcases List.mem_cons.mp hk with e | hk
  · subst e
    rw [T.c_NoBlock] at h
    cases h
    exact ⟨T.kx_NoBlock, T.kib_LookupError_NoBlock.trans (congrArg some (by decide +kernel))⟩
  rcases List.mem_cons.mp hk with e | hk
  · subst e
    rw [T.c_NoRow] at h
    cases h
    exact ⟨T.kx_NoRow, T.kib_LookupError_NoRow.trans (congrArg some (by decide +kernel))⟩
  rcases List.mem_cons.mp hk with e | hk
  · subst e
    rw [T.c_NoPlace] at h
    cases h
    exact ⟨T.kx_NoPlace, T.kib_LookupError_NoPlace.trans (congrArg some (by decide +kernel))⟩
  rcases List.mem_cons.mp hk with e | hk
  · subst e
    rw [T.c_Stopped] at h
    cases h
    exact ⟨T.kx_Stopped, T.kib_LookupError_Stopped.trans (congrArg some (by decide +kernel))⟩
  rcases List.mem_cons.mp hk with e | hk
  · subst e
    rw [T.c_NoProgram] at h
    cases h
    exact ⟨T.kx_NoProgram, T.kib_LookupError_NoProgram.trans (congrArg some (by decide +kernel))⟩
  rcases List.mem_cons.mp hk with e | hk
  · subst e
    rw [T.c_Nothing] at h
    cases h
    exact ⟨T.kx_Nothing, T.kib_LookupError_Nothing.trans (congrArg some (by decide +kernel))⟩
  cases hk
theorem Top.ixb_RuntimeError (T : Top K w mg ad fd) : ∀ c C, (["NoText", "NoPlacing", "NoEdit", "NoLine", "Taken", "Held", "Full", "NoBlock", "NoRow", "NoPlace", "Stopped", "NoProgram", "Nothing"] : List Str).contains c = true → (gx ad).cls c = some C → L2.ExcC K C ∧ PySem.W.kitOne K (.ref C) (.type "RuntimeError") = some ((["Stopped"] : List Str).contains c) := fun c C hc h => by
  have hk : c ∈ (["NoText", "NoPlacing", "NoEdit", "NoLine", "Taken", "Held", "Full", "NoBlock", "NoRow", "NoPlace", "Stopped", "NoProgram", "Nothing"] : List Str) := by simpa using hc
  clear hc
  rcases List.mem_cons.mp hk with e | hk
  · subst e
    rw [T.c_NoText] at h
    cases h
    exact ⟨T.kx_NoText, T.kib_RuntimeError_NoText.trans (congrArg some (by decide +kernel))⟩
  rcases List.mem_cons.mp hk with e | hk
  · subst e
    rw [T.c_NoPlacing] at h
    cases h
    exact ⟨T.kx_NoPlacing, T.kib_RuntimeError_NoPlacing.trans (congrArg some (by decide +kernel))⟩
  rcases List.mem_cons.mp hk with e | hk
  · subst e
    rw [T.c_NoEdit] at h
    cases h
    exact ⟨T.kx_NoEdit, T.kib_RuntimeError_NoEdit.trans (congrArg some (by decide +kernel))⟩
  rcases List.mem_cons.mp hk with e | hk
  · subst e
    rw [T.c_NoLine] at h
    cases h
    exact ⟨T.kx_NoLine, T.kib_RuntimeError_NoLine.trans (congrArg some (by decide +kernel))⟩
  rcases List.mem_cons.mp hk with e | hk
  · subst e
    rw [T.c_Taken] at h
    cases h
    exact ⟨T.kx_Taken, T.kib_RuntimeError_Taken.trans (congrArg some (by decide +kernel))⟩
  rcases List.mem_cons.mp hk with e | hk
  · subst e
    rw [T.c_Held] at h
    cases h
    exact ⟨T.kx_Held, T.kib_RuntimeError_Held.trans (congrArg some (by decide +kernel))⟩
  rcases List.mem_cons.mp hk with e | hk
  · subst e
    rw [T.c_Full] at h
    cases h
    exact ⟨T.kx_Full, T.kib_RuntimeError_Full.trans (congrArg some (by decide +kernel))⟩
  rcases List.mem_cons.mp hk with e | hk
  · subst e
    rw [T.c_NoBlock] at h
    cases h
    exact ⟨T.kx_NoBlock, T.kib_RuntimeError_NoBlock.trans (congrArg some (by decide +kernel))⟩
  rcases List.mem_cons.mp hk with e | hk
  · subst e
    rw [T.c_NoRow] at h
    cases h
    exact ⟨T.kx_NoRow, T.kib_RuntimeError_NoRow.trans (congrArg some (by decide +kernel))⟩
  rcases List.mem_cons.mp hk with e | hk
  · subst e
    rw [T.c_NoPlace] at h
    cases h
    exact ⟨T.kx_NoPlace, T.kib_RuntimeError_NoPlace.trans (congrArg some (by decide +kernel))⟩
  rcases List.mem_cons.mp hk with e | hk
  · subst e
    rw [T.c_Stopped] at h
    cases h
    exact ⟨T.kx_Stopped, T.kib_RuntimeError_Stopped.trans (congrArg some (by decide +kernel))⟩
  rcases List.mem_cons.mp hk with e | hk
  · subst e
    rw [T.c_NoProgram] at h
    cases h
    exact ⟨T.kx_NoProgram, T.kib_RuntimeError_NoProgram.trans (congrArg some (by decide +kernel))⟩
  rcases List.mem_cons.mp hk with e | hk
  · subst e
    rw [T.c_Nothing] at h
    cases h
    exact ⟨T.kx_Nothing, T.kib_RuntimeError_Nothing.trans (congrArg some (by decide +kernel))⟩
  cases hk
theorem Top.ixb_ValueError (T : Top K w mg ad fd) : ∀ c C, (["NoText", "NoPlacing", "NoEdit", "NoLine", "Taken", "Held", "Full", "NoBlock", "NoRow", "NoPlace", "Stopped", "NoProgram", "Nothing"] : List Str).contains c = true → (gx ad).cls c = some C → L2.ExcC K C ∧ PySem.W.kitOne K (.ref C) (.type "ValueError") = some ((["NoText", "NoPlacing", "NoEdit", "NoLine", "Taken", "Held", "Full", "NoProgram", "Nothing"] : List Str).contains c) := fun c C hc h => by
  have hk : c ∈ (["NoText", "NoPlacing", "NoEdit", "NoLine", "Taken", "Held", "Full", "NoBlock", "NoRow", "NoPlace", "Stopped", "NoProgram", "Nothing"] : List Str) := by simpa using hc
  clear hc
  rcases List.mem_cons.mp hk with e | hk
  · subst e
    rw [T.c_NoText] at h
    cases h
    exact ⟨T.kx_NoText, T.kib_ValueError_NoText.trans (congrArg some (by decide +kernel))⟩
  rcases List.mem_cons.mp hk with e | hk
  · subst e
    rw [T.c_NoPlacing] at h
    cases h
    exact ⟨T.kx_NoPlacing, T.kib_ValueError_NoPlacing.trans (congrArg some (by decide +kernel))⟩
  rcases List.mem_cons.mp hk with e | hk
  · subst e
    rw [T.c_NoEdit] at h
    cases h
    exact ⟨T.kx_NoEdit, T.kib_ValueError_NoEdit.trans (congrArg some (by decide +kernel))⟩
  rcases List.mem_cons.mp hk with e | hk
  · subst e
    rw [T.c_NoLine] at h
    cases h
    exact ⟨T.kx_NoLine, T.kib_ValueError_NoLine.trans (congrArg some (by decide +kernel))⟩
  rcases List.mem_cons.mp hk with e | hk
  · subst e
    rw [T.c_Taken] at h
    cases h
    exact ⟨T.kx_Taken, T.kib_ValueError_Taken.trans (congrArg some (by decide +kernel))⟩
  rcases List.mem_cons.mp hk with e | hk
  · subst e
    rw [T.c_Held] at h
    cases h
    exact ⟨T.kx_Held, T.kib_ValueError_Held.trans (congrArg some (by decide +kernel))⟩
  rcases List.mem_cons.mp hk with e | hk
  · subst e
    rw [T.c_Full] at h
    cases h
    exact ⟨T.kx_Full, T.kib_ValueError_Full.trans (congrArg some (by decide +kernel))⟩
  rcases List.mem_cons.mp hk with e | hk
  · subst e
    rw [T.c_NoBlock] at h
    cases h
    exact ⟨T.kx_NoBlock, T.kib_ValueError_NoBlock.trans (congrArg some (by decide +kernel))⟩
  rcases List.mem_cons.mp hk with e | hk
  · subst e
    rw [T.c_NoRow] at h
    cases h
    exact ⟨T.kx_NoRow, T.kib_ValueError_NoRow.trans (congrArg some (by decide +kernel))⟩
  rcases List.mem_cons.mp hk with e | hk
  · subst e
    rw [T.c_NoPlace] at h
    cases h
    exact ⟨T.kx_NoPlace, T.kib_ValueError_NoPlace.trans (congrArg some (by decide +kernel))⟩
  rcases List.mem_cons.mp hk with e | hk
  · subst e
    rw [T.c_Stopped] at h
    cases h
    exact ⟨T.kx_Stopped, T.kib_ValueError_Stopped.trans (congrArg some (by decide +kernel))⟩
  rcases List.mem_cons.mp hk with e | hk
  · subst e
    rw [T.c_NoProgram] at h
    cases h
    exact ⟨T.kx_NoProgram, T.kib_ValueError_NoProgram.trans (congrArg some (by decide +kernel))⟩
  rcases List.mem_cons.mp hk with e | hk
  · subst e
    rw [T.c_Nothing] at h
    cases h
    exact ⟨T.kx_Nothing, T.kib_ValueError_Nothing.trans (congrArg some (by decide +kernel))⟩
  cases hk
theorem Top.en_Halted (T : Top K w mg ad fd) : ∀ c ∈ (["Stopped", "Held", "NoRow"] : List Str), ∀ C, (gx ad).cls c = some C → PySem.W.exmOne K (.ref C) (.ref ad.C_Halted) = some ((["Stopped"] : List Str).contains c) := fun c hk C h => by
  rcases List.mem_cons.mp hk with e | hk
  · subst e
    rw [T.c_Stopped] at h
    cases h
    exact T.en_Halted_Stopped.trans (congrArg some (by decide +kernel))
  rcases List.mem_cons.mp hk with e | hk
  · subst e
    rw [T.c_Held] at h
    cases h
    exact T.en_Halted_Held.trans (congrArg some (by decide +kernel))
  rcases List.mem_cons.mp hk with e | hk
  · subst e
    rw [T.c_NoRow] at h
    cases h
    exact T.en_Halted_NoRow.trans (congrArg some (by decide +kernel))
  cases hk
theorem Top.en_Missing (T : Top K w mg ad fd) : ∀ c ∈ (["Stopped", "Held", "NoRow"] : List Str), ∀ C, (gx ad).cls c = some C → PySem.W.exmOne K (.ref C) (.ref ad.C_Missing) = some ((["NoRow"] : List Str).contains c) := fun c hk C h => by
  rcases List.mem_cons.mp hk with e | hk
  · subst e
    rw [T.c_Stopped] at h
    cases h
    exact T.en_Missing_Stopped.trans (congrArg some (by decide +kernel))
  rcases List.mem_cons.mp hk with e | hk
  · subst e
    rw [T.c_Held] at h
    cases h
    exact T.en_Missing_Held.trans (congrArg some (by decide +kernel))
  rcases List.mem_cons.mp hk with e | hk
  · subst e
    rw [T.c_NoRow] at h
    cases h
    exact T.en_Missing_NoRow.trans (congrArg some (by decide +kernel))
  cases hk
theorem Top.en_Refused (T : Top K w mg ad fd) : ∀ c ∈ (["Stopped", "Held", "NoRow"] : List Str), ∀ C, (gx ad).cls c = some C → PySem.W.exmOne K (.ref C) (.ref ad.C_Refused) = some ((["Held"] : List Str).contains c) := fun c hk C h => by
  rcases List.mem_cons.mp hk with e | hk
  · subst e
    rw [T.c_Stopped] at h
    cases h
    exact T.en_Refused_Stopped.trans (congrArg some (by decide +kernel))
  rcases List.mem_cons.mp hk with e | hk
  · subst e
    rw [T.c_Held] at h
    cases h
    exact T.en_Refused_Held.trans (congrArg some (by decide +kernel))
  rcases List.mem_cons.mp hk with e | hk
  · subst e
    rw [T.c_NoRow] at h
    cases h
    exact T.en_Refused_NoRow.trans (congrArg some (by decide +kernel))
  cases hk
theorem Top.xf_block (T : Top K w mg ad fd) : ∀ c C, (["NoPlacing"] : List Str).contains c = true → (gx ad).cls c = some C → L2.XfC K C ∧ PySem.W.findIn K (.ref C) "block" = some none := fun c C hc h => by
  have hk : c ∈ (["NoPlacing"] : List Str) := by simpa using hc
  clear hc
  rcases List.mem_cons.mp hk with e | hk
  · subst e
    rw [T.c_NoPlacing] at h
    cases h
    exact ⟨T.xq_NoPlacing, T.x2_NoPlacing.noN1⟩
  cases hk
theorem Top.xf_line (T : Top K w mg ad fd) : ∀ c C, (["NoText", "NoLine"] : List Str).contains c = true → (gx ad).cls c = some C → L2.XfC K C ∧ PySem.W.findIn K (.ref C) "line" = some none := fun c C hc h => by
  have hk : c ∈ (["NoText", "NoLine"] : List Str) := by simpa using hc
  clear hc
  rcases List.mem_cons.mp hk with e | hk
  · subst e
    rw [T.c_NoText] at h
    cases h
    exact ⟨⟨T.x_NoText.ga, T.x_NoText.gg, T.x_NoText.exC, T.x_NoText.hdC⟩, T.x_NoText.noN⟩
  rcases List.mem_cons.mp hk with e | hk
  · subst e
    rw [T.c_NoLine] at h
    cases h
    exact ⟨⟨T.x_NoLine.ga, T.x_NoLine.gg, T.x_NoLine.exC, T.x_NoLine.hdC⟩, T.x_NoLine.noN⟩
  cases hk
theorem Top.xf_name (T : Top K w mg ad fd) : ∀ c C, (["NoPlacing", "Held", "NoBlock"] : List Str).contains c = true → (gx ad).cls c = some C → L2.XfC K C ∧ PySem.W.findIn K (.ref C) "name" = some none := fun c C hc h => by
  have hk : c ∈ (["NoPlacing", "Held", "NoBlock"] : List Str) := by simpa using hc
  clear hc
  rcases List.mem_cons.mp hk with e | hk
  · subst e
    rw [T.c_NoPlacing] at h
    cases h
    exact ⟨T.xq_NoPlacing, T.x2_NoPlacing.noN2⟩
  rcases List.mem_cons.mp hk with e | hk
  · subst e
    rw [T.c_Held] at h
    cases h
    exact ⟨⟨T.x_Held.ga, T.x_Held.gg, T.x_Held.exC, T.x_Held.hdC⟩, T.x_Held.noN⟩
  rcases List.mem_cons.mp hk with e | hk
  · subst e
    rw [T.c_NoBlock] at h
    cases h
    exact ⟨⟨T.x_NoBlock.ga, T.x_NoBlock.gg, T.x_NoBlock.exC, T.x_NoBlock.hdC⟩, T.x_NoBlock.noN⟩
  cases hk
theorem Top.xf_number (T : Top K w mg ad fd) : ∀ c C, (["NoRow", "NoPlace", "Stopped"] : List Str).contains c = true → (gx ad).cls c = some C → L2.XfC K C ∧ PySem.W.findIn K (.ref C) "number" = some none := fun c C hc h => by
  have hk : c ∈ (["NoRow", "NoPlace", "Stopped"] : List Str) := by simpa using hc
  clear hc
  rcases List.mem_cons.mp hk with e | hk
  · subst e
    rw [T.c_NoRow] at h
    cases h
    exact ⟨⟨T.x_NoRow.ga, T.x_NoRow.gg, T.x_NoRow.exC, T.x_NoRow.hdC⟩, T.x_NoRow.noN⟩
  rcases List.mem_cons.mp hk with e | hk
  · subst e
    rw [T.c_NoPlace] at h
    cases h
    exact ⟨⟨T.x_NoPlace.ga, T.x_NoPlace.gg, T.x_NoPlace.exC, T.x_NoPlace.hdC⟩, T.x_NoPlace.noN⟩
  rcases List.mem_cons.mp hk with e | hk
  · subst e
    rw [T.c_Stopped] at h
    cases h
    exact ⟨⟨T.x_Stopped.ga, T.x_Stopped.gg, T.x_Stopped.exC, T.x_Stopped.hdC⟩, T.x_Stopped.noN⟩
  cases hk
theorem Top.xf_thing (T : Top K w mg ad fd) : ∀ c C, (["NoEdit", "Taken"] : List Str).contains c = true → (gx ad).cls c = some C → L2.XfC K C ∧ PySem.W.findIn K (.ref C) "thing" = some none := fun c C hc h => by
  have hk : c ∈ (["NoEdit", "Taken"] : List Str) := by simpa using hc
  clear hc
  rcases List.mem_cons.mp hk with e | hk
  · subst e
    rw [T.c_NoEdit] at h
    cases h
    exact ⟨⟨T.x_NoEdit.ga, T.x_NoEdit.gg, T.x_NoEdit.exC, T.x_NoEdit.hdC⟩, T.x_NoEdit.noN⟩
  rcases List.mem_cons.mp hk with e | hk
  · subst e
    rw [T.c_Taken] at h
    cases h
    exact ⟨⟨T.x_Taken.ga, T.x_Taken.gg, T.x_Taken.exC, T.x_Taken.hdC⟩, T.x_Taken.noN⟩
  cases hk
theorem Top.xf_what (T : Top K w mg ad fd) : ∀ c C, (["Full"] : List Str).contains c = true → (gx ad).cls c = some C → L2.XfC K C ∧ PySem.W.findIn K (.ref C) "what" = some none := fun c C hc h => by
  have hk : c ∈ (["Full"] : List Str) := by simpa using hc
  clear hc
  rcases List.mem_cons.mp hk with e | hk
  · subst e
    rw [T.c_Full] at h
    cases h
    exact ⟨⟨T.x_Full.ga, T.x_Full.gg, T.x_Full.exC, T.x_Full.hdC⟩, T.x_Full.noN⟩
  cases hk
theorem ok__law_take (T : Top K w mg ad fd) : FnOk P w K mg base CX0 1 ad.f__law_take fd._law_take ["_law_hand_here", "_law_many"] (spU K (gx ad) F__law_take) := by
  have nd := sc__law_take.nd
  unfold F__law_take
  refine fn_ok (k := 0) (s := c__law_take) (np := 2) (n := 3) rfl rfl T.F__law_take sc__law_take (fun cdv A outer s0 H E hr => ?_)
  exact (ss_cons (es_if (et_cmp ou_gt (ee_ix (ee_var (pv 0)) ee_int) ee_int (nomark _)) (ss_cons (es_set (i := 2) nd rfl (by first | exact Or.inl rfl | exact Or.inr rfl) (ee_op ou_mod (ee_ix (ee_var (pv 0)) ee_int) (ee_var (pv 1))))
  (ss_cons (es_setL (ee_var (pv 0)) ee_int (ee_op ou_div (ee_ix (ee_var (pv 0)) ee_int) (ee_var (pv 1))))
  (ss_one (es_ret (ee_var (pv 2)))))) ss_nil)
  (ss_cons (es_setL (ee_var (pv 0)) ee_int (ee_op ou_mod (ee_op (ou_addA false) (ee_op ou_mul (ee_ix (ee_var (pv 0)) ee_int) ee_int) ee_int) ee_int))
  (ss_one (es_ret (ee_op ou_mod (ee_op ou_div (ee_op ou_mod (ee_op ou_mul (ee_op ou_div (ee_ix (ee_var (pv 0)) ee_int) ee_int) (ee_op (ou_addA false) (ee_op ou_mod (ee_ix (ee_var (pv 0)) ee_int) ee_int) ee_int)) ee_int) ee_int) (ee_var (pv 1)))))))
theorem ok__law_pick (T : Top K w mg ad fd) : FnOk P w K mg base CX0 2 ad.f__law_pick fd._law_pick ["_law_hand_here", "_law_some"] (spU K (gx ad) F__law_pick) := by
  have nd := sc__law_pick.nd
  unfold F__law_pick
  refine fn_ok (k := 1) (s := c__law_pick) (np := 2) (n := 2) rfl rfl T.F__law_pick sc__law_pick (fun cdv A outer s0 H E hr => ?_)
  exact (ss_one (es_ret (ee_ix (ee_var (pv 1)) (ee_call (ok__law_take T) (hr.mono (by decide)) (by rfl) T.g__law_take T.kp__law_take T.b__law_take (ea_cons (ee_var (pv 0)) (ea_cons (ee_callB cu_len (by rfl) T.n_len (by decide +kernel) (ea_cons (ee_var (pv 1)) ea_nil)) ea_nil))))))
theorem ok__law_things (T : Top K w mg ad fd) : FnOk P w K mg base CX0 3 ad.f__law_things fd._law_things ["_law_hand_here"] (spU K (gx ad) F__law_things) := by
  have nd := sc__law_things.nd
  unfold F__law_things
  refine fn_ok (k := 2) (s := c__law_things) (np := 1) (n := 4) rfl rfl T.F__law_things sc__law_things (fun cdv A outer s0 H E hr => ?_)
  exact (ss_cons (es_set (i := 1) nd rfl (by first | exact Or.inl rfl | exact Or.inr rfl) (ee_call (ok__law_pick T) (hr.mono (by decide)) (by rfl) T.g__law_pick T.kp__law_pick T.b__law_pick (ea_cons (ee_var (pv 0)) (ea_cons (ee_lst (ea_cons ee_int (ea_cons ee_int (ea_cons ee_int (ea_cons ee_int (ea_cons (ee_op ou_pow ee_int ee_int) (ea_cons (ee_un uu_neg ee_int) ea_nil))))))) ea_nil))))
  (ss_cons (es_set (i := 2) nd rfl (by first | exact Or.inl rfl | exact Or.inr rfl) (ee_call (ok__law_pick T) (hr.mono (by decide)) (by rfl) T.g__law_pick T.kp__law_pick T.b__law_pick (ea_cons (ee_var (pv 0)) (ea_cons (ee_lst (ea_cons ee_str (ea_cons ee_str (ea_cons ee_str (ea_cons ee_str (ea_cons ee_str ea_nil)))))) ea_nil))))
  (ss_cons (es_set (i := 3) nd rfl (by first | exact Or.inl rfl | exact Or.inr rfl) (ee_call (ok__law_pick T) (hr.mono (by decide)) (by rfl) T.g__law_pick T.kp__law_pick T.b__law_pick (ea_cons (ee_var (pv 0)) (ea_cons (ee_lst (ea_cons ee_non (ea_cons ee_bl (ea_cons (ee_tup (ea_cons ee_str (ea_cons ee_str ea_nil))) (ea_cons (ee_lst (ea_cons ee_int ea_nil)) (ea_cons (ee_disp false (ed_cons ee_str ee_int ed_nil)) (ea_cons ee_int (ea_cons ee_str ea_nil)))))))) ea_nil))))
  (ss_one (es_ret (ee_tup (ea_cons (ee_var (pv 1)) (ea_cons (ee_var (pv 2)) (ea_cons (ee_var (pv 3)) ea_nil)))))))))
theorem ok__law_made (T : Top K w mg ad fd) : FnOk P w K mg base CX0 2 ad.f__law_made fd._law_made ["_law_many", "_law_whom", "_law_odd"] (spU K (gx ad) F__law_made) := by
  have nd := sc__law_made.nd
  unfold F__law_made
  refine fn_ok (k := 1) (s := c__law_made) (np := 3) (n := 5) rfl rfl T.F__law_made sc__law_made (fun cdv A outer s0 H E hr => ?_)
  exact (ss_cons (es_set (i := 3) nd rfl (by first | exact Or.inl rfl | exact Or.inr rfl) (ee_lst (ea_cons (ee_exc1 (k := 1) T.x_NoText T.c_NoText (hr.mono (by decide)) (ee_var (pv 0)) (by rfl)) (ea_cons (ee_exc2 (k := 1) T.x2_NoPlacing T.c_NoPlacing (hr.mono (by decide)) (ea_cons (ee_var (pv 1)) (ea_cons (ee_var (pv 2)) ea_nil)) (by rfl)) (ea_cons (ee_exc1 (k := 1) T.x_NoEdit T.c_NoEdit (hr.mono (by decide)) (ee_var (pv 2)) (by rfl)) (ea_cons (ee_exc1 (k := 1) T.x_NoLine T.c_NoLine (hr.mono (by decide)) (ee_var (pv 0)) (by rfl)) (ea_cons (ee_exc1 (k := 1) T.x_Taken T.c_Taken (hr.mono (by decide)) (ee_var (pv 2)) (by rfl)) (ea_cons (ee_exc1 (k := 1) T.x_Held T.c_Held (hr.mono (by decide)) (ee_var (pv 1)) (by rfl)) (ea_cons (ee_exc1 (k := 1) T.x_Full T.c_Full (hr.mono (by decide)) (ee_var (pv 1)) (by rfl)) ea_nil)))))))))
  (ss_cons (es_set (i := 3) nd rfl (by first | exact Or.inl rfl | exact Or.inr rfl) (ee_op (ou_addA false) (ee_var (pv 3)) (ee_lst (ea_cons (ee_exc1 (k := 1) T.x_NoBlock T.c_NoBlock (hr.mono (by decide)) (ee_var (pv 1)) (by rfl)) (ea_cons (ee_exc1 (k := 1) T.x_NoRow T.c_NoRow (hr.mono (by decide)) (ee_var (pv 0)) (by rfl)) (ea_cons (ee_exc1 (k := 1) T.x_NoPlace T.c_NoPlace (hr.mono (by decide)) (ee_var (pv 0)) (by rfl)) (ea_cons (ee_exc1 (k := 1) T.x_Stopped T.c_Stopped (hr.mono (by decide)) (ee_var (pv 0)) (by rfl)) (ea_cons (ee_exc0 PySem.F.excBase_ValueError T.xe_NoProgram T.g_NoProgram T.kc_NoProgram T.c_NoProgram ee_str (by rfl)) (ea_cons (ee_exc0 PySem.F.excBase_ValueError T.xe_Nothing T.g_Nothing T.kc_Nothing T.c_Nothing ee_str (by rfl)) ea_nil)))))))))
  (ss_cons (es_set (i := 4) nd rfl (by first | exact Or.inl rfl | exact Or.inr rfl) (ee_lst (ea_cons (ee_exc1k (k := 1) T.x_NoText (nokK_line _) T.c_NoText (hr.mono (by decide)) (ee_var (pv 0)) (by rfl)) (ea_cons (ee_exc2k (k := 1) T.x2_NoPlacing T.c_NoPlacing (hr.mono (by decide)) (ee_var (pv 2)) (ee_var (pv 1)) (by rfl)) (ea_cons (ee_exc1k (k := 1) T.x_NoEdit (nokK_thing _) T.c_NoEdit (hr.mono (by decide)) (ee_var (pv 2)) (by rfl)) (ea_cons (ee_exc1k (k := 1) T.x_NoLine (nokK_line _) T.c_NoLine (hr.mono (by decide)) (ee_var (pv 0)) (by rfl)) ea_nil))))))
  (ss_cons (es_set (i := 4) nd rfl (by first | exact Or.inl rfl | exact Or.inr rfl) (ee_op (ou_addA false) (ee_var (pv 4)) (ee_lst (ea_cons (ee_exc1k (k := 1) T.x_Taken (nokK_thing _) T.c_Taken (hr.mono (by decide)) (ee_var (pv 2)) (by rfl)) (ea_cons (ee_exc1k (k := 1) T.x_Held (nokK_name _) T.c_Held (hr.mono (by decide)) (ee_var (pv 1)) (by rfl)) (ea_cons (ee_exc1k (k := 1) T.x_Full (nokK_what _) T.c_Full (hr.mono (by decide)) (ee_var (pv 1)) (by rfl)) (ea_cons (ee_exc1k (k := 1) T.x_NoBlock (nokK_name _) T.c_NoBlock (hr.mono (by decide)) (ee_var (pv 1)) (by rfl)) (ea_cons (ee_exc1k (k := 1) T.x_NoRow (nokK_number _) T.c_NoRow (hr.mono (by decide)) (ee_var (pv 0)) (by rfl)) ea_nil))))))))
  (ss_one (es_ret (ee_tup (ea_cons (ee_var (pv 3)) (ea_cons (ee_op (ou_addA false) (ee_var (pv 4)) (ee_lst (ea_cons (ee_exc1k (k := 1) T.x_NoPlace (nokK_number _) T.c_NoPlace (hr.mono (by decide)) (ee_var (pv 0)) (by rfl)) (ea_cons (ee_exc1k (k := 1) T.x_Stopped (nokK_number _) T.c_Stopped (hr.mono (by decide)) (ee_var (pv 0)) (by rfl)) (ea_cons (ee_exc0 PySem.F.excBase_ValueError T.xe_NoProgram T.g_NoProgram T.kc_NoProgram T.c_NoProgram ee_str (by rfl)) (ea_cons (ee_exc0 PySem.F.excBase_ValueError T.xe_Nothing T.g_Nothing T.kc_Nothing T.c_Nothing ee_str (by rfl)) ea_nil)))))) ea_nil)))))))))
theorem ok__law_hand (T : Top K w mg ad fd) : FnOk P w K mg base CX0 1 ad.f__law_hand fd._law_hand ["_law_script", "_law_k"] (spU K (gx ad) F__law_hand) := by
  have nd := sc__law_hand.nd
  unfold F__law_hand
  refine fn_ok (k := 0) (s := c__law_hand) (np := 2) (n := 4) rfl rfl T.F__law_hand sc__law_hand (fun cdv A outer s0 H E hr => ?_)
  exact (ss_cons (es_set (i := 2) nd rfl (by first | exact Or.inl rfl | exact Or.inr rfl) (ee_op (ou_addA false) (ee_op ou_mul ee_int (ee_var (pv 1))) (ee_callB cu_len (by rfl) T.n_len (by decide +kernel) (ea_cons (ee_var (pv 0)) ea_nil))))
  (ss_cons (es_if (et_cmp ou_lt (ee_var (pv 1)) (ee_callB cu_len (by rfl) T.n_len (by decide +kernel) (ea_cons (ee_var (pv 0)) ea_nil)) (nomark _)) (ss_one (es_set (i := 2) nd rfl (by first | exact Or.inl rfl | exact Or.inr rfl) (ee_ix (ee_var (pv 0)) (ee_var (pv 1))))) ss_nil)
  (ss_cons (es_set (i := 3) nd rfl (by first | exact Or.inl rfl | exact Or.inr rfl) (ee_op ou_mul (ee_op ou_mod (ee_callB cu_abs (by rfl) T.n_abs (by decide +kernel) (ea_cons (ee_var (pv 2)) ea_nil)) (ee_op ou_powJ (ee_op ou_pow ee_int ee_int) ee_int)) (ee_callTy cu_int (by rfl) T.n_int (by decide +kernel) (ea_cons (ee_cmp ou_ge (ee_callB cu_abs (by rfl) T.n_abs (by decide +kernel) (ea_cons (ee_var (pv 2)) ea_nil)) (ee_op ou_pow ee_int ee_int) (nomark _)) ea_nil))))
  (ss_one (es_ret (ee_lstM (ea_cons (ee_var (pv 3)) (ea_cons (ee_op ou_mod (ee_op ou_mul (ee_op (ou_addA false) (ee_op (ou_addA false) (ee_op ou_mod (ee_var (pv 2)) ee_int) (ee_op ou_mul (ee_op ou_mul ee_int (ee_var (pv 1))) (ee_var (pv 1)))) ee_int) ee_int) ee_int) ea_nil))))))))
theorem ok__law_raised (T : Top K w mg ad fd) : FnOk P w K mg base CX0 2 ad.f__law_raised fd._law_raised ["_law_which", "_law_many", "_law_whom"] (spU K (gx ad) (liftP P__law_raised)) := by
  have nd := sc__law_raised.nd
  unfold P__law_raised
  refine fn_pure (fn_ok (k := 1) (s := c__law_raised) (np := 3) (n := 4) rfl rfl T.F__law_raised sc__law_raised (fun cdv A outer s0 H E hr => ?_))
  exact (ss_one (es_tryEach (A := ["Stopped", "Held", "NoRow"]) (i := 3) rfl rfl nd rfl rfl (fun W pn xe tk hp => (xs_cons (ex_if (et_cmp (ou_eq hr.units) (ee_var (pv 0)) ee_int (nomark _)) (xs_one (ex_raise (k := 1) rfl T.x_Held T.c_Held (hr.mono (by decide)) tk (ee_var (pv 2)) rfl)) xs_nil)
  (xs_cons (ex_if (et_cmp (ou_eq hr.units) (ee_var (pv 0)) ee_int (nomark _)) (xs_one (ex_raise (k := 1) rfl T.x_NoRow T.c_NoRow (hr.mono (by decide)) tk (ee_var (pv 1)) rfl)) xs_nil)
  (xs_one (ex_raise (k := 1) rfl T.x_Stopped T.c_Stopped (hr.mono (by decide)) tk (ee_var (pv 1)) rfl))))) (by simp) (.cons ⟨rfl, by decide, .inl T.g_Missing⟩ T.en_Missing (suite_ret (i := 3) T.x_NoRow T.c_NoRow rfl (by first | exact Or.inl rfl | exact Or.inr (Or.inl rfl) | exact Or.inr (Or.inr rfl))) (.cons ⟨rfl, by decide, .inl T.g_Halted⟩ T.en_Halted (suite_ret (i := 3) T.x_Stopped T.c_Stopped rfl (by first | exact Or.inl rfl | exact Or.inr (Or.inl rfl) | exact Or.inr (Or.inr rfl))) (.cons ⟨rfl, by decide, .inl T.g_Refused⟩ T.en_Refused (suite_ret (i := 3) T.x_Held T.c_Held rfl (by first | exact Or.inl rfl | exact Or.inr (Or.inl rfl) | exact Or.inr (Or.inr rfl))) .nil)))))
theorem ok__law_values_right (T : Top K w mg ad fd) : FnG P w K mg base 1 ad.f__law_values_right fd._law_values_right ["_law_some", "_law_many", "_law_whom", "_law_odd"] (spU K (gx ad) F__law_values_right) := by
  have nd := sc__law_values_right.nd
  unfold F__law_values_right
  refine fn_okG (k := 0) (s := c__law_values_right) (np := 4) (n := 6) rfl rfl T.F__law_values_right sc__law_values_right (fun cdv A outer s0 H E hg hr => ?_)
  exact (ss_cons (es_set (i := 4) nd rfl (by first | exact Or.inl rfl | exact Or.inr rfl) (ee_lst (ea_cons (ee_xfld T.xf_line (ee_ix (ee_var (pv 0)) ee_int)) (ea_cons (ee_xfld T.xf_block (ee_ix (ee_var (pv 0)) ee_int)) (ea_cons (ee_xfld T.xf_name (ee_ix (ee_var (pv 0)) ee_int)) (ea_cons (ee_xfld T.xf_thing (ee_ix (ee_var (pv 0)) ee_int)) (ea_cons (ee_xfld T.xf_line (ee_ix (ee_var (pv 0)) ee_int)) (ea_cons (ee_xfld T.xf_thing (ee_ix (ee_var (pv 0)) ee_int)) (ea_cons (ee_xfld T.xf_name (ee_ix (ee_var (pv 0)) ee_int)) ea_nil)))))))))
  (ss_cons (es_set (i := 4) nd rfl (by first | exact Or.inl rfl | exact Or.inr rfl) (ee_op (ou_addA false) (ee_var (pv 4)) (ee_lst (ea_cons (ee_xfld T.xf_what (ee_ix (ee_var (pv 0)) ee_int)) (ea_cons (ee_xfld T.xf_name (ee_ix (ee_var (pv 0)) ee_int)) (ea_cons (ee_xfld T.xf_number (ee_ix (ee_var (pv 0)) ee_int)) (ea_cons (ee_xfld T.xf_number (ee_ix (ee_var (pv 0)) ee_int)) (ea_cons (ee_xfld T.xf_number (ee_ix (ee_var (pv 0)) ee_int)) ea_nil))))))))
  (ss_cons (es_set (i := 5) nd rfl (by first | exact Or.inl rfl | exact Or.inr rfl) (ee_lst (ea_cons (ee_var (pv 1)) (ea_cons (ee_var (pv 2)) (ea_cons (ee_var (pv 3)) (ea_cons (ee_var (pv 3)) (ea_cons (ee_var (pv 1)) (ea_cons (ee_var (pv 3)) (ea_cons (ee_var (pv 2)) (ea_cons (ee_var (pv 2)) (ea_cons (ee_var (pv 2)) (ea_cons (ee_var (pv 1)) (ea_cons (ee_var (pv 1)) (ea_cons (ee_var (pv 1)) ea_nil))))))))))))))
  (ss_one (es_ret (ee_cmp (ou_eq hr.units) (ee_callB (cu_reprX hg (hu70 hr)) (by rfl) T.n_repr (by decide +kernel) (ea_cons (ee_var (pv 4)) ea_nil)) (ee_callB (cu_reprX hg (hu70 hr)) (by rfl) T.n_repr (by decide +kernel) (ea_cons (ee_var (pv 5)) ea_nil)) (nomark _)))))))
theorem ok__law_classes_right (T : Top K w mg ad fd) : FnOk P w K mg base CX0 1 ad.f__law_classes_right fd._law_classes_right ["_law_some"] (spU K (gx ad) F__law_classes_right) := by
  have nd := sc__law_classes_right.nd
  unfold F__law_classes_right
  refine fn_ok (k := 0) (s := c__law_classes_right) (np := 1) (n := 8) rfl rfl T.F__law_classes_right sc__law_classes_right (fun cdv A outer s0 H E hr => ?_)
  exact (ss_cons (es_for PassesOwn.never rfl (ei_enum (by rfl) T.n_enumerate (ea_cons (ee_var (pv 0)) ea_nil)) (ep_tup rfl (eps_cons (ep_name (i := 1) nd rfl (by first | exact Or.inl rfl | exact Or.inr rfl)) (eps_cons (ep_name (i := 2) nd rfl (by first | exact Or.inl rfl | exact Or.inr rfl)) eps_nil))) (ss_cons (es_set (i := 3) nd rfl (by first | exact Or.inl rfl | exact Or.inr rfl) (ee_lstM (ea_cons (ee_isx (by rfl) T.n_isinstance (by rfl) T.x_NoText.gC T.ix_NoText (ee_var (pv 2))) (ea_cons (ee_isx (by rfl) T.n_isinstance (by rfl) T.g_NoPlacing T.ix_NoPlacing (ee_var (pv 2))) (ea_cons (ee_isx (by rfl) T.n_isinstance (by rfl) T.x_NoEdit.gC T.ix_NoEdit (ee_var (pv 2))) ea_nil)))))
  (ss_cons (es_set (i := 3) nd rfl (by first | exact Or.inl rfl | exact Or.inr rfl) (ee_op (ou_addA true) (ee_var (pv 3)) (ee_lst (ea_cons (ee_isx (by rfl) T.n_isinstance (by rfl) T.x_NoLine.gC T.ix_NoLine (ee_var (pv 2))) (ea_cons (ee_isx (by rfl) T.n_isinstance (by rfl) T.x_Taken.gC T.ix_Taken (ee_var (pv 2))) (ea_cons (ee_isx (by rfl) T.n_isinstance (by rfl) T.x_Held.gC T.ix_Held (ee_var (pv 2))) ea_nil))))))
  (ss_cons (es_set (i := 3) nd rfl (by first | exact Or.inl rfl | exact Or.inr rfl) (ee_op (ou_addA true) (ee_var (pv 3)) (ee_lst (ea_cons (ee_isx (by rfl) T.n_isinstance (by rfl) T.x_Full.gC T.ix_Full (ee_var (pv 2))) (ea_cons (ee_isx (by rfl) T.n_isinstance (by rfl) T.x_NoBlock.gC T.ix_NoBlock (ee_var (pv 2))) (ea_cons (ee_isx (by rfl) T.n_isinstance (by rfl) T.x_NoRow.gC T.ix_NoRow (ee_var (pv 2))) ea_nil))))))
  (ss_cons (es_set (i := 3) nd rfl (by first | exact Or.inl rfl | exact Or.inr rfl) (ee_op (ou_addA true) (ee_var (pv 3)) (ee_lst (ea_cons (ee_isx (by rfl) T.n_isinstance (by rfl) T.x_NoPlace.gC T.ix_NoPlace (ee_var (pv 2))) (ea_cons (ee_isx (by rfl) T.n_isinstance (by rfl) T.x_Stopped.gC T.ix_Stopped (ee_var (pv 2))) (ea_cons (ee_isx (by rfl) T.n_isinstance (by rfl) T.g_NoProgram T.ix_NoProgram (ee_var (pv 2))) ea_nil))))))
  (ss_cons (es_expr (ee_mt PySem.F.plainAttrs_list PySem.F.slot_list_append PySem.F.type_list_append mu_append (ee_var (pv 3)) (ea_cons (ee_isx (by rfl) T.n_isinstance (by rfl) T.g_Nothing T.ix_Nothing (ee_var (pv 2))) ea_nil)))
  (ss_cons (es_if (et_cmp (ou_ne hr.units) (ee_var (pv 3)) (ee_lc (own := [("_law_spot", 7)]) rfl nd (ei_range1 (by rfl) T.n_range (ea_cons ee_int ea_nil)) (blkOk_by (own := [("_law_spot", 7)]) (N := N__law_classes_right) (sc := defScope st__law_classes_right) (by decide +kernel)) (fun _ _ _ _ _ => (ep_name (i := 7) nd rfl (by first | exact Or.inl rfl | exact Or.inr rfl))) (fun _ _ _ _ _ => ets_nil) (fun _ _ _ _ _ => (ee_cmp (ou_eq hr.units) (ee_var (pv 7)) (ee_var (pv 1)) (nomark _))) (by decide)) (nomark _)) (ss_one (es_ret ee_bl)) ss_nil)
  (ss_cons (es_set (i := 4) nd rfl (by first | exact Or.inl rfl | exact Or.inr rfl) (ee_lst (ea_cons (ee_isx (by rfl) T.n_isinstance (by rfl) T.g_Refused T.ix_Refused (ee_var (pv 2))) (ea_cons (ee_isx (by rfl) T.n_isinstance (by rfl) T.g_Missing T.ix_Missing (ee_var (pv 2))) (ea_cons (ee_isx (by rfl) T.n_isinstance (by rfl) T.g_Halted T.ix_Halted (ee_var (pv 2))) ea_nil)))))
  (ss_cons (es_set (i := 5) nd rfl (by first | exact Or.inl rfl | exact Or.inr rfl) (ee_lst (ea_cons (ee_isxB (nT := "ValueError") (by rfl) T.n_isinstance (by rfl) T.n_ValueError (by rfl) T.ixb_ValueError (ee_var (pv 2))) (ea_cons (ee_isxB (nT := "LookupError") (by rfl) T.n_isinstance (by rfl) T.n_LookupError (by rfl) T.ixb_LookupError (ee_var (pv 2))) (ea_cons (ee_isxB (nT := "RuntimeError") (by rfl) T.n_isinstance (by rfl) T.n_RuntimeError (by rfl) T.ixb_RuntimeError (ee_var (pv 2))) ea_nil)))))
  (ss_cons (es_set (i := 6) nd rfl (by first | exact Or.inl rfl | exact Or.inr rfl) (ee_lst (ea_cons (ee_or (ee_cmp ou_lt (ee_var (pv 1)) ee_int (nomark _)) (ee_one (ee_cmp ou_gt (ee_var (pv 1)) ee_int (nomark _)))) (ea_cons (ee_chain ou_le ou_lt ee_int (ee_var (pv 1)) ee_int) (ea_cons (ee_cmp (ou_eq hr.units) (ee_var (pv 1)) ee_int (nomark _)) ea_nil)))))
  (ss_one (es_if (et_w (ew_or (et_cmp (ou_ne hr.units) (ee_var (pv 4)) (ee_var (pv 6)) (nomark _)) (ew_or1 (et_cmp (ou_ne hr.units) (ee_var (pv 5)) (ee_var (pv 6)) (nomark _))))) (ss_one (es_ret ee_bl)) ss_nil))))))))))))
  (ss_one (es_ret ee_bl)))
theorem ok_law (T : Top K w mg ad fd) : FnG P w K mg base 4 ad.f_law fd.law ["_law_script"] (spU K (gx ad) (liftP P_law)) := by
  have nd := sc_law.nd
  unfold P_law
  refine fn_pureG (fn_okG (k := 3) (s := c_law) (np := 1) (n := 9) rfl rfl T.F_law sc_law (fun cdv A outer s0 H E hg hr => ?_))
  exact (ss_cons (es_set (i := 1) nd rfl (by first | exact Or.inl rfl | exact Or.inr rfl) (ee_lstM ea_nil))
  (ss_cons (es_for PassesOwn.never rfl (ei_range1 (by rfl) T.n_range (ea_cons (ee_callB (cu_max rfl) (by rfl) T.n_max (by decide +kernel) (ea_cons ee_int (ea_cons (ee_callB (cu_min rfl) (by rfl) T.n_min (by decide +kernel) (ea_cons ee_int (ea_cons (ee_callB cu_len (by rfl) T.n_len (by decide +kernel) (ea_cons (ee_var (pv 0)) ea_nil)) ea_nil))) ea_nil))) ea_nil)) (ep_name (i := 2) nd rfl (by first | exact Or.inl rfl | exact Or.inr rfl)) (ss_cons (es_asg (ee_call (ok__law_things T) (hr.mono (by decide)) (by rfl) T.g__law_things T.kp__law_things T.b__law_things (ea_cons (ee_call (ok__law_hand T) (hr.mono (by decide)) (by rfl) T.g__law_hand T.kp__law_hand T.b__law_hand (ea_cons (ee_var (pv 0)) (ea_cons (ee_var (pv 2)) ea_nil))) ea_nil)) (eg_pat (ep_tup rfl (eps_cons (ep_name (i := 3) nd rfl (by first | exact Or.inl rfl | exact Or.inr rfl)) (eps_cons (ep_name (i := 4) nd rfl (by first | exact Or.inl rfl | exact Or.inr rfl)) (eps_cons (ep_name (i := 5) nd rfl (by first | exact Or.inl rfl | exact Or.inr rfl)) eps_nil))))))
  (ss_cons (es_for PassesOwn.never rfl (ei_seq (ee_call (ok__law_made T) (hr.mono (by decide)) (by rfl) T.g__law_made T.kp__law_made T.b__law_made (ea_cons (ee_var (pv 3)) (ea_cons (ee_var (pv 4)) (ea_cons (ee_var (pv 5)) ea_nil))))) (ep_name (i := 6) nd rfl (by first | exact Or.inl rfl | exact Or.inr rfl)) (ss_cons (es_if (et_not (et_tru (ee_call (ok__law_classes_right T) (hr.mono (by decide)) (by rfl) T.g__law_classes_right T.kp__law_classes_right T.b__law_classes_right (ea_cons (ee_var (pv 6)) ea_nil)))) (ss_one (es_ret ee_bl)) ss_nil)
  (ss_one (es_expr (ee_mt PySem.F.plainAttrs_list PySem.F.slot_list_append PySem.F.type_list_append mu_append (ee_var (pv 1)) (ea_cons (ee_tup (ea_cons (ee_var (pv 6)) (ea_cons (ee_var (pv 3)) (ea_cons (ee_var (pv 4)) (ea_cons (ee_var (pv 5)) ea_nil))))) ea_nil))))))
  (ss_cons (by first | exact es_setLc (i := 7) (own := [("_law_which", 8)]) rfl nd rfl rfl (sw_true rfl rfl rfl (by decide +kernel)) (ei_range1 (by rfl) T.n_range (ea_cons ee_int ea_nil)) (blkOk_by (own := [("_law_which", 8)]) (N := N_law) (sc := defScope st_law) (by decide +kernel)) (fun _ _ _ _ _ => (ep_name (i := 8) nd rfl (by first | exact Or.inl rfl | exact Or.inr rfl))) (fun _ _ _ _ _ => ets_nil) (fun _ _ _ _ _ => (ee_call (ok__law_raised T) (hr.mono (by decide)) (by rfl) T.g__law_raised T.kp__law_raised T.b__law_raised (ea_cons (ee_var (pv 8)) (ea_cons (ee_var (pv 3)) (ea_cons (ee_var (pv 4)) ea_nil))))) (by decide) | exact es_set (i := 7) nd rfl (by first | exact Or.inl rfl | exact Or.inr rfl) (ee_lc (own := [("_law_which", 8)]) rfl nd (ei_range1 (by rfl) T.n_range (ea_cons ee_int ea_nil)) (blkOk_by (own := [("_law_which", 8)]) (N := N_law) (sc := defScope st_law) (by decide +kernel)) (fun _ _ _ _ _ => (ep_name (i := 8) nd rfl (by first | exact Or.inl rfl | exact Or.inr rfl))) (fun _ _ _ _ _ => ets_nil) (fun _ _ _ _ _ => (ee_call (ok__law_raised T) (hr.mono (by decide)) (by rfl) T.g__law_raised T.kp__law_raised T.b__law_raised (ea_cons (ee_var (pv 8)) (ea_cons (ee_var (pv 3)) (ea_cons (ee_var (pv 4)) ea_nil))))) (by decide)))
  (ss_one (es_if (et_cmp (ou_ne hr.units) (ee_var (pv 7)) (ee_lst (ea_cons (ee_tup (ea_cons ee_str (ea_cons (ee_var (pv 4)) ea_nil))) (ea_cons (ee_tup (ea_cons ee_str (ea_cons (ee_var (pv 3)) ea_nil))) (ea_cons (ee_tup (ea_cons ee_str (ea_cons (ee_var (pv 3)) ea_nil))) ea_nil)))) (nomark _)) (ss_one (es_ret ee_bl)) ss_nil))))))
  (ss_one (es_ret (ee_callB (cu_all rfl) (by rfl) T.n_all (by decide +kernel) (ea_cons (ee_lcG (own := [("_law_some", 6), ("_law_many", 3), ("_law_whom", 4), ("_law_odd", 5)]) rfl nd (ei_any (ee_var (pv 1))) (blkOk_by (own := [("_law_some", 6), ("_law_many", 3), ("_law_whom", 4), ("_law_odd", 5)]) (N := N_law) (sc := defScope st_law) (by decide +kernel)) (fun _ _ _ _ _ => (ep_tup rfl (eps_cons (ep_name (i := 6) nd rfl (by first | exact Or.inl rfl | exact Or.inr rfl)) (eps_cons (ep_name (i := 3) nd rfl (by first | exact Or.inl rfl | exact Or.inr rfl)) (eps_cons (ep_name (i := 4) nd rfl (by first | exact Or.inl rfl | exact Or.inr rfl)) (eps_cons (ep_name (i := 5) nd rfl (by first | exact Or.inl rfl | exact Or.inr rfl)) eps_nil)))))) (fun _ _ _ _ _ => ets_nil) (fun _ _ _ _ _ => (ee_callG (ok__law_values_right T) hg (hr.mono (by decide)) (by rfl) T.g__law_values_right T.kp__law_values_right T.b__law_values_right (ea_cons (ee_var (pv 6)) (ea_cons (ee_var (pv 3)) (ea_cons (ee_var (pv 4)) (ea_cons (ee_var (pv 5)) ea_nil)))))) (by decide)) ea_nil))))))
end
end K05
namespace OF
open PySem PySem.Spec PyProof.Rows L2
def wp {α : Type} (x : Option α) (Q : α → Prop) : Prop := ∃ a, x = some a ∧ Q a
@[simp] theorem wp_some {α : Type} (a : α) (Q : α → Prop) : wp (some a) Q = Q a := by simp [wp]
theorem wp_of {α : Type} {x : Option α} {P : α → Prop} {a : α} (h : x = some a) (p : P a) : wp x P := ⟨a, h, p⟩
section
variable {env : Env'} {S : Sto}
theorem wp_cBin {f : Op2} {a b : Cm U} {Q} : wp (cBin f a b env S) Q = wp (a env S) fun p => wp (b env p.2) fun q => wp (f p.1 q.1 q.2) Q := by
  unfold cBin wp
  rcases a env S with _ | ⟨u, S1⟩
  · simp
  · simp only [Option.some.injEq, exists_eq_left']
    rcases b env S1 with _ | ⟨v, S2⟩ <;> simp
theorem wp_cCons {a : Cm U} {r : Cm (List U)} {Q} : wp (cCons a r env S) Q = wp (a env S) fun p => wp (r env p.2) fun q => Q (p.1 :: q.1, q.2) := by
  unfold cCons wp
  rcases a env S with _ | ⟨u, S1⟩
  · simp
  · simp only [Option.some.injEq, exists_eq_left']
    rcases r env S1 with _ | ⟨v, S2⟩ <;> simp
theorem wp_cArg {f : OpN} {r : Cm (List U)} {Q} : wp (cArg f r env S) Q = wp (r env S) fun p => wp (f p.1 p.2) Q := by
  unfold cArg wp
  rcases r env S with _ | ⟨u, S1⟩ <;> simp
theorem wp_sRet {a : Cm U} {Q} : wp (sRet a env S) Q = wp (a env S) fun p => Q (.ret p.1, env, p.2) := by
  unfold sRet wp
  rcases a env S with _ | ⟨u, S1⟩ <;> simp
def retK (Q : U × Sto → Prop) : Fl × Env' × Sto → Prop
  | (.ret u, _, S) => Q (u, S)
  | (.nx, _, S) => Q (.non, S)
  | _ => False
theorem wp_runF {s : Sm} {np n : Nat} {us : List U} {Q} : wp (runF s np n us S) Q = (us.length = np ∧ wp (s (startE n us) S) (retK Q)) := by
  unfold runF wp
  by_cases h : us.length = np
  · simp only [h, if_true, true_and]
    rcases s (startE n us) S with _ | ⟨fl, e, S1⟩
    · simp
    · cases fl <;> simp [retK]
  · simp [h]
def r1K (S : Sto) : List U → Option (List U × Sto)
  | [.int j] => if -(2 ^ 62) ≤ j ∧ j < 2 ^ 62 then some (rangeU 0 j.toNat, S) else none
  | _ => none
end
end OF
namespace OF
open PySem PySem.Spec PyProof.Rows L2
class Hid (α : Type) where
  v : α
def wq {α : Type} (x : Option α) [Q : Hid (α → Prop)] : Prop := wp x Q.v
def retH [Q : Hid (U × Sto → Prop)] (r : Fl × Env' × Sto) : Prop := retK Q.v r
@[simp ↓] theorem hid_ap {α β : Type} {f : α → β} {a : α} : @Hid.v (α → β) ⟨f⟩ a = f a := rfl
@[simp ↓] theorem hid_p {p : Prop} : @Hid.v Prop ⟨p⟩ = p := rfl
@[simp ↓] theorem wp_def {α : Type} {x : Option α} {Q : α → Prop} : wp x Q = @wq _ x ⟨Q⟩ := rfl
@[simp] theorem wq_some {α : Type} (a : α) (Q : α → Prop) : @wq _ (some a) ⟨Q⟩ = Q a := wp_some a Q
@[simp ↓] theorem retH_ret {Q} {e : Env'} {S : Sto} {u : U} : @retH ⟨Q⟩ (.ret u, e, S) = Q (u, S) := rfl
@[simp ↓] theorem retH_nx {Q} {e : Env'} {S : Sto} : @retH ⟨Q⟩ (.nx, e, S) = Q (.non, S) := rfl
section
variable {env : Env'} {S : Sto}
@[simp ↓] theorem wq_cBin {f : Op2} {a b : Cm U} {Q : _ → Prop} : @wq _ (cBin f a b env S) ⟨Q⟩ = @wq _ (a env S) ⟨fun p => @wq _ (b env p.2) ⟨fun q => @wq _ (f p.1 q.1 q.2) ⟨Q⟩⟩⟩ := wp_cBin
@[simp ↓] theorem wq_cCons {a : Cm U} {r : Cm (List U)} {Q : _ → Prop} : @wq _ (cCons a r env S) ⟨Q⟩ = @wq _ (a env S) ⟨fun p => @wq _ (r env p.2) ⟨fun q => Q (p.1 :: q.1, q.2)⟩⟩ := wp_cCons
@[simp ↓] theorem wq_cArg {f : OpN} {r : Cm (List U)} {Q : _ → Prop} : @wq _ (cArg f r env S) ⟨Q⟩ = @wq _ (r env S) ⟨fun p => @wq _ (f p.1 p.2) ⟨Q⟩⟩ := wp_cArg
@[simp ↓] theorem wq_sRet {a : Cm U} {Q : _ → Prop} : @wq _ (sRet a env S) ⟨Q⟩ = @wq _ (a env S) ⟨fun p => Q (.ret p.1, env, p.2)⟩ := wp_sRet
@[simp ↓] theorem wq_runF {s : Sm} {np n : Nat} {us : List U} {Q : _ → Prop} : @wq _ (runF s np n us S) ⟨Q⟩ = (us.length = np ∧ @wq _ (s (startE n us) S) ⟨@retH ⟨Q⟩⟩) := wp_runF
end
end OF
namespace OF
open PySem PySem.Spec PyProof.Rows L2
def St (S : Sto) (h : Nat) (o : O) (cs : List O) : Sto := S.set h o ++ cs
section
variable {S : Sto} {h : Nat} {o o' : O} {cs : List O}
theorem st_of (hS : S[h]? = some o) : S = St S h o [] := by
  unfold St
  rw [List.append_nil]
  obtain ⟨hl, he⟩ := List.getElem?_eq_some_iff.mp hS
  rw [← he, List.set_getElem_self]
@[simp high] theorem st_len : (St S h o cs).length = S.length + cs.length := by simp [St]
theorem st_get (hh : h < S.length) : (St S h o cs)[h]? = some o := by
  unfold St
  rw [List.getElem?_append_left (by simpa using hh)]
  exact List.getElem?_set_self hh
theorem st_set (hh : h < S.length) : (St S h o cs).set h o' = St S h o' cs := by
  unfold St
  rw [List.set_append_left _ _ (by simpa using hh), List.set_set]
theorem st_old {j : Nat} (hj : j < S.length) (hn : j ≠ h) : (St S h o cs)[j]? = S[j]? := by
  unfold St
  rw [List.getElem?_append_left (by simpa using hj), List.getElem?_set_ne (Ne.symm hn)]
end
@[simp] theorem rangeU_0 : rangeU 0 0 = [] := rfl
@[simp] theorem rangeU_3 : rangeU 0 3 = [.int 0, .int 1, .int 2] := rfl
theorem rangeU_eq (n : Nat) : rangeU 0 n = (List.range n).map fun (i : Nat) => U.int (i : Int) := by simp [rangeU]
@[simp high] theorem addU_i {mu : Bool} {i j : Int} {S : Sto} : addU mu (.int i) (.int j) S = some (.int (i + j), S) := rfl
@[simp high] theorem addU_l {mu : Bool} {x : List U} {y : U} {S : Sto} : addU mu (.lst x) y S = lstAdd mu (.lst x) y S := rfl
@[simp high] theorem addU_r {mu : Bool} {x : Nat} {y : U} {S : Sto} : addU mu (.ref x) y S = lstAdd mu (.ref x) y S := rfl
theorem atI_mem {α : Type} {us : List α} {d : Int} (h0 : 0 ≤ d) (h1 : d < us.length) : ∃ u, atI us d = some u ∧ u ∈ us := by
  obtain ⟨n, rfl⟩ : ∃ n : Nat, d = n := ⟨d.toNat, by omega⟩
  rw [OF.atI_nat]
  have : n < us.length := by omega
  exact ⟨us[n], List.getElem?_eq_getElem this, List.getElem_mem this⟩
end OF
namespace OF
open PySem PySem.Spec PyProof.Rows L2
@[simp] theorem dctU_dct (S : Sto) (kvs : List (Key × U)) : dctU S (.dct kvs) = some kvs := rfl
@[simp] theorem getK_nil {α : Type} (k : Key) : getK ([] : List (Key × α)) k = none := rfl
@[simp] theorem putKU_nil {α : Type} (k : Key) (v : α) : putKU [] k v = [(k, v)] := rfl
end OF
namespace K05
open PySem PySem.Spec PyProof.Rows L2 OF
theorem lg1100 {x : Int} (h : x.natAbs < 2 ^ 1100) : x.natAbs.log2 < 1100 := by
  by_cases h0 : x.natAbs = 0
  · rw [h0]; decide
  · rw [Nat.log2_lt h0]; exact h
theorem mulI_ok {i j : Int} (h1 : i.natAbs < 2 ^ 1100) (h2 : j.natAbs < 2 ^ 1100) : mulI i j = some (.int (i * j)) := by
  unfold mulI
  have := lg1100 h1
  have := lg1100 h2
  rw [if_pos (by omega)]
theorem divI_ok {i j : Int} (h0 : 0 < j) (h1 : j.natAbs < 2 ^ 1100) : divI i j = some (.int (i / j)) := by
  unfold divI
  have := lg1100 h1
  rw [if_pos ⟨h0, by omega⟩]
theorem modI_ok {i j : Int} (h0 : 0 < j) : modI i j = some (.int (i % j)) := by
  unfold modI
  rw [if_pos h0]
theorem sm {x : Int} (h : x.natAbs < 2 ^ 64) : x.natAbs < 2 ^ 1100 := Nat.lt_trans h (Nat.pow_lt_pow_right (by decide) (by decide))
def hnd (g b : Int) : O := .lst [.int g, .int b]
structure Hok (g b : Int) : Prop where
  g0 : 0 ≤ g
  g1 : g < 10 ^ 300
  b0 : 0 ≤ b
  b1 : b < 2305843009213693951
@[simp high] theorem addU_int {mu : Bool} {i j : Int} {S : Sto} : addU mu (.int i) (.int j) S = some (.int (i + j), S) := rfl
@[simp high] theorem ixU_ref {n : Nat} {i : Int} {S : Sto} : ixU (.ref n) (.int i) S = (match S[n]? with
  | some (.lst us) => (match atI us i with
    | some w => some (w, S)
    | none => none)
  | _ => none) := by
  simp only [ixU_ap, itmU_ref]
  cases S[n]? with
  | none => rfl
  | some o => cases o <;> rfl
theorem take_ok {S : Sto} {h : Nat} {g b : Int} (hS : S[h]? = some (hnd g b)) (hk : Hok g b) (m : Int) (hm0 : 0 < m) (hm1 : m < 1000000000000) :
    ∃ d g' b', F__law_take [.ref h, .int m] S = some (.int d, S.set h (hnd g' b')) ∧ 0 ≤ d ∧ d < m ∧ Hok g' b' := by
  obtain ⟨g0, g1, b0, b1⟩ := hk
  have hlt : h < S.length := (List.getElem?_eq_some_iff.mp hS).1
  have hset : ∀ o : O, (S.set h o)[h]? = some o := fun o => List.getElem?_set_self hlt
  clear hlt
  have i0 : ixN 2 0 = some 0 := rfl
  have i1 : ixN 2 1 = some 1 := rfl
  unfold F__law_take c__law_take
  unfold hnd at hS
  by_cases hg : 0 < g
  · refine ⟨g % m, g / m, b, ?_, Int.emod_nonneg _ (by omega), Int.emod_lt_of_pos _ hm0, ?_⟩
    · simp [hS, hg, modI_ok hm0, divI_ok hm0 (sm (show m.natAbs < 2 ^ 64 by omega)), hnd, i0]
    · exact ⟨Int.ediv_nonneg g0 (by omega), Int.lt_of_le_of_lt (Int.ediv_le_self _ g0) g1, b0, b1⟩
  · have e1 : mulI b 1181783497276652981 = some (.int (b * 1181783497276652981)) := mulI_ok (sm (by omega)) (sm (by decide))
    generalize hy : (b * 1181783497276652981 + 12345678910987) % 2305843009213693951 = y
    have y0 : 0 ≤ y := by rw [← hy]; exact Int.emod_nonneg _ (by decide)
    have y1 : y < 2305843009213693951 := by rw [← hy]; exact Int.emod_lt_of_pos _ (by decide)
    have m1 : ∀ i, modI i 2305843009213693951 = some (.int (i % 2305843009213693951)) := fun i => modI_ok (by decide)
    have m2 : ∀ i, modI i 2305843009213693921 = some (.int (i % 2305843009213693921)) := fun i => modI_ok (by decide)
    have m3 : ∀ i, modI i 65537 = some (.int (i % 65537)) := fun i => modI_ok (by decide)
    have d1 : ∀ i, divI i 65537 = some (.int (i / 65537)) := fun i => divI_ok (by decide) (sm (by decide))
    have d2 : ∀ i, divI i 97 = some (.int (i / 97)) := fun i => divI_ok (by decide) (sm (by decide))
    have e2 : mulI (y / 65537) (y % 65537 + 3) = some (.int (y / 65537 * (y % 65537 + 3))) := mulI_ok (sm (by omega)) (sm (by omega))
    generalize hx : y / 65537 * (y % 65537 + 3) % 2305843009213693921 / 97 = x
    refine ⟨x % m, g, y, ?_, Int.emod_nonneg _ (by omega), Int.emod_lt_of_pos _ hm0, ⟨g0, g1, y0, y1⟩⟩
    simp [hS, hg, hnd, i1, hset, e1, m1, hy, d1, m3, e2, m2, d2, hx, modI_ok hm0]
theorem take_wp {S : Sto} {h : Nat} {cs : List O} {g b m : Int} {Q : U × Sto → Prop} (hh : h < S.length) (hk : Hok g b) (m0 : 0 < m) (m1 : m < 1000000000000)
    (q : ∀ d g' b', 0 ≤ d → d < m → Hok g' b' → Q (.int d, St S h (hnd g' b') cs)) : wp (F__law_take [.ref h, .int m] (St S h (hnd g b) cs)) Q := by
  obtain ⟨d, g', b', e, d0, d1, k⟩ := take_ok (st_get hh) hk m m0 m1
  rw [st_set hh] at e
  exact wp_of e (q d g' b' d0 d1 k)
theorem atI_in {α : Type} {us : List α} {d : Int} (h0 : 0 ≤ d) (h1 : d < us.length) : ∃ u, atI us d = some u ∧ u ∈ us := atI_mem h0 h1
theorem pick_wp {S : Sto} {h : Nat} {cs : List O} {g b : Int} {us : List U} {Q : U × Sto → Prop} (hh : h < S.length) (hk : Hok g b) (n0 : us ≠ []) (n1 : us.length < 1000000)
    (q : ∀ u g' b', u ∈ us → Hok g' b' → Q (u, St S h (hnd g' b') cs)) : wp (F__law_pick [.ref h, .lst us] (St S h (hnd g b) cs)) Q := by
  unfold F__law_pick c__law_pick
  simp
  have : 0 < us.length := List.length_pos_iff.mpr n0
  refine take_wp hh hk (by omega) (by omega) fun d g' b' d0 d1 k => ?_
  obtain ⟨u, e, hu⟩ := atI_in d0 d1
  simp [e]
  exact q u g' b' hu k
theorem pow_facts (a : Int) : ∃ A D E r : Int, powI 10 60 = some (.int A) ∧ powJ A 5 = some (.int D) ∧ powI 10 18 = some (.int E) ∧ modI a D = some (.int r) ∧ 0 ≤ r ∧ r < 10 ^ 300 := by
  refine ⟨10 ^ 60, 10 ^ 300, 10 ^ 18, a % 10 ^ 300, rfl, by kernel_rfl, rfl, modI_ok (by decide), Int.emod_nonneg _ (by decide), Int.emod_lt_of_pos _ (by decide)⟩
theorem hand_ok (ns : List Int) (k : Nat) (S : Sto) (hk : k < 100) (hn : ns.length ≤ 63) : ∃ g b, F__law_hand [.scr (ns.map .int), .int k] S = some (.ref S.length, S ++ [hnd g b]) ∧ Hok g b := by
  have m1 : ∀ i, modI i 2305843009213693951 = some (.int (i % 2305843009213693951)) := fun i => modI_ok (by decide)
  have e0 : mulI 3 (k : Int) = some (.int (3 * k)) := mulI_ok (sm (by decide)) (sm (by omega))
  have e1 : mulI 7919 (k : Int) = some (.int (7919 * k)) := mulI_ok (sm (by decide)) (sm (by omega))
  have kk : 0 ≤ (7919 * (k : Int)) * k ∧ (7919 * (k : Int)) * k ≤ 7919 * 100 * 100 := ⟨Int.mul_nonneg (by omega) (by omega), by apply Int.mul_le_mul <;> omega⟩
  have e1' : mulI (7919 * (k : Int)) k = some (.int (7919 * k * k)) := mulI_ok (sm (by omega)) (sm (by omega))
  generalize hz : 7919 * (k : Int) * k = z at kk e1'
  have main : ∀ x : Int, ∃ g b, Hok g b ∧ ∃ A D E r : Int, powI 10 60 = some (.int A) ∧ powJ A 5 = some (.int D) ∧ powI 10 18 = some (.int E) ∧ modI (if x < 0 then -x else x) D = some (.int r) ∧ mulI r (if E ≤ (if x < 0 then -x else x) then 1 else 0) = some (.int g) ∧ mulI (x % 2305843009213693951 + z + 11) 48271 = some (.int ((x % 2305843009213693951 + z + 11) * 48271)) ∧ b = (x % 2305843009213693951 + z + 11) * 48271 % 2305843009213693951 := by
    intro x
    obtain ⟨A, D, E, r, p60, q1, p18, q3, r0, r1⟩ := pow_facts (if x < 0 then -x else x)
    generalize (if x < 0 then -x else x) = a at q3 ⊢
    refine ⟨r * (if E ≤ a then 1 else 0), _, ⟨?_, ?_, Int.emod_nonneg _ (by decide), Int.emod_lt_of_pos _ (by decide)⟩, A, D, E, r, p60, q1, p18, q3, ?_, mulI_ok (sm (by omega)) (sm (by decide)), rfl⟩
    · split <;> omega
    · split <;> omega
    · have hr : r.natAbs < 2 ^ 1100 := by
        have h1 : r.natAbs < 10 ^ 300 := by omega
        exact Nat.lt_trans h1 (by decide +kernel)
      split
      · exact mulI_ok hr (sm (by decide))
      · exact mulI_ok hr (sm (by decide))
  unfold F__law_hand c__law_hand
  by_cases hl : k < ns.length
  · obtain ⟨g, b, hgb, A, D, E, r, p60, q1, p18, q3, q4, q5, rfl⟩ := main ns[k]
    have hat : atI (ns.map U.int) k = some (.int ns[k]) := by
      rw [OF.atI_nat]
      simp [hl]
    refine ⟨g, _, ?_, hgb⟩
    by_cases hE : E ≤ (if ns[k] < 0 then -ns[k] else ns[k])
    · simp only [hE, if_true] at q4
      simp [hl, hat, absU, e0, p60, q1, q3, p18, m1, e1, e1', hE, q4, q5, hnd]
    · simp only [hE, if_false] at q4
      simp [hl, hat, absU, e0, p60, q1, q3, p18, m1, e1, e1', hE, q4, q5, hnd]
  · obtain ⟨g, b, hgb, A, D, E, r, p60, q1, p18, q3, q4, q5, rfl⟩ := main (3 * k + ns.length)
    refine ⟨g, _, ?_, hgb⟩
    by_cases hE : E ≤ (if (3 * (k : Int) + ns.length) < 0 then -(3 * (k : Int) + ns.length) else (3 * (k : Int) + ns.length))
    · simp only [hE, if_true] at q4
      simp [hl, absU, e0, p60, q1, q3, p18, m1, e1, e1', hE, q4, q5, hnd]
    · simp only [hE, if_false] at q4
      simp [hl, absU, e0, p60, q1, q3, p18, m1, e1, e1', hE, q4, q5, hnd]
end K05
namespace OF
open PySem PySem.Spec PyProof.Rows L2
@[simp] theorem tyU_non (S : Sto) : tyU S .non = some "NoneType" := rfl
@[simp] theorem tyU_bl (S : Sto) (b : Bool) : tyU S (.bl b) = some "bool" := rfl
@[simp] theorem tyU_int (S : Sto) (i : Int) : tyU S (.int i) = some "int" := rfl
@[simp] theorem tyU_str (S : Sto) (x : Str) : tyU S (.str x) = some "str" := rfl
@[simp] theorem tyU_tup (S : Sto) (us : List U) : tyU S (.tup us) = some "tuple" := rfl
@[simp] theorem tyU_lst (S : Sto) (us : List U) : tyU S (.lst us) = some "list" := rfl
@[simp] theorem tyU_dct (S : Sto) (us : List (Key × U)) : tyU S (.dct us) = some "dict" := rfl
@[simp] theorem seqU_str (x : Str) : seqU (.str x) = some (signsU x) := rfl
def asc (x : Str) : Bool := x.cps.toList.all fun c => decide (c < 128)
def okK (b : Nat) : Key → Bool
  | .inl i => decide (i.natAbs ≤ b)
  | .inr x => asc x
mutual
def dat (b : Nat) : U → Bool
  | .non => true
  | .bl _ => true
  | .int i => decide (i.natAbs ≤ b)
  | .str x => asc x
  | .tup us => dats b us
  | .lst us => dats b us
  | .dct kvs => datk b kvs
  | _ => false
def dats (b : Nat) : List U → Bool
  | [] => true
  | u :: us => dat b u && dats b us
def datk (b : Nat) : List (Key × U) → Bool
  | [] => true
  | (k, u) :: us => (okK b k && dat b u) && datk b us
end
mutual
def wt : U → Nat
  | .str x => x.cps.size
  | .tup us => wts us
  | .lst us => wts us
  | .dct us => wtk us
  | _ => 0
def wts : List U → Nat
  | [] => 0
  | u :: us => wt u + 1 + wts us
def wtk : List (Key × U) → Nat
  | [] => 0
  | (k, u) :: us => (match k with | .inl _ => 0 | .inr x => x.cps.size) + wt u + 2 + wtk us
end
mutual
def dpt : U → Nat
  | .tup us => dpts us + 1
  | .lst us => dpts us + 1
  | .dct us => dptk us + 1
  | _ => 0
def dpts : List U → Nat
  | [] => 0
  | u :: us => max (dpt u) (dpts us)
def dptk : List (Key × U) → Nat
  | [] => 0
  | (_, u) :: us => max (dpt u) (dptk us)
end
theorem asc_short {x : Str} (h : asc x = true) : (x.cps.toList.all fun c => decide (c < 16 ^ 8)) = true := by
  unfold asc at h
  rw [List.all_eq_true] at h ⊢
  intro c hc
  have := h c hc
  simp at this ⊢
  omega
mutual
theorem dat_noref {b : Nat} : ∀ (u : U), dat b u = true → noref u = true
  | .non, _ => rfl
  | .bl _, _ => rfl
  | .int _, _ => rfl
  | .str _, _ => rfl
  | .tup us, h => by simp only [dat] at h; simpa [noref] using dats_norefs us h
  | .lst us, h => by simp only [dat] at h; simpa [noref] using dats_norefs us h
  | .dct us, h => by simp only [dat] at h; simpa [noref] using datk_norefk us h
  | .scr _, h => by simp [dat] at h
  | .fn _, h => by simp [dat] at h
  | .ref _, h => by simp [dat] at h
theorem dats_norefs {b : Nat} : ∀ (us : List U), dats b us = true → norefs us = true
  | [], _ => rfl
  | u :: us, h => by
    simp only [dats, Bool.and_eq_true] at h
    simp [norefs, dat_noref u h.1, dats_norefs us h.2]
theorem datk_norefk {b : Nat} : ∀ (us : List (Key × U)), datk b us = true → norefk us = true
  | [], _ => rfl
  | (k, u) :: us, h => by
    simp only [datk, Bool.and_eq_true] at h
    simp [norefk, dat_noref u h.1.2, datk_norefk us h.2]
end
theorem int_short {i : Int} {b : Nat} (hb : b < 2 ^ 399) (h : i.natAbs ≤ b) : i.natAbs.log2 < 400 := by
  by_cases h0 : i.natAbs = 0
  · rw [h0]; decide
  · have : i.natAbs.log2 < 399 := (Nat.log2_lt h0).mpr (by omega)
    omega
theorem int_leaf {i : Int} (h : i.natAbs.log2 < 400) : PyData.leavesShort 401 (.int i) = true ∧ PyData.showable (.int i) = true := by
  refine ⟨?_, ?_⟩
  · have := int_text_length_le (a := i) (k := 400) (by decide) h
    show decide ((Str.ofString (toString i)).length ≤ 401) = true
    rw [PySem.ofString_length]
    exact decide_eq_true this
  · simp only [PyData.showable, decide_eq_true_eq]; omega
mutual
theorem shX_ok {b : Nat} (hb : b < 2 ^ 399) : ∀ (u : U), dat b u = true → ∃ d, toX u = some d ∧ d.leavesShort 401 = true ∧ d.showable = true ∧ d.bulk = wt u ∧ d.depth = dpt u
  | .non, _ => ⟨_, rfl, rfl, rfl, rfl, rfl⟩
  | .bl _, _ => ⟨_, rfl, rfl, rfl, rfl, rfl⟩
  | .int i, h => by
    simp only [dat, decide_eq_true_eq] at h
    obtain ⟨a, c⟩ := int_leaf (int_short hb h)
    exact ⟨_, rfl, a, c, rfl, rfl⟩
  | .str x, h => ⟨_, rfl, by simpa only [PyData.leavesShort] using asc_short h, rfl, rfl, rfl⟩
  | .tup us, h => by
    obtain ⟨ds, e, a, c, k, l⟩ := shXs_ok hb us (by simpa only [dat] using h)
    refine ⟨.tuple ds, by simp only [toX, e, Option.map_some], ?_, ?_, ?_, ?_⟩
    · simpa only [PyData.leavesShort] using a
    · simpa only [PyData.showable] using c
    · simpa only [PyData.bulk, wt] using k
    · simpa only [PyData.depth, dpt, Nat.add_right_cancel_iff] using l
  | .lst us, h => by
    obtain ⟨ds, e, a, c, k, l⟩ := shXs_ok hb us (by simpa only [dat] using h)
    refine ⟨.list ds, by simp only [toX, e, Option.map_some], ?_, ?_, ?_, ?_⟩
    · simpa only [PyData.leavesShort] using a
    · simpa only [PyData.showable] using c
    · simpa only [PyData.bulk, wt] using k
    · simpa only [PyData.depth, dpt, Nat.add_right_cancel_iff] using l
  | .dct us, h => by
    obtain ⟨ds, e, a, c, k, l⟩ := shXk_ok hb us (by simpa only [dat] using h)
    refine ⟨.dict ds, by simp only [toX, e, Option.map_some], ?_, ?_, ?_, ?_⟩
    · simpa only [PyData.leavesShort] using a
    · simpa only [PyData.showable] using c
    · simpa only [PyData.bulk, wt] using k
    · simpa only [PyData.depth, dpt, Nat.add_right_cancel_iff] using l
  | .scr _, h => by simp [dat] at h
  | .fn _, h => by simp [dat] at h
  | .ref _, h => by simp [dat] at h
theorem shXs_ok {b : Nat} (hb : b < 2 ^ 399) : ∀ (us : List U), dats b us = true → ∃ ds, toXs us = some ds ∧ PyData.leavesShortAll 401 ds = true ∧ PyData.showableAll ds = true ∧ PyData.bulkAll ds = wts us ∧ PyData.depthAll ds = dpts us
  | [], _ => ⟨[], rfl, rfl, rfl, rfl, rfl⟩
  | u :: us, h => by
    simp only [dats, Bool.and_eq_true] at h
    obtain ⟨d, e, a, c, k, l⟩ := shX_ok hb u h.1
    obtain ⟨ds, e', a', c', k', l'⟩ := shXs_ok hb us h.2
    exact ⟨d :: ds, by simp only [toXs, e, e'], by simp only [PyData.leavesShortAll, a, a', Bool.and_self], by simp only [PyData.showableAll, c, c', Bool.and_self], by simp only [PyData.bulkAll, wts, k, k'], by simp only [PyData.depthAll, dpts, l, l']⟩
theorem shXk_ok {b : Nat} (hb : b < 2 ^ 399) : ∀ (us : List (Key × U)), datk b us = true → ∃ ds, toXk us = some ds ∧ PyData.leavesShortKv 401 ds = true ∧ PyData.showableKv ds = true ∧ PyData.bulkKv ds = wtk us ∧ PyData.depthKv ds = dptk us
  | [], _ => ⟨[], rfl, rfl, rfl, rfl, rfl⟩
  | (k0, u) :: us, h => by
    simp only [datk, Bool.and_eq_true] at h
    obtain ⟨d, e, a, c, k, l⟩ := shX_ok hb u h.1.2
    obtain ⟨ds, e', a', c', k', l'⟩ := shXk_ok hb us h.2
    cases k0 with
    | inl i =>
      have hi := h.1.1
      simp only [okK, decide_eq_true_eq] at hi
      obtain ⟨a0, c0⟩ := int_leaf (int_short hb hi)
      exact ⟨(.int i, d) :: ds, by simp only [toXk, e, e', keyD], by simp only [PyData.leavesShortKv, a0, a, a', Bool.and_self], by simp only [PyData.showableKv, c0, c, c', Bool.and_self], by simp only [PyData.bulkKv, wtk, k, k', PyData.bulk], by simp only [PyData.depthKv, dptk, l, l', PyData.depth]; omega⟩
    | inr x =>
      have a0 : PyData.leavesShort 401 (.str x) = true := by simpa only [PyData.leavesShort] using asc_short h.1.1
      exact ⟨(.str x, d) :: ds, by simp only [toXk, e, e', keyD], by simp only [PyData.leavesShortKv, a0, a, a', Bool.and_self], by simp only [PyData.showableKv, PyData.showable, c, c', Bool.and_self], by simp only [PyData.bulkKv, wtk, k, k', PyData.bulk], by simp only [PyData.depthKv, dptk, l, l', PyData.depth]; omega⟩
end
theorem reprX_ok {b : Nat} {u : U} (hb : b < 2 ^ 399) (h : dat b u = true) (hw : wt u ≤ 40000) (hd : dpt u ≤ 60) : ∃ t : Str, ∀ S : Sto, reprX u S = some (.str t, S) := by
  obtain ⟨d, e, a, c, k, l⟩ := shX_ok hb u h
  have hl := PyData.shown_le_bulk 401 (by decide) d a
  have hs : showX d = true := by
    simp only [showX, Bool.and_eq_true, decide_eq_true_eq]
    exact ⟨c, by omega, le_size _ (by rw [k] at hl; omega)⟩
  exact ⟨d.shown, fun S => by simp [reprX, e, hs]⟩
end OF
namespace OF
open PySem PySem.Spec PyProof.Rows L2
def r1G (p : Option (List U × Sto)) : Option (List U × Sto) := match p with
  | some (us, S) => r1K S us
  | none => none
@[simp] theorem r1G_some (us : List U) (S : Sto) : r1G (some (us, S)) = r1K S us := id rfl
theorem itR1_k (c : Cm (List U)) (env : Env') (S : Sto) : itR1 c env S = r1G (c env S) := by
  unfold itR1 r1G
  rcases c env S with _ | ⟨us, S1⟩
  · rfl
  · rcases us with _ | ⟨u, us⟩
    · rfl
    · cases us <;> cases u <;> rfl
theorem r1K_nat {n : Nat} (h : n ≤ 1000000) (S : Sto) : r1K S [.int (n : Int)] = some (rangeU 0 n, S) := by
  have b : (-(2 ^ 62) : Int) ≤ (n : Int) ∧ (n : Int) < 2 ^ 62 := ⟨by omega, by omega⟩
  have e : ∀ j : Int, r1K S [.int j] = if -(2 ^ 62) ≤ j ∧ j < 2 ^ 62 then some (rangeU 0 j.toNat, S) else none := fun _ => rfl
  rw [e, if_pos b, Int.toNat_natCast]
theorem sqn {a b : Sm} {env e : Env'} {S T : Sto} (h : a env S = some (.nx, e, T)) : sSeq a b env S = b e T := by
  unfold sSeq
  rw [h]
theorem sFor_of {it : Cm (List U)} {pt : Pat} {b : Sm} {env : Env'} {S S1 : Sto} {us : List U} (h : it env S = some (us, S1)) : sFor it pt b env S = loopF pt b us env S1 := by
  unfold sFor
  rw [h]
theorem cLc_of {it : Cm (List U)} {pt : Pat} {t : Cm Bool} {c : Cm U} {vs : List Nat} {env : Env'} {S S1 S2 : Sto} {us ys : List U} (h : it env S = some (us, S1)) (h2 : mapC pt t c (wipeE env vs) us S1 = some (ys, S2)) (hz : ys.length ≤ sizeLine) : cLc it pt t c vs env S = some (.lst ys, S2) := by
  unfold cLc cLcL
  rw [h]
  simp only [h2, hz, if_true]
theorem sRet_of {c : Cm U} {env : Env'} {S S1 : Sto} {u : U} (h : c env S = some (u, S1)) : sRet c env S = some (.ret u, env, S1) := by
  unfold sRet
  rw [h]
theorem runF_of {s : Sm} {np n : Nat} {us : List U} {S S1 : Sto} {e e0 : Env'} {u : U} (h0 : startE n us = e0) (hl : us.length = np) (h : s e0 S = some (.ret u, e, S1)) : runF s np n us S = some (u, S1) := by
  unfold runF
  rw [if_pos hl, h0, h]
theorem pureF_of {f : OpN} {us : List U} {S1 : Sto} {u : U} (h : f us [] = some (u, S1)) (hn : noref u = true) : pureF f us = some u := by
  unfold pureF
  rw [h]
  simp only [hn, if_true]
theorem liftP_of {p : Pf} {us : List U} {S : Sto} {u : U} (h : p us = some u) (hn : norefs us = true) : liftP p us S = some (u, S) := by
  unfold liftP
  rw [if_pos hn, h]
end OF
namespace OF
open PySem PySem.Spec PyProof.Rows L2
section
variable {α : Type} {pt : Pat} {t : Cm Bool} {c : Cm U} {env : Env'} {S : Sto} {enc : α → U} {p : α → Bool} {f : α → U}
def Turn (pt : Pat) (t : Cm Bool) (c : Cm U) (env : Env') (S : Sto) (u : U) (k : Bool) (v : U) : Prop := ∃ bs, bindP pt u = some bs ∧ t (setAll env bs) S = some (k, S) ∧ (k = true → c (setAll env bs) S = some (v, S))
theorem turn_nm {i : Nat} {u v : U} {k : Bool} (h1 : t (env.set i (some u)) S = some (k, S)) (h2 : k = true → c (env.set i (some u)) S = some (v, S)) : Turn (.nm i) t c env S u k v := ⟨[(i, u)], rfl, h1, h2⟩
theorem mapC_tn : ∀ (xs : List α), (∀ x ∈ xs, Turn pt t c env S (enc x) (p x) (f x)) → mapC pt t c env (xs.map enc) S = some ((xs.filter p).map f, S)
  | [], _ => rfl
  | x :: xs, h => by
    have ih := mapC_tn xs fun y hy => h y (by simp [hy])
    obtain ⟨bs, e1, e2, e3⟩ := h x (by simp)
    rw [List.map_cons, mapC_cons, e1]
    simp only [e2]
    cases hp : p x with
    | false =>
      simp only [ih]
      rw [List.filter_cons, if_neg (by rw [hp]; decide)]
    | true =>
      simp only [e3 hp, ih]
      rw [List.filter_cons, if_pos hp]
      rfl
theorem mapG_tn {g : Option Nat} {us0 : List U} (hk : gok g us0 S) : ∀ (xs : List α), (∀ x ∈ xs, Turn pt t c env S (enc x) (p x) (f x)) → mapG pt t c env g us0 (xs.map enc) S = some ((xs.filter p).map f, S)
  | [], _ => by
    unfold mapG
    rw [List.map_nil]
    simp only [hk, if_true]
    rfl
  | x :: xs, h => by
    have ih := mapG_tn hk xs fun y hy => h y (by simp [hy])
    obtain ⟨bs, e1, e2, e3⟩ := h x (by simp)
    rw [List.map_cons]
    unfold mapG
    rw [if_pos hk, e1]
    simp only [e2]
    cases hp : p x with
    | false =>
      simp only [ih]
      rw [List.filter_cons, if_neg (by rw [hp]; decide)]
    | true =>
      simp only [e3 hp, ih]
      rw [List.filter_cons, if_pos hp]
      rfl
end
end OF
namespace OF
open PySem PySem.Spec PyProof.Rows L2
theorem cVar_of {i : Nat} {u : U} {env : Env'} {S : Sto} (h : env[i]? = some (some u)) : cVar i env S = some (u, S) := by
  unfold cVar
  rw [h]
end OF
namespace OF
open PySem PySem.Spec PyProof.Rows L2
theorem sIf_no {c : Cm Bool} {a : Sm} {env : Env'} {S S1 : Sto} (h : c env S = some (false, S1)) : sIf c a sNil env S = some (.nx, env, S1) := by
  unfold sIf
  rw [h]
  rfl
theorem orT_no {a b : Cm Bool} {env : Env'} {S S1 S2 : Sto} (h : a env S = some (false, S1)) (h2 : b env S1 = some (false, S2)) : cOrT a b env S = some (false, S2) := by
  unfold cOrT
  rw [h]
  exact h2
theorem cons_of {a : Cm U} {r : Cm (List U)} {env : Env'} {S S1 S2 : Sto} {u : U} {us : List U} (h : a env S = some (u, S1)) (h2 : r env S1 = some (us, S2)) : cCons a r env S = some (u :: us, S2) := by
  unfold cCons
  rw [h]
  dsimp only
  rw [h2]
theorem nil_of (env : Env') (S : Sto) : cNil env S = some ([], S) := rfl
theorem arg_of {f : OpN} {a : Cm (List U)} {env : Env'} {S S1 S2 : Sto} {us : List U} {u : U} (h : a env S = some (us, S1)) (h2 : f us S1 = some (u, S2)) : cArg f a env S = some (u, S2) := by
  unfold cArg
  rw [h]
  exact h2
theorem asg_of {i : Nat} {a : Cm U} {env : Env'} {S S1 : Sto} {u : U} (h : a env S = some (u, S1)) : sAsg a (gmName i) env S = some (.nx, env.set i (some u), S1) := by
  unfold sAsg
  rw [h]
  rfl
end OF
namespace K05
open PySem PySem.Spec PyProof.Rows L2 OF
theorem cell_lt {S : Sto} {n : Nat} {o : O} (h : S[n]? = some o) : n < S.length := (List.getElem?_eq_some_iff.mp h).1
theorem cst_of {u : U} {env : Env'} {S : Sto} : cCst u env S = some (u, S) := rfl
theorem bin_of {f : U → U → Sto → Option (U × Sto)} {a b : Cm U} {env : Env'} {S S1 S2 : Sto} {u w : U} {r : Option (U × Sto)} (h : a env S = some (u, S1)) (h2 : b env S1 = some (w, S2)) (h3 : f u w S2 = r) : cBin f a b env S = r := by
  unfold cBin
  rw [h]
  dsimp only
  rw [h2]
  exact h3
theorem tru_of {c : Cm U} {env : Env'} {S S1 : Sto} {k : Bool} (h : c env S = some (.bl k, S1)) : cTru c env S = some (k, S1) := by
  unfold cTru
  rw [h]
  rfl
theorem loopF_nx {pt : Pat} {b : Sm} {u : U} {us : List U} {env e : Env'} {S S1 : Sto} {bs : List (Nat × U)} (hb : bindP pt u = some bs) (h : b (setAll env bs) S = some (.nx, e, S1)) : loopF pt b (u :: us) env S = loopF pt b us e S1 := by
  rw [loopF_cons, hb]
  simp only
  rw [h]
def Hn (S : Sto) (h : Nat) : Prop := ∃ g b, S[h]? = some (hnd g b) ∧ Hok g b
structure Kh (h : Nat) (S S' : Sto) : Prop where
  le : S.length ≤ S'.length
  eq : ∀ i, i < S.length → i ≠ h → S'[i]? = S[i]?
theorem Kh.trans {h : Nat} {S S1 S2 : Sto} (a : Kh h S S1) (b : Kh h S1 S2) : Kh h S S2 := ⟨Nat.le_trans a.le b.le, fun i hi hn => by rw [b.eq i (Nat.lt_of_lt_of_le hi a.le) hn, a.eq i hi hn]⟩
theorem pick_ex {S : Sto} {h : Nat} {us : List U} (hh : Hn S h) (n0 : us ≠ []) (n1 : us.length < 1000000) : ∃ u S', F__law_pick [.ref h, .lst us] S = some (u, S') ∧ u ∈ us ∧ Hn S' h ∧ Kh h S S' := by
  obtain ⟨g, b, e, k⟩ := hh
  have sS : S = St S h (hnd g b) [] := st_of e
  obtain ⟨r, e1, u, g', b', d0, k', rfl⟩ := pick_wp (Q := fun r => ∃ (u : U) (g' b' : Int), u ∈ us ∧ Hok g' b' ∧ r = (u, St S h (hnd g' b') [])) (cell_lt e) k n0 n1 fun u g' b' d0 k' => ⟨u, g', b', d0, k', rfl⟩
  rw [← sS] at e1
  exact ⟨u, _, e1, d0, ⟨g', b', st_get (cell_lt e), k'⟩, ⟨by simp, fun i hi hn => by rw [st_old hi hn]⟩⟩
theorem exc1_of {c f : Str} {a : Cm U} {env : Env'} {S S1 : Sto} {u : U} (h : a env S = some (u, S1)) : cExc1 c f a env S = some (.ref S1.length, S1 ++ [.exc c [(f, u)]]) := by
  unfold cExc1
  rw [h]
theorem exc0_of {c : Str} {a : Cm U} {env : Env'} {S S1 : Sto} {u : U} (h : a env S = some (u, S1)) : cExc0 c a env S = some (.ref S1.length, S1 ++ [.exc c []]) := by
  unfold cExc0
  rw [h]
theorem exc2_of {c f1 f2 : Str} {a : Cm (List U)} {env : Env'} {S S1 : Sto} {u1 u2 : U} (h : a env S = some ([u1, u2], S1)) : cExc2 c f1 f2 a env S = some (.ref S1.length, S1 ++ [.exc c [(f2, u2), (f1, u1)]]) := by
  unfold cExc2
  rw [h]
theorem exc2k_of {c f1 f2 : Str} {a : Cm (List U)} {env : Env'} {S S1 : Sto} {u1 u2 : U} (h : a env S = some ([u2, u1], S1)) : cExc2k c f1 f2 a env S = some (.ref S1.length, S1 ++ [.exc c [(f2, u2), (f1, u1)]]) := by
  unfold cExc2k
  rw [h]
theorem add_lst {us ws : List U} (S : Sto) (h : us.length + ws.length ≤ 1000) : addU false (.lst us) (.lst ws) S = some (.lst (us ++ ws), S) := by
  have z : us.length + ws.length ≤ sizeLine := le_size _ (by omega)
  simp [addU, z]
def refL (b l : Nat) : List U := (List.range l).map fun i => U.ref (b + i)
theorem isx_of {L T : List Str} {a : Cm U} {env : Env'} {S S1 : Sto} {n : Nat} {k : Str} {fs : List (Str × U)} (h : a env S = some (.ref n, S1)) (hn : S1[n]? = some (.exc k fs)) (hl : L.contains k = true) : cIsX L T a env S = some (.bl (T.contains k), S1) := by
  unfold cIsX
  rw [h]
  dsimp only
  rw [hn]
  dsimp only
  rw [if_pos hl]
theorem xfld_of {L : List Str} {f : Str} {a : Cm U} {env : Env'} {S S1 : Sto} {n : Nat} {k : Str} {fs : List (Str × U)} {u : U} (h : a env S = some (.ref n, S1)) (hn : S1[n]? = some (.exc k fs)) (hl : L.contains k = true) (hf : fs.lookup f = some u) : cXFld L f a env S = some (u, S1) := by
  unfold cXFld
  rw [h]
  dsimp only
  rw [hn]
  dsimp only
  rw [if_pos hl, hf]
theorem eq_cell {S : Sto} {n : Nat} {us : List U} (hn : S[n]? = some (.lst us)) (h : okU 60 (.lst us) = true) : OF.eqU true (.ref n) (.lst us) S = some (.bl false, S) := by
  unfold OF.eqU orO eqS
  show eqDU true (.ref n) (.lst us) S = _
  unfold eqDU
  obtain ⟨d, e1, h1, h2⟩ := okU_toD 60 _ h
  have hs : SeqAt.shaped d = true := by unfold SeqAt.shaped; simp [h1]; omega
  have e2 : toDS S (.lst us) = some d := by rw [toDS_noref h, e1]
  have e3 : toDS S (.ref n) = some d := by
    rw [← e1]
    cases ht : toDs us with
    | none => simp only [toDS, hn, toD, ht]
    | some ds => simp only [toDS, hn, toD, ht]
  rw [e2, e3]
  simp only [hs, and_self, if_true, PySem.SeqAt.eqv_refl d h1]
  rfl
end K05
namespace K05
open PySem PySem.Spec PyProof.Rows L2 OF
def exL (u1 u2 u3 : U) : List O := [.exc "NoText" [("line", u1)], .exc "NoPlacing" [("name", u3), ("block", u2)], .exc "NoEdit" [("thing", u3)], .exc "NoLine" [("line", u1)], .exc "Taken" [("thing", u3)], .exc "Held" [("name", u2)], .exc "Full" [("what", u2)], .exc "NoBlock" [("name", u2)], .exc "NoRow" [("number", u1)], .exc "NoPlace" [("number", u1)], .exc "Stopped" [("number", u1)], .exc "NoProgram" [], .exc "Nothing" []]
def oL0 (u1 u2 u3 : U) : List O := [.exc "NoText" [("line", u1)], .exc "NoPlacing" [("name", u3), ("block", u2)], .exc "NoEdit" [("thing", u3)], .exc "NoLine" [("line", u1)], .exc "Taken" [("thing", u3)], .exc "Held" [("name", u2)], .exc "Full" [("what", u2)]]
theorem l0_ok (u1 u2 u3 : U) (x3 x4 : Option U) (S : Sto) : cArg oLst (cCons (cExc1 "NoText" "line" (cVar 0)) (cCons (cExc2 "NoPlacing" "block" "name" (cCons (cVar 1) (cCons (cVar 2) cNil))) (cCons (cExc1 "NoEdit" "thing" (cVar 2)) (cCons (cExc1 "NoLine" "line" (cVar 0)) (cCons (cExc1 "Taken" "thing" (cVar 2)) (cCons (cExc1 "Held" "name" (cVar 1)) (cCons (cExc1 "Full" "what" (cVar 1)) cNil))))))) [some u1, some u2, some u3, x3, x4] S = some (.lst (refL S.length 7), S ++ oL0 u1 u2 u3) := by
  have e := arg_of (f := oLst) (env := [some u1, some u2, some u3, x3, x4]) (S := S) (cons_of (exc1_of (c := "NoText") (f := "line") (cVar_of (i := 0) rfl)) (cons_of (exc2_of (c := "NoPlacing") (f1 := "block") (f2 := "name") (cons_of (cVar_of (i := 1) rfl) (cons_of (cVar_of (i := 2) rfl) (nil_of _ _)))) (cons_of (exc1_of (c := "NoEdit") (f := "thing") (cVar_of (i := 2) rfl)) (cons_of (exc1_of (c := "NoLine") (f := "line") (cVar_of (i := 0) rfl)) (cons_of (exc1_of (c := "Taken") (f := "thing") (cVar_of (i := 2) rfl)) (cons_of (exc1_of (c := "Held") (f := "name") (cVar_of (i := 1) rfl)) (cons_of (exc1_of (c := "Full") (f := "what") (cVar_of (i := 1) rfl)) (nil_of _ _)))))))) rfl
  refine e.trans ?_
  simp [refL, oL0, List.range_succ]
def oL1 (u1 u2 u3 : U) : List O := [.exc "NoBlock" [("name", u2)], .exc "NoRow" [("number", u1)], .exc "NoPlace" [("number", u1)], .exc "Stopped" [("number", u1)], .exc "NoProgram" [], .exc "Nothing" []]
theorem l1_ok (u1 u2 u3 : U) (x3 x4 : Option U) (S : Sto) : cArg oLst (cCons (cExc1 "NoBlock" "name" (cVar 1)) (cCons (cExc1 "NoRow" "number" (cVar 0)) (cCons (cExc1 "NoPlace" "number" (cVar 0)) (cCons (cExc1 "Stopped" "number" (cVar 0)) (cCons (cExc0 "NoProgram" (cCst (.str "no"))) (cCons (cExc0 "Nothing" (cCst (.str "no"))) cNil)))))) [some u1, some u2, some u3, x3, x4] S = some (.lst (refL S.length 6), S ++ oL1 u1 u2 u3) := by
  have e := arg_of (f := oLst) (env := [some u1, some u2, some u3, x3, x4]) (S := S) (cons_of (exc1_of (c := "NoBlock") (f := "name") (cVar_of (i := 1) rfl)) (cons_of (exc1_of (c := "NoRow") (f := "number") (cVar_of (i := 0) rfl)) (cons_of (exc1_of (c := "NoPlace") (f := "number") (cVar_of (i := 0) rfl)) (cons_of (exc1_of (c := "Stopped") (f := "number") (cVar_of (i := 0) rfl)) (cons_of (exc0_of (c := "NoProgram") (cst_of (u := (.str "no")))) (cons_of (exc0_of (c := "Nothing") (cst_of (u := (.str "no")))) (nil_of _ _))))))) rfl
  refine e.trans ?_
  simp [refL, oL1, List.range_succ]
def oL2 (u1 u2 u3 : U) : List O := [.exc "NoText" [("line", u1)], .exc "NoPlacing" [("name", u3), ("block", u2)], .exc "NoEdit" [("thing", u3)], .exc "NoLine" [("line", u1)]]
theorem l2_ok (u1 u2 u3 : U) (x3 x4 : Option U) (S : Sto) : cArg oLst (cCons (cExc1 "NoText" "line" (cVar 0)) (cCons (cExc2k "NoPlacing" "block" "name" (cCons (cVar 2) (cCons (cVar 1) cNil))) (cCons (cExc1 "NoEdit" "thing" (cVar 2)) (cCons (cExc1 "NoLine" "line" (cVar 0)) cNil)))) [some u1, some u2, some u3, x3, x4] S = some (.lst (refL S.length 4), S ++ oL2 u1 u2 u3) := by
  have e := arg_of (f := oLst) (env := [some u1, some u2, some u3, x3, x4]) (S := S) (cons_of (exc1_of (c := "NoText") (f := "line") (cVar_of (i := 0) rfl)) (cons_of (exc2k_of (c := "NoPlacing") (f1 := "block") (f2 := "name") (cons_of (cVar_of (i := 2) rfl) (cons_of (cVar_of (i := 1) rfl) (nil_of _ _)))) (cons_of (exc1_of (c := "NoEdit") (f := "thing") (cVar_of (i := 2) rfl)) (cons_of (exc1_of (c := "NoLine") (f := "line") (cVar_of (i := 0) rfl)) (nil_of _ _))))) rfl
  refine e.trans ?_
  simp [refL, oL2, List.range_succ]
def oL3 (u1 u2 u3 : U) : List O := [.exc "Taken" [("thing", u3)], .exc "Held" [("name", u2)], .exc "Full" [("what", u2)], .exc "NoBlock" [("name", u2)], .exc "NoRow" [("number", u1)]]
theorem l3_ok (u1 u2 u3 : U) (x3 x4 : Option U) (S : Sto) : cArg oLst (cCons (cExc1 "Taken" "thing" (cVar 2)) (cCons (cExc1 "Held" "name" (cVar 1)) (cCons (cExc1 "Full" "what" (cVar 1)) (cCons (cExc1 "NoBlock" "name" (cVar 1)) (cCons (cExc1 "NoRow" "number" (cVar 0)) cNil))))) [some u1, some u2, some u3, x3, x4] S = some (.lst (refL S.length 5), S ++ oL3 u1 u2 u3) := by
  have e := arg_of (f := oLst) (env := [some u1, some u2, some u3, x3, x4]) (S := S) (cons_of (exc1_of (c := "Taken") (f := "thing") (cVar_of (i := 2) rfl)) (cons_of (exc1_of (c := "Held") (f := "name") (cVar_of (i := 1) rfl)) (cons_of (exc1_of (c := "Full") (f := "what") (cVar_of (i := 1) rfl)) (cons_of (exc1_of (c := "NoBlock") (f := "name") (cVar_of (i := 1) rfl)) (cons_of (exc1_of (c := "NoRow") (f := "number") (cVar_of (i := 0) rfl)) (nil_of _ _)))))) rfl
  refine e.trans ?_
  simp [refL, oL3, List.range_succ]
def oL4 (u1 u2 u3 : U) : List O := [.exc "NoPlace" [("number", u1)], .exc "Stopped" [("number", u1)], .exc "NoProgram" [], .exc "Nothing" []]
theorem l4_ok (u1 u2 u3 : U) (x3 x4 : Option U) (S : Sto) : cArg oLst (cCons (cExc1 "NoPlace" "number" (cVar 0)) (cCons (cExc1 "Stopped" "number" (cVar 0)) (cCons (cExc0 "NoProgram" (cCst (.str "so"))) (cCons (cExc0 "Nothing" (cCst (.str "so"))) cNil)))) [some u1, some u2, some u3, x3, x4] S = some (.lst (refL S.length 4), S ++ oL4 u1 u2 u3) := by
  have e := arg_of (f := oLst) (env := [some u1, some u2, some u3, x3, x4]) (S := S) (cons_of (exc1_of (c := "NoPlace") (f := "number") (cVar_of (i := 0) rfl)) (cons_of (exc1_of (c := "Stopped") (f := "number") (cVar_of (i := 0) rfl)) (cons_of (exc0_of (c := "NoProgram") (cst_of (u := (.str "so")))) (cons_of (exc0_of (c := "Nothing") (cst_of (u := (.str "so")))) (nil_of _ _))))) rfl
  refine e.trans ?_
  simp [refL, oL4, List.range_succ]
theorem ref_app (b m n : Nat) : refL b m ++ refL (b + m) n = refL b (m + n) := by
  unfold refL
  rw [List.range_add, List.map_append, List.map_map]
  simp [Function.comp_def, Nat.add_assoc]
theorem refL_len (b n : Nat) : (refL b n).length = n := by simp [refL]
def mk0 : Sm := (sAsg (cArg oLst (cCons (cExc1 "NoText" "line" (cVar 0)) (cCons (cExc2 "NoPlacing" "block" "name" (cCons (cVar 1) (cCons (cVar 2) cNil))) (cCons (cExc1 "NoEdit" "thing" (cVar 2)) (cCons (cExc1 "NoLine" "line" (cVar 0)) (cCons (cExc1 "Taken" "thing" (cVar 2)) (cCons (cExc1 "Held" "name" (cVar 1)) (cCons (cExc1 "Full" "what" (cVar 1)) cNil)))))))) (gmName 3))
def mk1 : Sm := (sAsg (cBin (addU false) (cVar 3) (cArg oLst (cCons (cExc1 "NoBlock" "name" (cVar 1)) (cCons (cExc1 "NoRow" "number" (cVar 0)) (cCons (cExc1 "NoPlace" "number" (cVar 0)) (cCons (cExc1 "Stopped" "number" (cVar 0)) (cCons (cExc0 "NoProgram" (cCst (.str "no"))) (cCons (cExc0 "Nothing" (cCst (.str "no"))) cNil)))))))) (gmName 3))
def mk2 : Sm := (sAsg (cArg oLst (cCons (cExc1 "NoText" "line" (cVar 0)) (cCons (cExc2k "NoPlacing" "block" "name" (cCons (cVar 2) (cCons (cVar 1) cNil))) (cCons (cExc1 "NoEdit" "thing" (cVar 2)) (cCons (cExc1 "NoLine" "line" (cVar 0)) cNil))))) (gmName 4))
def mk3 : Sm := (sAsg (cBin (addU false) (cVar 4) (cArg oLst (cCons (cExc1 "Taken" "thing" (cVar 2)) (cCons (cExc1 "Held" "name" (cVar 1)) (cCons (cExc1 "Full" "what" (cVar 1)) (cCons (cExc1 "NoBlock" "name" (cVar 1)) (cCons (cExc1 "NoRow" "number" (cVar 0)) cNil))))))) (gmName 4))
def mk4 : Sm := (sRet (cArg oTup (cCons (cVar 3) (cCons (cBin (addU false) (cVar 4) (cArg oLst (cCons (cExc1 "NoPlace" "number" (cVar 0)) (cCons (cExc1 "Stopped" "number" (cVar 0)) (cCons (cExc0 "NoProgram" (cCst (.str "so"))) (cCons (cExc0 "Nothing" (cCst (.str "so"))) cNil)))))) cNil))))
theorem made_cut : c__law_made = sSeq mk0 (sSeq mk1 (sSeq mk2 (sSeq mk3 mk4))) := rfl
theorem made_ok (u1 u2 u3 : U) (S : Sto) : F__law_made [u1, u2, u3] S = some (.tup [.lst (refL S.length 13), .lst (refL (S.length + 13) 13)], S ++ (exL u1 u2 u3 ++ exL u1 u2 u3)) := by
  have e0 : mk0 [some u1, some u2, some u3, none, none] S = some (.nx, [some u1, some u2, some u3, some (.lst (refL S.length 7)), none], S ++ oL0 u1 u2 u3) := asg_of (i := 3) (l0_ok u1 u2 u3 none none S)
  have a0 : (S ++ oL0 u1 u2 u3).length = S.length + 7 := by simp [oL0]
  have e1 : mk1 [some u1, some u2, some u3, some (.lst (refL S.length 7)), none] (S ++ oL0 u1 u2 u3) = some (.nx, [some u1, some u2, some u3, some (.lst (refL S.length 13)), none], (S ++ oL0 u1 u2 u3) ++ oL1 u1 u2 u3) := by
    refine asg_of (i := 3) (bin_of (cVar_of rfl) (l1_ok u1 u2 u3 _ none _) ?_)
    rw [a0, add_lst _ (by rw [refL_len, refL_len]; decide), ref_app]
  have b0 : (S ++ oL0 u1 u2 u3) ++ oL1 u1 u2 u3 = S ++ exL u1 u2 u3 := by rw [List.append_assoc]; rfl
  have b1 : (S ++ exL u1 u2 u3).length = S.length + 13 := by simp [exL]
  rw [b0] at e1
  have e2 : mk2 [some u1, some u2, some u3, some (.lst (refL S.length 13)), none] (S ++ exL u1 u2 u3) = some (.nx, [some u1, some u2, some u3, some (.lst (refL S.length 13)), some (.lst (refL (S.length + 13) 4))], (S ++ exL u1 u2 u3) ++ oL2 u1 u2 u3) := by
    have := asg_of (i := 4) (l2_ok u1 u2 u3 (some (.lst (refL S.length 13))) none (S ++ exL u1 u2 u3))
    rw [b1] at this
    exact this
  have a2 : ((S ++ exL u1 u2 u3) ++ oL2 u1 u2 u3).length = S.length + 13 + 4 := by rw [List.length_append, b1]; rfl
  have e3 : mk3 [some u1, some u2, some u3, some (.lst (refL S.length 13)), some (.lst (refL (S.length + 13) 4))] ((S ++ exL u1 u2 u3) ++ oL2 u1 u2 u3) = some (.nx, [some u1, some u2, some u3, some (.lst (refL S.length 13)), some (.lst (refL (S.length + 13) 9))], ((S ++ exL u1 u2 u3) ++ oL2 u1 u2 u3) ++ oL3 u1 u2 u3) := by
    refine asg_of (i := 4) (bin_of (cVar_of rfl) (l3_ok u1 u2 u3 _ _ _) ?_)
    rw [a2, add_lst _ (by rw [refL_len, refL_len]; decide), ref_app]
  have a3 : (((S ++ exL u1 u2 u3) ++ oL2 u1 u2 u3) ++ oL3 u1 u2 u3).length = S.length + 13 + 9 := by rw [List.length_append, a2]; rfl
  have e4 : mk4 [some u1, some u2, some u3, some (.lst (refL S.length 13)), some (.lst (refL (S.length + 13) 9))] (((S ++ exL u1 u2 u3) ++ oL2 u1 u2 u3) ++ oL3 u1 u2 u3) = some (.ret (.tup [.lst (refL S.length 13), .lst (refL (S.length + 13) 13)]), [some u1, some u2, some u3, some (.lst (refL S.length 13)), some (.lst (refL (S.length + 13) 9))], (((S ++ exL u1 u2 u3) ++ oL2 u1 u2 u3) ++ oL3 u1 u2 u3) ++ oL4 u1 u2 u3) := by
    refine sRet_of (arg_of (f := oTup) (cons_of (cVar_of rfl) (cons_of (bin_of (cVar_of rfl) (l4_ok u1 u2 u3 _ _ _) ?_) (nil_of _ _))) rfl)
    rw [a3, add_lst _ (by rw [refL_len, refL_len]; decide), ref_app]
  have b4 : (((S ++ exL u1 u2 u3) ++ oL2 u1 u2 u3) ++ oL3 u1 u2 u3) ++ oL4 u1 u2 u3 = S ++ (exL u1 u2 u3 ++ exL u1 u2 u3) := by
    rw [List.append_assoc, List.append_assoc, List.append_assoc]
    rfl
  rw [b4] at e4
  exact runF_of rfl rfl (made_cut ▸ ((sqn e0).trans ((sqn e1).trans ((sqn e2).trans ((sqn e3).trans e4)))))
end K05
namespace K05
open PySem PySem.Spec PyProof.Rows L2 OF
def Gr (S S' : Sto) : Prop := S.length ≤ S'.length ∧ ∀ j, j < S.length → S'[j]? = S[j]?
theorem Gr.refl (S : Sto) : Gr S S := ⟨Nat.le_refl _, fun _ _ => rfl⟩
theorem Gr.trans {S S1 S2 : Sto} (a : Gr S S1) (b : Gr S1 S2) : Gr S S2 := ⟨Nat.le_trans a.1 b.1, fun j hj => (b.2 j (Nat.lt_of_lt_of_le hj a.1)).trans (a.2 j hj)⟩
theorem Gr.app (S J : Sto) : Gr S (S ++ J) := ⟨by simp, fun j hj => List.getElem?_append_left hj⟩
theorem Gr.set {S S1 : Sto} {n : Nat} (h : Gr S S1) (hn : S.length ≤ n) (o : O) : Gr S (S1.set n o) := ⟨by rw [List.length_set]; exact h.1, fun j hj => by rw [List.getElem?_set_ne (by omega), h.2 j hj]⟩
theorem Gr.get {S S1 : Sto} (h : Gr S S1) {n : Nat} {o : O} (hn : S[n]? = some o) : S1[n]? = some o := by rw [h.2 n (cell_lt hn), hn]
theorem grow_ok {i c : Nat} {env : Env'} {S S1 : Sto} {us ws : List U} {cl : Cm (List U)} (hi : env[i]? = some (some (.ref c))) (e : cArg oLst cl env S = some (.lst ws, S1)) (hc : S1[c]? = some (.lst us)) (z : us.length + ws.length ≤ 1000) : sAsg (cBin (addU true) (cVar i) (cArg oLst cl)) (gmName i) env S = some (.nx, env.set i (some (.ref S1.length)), S1 ++ [.lst (us ++ ws)]) := by
  have zl : us.length + ws.length ≤ sizeLine := le_size _ (by omega)
  refine asg_of (bin_of (cVar_of hi) e ?_)
  simp [addU, hc, zl]
theorem app_one {i c : Nat} {env : Env'} {S : Sto} {us : List U} {w : U} {a : Cm U} (hi : env[i]? = some (some (.ref c))) (e : a env S = some (w, S)) (hc : S[c]? = some (.lst us)) (z : us.length ≤ 1000) : sExpr (cMt "list" appU (cVar i) (cCons a cNil)) env S = some (.nx, env, S.set c (.lst (us ++ [w]))) := by
  unfold sExpr
  rw [cMt_ap, cVar_of hi]
  dsimp only
  have ty : tyOkU "list" S (.ref c) = true := by simp [tyOkU, hc]
  rw [if_pos ty, cons_of e (nil_of _ _)]
  dsimp only
  have zl : us.length < sizeLine := lt_size _ (by omega)
  unfold appU cellL
  simp only [hc, zl, if_true]
def clsL : List Str := ["NoText", "NoPlacing", "NoEdit", "NoLine", "Taken", "Held", "Full", "NoBlock", "NoRow", "NoPlace", "Stopped", "NoProgram", "Nothing"]
def flg (c : Str) : List Bool := [(["NoText"] : List Str).contains c, (["NoPlacing"] : List Str).contains c, (["NoEdit"] : List Str).contains c, (["NoLine"] : List Str).contains c, (["Taken"] : List Str).contains c, (["Held"] : List Str).contains c, (["Full"] : List Str).contains c, (["NoBlock"] : List Str).contains c, (["NoRow"] : List Str).contains c, (["NoPlace"] : List Str).contains c, (["Stopped"] : List Str).contains c, (["NoProgram"] : List Str).contains c, (["Nothing"] : List Str).contains c]
def fms (c : Str) : List Bool := [(["NoText", "NoPlacing", "NoEdit", "NoLine", "Taken", "Held", "Full", "NoProgram", "Nothing"] : List Str).contains c, (["NoBlock", "NoRow", "NoPlace"] : List Str).contains c, (["Stopped"] : List Str).contains c]
def dueL (i : Nat) : List Bool := [decide (i < 7) || decide (10 < i), decide (7 ≤ i) && decide (i < 10), decide (i = 10)]
theorem flg_ok : ∀ i < 13, flg (clsL.getD i "") = (List.range 13).map fun k => decide (k = i) := by decide +kernel
theorem fms_ok : ∀ i < 13, fms (clsL.getD i "") = dueL i := by decide +kernel
theorem has_ok : ∀ i < 13, clsL.contains (clsL.getD i "") = true := by decide +kernel
def cb0 : Sm := (sAsg (cArg oLstM (cCons (cIsX ["NoText", "NoPlacing" , "NoEdit" , "NoLine" , "Taken" , "Held" , "Full" , "NoBlock" , "NoRow" , "NoPlace" , "Stopped" , "NoProgram" , "Nothing" ] ["NoText"] (cVar 2)) (cCons (cIsX ["NoText", "NoPlacing" , "NoEdit" , "NoLine" , "Taken" , "Held" , "Full" , "NoBlock" , "NoRow" , "NoPlace" , "Stopped" , "NoProgram" , "Nothing" ] ["NoPlacing"] (cVar 2)) (cCons (cIsX ["NoText", "NoPlacing" , "NoEdit" , "NoLine" , "Taken" , "Held" , "Full" , "NoBlock" , "NoRow" , "NoPlace" , "Stopped" , "NoProgram" , "Nothing" ] ["NoEdit"] (cVar 2)) cNil)))) (gmName 3))
def cb1 : Sm := (sAsg (cBin (addU true) (cVar 3) (cArg oLst (cCons (cIsX ["NoText", "NoPlacing" , "NoEdit" , "NoLine" , "Taken" , "Held" , "Full" , "NoBlock" , "NoRow" , "NoPlace" , "Stopped" , "NoProgram" , "Nothing" ] ["NoLine"] (cVar 2)) (cCons (cIsX ["NoText", "NoPlacing" , "NoEdit" , "NoLine" , "Taken" , "Held" , "Full" , "NoBlock" , "NoRow" , "NoPlace" , "Stopped" , "NoProgram" , "Nothing" ] ["Taken"] (cVar 2)) (cCons (cIsX ["NoText", "NoPlacing" , "NoEdit" , "NoLine" , "Taken" , "Held" , "Full" , "NoBlock" , "NoRow" , "NoPlace" , "Stopped" , "NoProgram" , "Nothing" ] ["Held"] (cVar 2)) cNil))))) (gmName 3))
def cb2 : Sm := (sAsg (cBin (addU true) (cVar 3) (cArg oLst (cCons (cIsX ["NoText", "NoPlacing" , "NoEdit" , "NoLine" , "Taken" , "Held" , "Full" , "NoBlock" , "NoRow" , "NoPlace" , "Stopped" , "NoProgram" , "Nothing" ] ["Full"] (cVar 2)) (cCons (cIsX ["NoText", "NoPlacing" , "NoEdit" , "NoLine" , "Taken" , "Held" , "Full" , "NoBlock" , "NoRow" , "NoPlace" , "Stopped" , "NoProgram" , "Nothing" ] ["NoBlock"] (cVar 2)) (cCons (cIsX ["NoText", "NoPlacing" , "NoEdit" , "NoLine" , "Taken" , "Held" , "Full" , "NoBlock" , "NoRow" , "NoPlace" , "Stopped" , "NoProgram" , "Nothing" ] ["NoRow"] (cVar 2)) cNil))))) (gmName 3))
def cb3 : Sm := (sAsg (cBin (addU true) (cVar 3) (cArg oLst (cCons (cIsX ["NoText", "NoPlacing" , "NoEdit" , "NoLine" , "Taken" , "Held" , "Full" , "NoBlock" , "NoRow" , "NoPlace" , "Stopped" , "NoProgram" , "Nothing" ] ["NoPlace"] (cVar 2)) (cCons (cIsX ["NoText", "NoPlacing" , "NoEdit" , "NoLine" , "Taken" , "Held" , "Full" , "NoBlock" , "NoRow" , "NoPlace" , "Stopped" , "NoProgram" , "Nothing" ] ["Stopped"] (cVar 2)) (cCons (cIsX ["NoText", "NoPlacing" , "NoEdit" , "NoLine" , "Taken" , "Held" , "Full" , "NoBlock" , "NoRow" , "NoPlace" , "Stopped" , "NoProgram" , "Nothing" ] ["NoProgram"] (cVar 2)) cNil))))) (gmName 3))
def cb4 : Sm := (sExpr (cMt "list" appU (cVar 3) (cCons (cIsX ["NoText", "NoPlacing" , "NoEdit" , "NoLine" , "Taken" , "Held" , "Full" , "NoBlock" , "NoRow" , "NoPlace" , "Stopped" , "NoProgram" , "Nothing" ] ["Nothing"] (cVar 2)) cNil)))
def cb5 : Sm := (sIf (cTru (cBin (OF.eqU true) (cVar 3) (cLc (itR1 (cCons (cCst (.int 13)) cNil)) (.nm 7) cYes (cBin (OF.eqU false) (cVar 7) (cVar 1)) [7]))) (sRet (cCst (.bl false))) sNil)
def cb6 : Sm := (sAsg (cArg oLst (cCons (cIsX ["NoText", "NoPlacing" , "NoEdit" , "NoLine" , "Taken" , "Held" , "Full" , "NoBlock" , "NoRow" , "NoPlace" , "Stopped" , "NoProgram" , "Nothing" ] ["NoText", "NoPlacing" , "NoEdit" , "NoLine" , "Taken" , "Held" , "Full" , "NoProgram" , "Nothing" ] (cVar 2)) (cCons (cIsX ["NoText", "NoPlacing" , "NoEdit" , "NoLine" , "Taken" , "Held" , "Full" , "NoBlock" , "NoRow" , "NoPlace" , "Stopped" , "NoProgram" , "Nothing" ] ["NoBlock", "NoRow" , "NoPlace" ] (cVar 2)) (cCons (cIsX ["NoText", "NoPlacing" , "NoEdit" , "NoLine" , "Taken" , "Held" , "Full" , "NoBlock" , "NoRow" , "NoPlace" , "Stopped" , "NoProgram" , "Nothing" ] ["Stopped"] (cVar 2)) cNil)))) (gmName 4))
def cb7 : Sm := (sAsg (cArg oLst (cCons (cIsX ["NoText", "NoPlacing" , "NoEdit" , "NoLine" , "Taken" , "Held" , "Full" , "NoBlock" , "NoRow" , "NoPlace" , "Stopped" , "NoProgram" , "Nothing" ] ["NoText", "NoPlacing" , "NoEdit" , "NoLine" , "Taken" , "Held" , "Full" , "NoProgram" , "Nothing" ] (cVar 2)) (cCons (cIsX ["NoText", "NoPlacing" , "NoEdit" , "NoLine" , "Taken" , "Held" , "Full" , "NoBlock" , "NoRow" , "NoPlace" , "Stopped" , "NoProgram" , "Nothing" ] ["NoBlock", "NoRow" , "NoPlace" ] (cVar 2)) (cCons (cIsX ["NoText", "NoPlacing" , "NoEdit" , "NoLine" , "Taken" , "Held" , "Full" , "NoBlock" , "NoRow" , "NoPlace" , "Stopped" , "NoProgram" , "Nothing" ] ["Stopped"] (cVar 2)) cNil)))) (gmName 5))
def cb8 : Sm := (sAsg (cArg oLst (cCons (cOrV (cBin oLt (cVar 1) (cCst (.int 7))) (cBin oGt (cVar 1) (cCst (.int 10)))) (cCons (cChain oLe oLt (cCst (.int 7)) (cVar 1) (cCst (.int 10))) (cCons (cBin (OF.eqU false) (cVar 1) (cCst (.int 10))) cNil)))) (gmName 6))
def cb9 : Sm := (sIf (cOrT (cTru (cBin (OF.eqU true) (cVar 4) (cVar 6))) (cTru (cBin (OF.eqU true) (cVar 5) (cVar 6)))) (sRet (cCst (.bl false))) sNil)
def cB : Sm := (sSeq cb0 (sSeq cb1 (sSeq cb2 (sSeq cb3 (sSeq cb4 (sSeq cb5 (sSeq cb6 (sSeq cb7 (sSeq cb8 cb9)))))))))
theorem classes_cut : c__law_classes_right = sSeq (sFor (itEnum (cCons (cVar 0) cNil)) (.tp [(.nm 1), (.nm 2)]) cB) (sRet (cCst (.bl true))) := rfl
theorem due_ok (i : Nat) (hi : i < 13) (x0 x2 x3 x4 x5 x6 x7 : Option U) (S : Sto) : cb8 [x0, some (.int (i : Nat)), x2, x3, x4, x5, x6, x7] S = some (.nx, [x0, some (.int (i : Nat)), x2, x3, x4, x5, some (.lst ((dueL i).map .bl)), x7], S) := by
  have h : i = 0 ∨ i = 1 ∨ i = 2 ∨ i = 3 ∨ i = 4 ∨ i = 5 ∨ i = 6 ∨ i = 7 ∨ i = 8 ∨ i = 9 ∨ i = 10 ∨ i = 11 ∨ i = 12 := by omega
  rcases h with rfl | rfl | rfl | rfl | rfl | rfl | rfl | rfl | rfl | rfl | rfl | rfl | rfl <;> rfl
theorem okU_bls (n : Nat) (bs : List Bool) : okU (n + 1) (.lst (bs.map .bl)) = true := by
  show okUs n (bs.map .bl) = true
  induction bs with
  | nil => cases n <;> rfl
  | cons b bs ih =>
    rw [List.map_cons]
    show (okU n (.bl b) && okUs n (bs.map .bl)) = true
    rw [ih]
    cases n <;> rfl
theorem spots (i : Nat) (x0 x2 x3 x4 x5 x6 x7 : Option U) (S : Sto) : cLc (itR1 (cCons (cCst (.int 13)) cNil)) (.nm 7) cYes (cBin (OF.eqU false) (cVar 7) (cVar 1)) [7] [x0, some (.int (i : Nat)), x2, x3, x4, x5, x6, x7] S = some (.lst (((List.range 13).map fun k => decide (k = i)).map .bl), S) := by
  have e := mapC_tn (pt := .nm 7) (t := cYes) (c := cBin (OF.eqU false) (cVar 7) (cVar 1)) (env := [x0, some (.int (i : Nat)), x2, x3, x4, x5, x6, none]) (S := S) (enc := fun (k : Nat) => U.int (k : Int)) (p := fun _ => true) (f := fun k => U.bl (decide (k = i))) (List.range 13) fun k _ => turn_nm rfl fun _ => bin_of (cVar_of rfl) (cVar_of rfl) (by simp; omega)
  rw [List.filter_eq_self.mpr (fun _ _ => rfl)] at e
  rw [List.map_map]
  exact cLc_of (by rw [itR1_k, cons_of cst_of (nil_of _ _), r1G_some, show (U.int 13) = U.int ((13 : Nat) : Int) from rfl, r1K_nat (by decide), rangeU_eq]) e (le_size _ (by simp))
theorem body_ok {i r : Nat} {c : Str} {fs : List (Str × U)} {S : Sto} (hi : i < 13) (hc : c = clsL.getD i "") (hr : S[r]? = some (.exc c fs)) (x0 x3 x4 x5 x6 x7 : Option U) : ∃ y3 y4 y5 y6 S', cB [x0, some (.int (i : Nat)), some (.ref r), x3, x4, x5, x6, x7] S = some (.nx, [x0, some (.int (i : Nat)), some (.ref r), y3, y4, y5, y6, x7], S') ∧ Gr S S' := by
  have hl : clsL.contains c = true := by rw [hc]; exact has_ok i hi
  have e0 : cb0 [x0, some (.int (i : Nat)), some (.ref r), x3, x4, x5, x6, x7] S = some (.nx, [x0, some (.int (i : Nat)), some (.ref r), some (.ref S.length), x4, x5, x6, x7], S ++ [.lst [.bl ((["NoText"] : List Str).contains c), .bl ((["NoPlacing"] : List Str).contains c), .bl ((["NoEdit"] : List Str).contains c)]]) := asg_of (i := 3) (arg_of (f := oLstM) (u := .ref S.length) (cons_of (isx_of (cVar_of (i := 2) rfl) hr hl) (cons_of (isx_of (cVar_of (i := 2) rfl) hr hl) (cons_of (isx_of (cVar_of (i := 2) rfl) hr hl) (nil_of _ _)))) rfl)
  generalize h0 : S ++ [O.lst [.bl ((["NoText"] : List Str).contains c), .bl ((["NoPlacing"] : List Str).contains c), .bl ((["NoEdit"] : List Str).contains c)]] = S0 at e0
  have g0 : S0[S.length]? = some (.lst [.bl ((["NoText"] : List Str).contains c), .bl ((["NoPlacing"] : List Str).contains c), .bl ((["NoEdit"] : List Str).contains c)]) := by rw [← h0]; exact List.getElem?_concat_length
  have k0 : Gr S S0 := by rw [← h0]; exact Gr.app _ _
  have e1 : cb1 [x0, some (.int (i : Nat)), some (.ref r), some (.ref S.length), x4, x5, x6, x7] S0 = some (.nx, [x0, some (.int (i : Nat)), some (.ref r), some (.ref S0.length), x4, x5, x6, x7], S0 ++ [.lst ([.bl ((["NoText"] : List Str).contains c), .bl ((["NoPlacing"] : List Str).contains c), .bl ((["NoEdit"] : List Str).contains c)] ++ [.bl ((["NoLine"] : List Str).contains c), .bl ((["Taken"] : List Str).contains c), .bl ((["Held"] : List Str).contains c)])]) := grow_ok (i := 3) (ws := [.bl ((["NoLine"] : List Str).contains c), .bl ((["Taken"] : List Str).contains c), .bl ((["Held"] : List Str).contains c)]) rfl (arg_of (f := oLst) (cons_of (isx_of (cVar_of (i := 2) rfl) (k0.get hr) hl) (cons_of (isx_of (cVar_of (i := 2) rfl) (k0.get hr) hl) (cons_of (isx_of (cVar_of (i := 2) rfl) (k0.get hr) hl) (nil_of _ _)))) rfl) g0 (by simp)
  generalize h1 : S0 ++ [O.lst ([.bl ((["NoText"] : List Str).contains c), .bl ((["NoPlacing"] : List Str).contains c), .bl ((["NoEdit"] : List Str).contains c)] ++ [.bl ((["NoLine"] : List Str).contains c), .bl ((["Taken"] : List Str).contains c), .bl ((["Held"] : List Str).contains c)])] = S1 at e1
  have g1 : S1[S0.length]? = some (.lst ([.bl ((["NoText"] : List Str).contains c), .bl ((["NoPlacing"] : List Str).contains c), .bl ((["NoEdit"] : List Str).contains c)] ++ [.bl ((["NoLine"] : List Str).contains c), .bl ((["Taken"] : List Str).contains c), .bl ((["Held"] : List Str).contains c)])) := by rw [← h1]; exact List.getElem?_concat_length
  have k1 : Gr S S1 := k0.trans (by rw [← h1]; exact Gr.app _ _)
  have e2 : cb2 [x0, some (.int (i : Nat)), some (.ref r), some (.ref S0.length), x4, x5, x6, x7] S1 = some (.nx, [x0, some (.int (i : Nat)), some (.ref r), some (.ref S1.length), x4, x5, x6, x7], S1 ++ [.lst (([.bl ((["NoText"] : List Str).contains c), .bl ((["NoPlacing"] : List Str).contains c), .bl ((["NoEdit"] : List Str).contains c)] ++ [.bl ((["NoLine"] : List Str).contains c), .bl ((["Taken"] : List Str).contains c), .bl ((["Held"] : List Str).contains c)]) ++ [.bl ((["Full"] : List Str).contains c), .bl ((["NoBlock"] : List Str).contains c), .bl ((["NoRow"] : List Str).contains c)])]) := grow_ok (i := 3) (ws := [.bl ((["Full"] : List Str).contains c), .bl ((["NoBlock"] : List Str).contains c), .bl ((["NoRow"] : List Str).contains c)]) rfl (arg_of (f := oLst) (cons_of (isx_of (cVar_of (i := 2) rfl) (k1.get hr) hl) (cons_of (isx_of (cVar_of (i := 2) rfl) (k1.get hr) hl) (cons_of (isx_of (cVar_of (i := 2) rfl) (k1.get hr) hl) (nil_of _ _)))) rfl) g1 (by simp)
  generalize h2 : S1 ++ [O.lst (([.bl ((["NoText"] : List Str).contains c), .bl ((["NoPlacing"] : List Str).contains c), .bl ((["NoEdit"] : List Str).contains c)] ++ [.bl ((["NoLine"] : List Str).contains c), .bl ((["Taken"] : List Str).contains c), .bl ((["Held"] : List Str).contains c)]) ++ [.bl ((["Full"] : List Str).contains c), .bl ((["NoBlock"] : List Str).contains c), .bl ((["NoRow"] : List Str).contains c)])] = S2 at e2
  have g2 : S2[S1.length]? = some (.lst (([.bl ((["NoText"] : List Str).contains c), .bl ((["NoPlacing"] : List Str).contains c), .bl ((["NoEdit"] : List Str).contains c)] ++ [.bl ((["NoLine"] : List Str).contains c), .bl ((["Taken"] : List Str).contains c), .bl ((["Held"] : List Str).contains c)]) ++ [.bl ((["Full"] : List Str).contains c), .bl ((["NoBlock"] : List Str).contains c), .bl ((["NoRow"] : List Str).contains c)])) := by rw [← h2]; exact List.getElem?_concat_length
  have k2 : Gr S S2 := k1.trans (by rw [← h2]; exact Gr.app _ _)
  have e3 : cb3 [x0, some (.int (i : Nat)), some (.ref r), some (.ref S1.length), x4, x5, x6, x7] S2 = some (.nx, [x0, some (.int (i : Nat)), some (.ref r), some (.ref S2.length), x4, x5, x6, x7], S2 ++ [.lst ((([.bl ((["NoText"] : List Str).contains c), .bl ((["NoPlacing"] : List Str).contains c), .bl ((["NoEdit"] : List Str).contains c)] ++ [.bl ((["NoLine"] : List Str).contains c), .bl ((["Taken"] : List Str).contains c), .bl ((["Held"] : List Str).contains c)]) ++ [.bl ((["Full"] : List Str).contains c), .bl ((["NoBlock"] : List Str).contains c), .bl ((["NoRow"] : List Str).contains c)]) ++ [.bl ((["NoPlace"] : List Str).contains c), .bl ((["Stopped"] : List Str).contains c), .bl ((["NoProgram"] : List Str).contains c)])]) := grow_ok (i := 3) (ws := [.bl ((["NoPlace"] : List Str).contains c), .bl ((["Stopped"] : List Str).contains c), .bl ((["NoProgram"] : List Str).contains c)]) rfl (arg_of (f := oLst) (cons_of (isx_of (cVar_of (i := 2) rfl) (k2.get hr) hl) (cons_of (isx_of (cVar_of (i := 2) rfl) (k2.get hr) hl) (cons_of (isx_of (cVar_of (i := 2) rfl) (k2.get hr) hl) (nil_of _ _)))) rfl) g2 (by simp)
  generalize h3 : S2 ++ [O.lst ((([.bl ((["NoText"] : List Str).contains c), .bl ((["NoPlacing"] : List Str).contains c), .bl ((["NoEdit"] : List Str).contains c)] ++ [.bl ((["NoLine"] : List Str).contains c), .bl ((["Taken"] : List Str).contains c), .bl ((["Held"] : List Str).contains c)]) ++ [.bl ((["Full"] : List Str).contains c), .bl ((["NoBlock"] : List Str).contains c), .bl ((["NoRow"] : List Str).contains c)]) ++ [.bl ((["NoPlace"] : List Str).contains c), .bl ((["Stopped"] : List Str).contains c), .bl ((["NoProgram"] : List Str).contains c)])] = S3 at e3
  have g3 : S3[S2.length]? = some (.lst ((([.bl ((["NoText"] : List Str).contains c), .bl ((["NoPlacing"] : List Str).contains c), .bl ((["NoEdit"] : List Str).contains c)] ++ [.bl ((["NoLine"] : List Str).contains c), .bl ((["Taken"] : List Str).contains c), .bl ((["Held"] : List Str).contains c)]) ++ [.bl ((["Full"] : List Str).contains c), .bl ((["NoBlock"] : List Str).contains c), .bl ((["NoRow"] : List Str).contains c)]) ++ [.bl ((["NoPlace"] : List Str).contains c), .bl ((["Stopped"] : List Str).contains c), .bl ((["NoProgram"] : List Str).contains c)])) := by rw [← h3]; exact List.getElem?_concat_length
  have k3 : Gr S S3 := k2.trans (by rw [← h3]; exact Gr.app _ _)
  have e4 : cb4 [x0, some (.int (i : Nat)), some (.ref r), some (.ref S2.length), x4, x5, x6, x7] S3 = some (.nx, [x0, some (.int (i : Nat)), some (.ref r), some (.ref S2.length), x4, x5, x6, x7], S3.set S2.length (.lst ((flg c).map .bl))) := app_one (i := 3) (w := .bl ((["Nothing"] : List Str).contains c)) rfl (isx_of (cVar_of (i := 2) rfl) (k3.get hr) hl) g3 (by simp)
  have g4 : (S3.set S2.length (.lst ((flg c).map .bl)))[S2.length]? = some (.lst ((flg c).map .bl)) := List.getElem?_set_self (cell_lt g3)
  have k4 : Gr S (S3.set S2.length (.lst ((flg c).map .bl))) := k3.set k2.1 _
  generalize S3.set S2.length (.lst ((flg c).map .bl)) = S4 at e4 g4 k4
  have e5 : cb5 [x0, some (.int (i : Nat)), some (.ref r), some (.ref S2.length), x4, x5, x6, x7] S4 = some (.nx, [x0, some (.int (i : Nat)), some (.ref r), some (.ref S2.length), x4, x5, x6, x7], S4) := by
    refine sIf_no (tru_of (bin_of (cVar_of rfl) (spots i _ _ _ _ _ _ _ _) ?_))
    rw [hc, flg_ok i hi] at g4
    exact eq_cell g4 (okU_bls 59 _)
  have hr4 := k4.get hr
  have e6 : cb6 [x0, some (.int (i : Nat)), some (.ref r), some (.ref S2.length), x4, x5, x6, x7] S4 = some (.nx, [x0, some (.int (i : Nat)), some (.ref r), some (.ref S2.length), some (.lst ((fms c).map .bl)), x5, x6, x7], S4) := asg_of (i := 4) (arg_of (f := oLst) (cons_of (isx_of (cVar_of (i := 2) rfl) hr4 hl) (cons_of (isx_of (cVar_of (i := 2) rfl) hr4 hl) (cons_of (isx_of (cVar_of (i := 2) rfl) hr4 hl) (nil_of _ _)))) rfl)
  have e7 : cb7 [x0, some (.int (i : Nat)), some (.ref r), some (.ref S2.length), some (.lst ((fms c).map .bl)), x5, x6, x7] S4 = some (.nx, [x0, some (.int (i : Nat)), some (.ref r), some (.ref S2.length), some (.lst ((fms c).map .bl)), some (.lst ((fms c).map .bl)), x6, x7], S4) := asg_of (i := 5) (arg_of (f := oLst) (cons_of (isx_of (cVar_of (i := 2) rfl) hr4 hl) (cons_of (isx_of (cVar_of (i := 2) rfl) hr4 hl) (cons_of (isx_of (cVar_of (i := 2) rfl) hr4 hl) (nil_of _ _)))) rfl)
  rw [hc, fms_ok i hi] at e6 e7
  have e8 := due_ok i hi x0 (some (.ref r)) (some (.ref S2.length)) (some (.lst ((dueL i).map .bl))) (some (.lst ((dueL i).map .bl))) x6 x7 S4
  have ne : OF.eqU true (.lst ((dueL i).map .bl)) (.lst ((dueL i).map .bl)) S4 = some (.bl false, S4) := eqU_same (okU_bls 59 _)
  have e9 : cb9 [x0, some (.int (i : Nat)), some (.ref r), some (.ref S2.length), some (.lst ((dueL i).map .bl)), some (.lst ((dueL i).map .bl)), some (.lst ((dueL i).map .bl)), x7] S4 = some (.nx, [x0, some (.int (i : Nat)), some (.ref r), some (.ref S2.length), some (.lst ((dueL i).map .bl)), some (.lst ((dueL i).map .bl)), some (.lst ((dueL i).map .bl)), x7], S4) := sIf_no (orT_no (tru_of (bin_of (cVar_of rfl) (cVar_of rfl) ne)) (tru_of (bin_of (cVar_of rfl) (cVar_of rfl) ne)))
  exact ⟨_, _, _, _, S4, (sqn e0).trans ((sqn e1).trans ((sqn e2).trans ((sqn e3).trans ((sqn e4).trans ((sqn e5).trans ((sqn e6).trans ((sqn e7).trans ((sqn e8).trans e9)))))))), k4⟩
theorem cls_loop (x0 : Option U) (b : Nat) (os : List O) : ∀ (ks : List Nat) (S : Sto) (x1 x2 x3 x4 x5 x6 x7 : Option U), (∀ k ∈ ks, k < 13 ∧ ∃ fs, S[b + k]? = some (.exc (clsL.getD k "") fs)) → ∃ y1 y2 y3 y4 y5 y6 S', loopF (.tp [(.nm 1), (.nm 2)]) cB (ks.map fun (k : Nat) => U.tup [.int (k : Int), .ref (b + k)]) [x0, x1, x2, x3, x4, x5, x6, x7] S = some (.nx, [x0, y1, y2, y3, y4, y5, y6, x7], S') ∧ Gr S S'
  | [], S, x1, x2, x3, x4, x5, x6, x7, _ => ⟨x1, x2, x3, x4, x5, x6, S, rfl, Gr.refl S⟩
  | k :: ks, S, x1, x2, x3, x4, x5, x6, x7, h => by
    obtain ⟨hk, fs, hr⟩ := h k (by simp)
    obtain ⟨y3, y4, y5, y6, S1, e1, g1⟩ := body_ok hk rfl hr x0 x3 x4 x5 x6 x7
    obtain ⟨z1, z2, z3, z4, z5, z6, S2, e2, g2⟩ := cls_loop x0 b os ks S1 (some (.int (k : Nat))) (some (.ref (b + k))) y3 y4 y5 y6 x7 fun j hj => by
      obtain ⟨h1, fs, h2⟩ := h j (by simp [hj])
      exact ⟨h1, fs, g1.get h2⟩
    refine ⟨z1, z2, z3, z4, z5, z6, S2, ?_, g1.trans g2⟩
    rw [List.map_cons, loopF_nx (bs := [(1, .int (k : Nat)), (2, .ref (b + k))]) rfl (e := [x0, some (.int (k : Nat)), some (.ref (b + k)), y3, y4, y5, y6, x7]) (S1 := S1) e1]
    exact e2
end K05
namespace K05
open PySem PySem.Spec PyProof.Rows L2 OF
theorem ref_get {b l i : Nat} (h : i < l) : (refL b l)[i]? = some (.ref (b + i)) := by
  unfold refL
  rw [List.getElem?_map, List.getElem?_range h]
  rfl
theorem ix_ref {b k : Nat} (S : Sto) (h : k < 13) : ixU (.lst (refL b 13)) (.int (k : Nat)) S = some (.ref (b + k), S) := by
  simp [OF.atI_nat, ref_get h]
structure Gu (u : U) : Prop where
  d : dat (10 ^ 40) u = true
  w : wt u ≤ 20
  p : dpt u ≤ 3
def vr0 : Sm := (sAsg (cArg oLst (cCons (cXFld ["NoText", "NoLine"] "line" (cBin ixU (cVar 0) (cCst (.int 0)))) (cCons (cXFld ["NoPlacing"] "block" (cBin ixU (cVar 0) (cCst (.int 1)))) (cCons (cXFld ["NoPlacing", "Held", "NoBlock"] "name" (cBin ixU (cVar 0) (cCst (.int 1)))) (cCons (cXFld ["NoEdit", "Taken"] "thing" (cBin ixU (cVar 0) (cCst (.int 2)))) (cCons (cXFld ["NoText", "NoLine"] "line" (cBin ixU (cVar 0) (cCst (.int 3)))) (cCons (cXFld ["NoEdit", "Taken"] "thing" (cBin ixU (cVar 0) (cCst (.int 4)))) (cCons (cXFld ["NoPlacing", "Held", "NoBlock"] "name" (cBin ixU (cVar 0) (cCst (.int 5)))) cNil)))))))) (gmName 4))
def vr1 : Sm := (sAsg (cBin (addU false) (cVar 4) (cArg oLst (cCons (cXFld ["Full"] "what" (cBin ixU (cVar 0) (cCst (.int 6)))) (cCons (cXFld ["NoPlacing", "Held", "NoBlock"] "name" (cBin ixU (cVar 0) (cCst (.int 7)))) (cCons (cXFld ["NoRow", "NoPlace", "Stopped"] "number" (cBin ixU (cVar 0) (cCst (.int 8)))) (cCons (cXFld ["NoRow", "NoPlace", "Stopped"] "number" (cBin ixU (cVar 0) (cCst (.int 9)))) (cCons (cXFld ["NoRow", "NoPlace", "Stopped"] "number" (cBin ixU (cVar 0) (cCst (.int 10)))) cNil))))))) (gmName 4))
def vr2 : Sm := (sAsg (cArg oLst (cCons (cVar 1) (cCons (cVar 2) (cCons (cVar 3) (cCons (cVar 3) (cCons (cVar 1) (cCons (cVar 3) (cCons (cVar 2) (cCons (cVar 2) (cCons (cVar 2) (cCons (cVar 1) (cCons (cVar 1) (cCons (cVar 1) cNil))))))))))))) (gmName 5))
def vr3 : Sm := (sRet (cBin (OF.eqU false) (cArg (on1 reprX) (cCons (cVar 4) cNil)) (cArg (on1 reprX) (cCons (cVar 5) cNil))))
theorem values_cut : c__law_values_right = sSeq vr0 (sSeq vr1 (sSeq vr2 vr3)) := rfl
theorem shown_ok {u1 u2 u3 : U} (g1 : Gu u1) (g2 : Gu u2) (g3 : Gu u3) : ∃ t : Str, ∀ S : Sto, reprX (.lst [u1, u2, u3, u3, u1, u3, u2, u2, u2, u1, u1, u1]) S = some (.str t, S) := by
  have w1 := g1.w
  have w2 := g2.w
  have w3 := g3.w
  have p1 := g1.p
  have p2 := g2.p
  have p3 := g3.p
  refine reprX_ok (b := 10 ^ 40) (by decide +kernel) ?_ ?_ ?_
  · simp only [dat, dats, g1.d, g2.d, g3.d, Bool.and_self]
  · simp only [wt, wts]
    omega
  · simp only [dpt, dpts]
    omega
theorem values_ok {u1 u2 u3 : U} {b : Nat} {S : Sto} (g1 : Gu u1) (g2 : Gu u2) (g3 : Gu u3) (hE : ∀ k o, (exL u1 u2 u3)[k]? = some o → S[b + k]? = some o) : F__law_values_right [.lst (refL b 13), u1, u2, u3] S = some (.bl true, S) := by
  obtain ⟨t, ht⟩ := shown_ok g1 g2 g3
  have e0 : vr0 [some (.lst (refL b 13)), some u1, some u2, some u3, none, none] S = some (.nx, [some (.lst (refL b 13)), some u1, some u2, some u3, some (.lst [u1, u2, u3, u3, u1, u3, u2]), none], S) := asg_of (i := 4) (arg_of (f := oLst) (cons_of (xfld_of (n := b + 0) (bin_of (cVar_of (i := 0) rfl) (cst_of (u := .int 0)) (ix_ref (k := 0) S (by decide))) (hE 0 _ rfl) (by decide +kernel) (by rfl)) (cons_of (xfld_of (n := b + 1) (bin_of (cVar_of (i := 0) rfl) (cst_of (u := .int 1)) (ix_ref (k := 1) S (by decide))) (hE 1 _ rfl) (by decide +kernel) (by rfl)) (cons_of (xfld_of (n := b + 1) (bin_of (cVar_of (i := 0) rfl) (cst_of (u := .int 1)) (ix_ref (k := 1) S (by decide))) (hE 1 _ rfl) (by decide +kernel) (by rfl)) (cons_of (xfld_of (n := b + 2) (bin_of (cVar_of (i := 0) rfl) (cst_of (u := .int 2)) (ix_ref (k := 2) S (by decide))) (hE 2 _ rfl) (by decide +kernel) (by rfl)) (cons_of (xfld_of (n := b + 3) (bin_of (cVar_of (i := 0) rfl) (cst_of (u := .int 3)) (ix_ref (k := 3) S (by decide))) (hE 3 _ rfl) (by decide +kernel) (by rfl)) (cons_of (xfld_of (n := b + 4) (bin_of (cVar_of (i := 0) rfl) (cst_of (u := .int 4)) (ix_ref (k := 4) S (by decide))) (hE 4 _ rfl) (by decide +kernel) (by rfl)) (cons_of (xfld_of (n := b + 5) (bin_of (cVar_of (i := 0) rfl) (cst_of (u := .int 5)) (ix_ref (k := 5) S (by decide))) (hE 5 _ rfl) (by decide +kernel) (by rfl)) (nil_of _ _)))))))) rfl)
  have e1 : vr1 [some (.lst (refL b 13)), some u1, some u2, some u3, some (.lst [u1, u2, u3, u3, u1, u3, u2]), none] S = some (.nx, [some (.lst (refL b 13)), some u1, some u2, some u3, some (.lst [u1, u2, u3, u3, u1, u3, u2, u2, u2, u1, u1, u1]), none], S) := asg_of (i := 4) (bin_of (cVar_of rfl) (arg_of (f := oLst) (u := .lst [u2, u2, u1, u1, u1]) (cons_of (xfld_of (n := b + 6) (bin_of (cVar_of (i := 0) rfl) (cst_of (u := .int 6)) (ix_ref (k := 6) S (by decide))) (hE 6 _ rfl) (by decide +kernel) (by rfl)) (cons_of (xfld_of (n := b + 7) (bin_of (cVar_of (i := 0) rfl) (cst_of (u := .int 7)) (ix_ref (k := 7) S (by decide))) (hE 7 _ rfl) (by decide +kernel) (by rfl)) (cons_of (xfld_of (n := b + 8) (bin_of (cVar_of (i := 0) rfl) (cst_of (u := .int 8)) (ix_ref (k := 8) S (by decide))) (hE 8 _ rfl) (by decide +kernel) (by rfl)) (cons_of (xfld_of (n := b + 9) (bin_of (cVar_of (i := 0) rfl) (cst_of (u := .int 9)) (ix_ref (k := 9) S (by decide))) (hE 9 _ rfl) (by decide +kernel) (by rfl)) (cons_of (xfld_of (n := b + 10) (bin_of (cVar_of (i := 0) rfl) (cst_of (u := .int 10)) (ix_ref (k := 10) S (by decide))) (hE 10 _ rfl) (by decide +kernel) (by rfl)) (nil_of _ _)))))) rfl) (add_lst S (by simp)))
  have e2 : vr2 [some (.lst (refL b 13)), some u1, some u2, some u3, some (.lst [u1, u2, u3, u3, u1, u3, u2, u2, u2, u1, u1, u1]), none] S = some (.nx, [some (.lst (refL b 13)), some u1, some u2, some u3, some (.lst [u1, u2, u3, u3, u1, u3, u2, u2, u2, u1, u1, u1]), some (.lst [u1, u2, u3, u3, u1, u3, u2, u2, u2, u1, u1, u1])], S) := asg_of (i := 5) (arg_of (f := oLst) ((cons_of (cVar_of rfl) (cons_of (cVar_of rfl) (cons_of (cVar_of rfl) (cons_of (cVar_of rfl) (cons_of (cVar_of rfl) (cons_of (cVar_of rfl) (cons_of (cVar_of rfl) (cons_of (cVar_of rfl) (cons_of (cVar_of rfl) (cons_of (cVar_of rfl) (cons_of (cVar_of rfl) (cons_of (cVar_of rfl) (nil_of _ _)))))))))))))) rfl)
  have e3 : vr3 [some (.lst (refL b 13)), some u1, some u2, some u3, some (.lst [u1, u2, u3, u3, u1, u3, u2, u2, u2, u1, u1, u1]), some (.lst [u1, u2, u3, u3, u1, u3, u2, u2, u2, u1, u1, u1])] S = some (.ret (.bl true), [some (.lst (refL b 13)), some u1, some u2, some u3, some (.lst [u1, u2, u3, u3, u1, u3, u2, u2, u2, u1, u1, u1]), some (.lst [u1, u2, u3, u3, u1, u3, u2, u2, u2, u1, u1, u1])], S) := sRet_of (bin_of (arg_of (cons_of (cVar_of rfl) (nil_of _ _)) (ht S)) (arg_of (cons_of (cVar_of rfl) (nil_of _ _)) (ht S)) (by rw [eqU_str]; simp))
  exact runF_of rfl rfl (values_cut ▸ ((sqn e0).trans ((sqn e1).trans ((sqn e2).trans e3))))
theorem classes_ok {u1 u2 u3 : U} {b : Nat} {S : Sto} (hE : ∀ k o, (exL u1 u2 u3)[k]? = some o → S[b + k]? = some o) : ∃ S', F__law_classes_right [.lst (refL b 13)] S = some (.bl true, S') ∧ Gr S S' := by
  have hk : ∀ k ∈ List.range 13, k < 13 ∧ ∃ fs, S[b + k]? = some (.exc (clsL.getD k "") fs) := fun k hk => by
    have hk := List.mem_range.mp hk
    have h : k = 0 ∨ k = 1 ∨ k = 2 ∨ k = 3 ∨ k = 4 ∨ k = 5 ∨ k = 6 ∨ k = 7 ∨ k = 8 ∨ k = 9 ∨ k = 10 ∨ k = 11 ∨ k = 12 := by omega
    refine ⟨hk, ?_⟩
    rcases h with rfl | rfl | rfl | rfl | rfl | rfl | rfl | rfl | rfl | rfl | rfl | rfl | rfl <;> exact ⟨_, hE _ _ rfl⟩
  obtain ⟨y1, y2, y3, y4, y5, y6, S1, e1, g1⟩ := cls_loop (some (.lst (refL b 13))) b [] (List.range 13) S none none none none none none none hk
  have it : itEnum (cCons (cVar 0) cNil) [some (.lst (refL b 13)), none, none, none, none, none, none, none] S = some ((List.range 13).map fun (k : Nat) => U.tup [.int (k : Int), .ref (b + k)], S) := by
    unfold itEnum
    rw [cons_of (cVar_of rfl) (nil_of _ _)]
    rfl
  exact ⟨S1, runF_of rfl rfl (classes_cut ▸ ((sqn ((sFor_of it).trans e1)).trans (sRet_of cst_of))), g1⟩
end K05
namespace OF
open PySem PySem.Spec PyProof.Rows L2
def clm (pa : Str → Str) (u : Str) : Nat → Str → List Str
  | 0, _ => []
  | k + 1, s => if s = u then [] else s :: clm pa u k (pa s)
def Ends (B : List Str) (pa : Str → Str) (u : Str) : Nat → Str → Prop
  | 0, s => s = u
  | k + 1, s => s = u ∨ s ≠ u ∧ s ∈ B ∧ Ends B pa u k (pa s)
end OF
namespace OF
open PySem PySem.Spec PyProof.Rows L2
theorem cLcG_of {it : CmG} {pt : Pat} {t : Cm Bool} {c : Cm U} {vs : List Nat} {env : Env'} {S S1 S2 : Sto} {us ys : List U} {g : Option Nat} (h : it env S = some ((us, g), S1)) (h2 : mapG pt t c (wipeE env vs) g us us S1 = some (ys, S2)) (hz : ys.length ≤ sizeLine) : cLcG it pt t c vs env S = some (.lst ys, S2) := by
  unfold cLcG cLcGL
  simp only [h, h2, hz, if_true]
end OF
namespace K05
open PySem PySem.Spec PyProof.Rows L2 OF
noncomputable def th0 : Sm := (sAsg (cArg F__law_pick (cCons (cVar 0) (cCons (cArg oLst (cCons (cCst (.int 0)) (cCons (cCst (.int 1)) (cCons (cCst (.int 24)) (cCons (cCst (.int 9999)) (cCons (cBin (o2I powI) (cCst (.int 10)) (cCst (.int 40))) (cCons (cUn oNeg (cCst (.int 1))) cNil))))))) cNil))) (gmName 1))
noncomputable def th1 : Sm := (sAsg (cArg F__law_pick (cCons (cVar 0) (cCons (cArg oLst (cCons (cCst (.str "a")) (cCons (cCst (.str "loop")) (cCons (cCst (.str "")) (cCons (cCst (.str "abcdefgh")) (cCons (cCst (.str "here")) cNil)))))) cNil))) (gmName 2))
noncomputable def th2 : Sm := (sAsg (cArg F__law_pick (cCons (cVar 0) (cCons (cArg oLst (cCons (cCst .non) (cCons (cCst (.bl true)) (cCons (cArg oTup (cCons (cCst (.str "put")) (cCons (cCst (.str "a")) cNil))) (cCons (cArg oLst (cCons (cCst (.int 1)) cNil)) (cCons (cDisp false [((cCst (.str "a")), (cCst (.int 1)))]) (cCons (cCst (.int 7)) (cCons (cCst (.str "x")) cNil)))))))) cNil))) (gmName 3))
noncomputable def th3 : Sm := (sRet (cArg oTup (cCons (cVar 1) (cCons (cVar 2) (cCons (cVar 3) cNil)))))
theorem things_cut : c__law_things = sSeq th0 (sSeq th1 (sSeq th2 th3)) := rfl
def manyL : List Int := [0, 1, 24, 9999, 10 ^ 40, -1]
def whomL : List Str := ["a", "loop", "", "abcdefgh", "here"]
def oddL : List U := [.non, .bl true, .tup [.str "put", .str "a"], .lst [.int 1], .dct [(.inr "a", .int 1)], .int 7, .str "x"]
theorem many_gu : ∀ j ∈ manyL, Gu (.int j) := by
  intro j hj
  simp only [manyL, List.mem_cons, List.not_mem_nil, or_false] at hj
  rcases hj with rfl | rfl | rfl | rfl | rfl | rfl <;> exact ⟨by decide +kernel, by decide +kernel, by decide +kernel⟩
theorem whom_gu : ∀ w ∈ whomL, Gu (.str w) ∧ PyData.strOk w = true := by
  intro w hw
  simp only [whomL, List.mem_cons, List.not_mem_nil, or_false] at hw
  rcases hw with rfl | rfl | rfl | rfl | rfl <;> exact ⟨⟨by decide +kernel, by decide +kernel, by decide +kernel⟩, by decide +kernel⟩
theorem odd_gu : ∀ u ∈ oddL, Gu u := by
  intro u hu
  simp only [oddL, List.mem_cons, List.not_mem_nil, or_false] at hu
  rcases hu with rfl | rfl | rfl | rfl | rfl | rfl | rfl <;> exact ⟨by decide +kernel, by decide +kernel, by decide +kernel⟩
theorem things_ex {S : Sto} {h : Nat} (hh : Hn S h) : ∃ (j : Int) (w : Str) (u : U) (S' : Sto), F__law_things [.ref h] S = some (.tup [.int j, .str w, u], S') ∧ Gu (.int j) ∧ Gu (.str w) ∧ Gu u ∧ PyData.strOk w = true ∧ Hn S' h ∧ Kh h S S' := by
  obtain ⟨v1, S1, e1, m1, h1, k1⟩ := pick_ex (us := manyL.map .int) hh (by simp [manyL]) (by simp [manyL])
  obtain ⟨v2, S2, e2, m2, h2, k2⟩ := pick_ex (us := whomL.map .str) h1 (by simp [whomL]) (by simp [whomL])
  obtain ⟨v3, S3, e3, m3, h3, k3⟩ := pick_ex (us := oddL) h2 (by simp [oddL]) (by simp [oddL])
  obtain ⟨j, hj, rfl⟩ := List.mem_map.mp m1
  obtain ⟨w, hw, rfl⟩ := List.mem_map.mp m2
  have p : powI 10 40 = some (.int (10 ^ 40)) := by
    unfold powI
    rw [if_pos (by decide +kernel)]
    rfl
  have p40 : ∀ T : Sto, o2I powI (.int 10) (.int 40) T = some (.int (10 ^ 40), T) := fun T => by
    simp [p]
  have m1 : cArg oLst (cCons (cCst (.int 0)) (cCons (cCst (.int 1)) (cCons (cCst (.int 24)) (cCons (cCst (.int 9999)) (cCons (cBin (o2I powI) (cCst (.int 10)) (cCst (.int 40))) (cCons (cUn oNeg (cCst (.int 1))) cNil)))))) [some (.ref h), none, none, none] S = some (.lst (manyL.map .int), S) := arg_of (f := oLst) (cons_of cst_of (cons_of cst_of (cons_of cst_of (cons_of cst_of (cons_of (bin_of cst_of cst_of (p40 S)) (cons_of (show cUn oNeg (cCst (.int 1)) _ S = some (.int (-1), S) from rfl) (nil_of _ _))))))) rfl
  have s0 : th0 [some (.ref h), none, none, none] S = some (.nx, [some (.ref h), some (.int j), none, none], S1) := asg_of (i := 1) (arg_of (f := F__law_pick) (cons_of (cVar_of rfl) (cons_of m1 (nil_of _ _))) e1)
  have s1 : th1 [some (.ref h), some (.int j), none, none] S1 = some (.nx, [some (.ref h), some (.int j), some (.str w), none], S2) := asg_of (i := 2) (arg_of (f := F__law_pick) (cons_of (cVar_of rfl) (cons_of (arg_of (f := oLst) (u := .lst (whomL.map .str)) (cons_of cst_of (cons_of cst_of (cons_of cst_of (cons_of cst_of (cons_of cst_of (nil_of _ _)))))) rfl) (nil_of _ _))) e2)
  have m3' : cArg oLst (cCons (cCst .non) (cCons (cCst (.bl true)) (cCons (cArg oTup (cCons (cCst (.str "put")) (cCons (cCst (.str "a")) cNil))) (cCons (cArg oLst (cCons (cCst (.int 1)) cNil)) (cCons (cDisp false [((cCst (.str "a")), (cCst (.int 1)))]) (cCons (cCst (.int 7)) (cCons (cCst (.str "x")) cNil))))))) [some (.ref h), some (.int j), some (.str w), none] S2 = some (.lst oddL, S2) := arg_of (f := oLst) (cons_of cst_of (cons_of cst_of (cons_of (arg_of (f := oTup) (u := .tup [.str "put", .str "a"]) (cons_of cst_of (cons_of cst_of (nil_of _ _))) rfl) (cons_of (arg_of (f := oLst) (u := .lst [.int 1]) (cons_of cst_of (nil_of _ _)) rfl) (cons_of (show cDisp false [((cCst (.str "a")), (cCst (.int 1)))] _ S2 = some (.dct [(.inr "a", .int 1)], S2) from rfl) (cons_of cst_of (cons_of cst_of (nil_of _ _)))))))) rfl
  have s2 : th2 [some (.ref h), some (.int j), some (.str w), none] S2 = some (.nx, [some (.ref h), some (.int j), some (.str w), some v3], S3) := asg_of (i := 3) (arg_of (f := F__law_pick) (cons_of (cVar_of rfl) (cons_of m3' (nil_of _ _))) e3)
  have s3 : th3 [some (.ref h), some (.int j), some (.str w), some v3] S3 = some (.ret (.tup [.int j, .str w, v3]), [some (.ref h), some (.int j), some (.str w), some v3], S3) := sRet_of (arg_of (f := oTup) (cons_of (cVar_of rfl) (cons_of (cVar_of rfl) (cons_of (cVar_of rfl) (nil_of _ _)))) rfl)
  exact ⟨j, w, v3, S3, runF_of rfl rfl (things_cut ▸ ((sqn s0).trans ((sqn s1).trans ((sqn s2).trans s3)))), many_gu j hj, (whom_gu w hw).1, odd_gu v3 m3, (whom_gu w hw).2, h3, (k1.trans k2).trans k3⟩
theorem raised0 {u1 u2 : U} (h : noref u2 = true) : P__law_raised [.int 0, u1, u2] = some (.tup [.str "refused", u2]) := by
  have e : c__law_raised [some (.int 0), some u1, some u2, none] [] = some (.ret (.tup [.str "refused", u2]), [some (.int 0), some u1, some u2, none], []) := rfl
  exact pureF_of (runF_of rfl rfl e) (by simp [noref, norefs, h])
theorem raised1 {u1 u2 : U} (h : noref u1 = true) : P__law_raised [.int 1, u1, u2] = some (.tup [.str "missing", u1]) := by
  have e : c__law_raised [some (.int 1), some u1, some u2, none] [] = some (.ret (.tup [.str "missing", u1]), [some (.int 1), some u1, some u2, none], []) := rfl
  exact pureF_of (runF_of rfl rfl e) (by simp [noref, norefs, h])
theorem raised2 {u1 u2 : U} (h : noref u1 = true) : P__law_raised [.int 2, u1, u2] = some (.tup [.str "halted", u1]) := by
  have e : c__law_raised [some (.int 2), some u1, some u2, none] [] = some (.ret (.tup [.str "halted", u1]), [some (.int 2), some u1, some u2, none], []) := rfl
  exact pureF_of (runF_of rfl rfl e) (by simp [noref, norefs, h])
end K05
namespace K05
open PySem PySem.Spec PyProof.Rows L2 OF
noncomputable def ra0 : Sm := (sIf (cNotT (cTru (cArg F__law_classes_right (cCons (cVar 6) cNil)))) (sRet (cCst (.bl false))) sNil)
def ra1 : Sm := (sExpr (cMt "list" appU (cVar 1) (cCons (cArg oTup (cCons (cVar 6) (cCons (cVar 3) (cCons (cVar 4) (cCons (cVar 5) cNil))))) cNil)))
noncomputable def rB : Sm := sSeq ra0 ra1
noncomputable def lb0 : Sm := (sAsg (cArg F__law_things (cCons (cArg F__law_hand (cCons (cVar 0) (cCons (cVar 2) cNil))) cNil)) (gmPat (.tp [ (.nm 3) , (.nm 4) , (.nm 5) ])))
noncomputable def lb1 : Sm := sFor (itSeq (cArg F__law_made (cCons (cVar 3) (cCons (cVar 4) (cCons (cVar 5) cNil))))) (.nm 6) rB
noncomputable def lb2 : Sm := (sAsg (cLc (itR1 (cCons (cCst (.int 3)) cNil)) (.nm 8) cYes (cArg (liftP P__law_raised) (cCons (cVar 8) (cCons (cVar 3) (cCons (cVar 4) cNil)))) [8]) (gmName 7))
noncomputable def lb3 : Sm := (sIf (cTru (cBin (OF.eqU true) (cVar 7) (cArg oLst (cCons (cArg oTup (cCons (cCst (.str "refused")) (cCons (cVar 4) cNil))) (cCons (cArg oTup (cCons (cCst (.str "missing")) (cCons (cVar 3) cNil))) (cCons (cArg oTup (cCons (cCst (.str "halted")) (cCons (cVar 3) cNil))) cNil)))))) (sRet (cCst (.bl false))) sNil)
noncomputable def lB : Sm := sSeq lb0 (sSeq lb1 (sSeq lb2 lb3))
noncomputable def lIt : Cm (List U) := (itR1 (cCons (cArg (on2 maxU) (cCons (cCst (.int 1)) (cCons (cArg (on2 minU) (cCons (cCst (.int 4)) (cCons (cArg (on1 lenU) (cCons (cVar 0) cNil)) cNil))) cNil))) cNil))
noncomputable def lE : Sm := (sRet (cArg (on1 (allU false)) (cCons (cLcG (itAny (cVar 1)) (.tp [(.nm 6), (.nm 3), (.nm 4), (.nm 5)]) cYes (cArg F__law_values_right (cCons (cVar 6) (cCons (cVar 3) (cCons (cVar 4) (cCons (cVar 5) cNil))))) [6, 3, 4, 5]) cNil)))
theorem law_cut : c_law = sSeq (sAsg (cArg oLstM cNil) (gmName 1)) (sSeq (sFor lIt (.nm 2) lB) lE) := rfl
structure Qk where
  b : Nat
  u1 : U
  u2 : U
  u3 : U
def encQ (q : Qk) : U := .tup [.lst (refL q.b 13), q.u1, q.u2, q.u3]
structure Qok (S : Sto) (q : Qk) : Prop where
  b1 : 1 ≤ q.b
  g1 : Gu q.u1
  g2 : Gu q.u2
  g3 : Gu q.u3
  at_ : ∀ k o, (exL q.u1 q.u2 q.u3)[k]? = some o → S[q.b + k]? = some o
def Old (S S' : Sto) : Prop := S.length ≤ S'.length ∧ ∀ j, j < S.length → j ≠ 0 → S'[j]? = S[j]?
theorem Gr.old {S S' : Sto} (h : Gr S S') : Old S S' := ⟨h.1, fun j hj _ => h.2 j hj⟩
theorem Qok.old {S S' : Sto} {q : Qk} (h : Qok S q) (o : Old S S') : Qok S' q := ⟨h.b1, h.g1, h.g2, h.g3, fun k x hx => by
  have e := h.at_ k x hx
  have := h.b1
  rw [o.2 _ (cell_lt e) (by omega), e]⟩
structure Kp (S : Sto) (ks : List Qk) : Prop where
  c : S[0]? = some (.lst (ks.map encQ))
  ok : ∀ q ∈ ks, Qok S q
def jE (x0 x2 x3 x4 x5 x6 x7 x8 : Option U) : Env' := [x0, some (.ref 0), x2, x3, x4, x5, x6, x7, x8]
theorem in_step {S : Sto} {ks : List Qk} (K : Kp S ks) {q : Qk} (hq : Qok S q) (hz : ks.length ≤ 900) (x0 x2 x7 x8 : Option U) : ∃ S', rB (jE x0 x2 (some q.u1) (some q.u2) (some q.u3) (some (.lst (refL q.b 13))) x7 x8) S = some (.nx, jE x0 x2 (some q.u1) (some q.u2) (some q.u3) (some (.lst (refL q.b 13))) x7 x8, S') ∧ Kp S' (ks ++ [q]) ∧ Old S S' := by
  obtain ⟨S1, e1, g1⟩ := classes_ok hq.at_
  have c1 := g1.get K.c
  have a0 : ra0 (jE x0 x2 (some q.u1) (some q.u2) (some q.u3) (some (.lst (refL q.b 13))) x7 x8) S = some (.nx, jE x0 x2 (some q.u1) (some q.u2) (some q.u3) (some (.lst (refL q.b 13))) x7 x8, S1) := by
    refine sIf_no ?_
    rw [cNotT_ap, tru_of (arg_of (f := F__law_classes_right) (cons_of (a := cVar 6) (cVar_of rfl) (nil_of _ _)) e1)]
    rfl
  have a1 : ra1 (jE x0 x2 (some q.u1) (some q.u2) (some q.u3) (some (.lst (refL q.b 13))) x7 x8) S1 = some (.nx, jE x0 x2 (some q.u1) (some q.u2) (some q.u3) (some (.lst (refL q.b 13))) x7 x8, S1.set 0 (.lst ((ks ++ [q]).map encQ))) := by
    rw [List.map_append]
    exact app_one (i := 1) (w := encQ q) rfl (arg_of (f := oTup) (cons_of (cVar_of rfl) (cons_of (cVar_of rfl) (cons_of (cVar_of rfl) (cons_of (cVar_of rfl) (nil_of _ _))))) rfl) c1 (by simp; omega)
  have od : Old S (S1.set 0 (.lst ((ks ++ [q]).map encQ))) := ⟨by rw [List.length_set]; exact g1.1, fun j hj hn => by rw [List.getElem?_set_ne (fun z => hn z.symm), g1.2 j hj]⟩
  refine ⟨_, (sqn a0).trans a1, ⟨List.getElem?_set_self (cell_lt c1), fun r hr => ?_⟩, od⟩
  rcases List.mem_append.mp hr with hr | hr
  · exact (K.ok r hr).old od
  · rw [List.mem_singleton.mp hr]
    exact hq.old od
theorem turn_ok {ns : List Int} (hns : ns.length ≤ 63) {k : Nat} (hk : k < 100) {S : Sto} {ks : List Qk} (K : Kp S ks) (hz : ks.length ≤ 800) (x3 x4 x5 x6 x7 x8 : Option U) : ∃ y3 y4 y5 y6 y7 y8 S' ks', lB (jE (some (.scr (ns.map .int))) (some (.int (k : Nat))) x3 x4 x5 x6 x7 x8) S = some (.nx, jE (some (.scr (ns.map .int))) (some (.int (k : Nat))) y3 y4 y5 y6 y7 y8, S') ∧ Kp S' ks' ∧ ks'.length = ks.length + 2 := by
  have l0 := cell_lt K.c
  obtain ⟨g, b, e0, ok⟩ := hand_ok ns k S hk hns
  have h0 : Hn (S ++ [hnd g b]) S.length := ⟨g, b, List.getElem?_concat_length, ok⟩
  obtain ⟨j, w, u, S2, e1, g1, g2, g3, sw, h2, k2⟩ := things_ex h0
  have o2 : Old S S2 := ⟨by have := k2.le; simp at this; omega, fun i hi _ => by rw [k2.eq i (by simp; omega) (by omega), List.getElem?_append_left hi]⟩
  have c2 : S2[0]? = some (.lst (ks.map encQ)) := by rw [k2.eq 0 (by simp) (by omega), List.getElem?_append_left l0]; exact K.c
  have K2 : Kp S2 ks := ⟨c2, fun q hq => (K.ok q hq).old o2⟩
  have s0 : lb0 (jE (some (.scr (ns.map .int))) (some (.int (k : Nat))) x3 x4 x5 x6 x7 x8) S = some (.nx, jE (some (.scr (ns.map .int))) (some (.int (k : Nat))) (some (.int j)) (some (.str w)) (some u) x6 x7 x8, S2) := by
    have a : cArg F__law_things (cCons (cArg F__law_hand (cCons (cVar 0) (cCons (cVar 2) cNil))) cNil) (jE (some (.scr (ns.map .int))) (some (.int (k : Nat))) x3 x4 x5 x6 x7 x8) S = some (.tup [.int j, .str w, u], S2) := arg_of (f := F__law_things) (cons_of (arg_of (f := F__law_hand) (cons_of (cVar_of rfl) (cons_of (cVar_of rfl) (nil_of _ _))) e0) (nil_of _ _)) e1
    unfold lb0 sAsg
    rw [a]
    rfl
  have md := made_ok (.int j) (.str w) u S2
  have lx : (exL (.int j) (.str w) u).length = 13 := rfl
  have it : itSeq (cArg F__law_made (cCons (cVar 3) (cCons (cVar 4) (cCons (cVar 5) cNil)))) (jE (some (.scr (ns.map .int))) (some (.int (k : Nat))) (some (.int j)) (some (.str w)) (some u) x6 x7 x8) S2 = some ([.lst (refL S2.length 13), .lst (refL (S2.length + 13) 13)], S2 ++ (exL (.int j) (.str w) u ++ exL (.int j) (.str w) u)) := by
    unfold itSeq
    rw [arg_of (f := F__law_made) (cons_of (cVar_of rfl) (cons_of (cVar_of rfl) (cons_of (cVar_of rfl) (nil_of _ _)))) md]
    rfl
  have gr := Gr.app S2 (exL (.int j) (.str w) u ++ exL (.int j) (.str w) u)
  have l2 : 0 < S2.length := cell_lt c2
  generalize hS3 : S2 ++ (exL (.int j) (.str w) u ++ exL (.int j) (.str w) u) = S3 at it gr
  have K3 : Kp S3 ks := ⟨gr.get c2, fun q hq => (K2.ok q hq).old gr.old⟩
  have q1 : Qok S3 ⟨S2.length, .int j, .str w, u⟩ := ⟨l2, g1, g2, g3, fun i o ho => by
    have ho : (exL (.int j) (.str w) u)[i]? = some o := ho
    have hi := cell_lt ho
    show S3[S2.length + i]? = some o
    rw [← hS3, List.getElem?_append_right (by omega), show S2.length + i - S2.length = i by omega, List.getElem?_append_left hi]
    exact ho⟩
  have q2 : Qok S3 ⟨S2.length + 13, .int j, .str w, u⟩ := ⟨by show 1 ≤ S2.length + 13; omega, g1, g2, g3, fun i o ho => by
    have ho : (exL (.int j) (.str w) u)[i]? = some o := ho
    have hi := cell_lt ho
    show S3[S2.length + 13 + i]? = some o
    rw [← hS3, List.getElem?_append_right (by omega), show S2.length + 13 + i - S2.length = 13 + i by omega, List.getElem?_append_right (by rw [lx]; omega), lx, show 13 + i - 13 = i by omega]
    exact ho⟩
  obtain ⟨S4, e4, K4, o4⟩ := in_step K3 q1 (by omega) (some (.scr (ns.map .int))) (some (.int (k : Nat))) x7 x8
  obtain ⟨S5, e5, K5, o5⟩ := in_step K4 (q2.old o4) (by rw [List.length_append, List.length_singleton]; omega) (some (.scr (ns.map .int))) (some (.int (k : Nat))) x7 x8
  have s1 : lb1 (jE (some (.scr (ns.map .int))) (some (.int (k : Nat))) (some (.int j)) (some (.str w)) (some u) x6 x7 x8) S2 = some (.nx, jE (some (.scr (ns.map .int))) (some (.int (k : Nat))) (some (.int j)) (some (.str w)) (some u) (some (.lst (refL (S2.length + 13) 13))) x7 x8, S5) := by
    refine (sFor_of it).trans ?_
    rw [loopF_nx (bs := [(6, .lst (refL S2.length 13))]) rfl (e := jE (some (.scr (ns.map .int))) (some (.int (k : Nat))) (some (.int j)) (some (.str w)) (some u) (some (.lst (refL S2.length 13))) x7 x8) (S1 := S4) e4]
    rw [loopF_nx (bs := [(6, .lst (refL (S2.length + 13) 13))]) rfl (e := jE (some (.scr (ns.map .int))) (some (.int (k : Nat))) (some (.int j)) (some (.str w)) (some u) (some (.lst (refL (S2.length + 13) 13))) x7 x8) (S1 := S5) e5]
    rfl
  have r0 := raised0 (u1 := .int j) (u2 := .str w) rfl
  have r1 := raised1 (u1 := .int j) (u2 := .str w) rfl
  have r2 := raised2 (u1 := .int j) (u2 := .str w) rfl
  have s2 : lb2 (jE (some (.scr (ns.map .int))) (some (.int (k : Nat))) (some (.int j)) (some (.str w)) (some u) (some (.lst (refL (S2.length + 13) 13))) x7 x8) S5 = some (.nx, jE (some (.scr (ns.map .int))) (some (.int (k : Nat))) (some (.int j)) (some (.str w)) (some u) (some (.lst (refL (S2.length + 13) 13))) (some (.lst [.tup [.str "refused", .str w], .tup [.str "missing", .int j], .tup [.str "halted", .int j]])) x8, S5) := by
    have t0 : ∀ T : Sto, (cArg (liftP P__law_raised) (cCons (cVar 8) (cCons (cVar 3) (cCons (cVar 4) cNil)))) (jE (some (.scr (ns.map .int))) (some (.int (k : Nat))) (some (.int j)) (some (.str w)) (some u) (some (.lst (refL (S2.length + 13) 13))) x7 (some (.int 0))) T = some (.tup [.str "refused", .str w], T) := fun T => arg_of (cons_of (cVar_of rfl) (cons_of (cVar_of rfl) (cons_of (cVar_of rfl) (nil_of _ _)))) (liftP_of r0 rfl)
    have t1 : ∀ T : Sto, (cArg (liftP P__law_raised) (cCons (cVar 8) (cCons (cVar 3) (cCons (cVar 4) cNil)))) (jE (some (.scr (ns.map .int))) (some (.int (k : Nat))) (some (.int j)) (some (.str w)) (some u) (some (.lst (refL (S2.length + 13) 13))) x7 (some (.int 1))) T = some (.tup [.str "missing", .int j], T) := fun T => arg_of (cons_of (cVar_of rfl) (cons_of (cVar_of rfl) (cons_of (cVar_of rfl) (nil_of _ _)))) (liftP_of r1 rfl)
    have t2 : ∀ T : Sto, (cArg (liftP P__law_raised) (cCons (cVar 8) (cCons (cVar 3) (cCons (cVar 4) cNil)))) (jE (some (.scr (ns.map .int))) (some (.int (k : Nat))) (some (.int j)) (some (.str w)) (some u) (some (.lst (refL (S2.length + 13) 13))) x7 (some (.int 2))) T = some (.tup [.str "halted", .int j], T) := fun T => arg_of (cons_of (cVar_of rfl) (cons_of (cVar_of rfl) (cons_of (cVar_of rfl) (nil_of _ _)))) (liftP_of r2 rfl)
    have mc : mapC (.nm 8) cYes (cArg (liftP P__law_raised) (cCons (cVar 8) (cCons (cVar 3) (cCons (cVar 4) cNil)))) (wipeE (jE (some (.scr (ns.map .int))) (some (.int (k : Nat))) (some (.int j)) (some (.str w)) (some u) (some (.lst (refL (S2.length + 13) 13))) x7 x8) [8]) [.int 0, .int 1, .int 2] S5 = some ([.tup [.str "refused", .str w], .tup [.str "missing", .int j], .tup [.str "halted", .int j]], S5) := by
      have we : wipeE (jE (some (.scr (ns.map .int))) (some (.int (k : Nat))) (some (.int j)) (some (.str w)) (some u) (some (.lst (refL (S2.length + 13) 13))) x7 x8) [8] = jE (some (.scr (ns.map .int))) (some (.int (k : Nat))) (some (.int j)) (some (.str w)) (some u) (some (.lst (refL (S2.length + 13) 13))) x7 none := rfl
      have w0 : ∀ v : U, setAll (jE (some (.scr (ns.map .int))) (some (.int (k : Nat))) (some (.int j)) (some (.str w)) (some u) (some (.lst (refL (S2.length + 13) 13))) x7 none) [(8, v)] = jE (some (.scr (ns.map .int))) (some (.int (k : Nat))) (some (.int j)) (some (.str w)) (some u) (some (.lst (refL (S2.length + 13) 13))) x7 (some v) := fun _ => rfl
      rw [we]
      simp only [mapC, bindP, w0, cYes, t0, t1, t2]
    exact asg_of (i := 7) (cLc_of (us := [.int 0, .int 1, .int 2]) (by rw [itR1_k, cons_of cst_of (nil_of _ _), r1G_some, show (U.int 3) = U.int ((3 : Nat) : Int) from rfl, r1K_nat (by decide)]; rfl) mc (le_size _ (by simp)))
  have oku : okU 60 (.lst [.tup [.str "refused", .str w], .tup [.str "missing", .int j], .tup [.str "halted", .int j]]) = true := by
    have a1 : PyData.strOk (Str.ofString "refused") = true := by decide +kernel
    have a2 : PyData.strOk (Str.ofString "missing") = true := by decide +kernel
    have a3 : PyData.strOk (Str.ofString "halted") = true := by decide +kernel
    simp [okU, okUs, a1, a2, a3, sw]
  have s3 : lb3 (jE (some (.scr (ns.map .int))) (some (.int (k : Nat))) (some (.int j)) (some (.str w)) (some u) (some (.lst (refL (S2.length + 13) 13))) (some (.lst [.tup [.str "refused", .str w], .tup [.str "missing", .int j], .tup [.str "halted", .int j]])) x8) S5 = some (.nx, jE (some (.scr (ns.map .int))) (some (.int (k : Nat))) (some (.int j)) (some (.str w)) (some u) (some (.lst (refL (S2.length + 13) 13))) (some (.lst [.tup [.str "refused", .str w], .tup [.str "missing", .int j], .tup [.str "halted", .int j]])) x8, S5) := by
    refine sIf_no (tru_of (bin_of (cVar_of rfl) (arg_of (f := oLst) (u := .lst [.tup [.str "refused", .str w], .tup [.str "missing", .int j], .tup [.str "halted", .int j]]) (cons_of (arg_of (f := oTup) (cons_of cst_of (cons_of (cVar_of rfl) (nil_of _ _))) rfl) (cons_of (arg_of (f := oTup) (cons_of cst_of (cons_of (cVar_of rfl) (nil_of _ _))) rfl) (cons_of (arg_of (f := oTup) (cons_of cst_of (cons_of (cVar_of rfl) (nil_of _ _))) rfl) (nil_of _ _)))) rfl) ?_))
    exact eqU_same oku
  exact ⟨_, _, _, _, _, _, S5, _, (sqn s0).trans ((sqn s1).trans ((sqn s2).trans s3)), K5, by simp⟩
theorem law_loop {ns : List Int} (hns : ns.length ≤ 63) : ∀ (js : List Nat) (S : Sto) (ks : List Qk) (x2 x3 x4 x5 x6 x7 x8 : Option U), (∀ k ∈ js, k < 100) → Kp S ks → ks.length + 2 * js.length ≤ 800 → ∃ y2 y3 y4 y5 y6 y7 y8 S' ks', loopF (.nm 2) lB (js.map fun (k : Nat) => U.int (k : Int)) (jE (some (.scr (ns.map .int))) x2 x3 x4 x5 x6 x7 x8) S = some (.nx, jE (some (.scr (ns.map .int))) y2 y3 y4 y5 y6 y7 y8, S') ∧ Kp S' ks' ∧ ks'.length ≤ 800
  | [], S, ks, x2, x3, x4, x5, x6, x7, x8, _, K, hz => ⟨x2, x3, x4, x5, x6, x7, x8, S, ks, rfl, K, by simpa using hz⟩
  | k :: js, S, ks, x2, x3, x4, x5, x6, x7, x8, hk, K, hz => by
    rw [List.length_cons] at hz
    obtain ⟨y3, y4, y5, y6, y7, y8, S1, ks1, e1, K1, l1⟩ := turn_ok hns (hk k (by simp)) K (by omega) x3 x4 x5 x6 x7 x8
    obtain ⟨z2, z3, z4, z5, z6, z7, z8, S2, ks2, e2, K2, l2⟩ := law_loop hns js S1 ks1 (some (.int (k : Nat))) y3 y4 y5 y6 y7 y8 (fun i hi => hk i (by simp [hi])) K1 (by omega)
    refine ⟨z2, z3, z4, z5, z6, z7, z8, S2, ks2, ?_, K2, l2⟩
    rw [List.map_cons, loopF_nx (bs := [(2, .int (k : Nat))]) rfl (e := jE (some (.scr (ns.map .int))) (some (.int (k : Nat))) y3 y4 y5 y6 y7 y8) (S1 := S1) e1]
    exact e2
theorem lIt_ok (ns : List Int) (h : ns.length ≤ 63) (xs : Env') (S : Sto) : ∃ n : Nat, n ≤ 9 ∧ lIt (some (.scr (ns.map .int)) :: xs) S = some ((List.range n).map fun (i : Nat) => U.int (i : Int), S) := by
  have z : ns.length ≤ sizeLine := le_size _ (by omega)
  have ln : cArg (on1 lenU) (cCons (cVar 0) cNil) (some (.scr (ns.map .int)) :: xs) S = some (.int (ns.length : Nat), S) := arg_of (cons_of (cVar_of rfl) (nil_of _ _)) (by
    show lenU (.scr (ns.map .int)) S = _
    unfold lenU
    simp only [itmU, List.length_map])
  have mi := arg_of (f := on2 minU) (cons_of (a := cCst (.int 4)) cst_of (cons_of ln (nil_of _ _))) (S2 := S) (u := .int (if ((ns.length : Nat) : Int) < 4 then ((ns.length : Nat) : Int) else 4)) rfl
  have ma := arg_of (f := on2 maxU) (cons_of (a := cCst (.int 1)) cst_of (cons_of mi (nil_of _ _))) (S2 := S) (u := .int (if (if ((ns.length : Nat) : Int) < 4 then ((ns.length : Nat) : Int) else 4) > 1 then (if ((ns.length : Nat) : Int) < 4 then ((ns.length : Nat) : Int) else 4) else 1)) rfl
  obtain ⟨n, hn, e⟩ : ∃ n : Nat, n ≤ 9 ∧ (if (if ((ns.length : Nat) : Int) < 4 then ((ns.length : Nat) : Int) else 4) > 1 then (if ((ns.length : Nat) : Int) < 4 then ((ns.length : Nat) : Int) else 4) else 1) = (n : Int) := by
    refine ⟨(if (if ((ns.length : Nat) : Int) < 4 then ((ns.length : Nat) : Int) else 4) > 1 then (if ((ns.length : Nat) : Int) < 4 then ((ns.length : Nat) : Int) else 4) else 1).toNat, ?_, ?_⟩
    · repeat' split
      all_goals omega
    · rw [Int.toNat_of_nonneg]
      repeat' split
      all_goals omega
  rw [e] at ma
  refine ⟨n, hn, ?_⟩
  unfold lIt
  rw [itR1_k, cons_of ma (nil_of _ _), r1G_some, r1K_nat (by omega), rangeU_eq]
theorem bools_true : ∀ (l : List Qk), boolsU (l.map fun _ => U.bl true) = some (l.map fun _ => true)
  | [] => rfl
  | q :: l => by
    rw [List.map_cons, List.map_cons]
    unfold boolsU
    rw [bools_true l]
theorem all_true (l : List Qk) (S : Sto) : on1 (allU false) [.lst (l.map fun _ => U.bl true)] S = some (.bl true, S) := by
  show allU false (.lst (l.map fun _ => U.bl true)) S = _
  unfold allU
  simp only [lstU, bools_true]
  have : (l.map fun _ => true).all id = true := by simp
  simp [this]
theorem law_true (ns : List Int) (hns : ns.length ≤ 63) : P_law [.scr (ns.map .int)] = some (.bl true) := by
  have s0 : sAsg (cArg oLstM cNil) (gmName 1) [some (.scr (ns.map .int)), none, none, none, none, none, none, none, none] [] = some (.nx, jE (some (.scr (ns.map .int))) none none none none none none none, [.lst []]) := asg_of (i := 1) (arg_of (f := oLstM) (nil_of _ _) rfl)
  obtain ⟨n, hn, it⟩ := lIt_ok ns hns [some (.ref 0), none, none, none, none, none, none, none] [.lst []]
  obtain ⟨y2, y3, y4, y5, y6, y7, y8, S1, ks, e1, K, lk⟩ := law_loop hns (List.range n) [.lst []] [] none none none none none none none (fun k hk => by have := List.mem_range.mp hk; omega) ⟨rfl, fun q hq => (by cases hq)⟩ (by simp; omega)
  have ia : itAny (cVar 1) (jE (some (.scr (ns.map .int))) y2 y3 y4 y5 y6 y7 y8) S1 = some ((ks.map encQ, some 0), S1) := by
    unfold itAny
    rw [cVar_of (show _ = some (some (U.ref 0)) from rfl)]
    dsimp only
    rw [K.c]
  have mg := mapG_tn (pt := .tp [(.nm 6), (.nm 3), (.nm 4), (.nm 5)]) (t := cYes) (c := cArg F__law_values_right (cCons (cVar 6) (cCons (cVar 3) (cCons (cVar 4) (cCons (cVar 5) cNil))))) (env := jE (some (.scr (ns.map .int))) y2 none none none none y7 y8) (S := S1) (enc := encQ) (p := fun _ => true) (f := fun _ => U.bl true) (g := some 0) (us0 := ks.map encQ) K.c ks fun q hq => by
    have ok := K.ok q hq
    exact ⟨[(6, .lst (refL q.b 13)), (3, q.u1), (4, q.u2), (5, q.u3)], rfl, rfl, fun _ => arg_of (f := F__law_values_right) (cons_of (cVar_of rfl) (cons_of (cVar_of rfl) (cons_of (cVar_of rfl) (cons_of (cVar_of rfl) (nil_of _ _))))) (values_ok ok.g1 ok.g2 ok.g3 ok.at_)⟩
  rw [List.filter_eq_self.mpr (fun _ _ => rfl)] at mg
  have e2 : lE (jE (some (.scr (ns.map .int))) y2 y3 y4 y5 y6 y7 y8) S1 = some (.ret (.bl true), jE (some (.scr (ns.map .int))) y2 y3 y4 y5 y6 y7 y8, S1) := sRet_of (arg_of (cons_of (cLcG_of ia mg (le_size _ (by simp; omega))) (nil_of _ _)) (all_true ks S1))
  have e := law_cut ▸ ((sqn s0).trans ((sqn ((sFor_of it).trans e1)).trans e2))
  exact pureF_of (runF_of rfl rfl e) rfl
end K05
namespace K05
open PySem PySem.Spec PyProof.Rows L2 OF
theorem all_mk {l : PySem.W.OpenLaw} {w : World} {K : PySem.W.Frag} {h : Heap} {mg : Str → Option Value} {fa f__law_take f__law_pick f__law_things f__law_made f__law_hand f__law_raised f__law_values_right f__law_classes_right f_law C_Halted C_Missing C_NoPlacing C_NoProgram C_Nothing C_Refused C_NoText i_NoText C_NoEdit i_NoEdit C_NoLine i_NoLine C_Taken i_Taken C_Held i_Held C_Full i_Full C_NoBlock i_NoBlock C_NoRow i_NoRow C_NoPlace i_NoPlace C_Stopped i_Stopped i_NoPlacing : Addr} (X : K.In h) (G : h.Ns mainGlobals mg) (hfa : mg "law" = some (.ref fa))
    {od__law_take an__law_take od__law_pick an__law_pick od__law_things an__law_things od__law_made an__law_made od__law_hand an__law_hand od__law_raised an__law_raised od__law_values_right an__law_values_right od__law_classes_right an__law_classes_right od_law an_law : Option Addr} {sl__law_take sl__law_pick sl__law_things sl__law_made sl__law_hand sl__law_raised sl__law_values_right sl__law_classes_right sl_law : Array (Option Value)} {oc__law_take dc__law_take pm__law_take cd__law_take ct__law_take kV__law_take oc__law_pick dc__law_pick pm__law_pick cd__law_pick ct__law_pick kV__law_pick oc__law_things dc__law_things pm__law_things cd__law_things ct__law_things kV__law_things oc__law_made dc__law_made pm__law_made cd__law_made ct__law_made kV__law_made oc__law_hand dc__law_hand pm__law_hand cd__law_hand ct__law_hand kV__law_hand oc__law_raised dc__law_raised pm__law_raised cd__law_raised ct__law_raised kV__law_raised oc__law_values_right dc__law_values_right pm__law_values_right cd__law_values_right ct__law_values_right kV__law_values_right oc__law_classes_right dc__law_classes_right pm__law_classes_right cd__law_classes_right ct__law_classes_right kV__law_classes_right oc_law dc_law pm_law cd_law ct_law kV_law : Value} {nm_NoText qq_NoText : Str} {NN_NoText : Addr} {bs_NoText : List Value} {sn_NoText : List Str} {su_NoText : List Value} {ab_NoText : Bool} {co_NoText : Option Bool} {dd_NoText : Option Addr} {m0_NoText m1_NoText m2_NoText m3_NoText m5_NoText : Option Value} {ix_NoText1 ix_NoText2 ix_NoText3 ix_NoText4 ix_NoText5 : Value} {iy_NoText1 iy_NoText2 : Option Addr} {iz_NoText : Array (Option Value)} {nm_NoEdit qq_NoEdit : Str} {NN_NoEdit : Addr} {bs_NoEdit : List Value} {sn_NoEdit : List Str} {su_NoEdit : List Value} {ab_NoEdit : Bool} {co_NoEdit : Option Bool} {dd_NoEdit : Option Addr} {m0_NoEdit m1_NoEdit m2_NoEdit m3_NoEdit m5_NoEdit : Option Value} {ix_NoEdit1 ix_NoEdit2 ix_NoEdit3 ix_NoEdit4 ix_NoEdit5 : Value} {iy_NoEdit1 iy_NoEdit2 : Option Addr} {iz_NoEdit : Array (Option Value)} {nm_NoLine qq_NoLine : Str} {NN_NoLine : Addr} {bs_NoLine : List Value} {sn_NoLine : List Str} {su_NoLine : List Value} {ab_NoLine : Bool} {co_NoLine : Option Bool} {dd_NoLine : Option Addr} {m0_NoLine m1_NoLine m2_NoLine m3_NoLine m5_NoLine : Option Value} {ix_NoLine1 ix_NoLine2 ix_NoLine3 ix_NoLine4 ix_NoLine5 : Value} {iy_NoLine1 iy_NoLine2 : Option Addr} {iz_NoLine : Array (Option Value)} {nm_Taken qq_Taken : Str} {NN_Taken : Addr} {bs_Taken : List Value} {sn_Taken : List Str} {su_Taken : List Value} {ab_Taken : Bool} {co_Taken : Option Bool} {dd_Taken : Option Addr} {m0_Taken m1_Taken m2_Taken m3_Taken m5_Taken : Option Value} {ix_Taken1 ix_Taken2 ix_Taken3 ix_Taken4 ix_Taken5 : Value} {iy_Taken1 iy_Taken2 : Option Addr} {iz_Taken : Array (Option Value)} {nm_Held qq_Held : Str} {NN_Held : Addr} {bs_Held : List Value} {sn_Held : List Str} {su_Held : List Value} {ab_Held : Bool} {co_Held : Option Bool} {dd_Held : Option Addr} {m0_Held m1_Held m2_Held m3_Held m5_Held : Option Value} {ix_Held1 ix_Held2 ix_Held3 ix_Held4 ix_Held5 : Value} {iy_Held1 iy_Held2 : Option Addr} {iz_Held : Array (Option Value)} {nm_Full qq_Full : Str} {NN_Full : Addr} {bs_Full : List Value} {sn_Full : List Str} {su_Full : List Value} {ab_Full : Bool} {co_Full : Option Bool} {dd_Full : Option Addr} {m0_Full m1_Full m2_Full m3_Full m5_Full : Option Value} {ix_Full1 ix_Full2 ix_Full3 ix_Full4 ix_Full5 : Value} {iy_Full1 iy_Full2 : Option Addr} {iz_Full : Array (Option Value)} {nm_NoBlock qq_NoBlock : Str} {NN_NoBlock : Addr} {bs_NoBlock : List Value} {sn_NoBlock : List Str} {su_NoBlock : List Value} {ab_NoBlock : Bool} {co_NoBlock : Option Bool} {dd_NoBlock : Option Addr} {m0_NoBlock m1_NoBlock m2_NoBlock m3_NoBlock m5_NoBlock : Option Value} {ix_NoBlock1 ix_NoBlock2 ix_NoBlock3 ix_NoBlock4 ix_NoBlock5 : Value} {iy_NoBlock1 iy_NoBlock2 : Option Addr} {iz_NoBlock : Array (Option Value)} {nm_NoRow qq_NoRow : Str} {NN_NoRow : Addr} {bs_NoRow : List Value} {sn_NoRow : List Str} {su_NoRow : List Value} {ab_NoRow : Bool} {co_NoRow : Option Bool} {dd_NoRow : Option Addr} {m0_NoRow m1_NoRow m2_NoRow m3_NoRow m5_NoRow : Option Value} {ix_NoRow1 ix_NoRow2 ix_NoRow3 ix_NoRow4 ix_NoRow5 : Value} {iy_NoRow1 iy_NoRow2 : Option Addr} {iz_NoRow : Array (Option Value)} {nm_NoPlace qq_NoPlace : Str} {NN_NoPlace : Addr} {bs_NoPlace : List Value} {sn_NoPlace : List Str} {su_NoPlace : List Value} {ab_NoPlace : Bool} {co_NoPlace : Option Bool} {dd_NoPlace : Option Addr} {m0_NoPlace m1_NoPlace m2_NoPlace m3_NoPlace m5_NoPlace : Option Value} {ix_NoPlace1 ix_NoPlace2 ix_NoPlace3 ix_NoPlace4 ix_NoPlace5 : Value} {iy_NoPlace1 iy_NoPlace2 : Option Addr} {iz_NoPlace : Array (Option Value)} {nm_Stopped qq_Stopped : Str} {NN_Stopped : Addr} {bs_Stopped : List Value} {sn_Stopped : List Str} {su_Stopped : List Value} {ab_Stopped : Bool} {co_Stopped : Option Bool} {dd_Stopped : Option Addr} {m0_Stopped m1_Stopped m2_Stopped m3_Stopped m5_Stopped : Option Value} {ix_Stopped1 ix_Stopped2 ix_Stopped3 ix_Stopped4 ix_Stopped5 : Value} {iy_Stopped1 iy_Stopped2 : Option Addr} {iz_Stopped : Array (Option Value)} {nm_NoPlacing qq_NoPlacing : Str} {NN_NoPlacing : Addr} {bs_NoPlacing : List Value} {sn_NoPlacing : List Str} {su_NoPlacing : List Value} {ab_NoPlacing : Bool} {co_NoPlacing : Option Bool} {dd_NoPlacing : Option Addr} {m0_NoPlacing m1_NoPlacing m2_NoPlacing m3_NoPlacing m5_NoPlacing : Option Value} {ix_NoPlacing1 ix_NoPlacing2 ix_NoPlacing3 ix_NoPlacing4 ix_NoPlacing5 : Value} {iy_NoPlacing1 iy_NoPlacing2 : Option Addr} {iz_NoPlacing : Array (Option Value)}
    (a__law_take : PySem.W.nsIn K mainGlobals "_law_take" = some (some (.ref f__law_take)))
    (l__law_take : K.lookup f__law_take = some ⟨oc__law_take, od__law_take, .func (PySem.W.fnOf "_law_take" "_law_take" (defArgs st__law_take) (defBody st__law_take) (defScope st__law_take) .none kV__law_take dc__law_take pm__law_take an__law_take cd__law_take ct__law_take), sl__law_take⟩)
    (c__law_take : PySem.W.codeIn K cd__law_take "_law_take" = true)
    (k__law_take : PySem.W.keepIn K (.ref f__law_take) = true)
    (a__law_pick : PySem.W.nsIn K mainGlobals "_law_pick" = some (some (.ref f__law_pick)))
    (l__law_pick : K.lookup f__law_pick = some ⟨oc__law_pick, od__law_pick, .func (PySem.W.fnOf "_law_pick" "_law_pick" (defArgs st__law_pick) (defBody st__law_pick) (defScope st__law_pick) .none kV__law_pick dc__law_pick pm__law_pick an__law_pick cd__law_pick ct__law_pick), sl__law_pick⟩)
    (c__law_pick : PySem.W.codeIn K cd__law_pick "_law_pick" = true)
    (k__law_pick : PySem.W.keepIn K (.ref f__law_pick) = true)
    (a__law_things : PySem.W.nsIn K mainGlobals "_law_things" = some (some (.ref f__law_things)))
    (l__law_things : K.lookup f__law_things = some ⟨oc__law_things, od__law_things, .func (PySem.W.fnOf "_law_things" "_law_things" (defArgs st__law_things) (defBody st__law_things) (defScope st__law_things) .none kV__law_things dc__law_things pm__law_things an__law_things cd__law_things ct__law_things), sl__law_things⟩)
    (c__law_things : PySem.W.codeIn K cd__law_things "_law_things" = true)
    (k__law_things : PySem.W.keepIn K (.ref f__law_things) = true)
    (a__law_made : PySem.W.nsIn K mainGlobals "_law_made" = some (some (.ref f__law_made)))
    (l__law_made : K.lookup f__law_made = some ⟨oc__law_made, od__law_made, .func (PySem.W.fnOf "_law_made" "_law_made" (defArgs st__law_made) (defBody st__law_made) (defScope st__law_made) .none kV__law_made dc__law_made pm__law_made an__law_made cd__law_made ct__law_made), sl__law_made⟩)
    (c__law_made : PySem.W.codeIn K cd__law_made "_law_made" = true)
    (k__law_made : PySem.W.keepIn K (.ref f__law_made) = true)
    (a__law_hand : PySem.W.nsIn K mainGlobals "_law_hand" = some (some (.ref f__law_hand)))
    (l__law_hand : K.lookup f__law_hand = some ⟨oc__law_hand, od__law_hand, .func (PySem.W.fnOf "_law_hand" "_law_hand" (defArgs st__law_hand) (defBody st__law_hand) (defScope st__law_hand) .none kV__law_hand dc__law_hand pm__law_hand an__law_hand cd__law_hand ct__law_hand), sl__law_hand⟩)
    (c__law_hand : PySem.W.codeIn K cd__law_hand "_law_hand" = true)
    (k__law_hand : PySem.W.keepIn K (.ref f__law_hand) = true)
    (a__law_raised : PySem.W.nsIn K mainGlobals "_law_raised" = some (some (.ref f__law_raised)))
    (l__law_raised : K.lookup f__law_raised = some ⟨oc__law_raised, od__law_raised, .func (PySem.W.fnOf "_law_raised" "_law_raised" (defArgs st__law_raised) (defBody st__law_raised) (defScope st__law_raised) .none kV__law_raised dc__law_raised pm__law_raised an__law_raised cd__law_raised ct__law_raised), sl__law_raised⟩)
    (c__law_raised : PySem.W.codeIn K cd__law_raised "_law_raised" = true)
    (k__law_raised : PySem.W.keepIn K (.ref f__law_raised) = true)
    (a__law_values_right : PySem.W.nsIn K mainGlobals "_law_values_right" = some (some (.ref f__law_values_right)))
    (l__law_values_right : K.lookup f__law_values_right = some ⟨oc__law_values_right, od__law_values_right, .func (PySem.W.fnOf "_law_values_right" "_law_values_right" (defArgs st__law_values_right) (defBody st__law_values_right) (defScope st__law_values_right) .none kV__law_values_right dc__law_values_right pm__law_values_right an__law_values_right cd__law_values_right ct__law_values_right), sl__law_values_right⟩)
    (c__law_values_right : PySem.W.codeIn K cd__law_values_right "_law_values_right" = true)
    (k__law_values_right : PySem.W.keepIn K (.ref f__law_values_right) = true)
    (a__law_classes_right : PySem.W.nsIn K mainGlobals "_law_classes_right" = some (some (.ref f__law_classes_right)))
    (l__law_classes_right : K.lookup f__law_classes_right = some ⟨oc__law_classes_right, od__law_classes_right, .func (PySem.W.fnOf "_law_classes_right" "_law_classes_right" (defArgs st__law_classes_right) (defBody st__law_classes_right) (defScope st__law_classes_right) .none kV__law_classes_right dc__law_classes_right pm__law_classes_right an__law_classes_right cd__law_classes_right ct__law_classes_right), sl__law_classes_right⟩)
    (c__law_classes_right : PySem.W.codeIn K cd__law_classes_right "_law_classes_right" = true)
    (k__law_classes_right : PySem.W.keepIn K (.ref f__law_classes_right) = true)
    (a_law : PySem.W.nsIn K mainGlobals "law" = some (some (.ref f_law)))
    (l_law : K.lookup f_law = some ⟨oc_law, od_law, .func (PySem.W.fnOf "law" "law" (defArgs st_law) (defBody st_law) (defScope st_law) .none kV_law dc_law pm_law an_law cd_law ct_law), sl_law⟩)
    (c_law : PySem.W.codeIn K cd_law "law" = true)
    (k_law : PySem.W.keepIn K (.ref f_law) = true)
    (aC_Halted : PySem.W.nsIn K mainGlobals "Halted" = some (some (.ref C_Halted)))
    (aC_Missing : PySem.W.nsIn K mainGlobals "Missing" = some (some (.ref C_Missing)))
    (aC_NoPlacing : PySem.W.nsIn K mainGlobals "NoPlacing" = some (some (.ref C_NoPlacing)))
    (aC_NoProgram : PySem.W.nsIn K mainGlobals "NoProgram" = some (some (.ref C_NoProgram)))
    (aC_Nothing : PySem.W.nsIn K mainGlobals "Nothing" = some (some (.ref C_Nothing)))
    (aC_Refused : PySem.W.nsIn K mainGlobals "Refused" = some (some (.ref C_Refused)))
    (xa_NoText : PySem.W.nsIn K mainGlobals "NoText" = some (some (.ref C_NoText)))
    (xL_NoText : K.lookup C_NoText = some (PySem.excClassObj nm_NoText qq_NoText C_NoText NN_NoText bs_NoText [.ref C_Refused, .type "ValueError", .type "Exception", .type "BaseException", .type "object"] true sn_NoText su_NoText ab_NoText co_NoText dd_NoText m0_NoText m1_NoText m2_NoText m3_NoText m5_NoText "ValueError.__new__"))
    (xsa_NoText : PySem.W.findIn K (.ref C_NoText) "__setattr__" = some (some (.builtin "object.__setattr__")))
    (xga_NoText : PySem.W.findIn K (.ref C_NoText) "__getattribute__" = some (some (.builtin "BaseException.__getattribute__")))
    (xgg_NoText : PySem.W.findIn K (.ref C_NoText) "__getattr__" = some none)
    (xnb_NoText : PySem.W.findIn K (.ref C_NoText) "line" = some none)
    (xa1_NoText : PySem.W.findIn K (.ref C_NoText) "__init__" = some (some (.ref i_NoText)))
    (xt1_NoText : PySem.W.typeIn K (.ref i_NoText) = some (.type "function"))
    (xl1_NoText : K.lookup i_NoText = some ⟨ix_NoText5, iy_NoText2, .func (PySem.W.fnOf "__init__" "NoText.__init__" (PySem.ExcT.iA "line" ⟨14, 17, 14, 21⟩ ⟨14, 23, 14, 27⟩) (PySem.ExcT.iB "line" ⟨15, 8, 15, 12⟩ ⟨15, 8, 15, 17⟩ ⟨15, 20, 15, 24⟩ ⟨15, 8, 15, 24⟩) (PySem.ExcT.iS "line") .none .none ix_NoText1 ix_NoText2 iy_NoText1 ix_NoText3 ix_NoText4), iz_NoText⟩)
    (xc1_NoText : PySem.W.codeIn K ix_NoText3 "NoText.__init__" = true)
    (xkC_NoText : PySem.W.keepIn K (.ref C_NoText) = true)
    (xeC_NoText : PySem.W.subIn K (.ref C_NoText) (.type "BaseException") = some true)
    (xtC_NoText : PySem.W.typeIn K (.ref C_NoText) = some (.type "type"))
    (xhC_NoText : PySem.W.hasDictIn K C_NoText = true)
    (xa_NoEdit : PySem.W.nsIn K mainGlobals "NoEdit" = some (some (.ref C_NoEdit)))
    (xL_NoEdit : K.lookup C_NoEdit = some (PySem.excClassObj nm_NoEdit qq_NoEdit C_NoEdit NN_NoEdit bs_NoEdit [.ref C_Refused, .type "ValueError", .type "Exception", .type "BaseException", .type "object"] true sn_NoEdit su_NoEdit ab_NoEdit co_NoEdit dd_NoEdit m0_NoEdit m1_NoEdit m2_NoEdit m3_NoEdit m5_NoEdit "ValueError.__new__"))
    (xsa_NoEdit : PySem.W.findIn K (.ref C_NoEdit) "__setattr__" = some (some (.builtin "object.__setattr__")))
    (xga_NoEdit : PySem.W.findIn K (.ref C_NoEdit) "__getattribute__" = some (some (.builtin "BaseException.__getattribute__")))
    (xgg_NoEdit : PySem.W.findIn K (.ref C_NoEdit) "__getattr__" = some none)
    (xnb_NoEdit : PySem.W.findIn K (.ref C_NoEdit) "thing" = some none)
    (xa1_NoEdit : PySem.W.findIn K (.ref C_NoEdit) "__init__" = some (some (.ref i_NoEdit)))
    (xt1_NoEdit : PySem.W.typeIn K (.ref i_NoEdit) = some (.type "function"))
    (xl1_NoEdit : K.lookup i_NoEdit = some ⟨ix_NoEdit5, iy_NoEdit2, .func (PySem.W.fnOf "__init__" "NoEdit.__init__" (PySem.ExcT.iA "thing" ⟨23, 17, 23, 21⟩ ⟨23, 23, 23, 28⟩) (PySem.ExcT.iB "thing" ⟨24, 8, 24, 12⟩ ⟨24, 8, 24, 18⟩ ⟨24, 21, 24, 26⟩ ⟨24, 8, 24, 26⟩) (PySem.ExcT.iS "thing") .none .none ix_NoEdit1 ix_NoEdit2 iy_NoEdit1 ix_NoEdit3 ix_NoEdit4), iz_NoEdit⟩)
    (xc1_NoEdit : PySem.W.codeIn K ix_NoEdit3 "NoEdit.__init__" = true)
    (xkC_NoEdit : PySem.W.keepIn K (.ref C_NoEdit) = true)
    (xeC_NoEdit : PySem.W.subIn K (.ref C_NoEdit) (.type "BaseException") = some true)
    (xtC_NoEdit : PySem.W.typeIn K (.ref C_NoEdit) = some (.type "type"))
    (xhC_NoEdit : PySem.W.hasDictIn K C_NoEdit = true)
    (xa_NoLine : PySem.W.nsIn K mainGlobals "NoLine" = some (some (.ref C_NoLine)))
    (xL_NoLine : K.lookup C_NoLine = some (PySem.excClassObj nm_NoLine qq_NoLine C_NoLine NN_NoLine bs_NoLine [.ref C_Refused, .type "ValueError", .type "Exception", .type "BaseException", .type "object"] true sn_NoLine su_NoLine ab_NoLine co_NoLine dd_NoLine m0_NoLine m1_NoLine m2_NoLine m3_NoLine m5_NoLine "ValueError.__new__"))
    (xsa_NoLine : PySem.W.findIn K (.ref C_NoLine) "__setattr__" = some (some (.builtin "object.__setattr__")))
    (xga_NoLine : PySem.W.findIn K (.ref C_NoLine) "__getattribute__" = some (some (.builtin "BaseException.__getattribute__")))
    (xgg_NoLine : PySem.W.findIn K (.ref C_NoLine) "__getattr__" = some none)
    (xnb_NoLine : PySem.W.findIn K (.ref C_NoLine) "line" = some none)
    (xa1_NoLine : PySem.W.findIn K (.ref C_NoLine) "__init__" = some (some (.ref i_NoLine)))
    (xt1_NoLine : PySem.W.typeIn K (.ref i_NoLine) = some (.type "function"))
    (xl1_NoLine : K.lookup i_NoLine = some ⟨ix_NoLine5, iy_NoLine2, .func (PySem.W.fnOf "__init__" "NoLine.__init__" (PySem.ExcT.iA "line" ⟨27, 17, 27, 21⟩ ⟨27, 23, 27, 27⟩) (PySem.ExcT.iB "line" ⟨28, 8, 28, 12⟩ ⟨28, 8, 28, 17⟩ ⟨28, 20, 28, 24⟩ ⟨28, 8, 28, 24⟩) (PySem.ExcT.iS "line") .none .none ix_NoLine1 ix_NoLine2 iy_NoLine1 ix_NoLine3 ix_NoLine4), iz_NoLine⟩)
    (xc1_NoLine : PySem.W.codeIn K ix_NoLine3 "NoLine.__init__" = true)
    (xkC_NoLine : PySem.W.keepIn K (.ref C_NoLine) = true)
    (xeC_NoLine : PySem.W.subIn K (.ref C_NoLine) (.type "BaseException") = some true)
    (xtC_NoLine : PySem.W.typeIn K (.ref C_NoLine) = some (.type "type"))
    (xhC_NoLine : PySem.W.hasDictIn K C_NoLine = true)
    (xa_Taken : PySem.W.nsIn K mainGlobals "Taken" = some (some (.ref C_Taken)))
    (xL_Taken : K.lookup C_Taken = some (PySem.excClassObj nm_Taken qq_Taken C_Taken NN_Taken bs_Taken [.ref C_Refused, .type "ValueError", .type "Exception", .type "BaseException", .type "object"] true sn_Taken su_Taken ab_Taken co_Taken dd_Taken m0_Taken m1_Taken m2_Taken m3_Taken m5_Taken "ValueError.__new__"))
    (xsa_Taken : PySem.W.findIn K (.ref C_Taken) "__setattr__" = some (some (.builtin "object.__setattr__")))
    (xga_Taken : PySem.W.findIn K (.ref C_Taken) "__getattribute__" = some (some (.builtin "BaseException.__getattribute__")))
    (xgg_Taken : PySem.W.findIn K (.ref C_Taken) "__getattr__" = some none)
    (xnb_Taken : PySem.W.findIn K (.ref C_Taken) "thing" = some none)
    (xa1_Taken : PySem.W.findIn K (.ref C_Taken) "__init__" = some (some (.ref i_Taken)))
    (xt1_Taken : PySem.W.typeIn K (.ref i_Taken) = some (.type "function"))
    (xl1_Taken : K.lookup i_Taken = some ⟨ix_Taken5, iy_Taken2, .func (PySem.W.fnOf "__init__" "Taken.__init__" (PySem.ExcT.iA "thing" ⟨31, 17, 31, 21⟩ ⟨31, 23, 31, 28⟩) (PySem.ExcT.iB "thing" ⟨32, 8, 32, 12⟩ ⟨32, 8, 32, 18⟩ ⟨32, 21, 32, 26⟩ ⟨32, 8, 32, 26⟩) (PySem.ExcT.iS "thing") .none .none ix_Taken1 ix_Taken2 iy_Taken1 ix_Taken3 ix_Taken4), iz_Taken⟩)
    (xc1_Taken : PySem.W.codeIn K ix_Taken3 "Taken.__init__" = true)
    (xkC_Taken : PySem.W.keepIn K (.ref C_Taken) = true)
    (xeC_Taken : PySem.W.subIn K (.ref C_Taken) (.type "BaseException") = some true)
    (xtC_Taken : PySem.W.typeIn K (.ref C_Taken) = some (.type "type"))
    (xhC_Taken : PySem.W.hasDictIn K C_Taken = true)
    (xa_Held : PySem.W.nsIn K mainGlobals "Held" = some (some (.ref C_Held)))
    (xL_Held : K.lookup C_Held = some (PySem.excClassObj nm_Held qq_Held C_Held NN_Held bs_Held [.ref C_Refused, .type "ValueError", .type "Exception", .type "BaseException", .type "object"] true sn_Held su_Held ab_Held co_Held dd_Held m0_Held m1_Held m2_Held m3_Held m5_Held "ValueError.__new__"))
    (xsa_Held : PySem.W.findIn K (.ref C_Held) "__setattr__" = some (some (.builtin "object.__setattr__")))
    (xga_Held : PySem.W.findIn K (.ref C_Held) "__getattribute__" = some (some (.builtin "BaseException.__getattribute__")))
    (xgg_Held : PySem.W.findIn K (.ref C_Held) "__getattr__" = some none)
    (xnb_Held : PySem.W.findIn K (.ref C_Held) "name" = some none)
    (xa1_Held : PySem.W.findIn K (.ref C_Held) "__init__" = some (some (.ref i_Held)))
    (xt1_Held : PySem.W.typeIn K (.ref i_Held) = some (.type "function"))
    (xl1_Held : K.lookup i_Held = some ⟨ix_Held5, iy_Held2, .func (PySem.W.fnOf "__init__" "Held.__init__" (PySem.ExcT.iA "name" ⟨35, 17, 35, 21⟩ ⟨35, 23, 35, 27⟩) (PySem.ExcT.iB "name" ⟨36, 8, 36, 12⟩ ⟨36, 8, 36, 17⟩ ⟨36, 20, 36, 24⟩ ⟨36, 8, 36, 24⟩) (PySem.ExcT.iS "name") .none .none ix_Held1 ix_Held2 iy_Held1 ix_Held3 ix_Held4), iz_Held⟩)
    (xc1_Held : PySem.W.codeIn K ix_Held3 "Held.__init__" = true)
    (xkC_Held : PySem.W.keepIn K (.ref C_Held) = true)
    (xeC_Held : PySem.W.subIn K (.ref C_Held) (.type "BaseException") = some true)
    (xtC_Held : PySem.W.typeIn K (.ref C_Held) = some (.type "type"))
    (xhC_Held : PySem.W.hasDictIn K C_Held = true)
    (xa_Full : PySem.W.nsIn K mainGlobals "Full" = some (some (.ref C_Full)))
    (xL_Full : K.lookup C_Full = some (PySem.excClassObj nm_Full qq_Full C_Full NN_Full bs_Full [.ref C_Refused, .type "ValueError", .type "Exception", .type "BaseException", .type "object"] true sn_Full su_Full ab_Full co_Full dd_Full m0_Full m1_Full m2_Full m3_Full m5_Full "ValueError.__new__"))
    (xsa_Full : PySem.W.findIn K (.ref C_Full) "__setattr__" = some (some (.builtin "object.__setattr__")))
    (xga_Full : PySem.W.findIn K (.ref C_Full) "__getattribute__" = some (some (.builtin "BaseException.__getattribute__")))
    (xgg_Full : PySem.W.findIn K (.ref C_Full) "__getattr__" = some none)
    (xnb_Full : PySem.W.findIn K (.ref C_Full) "what" = some none)
    (xa1_Full : PySem.W.findIn K (.ref C_Full) "__init__" = some (some (.ref i_Full)))
    (xt1_Full : PySem.W.typeIn K (.ref i_Full) = some (.type "function"))
    (xl1_Full : K.lookup i_Full = some ⟨ix_Full5, iy_Full2, .func (PySem.W.fnOf "__init__" "Full.__init__" (PySem.ExcT.iA "what" ⟨39, 17, 39, 21⟩ ⟨39, 23, 39, 27⟩) (PySem.ExcT.iB "what" ⟨40, 8, 40, 12⟩ ⟨40, 8, 40, 17⟩ ⟨40, 20, 40, 24⟩ ⟨40, 8, 40, 24⟩) (PySem.ExcT.iS "what") .none .none ix_Full1 ix_Full2 iy_Full1 ix_Full3 ix_Full4), iz_Full⟩)
    (xc1_Full : PySem.W.codeIn K ix_Full3 "Full.__init__" = true)
    (xkC_Full : PySem.W.keepIn K (.ref C_Full) = true)
    (xeC_Full : PySem.W.subIn K (.ref C_Full) (.type "BaseException") = some true)
    (xtC_Full : PySem.W.typeIn K (.ref C_Full) = some (.type "type"))
    (xhC_Full : PySem.W.hasDictIn K C_Full = true)
    (xa_NoBlock : PySem.W.nsIn K mainGlobals "NoBlock" = some (some (.ref C_NoBlock)))
    (xL_NoBlock : K.lookup C_NoBlock = some (PySem.excClassObj nm_NoBlock qq_NoBlock C_NoBlock NN_NoBlock bs_NoBlock [.ref C_Missing, .type "LookupError", .type "Exception", .type "BaseException", .type "object"] true sn_NoBlock su_NoBlock ab_NoBlock co_NoBlock dd_NoBlock m0_NoBlock m1_NoBlock m2_NoBlock m3_NoBlock m5_NoBlock "LookupError.__new__"))
    (xsa_NoBlock : PySem.W.findIn K (.ref C_NoBlock) "__setattr__" = some (some (.builtin "object.__setattr__")))
    (xga_NoBlock : PySem.W.findIn K (.ref C_NoBlock) "__getattribute__" = some (some (.builtin "BaseException.__getattribute__")))
    (xgg_NoBlock : PySem.W.findIn K (.ref C_NoBlock) "__getattr__" = some none)
    (xnb_NoBlock : PySem.W.findIn K (.ref C_NoBlock) "name" = some none)
    (xa1_NoBlock : PySem.W.findIn K (.ref C_NoBlock) "__init__" = some (some (.ref i_NoBlock)))
    (xt1_NoBlock : PySem.W.typeIn K (.ref i_NoBlock) = some (.type "function"))
    (xl1_NoBlock : K.lookup i_NoBlock = some ⟨ix_NoBlock5, iy_NoBlock2, .func (PySem.W.fnOf "__init__" "NoBlock.__init__" (PySem.ExcT.iA "name" ⟨43, 17, 43, 21⟩ ⟨43, 23, 43, 27⟩) (PySem.ExcT.iB "name" ⟨44, 8, 44, 12⟩ ⟨44, 8, 44, 17⟩ ⟨44, 20, 44, 24⟩ ⟨44, 8, 44, 24⟩) (PySem.ExcT.iS "name") .none .none ix_NoBlock1 ix_NoBlock2 iy_NoBlock1 ix_NoBlock3 ix_NoBlock4), iz_NoBlock⟩)
    (xc1_NoBlock : PySem.W.codeIn K ix_NoBlock3 "NoBlock.__init__" = true)
    (xkC_NoBlock : PySem.W.keepIn K (.ref C_NoBlock) = true)
    (xeC_NoBlock : PySem.W.subIn K (.ref C_NoBlock) (.type "BaseException") = some true)
    (xtC_NoBlock : PySem.W.typeIn K (.ref C_NoBlock) = some (.type "type"))
    (xhC_NoBlock : PySem.W.hasDictIn K C_NoBlock = true)
    (xa_NoRow : PySem.W.nsIn K mainGlobals "NoRow" = some (some (.ref C_NoRow)))
    (xL_NoRow : K.lookup C_NoRow = some (PySem.excClassObj nm_NoRow qq_NoRow C_NoRow NN_NoRow bs_NoRow [.ref C_Missing, .type "LookupError", .type "Exception", .type "BaseException", .type "object"] true sn_NoRow su_NoRow ab_NoRow co_NoRow dd_NoRow m0_NoRow m1_NoRow m2_NoRow m3_NoRow m5_NoRow "LookupError.__new__"))
    (xsa_NoRow : PySem.W.findIn K (.ref C_NoRow) "__setattr__" = some (some (.builtin "object.__setattr__")))
    (xga_NoRow : PySem.W.findIn K (.ref C_NoRow) "__getattribute__" = some (some (.builtin "BaseException.__getattribute__")))
    (xgg_NoRow : PySem.W.findIn K (.ref C_NoRow) "__getattr__" = some none)
    (xnb_NoRow : PySem.W.findIn K (.ref C_NoRow) "number" = some none)
    (xa1_NoRow : PySem.W.findIn K (.ref C_NoRow) "__init__" = some (some (.ref i_NoRow)))
    (xt1_NoRow : PySem.W.typeIn K (.ref i_NoRow) = some (.type "function"))
    (xl1_NoRow : K.lookup i_NoRow = some ⟨ix_NoRow5, iy_NoRow2, .func (PySem.W.fnOf "__init__" "NoRow.__init__" (PySem.ExcT.iA "number" ⟨47, 17, 47, 21⟩ ⟨47, 23, 47, 29⟩) (PySem.ExcT.iB "number" ⟨48, 8, 48, 12⟩ ⟨48, 8, 48, 19⟩ ⟨48, 22, 48, 28⟩ ⟨48, 8, 48, 28⟩) (PySem.ExcT.iS "number") .none .none ix_NoRow1 ix_NoRow2 iy_NoRow1 ix_NoRow3 ix_NoRow4), iz_NoRow⟩)
    (xc1_NoRow : PySem.W.codeIn K ix_NoRow3 "NoRow.__init__" = true)
    (xkC_NoRow : PySem.W.keepIn K (.ref C_NoRow) = true)
    (xeC_NoRow : PySem.W.subIn K (.ref C_NoRow) (.type "BaseException") = some true)
    (xtC_NoRow : PySem.W.typeIn K (.ref C_NoRow) = some (.type "type"))
    (xhC_NoRow : PySem.W.hasDictIn K C_NoRow = true)
    (xa_NoPlace : PySem.W.nsIn K mainGlobals "NoPlace" = some (some (.ref C_NoPlace)))
    (xL_NoPlace : K.lookup C_NoPlace = some (PySem.excClassObj nm_NoPlace qq_NoPlace C_NoPlace NN_NoPlace bs_NoPlace [.ref C_Missing, .type "LookupError", .type "Exception", .type "BaseException", .type "object"] true sn_NoPlace su_NoPlace ab_NoPlace co_NoPlace dd_NoPlace m0_NoPlace m1_NoPlace m2_NoPlace m3_NoPlace m5_NoPlace "LookupError.__new__"))
    (xsa_NoPlace : PySem.W.findIn K (.ref C_NoPlace) "__setattr__" = some (some (.builtin "object.__setattr__")))
    (xga_NoPlace : PySem.W.findIn K (.ref C_NoPlace) "__getattribute__" = some (some (.builtin "BaseException.__getattribute__")))
    (xgg_NoPlace : PySem.W.findIn K (.ref C_NoPlace) "__getattr__" = some none)
    (xnb_NoPlace : PySem.W.findIn K (.ref C_NoPlace) "number" = some none)
    (xa1_NoPlace : PySem.W.findIn K (.ref C_NoPlace) "__init__" = some (some (.ref i_NoPlace)))
    (xt1_NoPlace : PySem.W.typeIn K (.ref i_NoPlace) = some (.type "function"))
    (xl1_NoPlace : K.lookup i_NoPlace = some ⟨ix_NoPlace5, iy_NoPlace2, .func (PySem.W.fnOf "__init__" "NoPlace.__init__" (PySem.ExcT.iA "number" ⟨51, 17, 51, 21⟩ ⟨51, 23, 51, 29⟩) (PySem.ExcT.iB "number" ⟨52, 8, 52, 12⟩ ⟨52, 8, 52, 19⟩ ⟨52, 22, 52, 28⟩ ⟨52, 8, 52, 28⟩) (PySem.ExcT.iS "number") .none .none ix_NoPlace1 ix_NoPlace2 iy_NoPlace1 ix_NoPlace3 ix_NoPlace4), iz_NoPlace⟩)
    (xc1_NoPlace : PySem.W.codeIn K ix_NoPlace3 "NoPlace.__init__" = true)
    (xkC_NoPlace : PySem.W.keepIn K (.ref C_NoPlace) = true)
    (xeC_NoPlace : PySem.W.subIn K (.ref C_NoPlace) (.type "BaseException") = some true)
    (xtC_NoPlace : PySem.W.typeIn K (.ref C_NoPlace) = some (.type "type"))
    (xhC_NoPlace : PySem.W.hasDictIn K C_NoPlace = true)
    (xa_Stopped : PySem.W.nsIn K mainGlobals "Stopped" = some (some (.ref C_Stopped)))
    (xL_Stopped : K.lookup C_Stopped = some (PySem.excClassObj nm_Stopped qq_Stopped C_Stopped NN_Stopped bs_Stopped [.ref C_Halted, .type "RuntimeError", .type "Exception", .type "BaseException", .type "object"] true sn_Stopped su_Stopped ab_Stopped co_Stopped dd_Stopped m0_Stopped m1_Stopped m2_Stopped m3_Stopped m5_Stopped "RuntimeError.__new__"))
    (xsa_Stopped : PySem.W.findIn K (.ref C_Stopped) "__setattr__" = some (some (.builtin "object.__setattr__")))
    (xga_Stopped : PySem.W.findIn K (.ref C_Stopped) "__getattribute__" = some (some (.builtin "BaseException.__getattribute__")))
    (xgg_Stopped : PySem.W.findIn K (.ref C_Stopped) "__getattr__" = some none)
    (xnb_Stopped : PySem.W.findIn K (.ref C_Stopped) "number" = some none)
    (xa1_Stopped : PySem.W.findIn K (.ref C_Stopped) "__init__" = some (some (.ref i_Stopped)))
    (xt1_Stopped : PySem.W.typeIn K (.ref i_Stopped) = some (.type "function"))
    (xl1_Stopped : K.lookup i_Stopped = some ⟨ix_Stopped5, iy_Stopped2, .func (PySem.W.fnOf "__init__" "Stopped.__init__" (PySem.ExcT.iA "number" ⟨55, 17, 55, 21⟩ ⟨55, 23, 55, 29⟩) (PySem.ExcT.iB "number" ⟨56, 8, 56, 12⟩ ⟨56, 8, 56, 19⟩ ⟨56, 22, 56, 28⟩ ⟨56, 8, 56, 28⟩) (PySem.ExcT.iS "number") .none .none ix_Stopped1 ix_Stopped2 iy_Stopped1 ix_Stopped3 ix_Stopped4), iz_Stopped⟩)
    (xc1_Stopped : PySem.W.codeIn K ix_Stopped3 "Stopped.__init__" = true)
    (xkC_Stopped : PySem.W.keepIn K (.ref C_Stopped) = true)
    (xeC_Stopped : PySem.W.subIn K (.ref C_Stopped) (.type "BaseException") = some true)
    (xtC_Stopped : PySem.W.typeIn K (.ref C_Stopped) = some (.type "type"))
    (xhC_Stopped : PySem.W.hasDictIn K C_Stopped = true)
    (xL_NoPlacing : K.lookup C_NoPlacing = some (PySem.excClassObj nm_NoPlacing qq_NoPlacing C_NoPlacing NN_NoPlacing bs_NoPlacing [.ref C_Refused, .type "ValueError", .type "Exception", .type "BaseException", .type "object"] true sn_NoPlacing su_NoPlacing ab_NoPlacing co_NoPlacing dd_NoPlacing m0_NoPlacing m1_NoPlacing m2_NoPlacing m3_NoPlacing m5_NoPlacing "ValueError.__new__"))
    (xsa_NoPlacing : PySem.W.findIn K (.ref C_NoPlacing) "__setattr__" = some (some (.builtin "object.__setattr__")))
    (xnb1_NoPlacing : PySem.W.findIn K (.ref C_NoPlacing) "block" = some none)
    (xnb2_NoPlacing : PySem.W.findIn K (.ref C_NoPlacing) "name" = some none)
    (xa1_NoPlacing : PySem.W.findIn K (.ref C_NoPlacing) "__init__" = some (some (.ref i_NoPlacing)))
    (xt1_NoPlacing : PySem.W.typeIn K (.ref i_NoPlacing) = some (.type "function"))
    (xl1_NoPlacing : K.lookup i_NoPlacing = some ⟨ix_NoPlacing5, iy_NoPlacing2, .func (PySem.W.fnOf "__init__" "NoPlacing.__init__" (PySem.ExcT.iA2 "block" "name" ⟨18, 17, 18, 21⟩ ⟨18, 23, 18, 28⟩ ⟨18, 30, 18, 34⟩) (PySem.ExcT.iB2 "block" "name" ⟨19, 8, 19, 12⟩ ⟨19, 8, 19, 18⟩ ⟨19, 21, 19, 26⟩ ⟨19, 8, 19, 26⟩ ⟨20, 8, 20, 12⟩ ⟨20, 8, 20, 17⟩ ⟨20, 20, 20, 24⟩ ⟨20, 8, 20, 24⟩) (PySem.ExcT.iS2 "block" "name") .none .none ix_NoPlacing1 ix_NoPlacing2 iy_NoPlacing1 ix_NoPlacing3 ix_NoPlacing4), iz_NoPlacing⟩)
    (xc1_NoPlacing : PySem.W.codeIn K ix_NoPlacing3 "NoPlacing.__init__" = true)
    (xe_NoProgram : PySem.W.excIn K C_NoProgram [.type "ValueError", .type "Exception", .type "BaseException", .type "object"] "ValueError.__new__" = true)
    (xe_Nothing : PySem.W.excIn K C_Nothing [.type "ValueError", .type "Exception", .type "BaseException", .type "object"] "ValueError.__new__" = true)
    (xga_NoPlacing : PySem.W.findIn K (.ref C_NoPlacing) "__getattribute__" = some (some (.builtin "BaseException.__getattribute__")))
    (xgg_NoPlacing : PySem.W.findIn K (.ref C_NoPlacing) "__getattr__" = some none)
    (xkC_NoPlacing : PySem.W.keepIn K (.ref C_NoPlacing) = true)
    (xhC_NoPlacing : PySem.W.hasDictIn K C_NoPlacing = true)
    (xga_NoProgram : PySem.W.findIn K (.ref C_NoProgram) "__getattribute__" = some (some (.builtin "BaseException.__getattribute__")))
    (xgg_NoProgram : PySem.W.findIn K (.ref C_NoProgram) "__getattr__" = some none)
    (xkC_NoProgram : PySem.W.keepIn K (.ref C_NoProgram) = true)
    (xhC_NoProgram : PySem.W.hasDictIn K C_NoProgram = true)
    (xga_Nothing : PySem.W.findIn K (.ref C_Nothing) "__getattribute__" = some (some (.builtin "BaseException.__getattribute__")))
    (xgg_Nothing : PySem.W.findIn K (.ref C_Nothing) "__getattr__" = some none)
    (xkC_Nothing : PySem.W.keepIn K (.ref C_Nothing) = true)
    (xhC_Nothing : PySem.W.hasDictIn K C_Nothing = true)
    (xsn_Halted_Stopped : PySem.W.subIn K (.ref C_Stopped) (.ref C_Halted) = some true)
    (xsn_Halted_Held : PySem.W.subIn K (.ref C_Held) (.ref C_Halted) = some false)
    (xsn_Halted_NoRow : PySem.W.subIn K (.ref C_NoRow) (.ref C_Halted) = some false)
    (xsn_Missing_Stopped : PySem.W.subIn K (.ref C_Stopped) (.ref C_Missing) = some false)
    (xsn_Missing_Held : PySem.W.subIn K (.ref C_Held) (.ref C_Missing) = some false)
    (xsn_Missing_NoRow : PySem.W.subIn K (.ref C_NoRow) (.ref C_Missing) = some true)
    (xsn_Refused_Stopped : PySem.W.subIn K (.ref C_Stopped) (.ref C_Refused) = some false)
    (xsn_Refused_Held : PySem.W.subIn K (.ref C_Held) (.ref C_Refused) = some true)
    (xsn_Refused_NoRow : PySem.W.subIn K (.ref C_NoRow) (.ref C_Refused) = some false)
    (xkb_LookupError_NoText : PySem.W.subIn K (.ref C_NoText) (.type "LookupError") = some false)
    (xkb_LookupError_NoPlacing : PySem.W.subIn K (.ref C_NoPlacing) (.type "LookupError") = some false)
    (xkb_LookupError_NoEdit : PySem.W.subIn K (.ref C_NoEdit) (.type "LookupError") = some false)
    (xkb_LookupError_NoLine : PySem.W.subIn K (.ref C_NoLine) (.type "LookupError") = some false)
    (xkb_LookupError_Taken : PySem.W.subIn K (.ref C_Taken) (.type "LookupError") = some false)
    (xkb_LookupError_Held : PySem.W.subIn K (.ref C_Held) (.type "LookupError") = some false)
    (xkb_LookupError_Full : PySem.W.subIn K (.ref C_Full) (.type "LookupError") = some false)
    (xkb_LookupError_NoBlock : PySem.W.subIn K (.ref C_NoBlock) (.type "LookupError") = some true)
    (xkb_LookupError_NoRow : PySem.W.subIn K (.ref C_NoRow) (.type "LookupError") = some true)
    (xkb_LookupError_NoPlace : PySem.W.subIn K (.ref C_NoPlace) (.type "LookupError") = some true)
    (xkb_LookupError_Stopped : PySem.W.subIn K (.ref C_Stopped) (.type "LookupError") = some false)
    (xkb_LookupError_NoProgram : PySem.W.subIn K (.ref C_NoProgram) (.type "LookupError") = some false)
    (xkb_LookupError_Nothing : PySem.W.subIn K (.ref C_Nothing) (.type "LookupError") = some false)
    (xkb_RuntimeError_NoText : PySem.W.subIn K (.ref C_NoText) (.type "RuntimeError") = some false)
    (xkb_RuntimeError_NoPlacing : PySem.W.subIn K (.ref C_NoPlacing) (.type "RuntimeError") = some false)
    (xkb_RuntimeError_NoEdit : PySem.W.subIn K (.ref C_NoEdit) (.type "RuntimeError") = some false)
    (xkb_RuntimeError_NoLine : PySem.W.subIn K (.ref C_NoLine) (.type "RuntimeError") = some false)
    (xkb_RuntimeError_Taken : PySem.W.subIn K (.ref C_Taken) (.type "RuntimeError") = some false)
    (xkb_RuntimeError_Held : PySem.W.subIn K (.ref C_Held) (.type "RuntimeError") = some false)
    (xkb_RuntimeError_Full : PySem.W.subIn K (.ref C_Full) (.type "RuntimeError") = some false)
    (xkb_RuntimeError_NoBlock : PySem.W.subIn K (.ref C_NoBlock) (.type "RuntimeError") = some false)
    (xkb_RuntimeError_NoRow : PySem.W.subIn K (.ref C_NoRow) (.type "RuntimeError") = some false)
    (xkb_RuntimeError_NoPlace : PySem.W.subIn K (.ref C_NoPlace) (.type "RuntimeError") = some false)
    (xkb_RuntimeError_Stopped : PySem.W.subIn K (.ref C_Stopped) (.type "RuntimeError") = some true)
    (xkb_RuntimeError_NoProgram : PySem.W.subIn K (.ref C_NoProgram) (.type "RuntimeError") = some false)
    (xkb_RuntimeError_Nothing : PySem.W.subIn K (.ref C_Nothing) (.type "RuntimeError") = some false)
    (xkb_ValueError_NoText : PySem.W.subIn K (.ref C_NoText) (.type "ValueError") = some true)
    (xkb_ValueError_NoPlacing : PySem.W.subIn K (.ref C_NoPlacing) (.type "ValueError") = some true)
    (xkb_ValueError_NoEdit : PySem.W.subIn K (.ref C_NoEdit) (.type "ValueError") = some true)
    (xkb_ValueError_NoLine : PySem.W.subIn K (.ref C_NoLine) (.type "ValueError") = some true)
    (xkb_ValueError_Taken : PySem.W.subIn K (.ref C_Taken) (.type "ValueError") = some true)
    (xkb_ValueError_Held : PySem.W.subIn K (.ref C_Held) (.type "ValueError") = some true)
    (xkb_ValueError_Full : PySem.W.subIn K (.ref C_Full) (.type "ValueError") = some true)
    (xkb_ValueError_NoBlock : PySem.W.subIn K (.ref C_NoBlock) (.type "ValueError") = some false)
    (xkb_ValueError_NoRow : PySem.W.subIn K (.ref C_NoRow) (.type "ValueError") = some false)
    (xkb_ValueError_NoPlace : PySem.W.subIn K (.ref C_NoPlace) (.type "ValueError") = some false)
    (xkb_ValueError_Stopped : PySem.W.subIn K (.ref C_Stopped) (.type "ValueError") = some false)
    (xkb_ValueError_NoProgram : PySem.W.subIn K (.ref C_NoProgram) (.type "ValueError") = some true)
    (xkb_ValueError_Nothing : PySem.W.subIn K (.ref C_Nothing) (.type "ValueError") = some true)
    (xiC_NoText : PySem.W.isClsIn K C_NoText = true)
    (xsC_NoText : PySem.W.subIn K (.ref C_NoText) (.ref C_NoText) = some true)
    (xiC_NoEdit : PySem.W.isClsIn K C_NoEdit = true)
    (xsC_NoEdit : PySem.W.subIn K (.ref C_NoEdit) (.ref C_NoEdit) = some true)
    (xiC_NoLine : PySem.W.isClsIn K C_NoLine = true)
    (xsC_NoLine : PySem.W.subIn K (.ref C_NoLine) (.ref C_NoLine) = some true)
    (xiC_Taken : PySem.W.isClsIn K C_Taken = true)
    (xsC_Taken : PySem.W.subIn K (.ref C_Taken) (.ref C_Taken) = some true)
    (xiC_Held : PySem.W.isClsIn K C_Held = true)
    (xsC_Held : PySem.W.subIn K (.ref C_Held) (.ref C_Held) = some true)
    (xiC_Full : PySem.W.isClsIn K C_Full = true)
    (xsC_Full : PySem.W.subIn K (.ref C_Full) (.ref C_Full) = some true)
    (xiC_NoBlock : PySem.W.isClsIn K C_NoBlock = true)
    (xsC_NoBlock : PySem.W.subIn K (.ref C_NoBlock) (.ref C_NoBlock) = some true)
    (xiC_NoRow : PySem.W.isClsIn K C_NoRow = true)
    (xsC_NoRow : PySem.W.subIn K (.ref C_NoRow) (.ref C_NoRow) = some true)
    (xiC_NoPlace : PySem.W.isClsIn K C_NoPlace = true)
    (xsC_NoPlace : PySem.W.subIn K (.ref C_NoPlace) (.ref C_NoPlace) = some true)
    (xiC_Stopped : PySem.W.isClsIn K C_Stopped = true)
    (xsC_Stopped : PySem.W.subIn K (.ref C_Stopped) (.ref C_Stopped) = some true)
    (xiC_Halted : PySem.W.isClsIn K C_Halted = true)
    (xsC_Halted : PySem.W.subIn K (.ref C_Halted) (.ref C_Halted) = some true)
    (xiC_Missing : PySem.W.isClsIn K C_Missing = true)
    (xsC_Missing : PySem.W.subIn K (.ref C_Missing) (.ref C_Missing) = some true)
    (xiC_NoPlacing : PySem.W.isClsIn K C_NoPlacing = true)
    (xsC_NoPlacing : PySem.W.subIn K (.ref C_NoPlacing) (.ref C_NoPlacing) = some true)
    (xiC_NoProgram : PySem.W.isClsIn K C_NoProgram = true)
    (xsC_NoProgram : PySem.W.subIn K (.ref C_NoProgram) (.ref C_NoProgram) = some true)
    (xiC_Nothing : PySem.W.isClsIn K C_Nothing = true)
    (xsC_Nothing : PySem.W.subIn K (.ref C_Nothing) (.ref C_Nothing) = some true)
    (xiC_Refused : PySem.W.isClsIn K C_Refused = true)
    (xsC_Refused : PySem.W.subIn K (.ref C_Refused) (.ref C_Refused) = some true)
    (xtC_Halted : PySem.W.typeIn K (.ref C_Halted) = some (.type "type"))
    (xeC_Halted : PySem.W.subIn K (.ref C_Halted) (.type "BaseException") = some true)
    (xtC_Missing : PySem.W.typeIn K (.ref C_Missing) = some (.type "type"))
    (xeC_Missing : PySem.W.subIn K (.ref C_Missing) (.type "BaseException") = some true)
    (xtC_NoPlacing : PySem.W.typeIn K (.ref C_NoPlacing) = some (.type "type"))
    (xeC_NoPlacing : PySem.W.subIn K (.ref C_NoPlacing) (.type "BaseException") = some true)
    (xtC_NoProgram : PySem.W.typeIn K (.ref C_NoProgram) = some (.type "type"))
    (xeC_NoProgram : PySem.W.subIn K (.ref C_NoProgram) (.type "BaseException") = some true)
    (xtC_Nothing : PySem.W.typeIn K (.ref C_Nothing) = some (.type "type"))
    (xeC_Nothing : PySem.W.subIn K (.ref C_Nothing) (.type "BaseException") = some true)
    (xtC_Refused : PySem.W.typeIn K (.ref C_Refused) = some (.type "type"))
    (xeC_Refused : PySem.W.subIn K (.ref C_Refused) (.type "BaseException") = some true)
    (xsp : PySem.W.specialIn K (.builtin "object.__class__") "__get__" = some (some (.builtin "getset_descriptor.__get__")))
    (xtk : PySem.W.takesIn K (.builtin "object.__class__") = some true)
    (xcl_NoText : PySem.W.findIn K (.ref C_NoText) "__class__" = some (some (.builtin "object.__class__")))
    (xmr_NoText : PySem.W.mroIn K C_NoText (.type "object") = some true)
    (xcl_NoPlacing : PySem.W.findIn K (.ref C_NoPlacing) "__class__" = some (some (.builtin "object.__class__")))
    (xmr_NoPlacing : PySem.W.mroIn K C_NoPlacing (.type "object") = some true)
    (xcl_NoEdit : PySem.W.findIn K (.ref C_NoEdit) "__class__" = some (some (.builtin "object.__class__")))
    (xmr_NoEdit : PySem.W.mroIn K C_NoEdit (.type "object") = some true)
    (xcl_NoLine : PySem.W.findIn K (.ref C_NoLine) "__class__" = some (some (.builtin "object.__class__")))
    (xmr_NoLine : PySem.W.mroIn K C_NoLine (.type "object") = some true)
    (xcl_Taken : PySem.W.findIn K (.ref C_Taken) "__class__" = some (some (.builtin "object.__class__")))
    (xmr_Taken : PySem.W.mroIn K C_Taken (.type "object") = some true)
    (xcl_Held : PySem.W.findIn K (.ref C_Held) "__class__" = some (some (.builtin "object.__class__")))
    (xmr_Held : PySem.W.mroIn K C_Held (.type "object") = some true)
    (xcl_Full : PySem.W.findIn K (.ref C_Full) "__class__" = some (some (.builtin "object.__class__")))
    (xmr_Full : PySem.W.mroIn K C_Full (.type "object") = some true)
    (xcl_NoBlock : PySem.W.findIn K (.ref C_NoBlock) "__class__" = some (some (.builtin "object.__class__")))
    (xmr_NoBlock : PySem.W.mroIn K C_NoBlock (.type "object") = some true)
    (xcl_NoRow : PySem.W.findIn K (.ref C_NoRow) "__class__" = some (some (.builtin "object.__class__")))
    (xmr_NoRow : PySem.W.mroIn K C_NoRow (.type "object") = some true)
    (xcl_NoPlace : PySem.W.findIn K (.ref C_NoPlace) "__class__" = some (some (.builtin "object.__class__")))
    (xmr_NoPlace : PySem.W.mroIn K C_NoPlace (.type "object") = some true)
    (xcl_Stopped : PySem.W.findIn K (.ref C_Stopped) "__class__" = some (some (.builtin "object.__class__")))
    (xmr_Stopped : PySem.W.mroIn K C_Stopped (.type "object") = some true)
    (xcl_NoProgram : PySem.W.findIn K (.ref C_NoProgram) "__class__" = some (some (.builtin "object.__class__")))
    (xmr_NoProgram : PySem.W.mroIn K C_NoProgram (.type "object") = some true)
    (xcl_Nothing : PySem.W.findIn K (.ref C_Nothing) "__class__" = some (some (.builtin "object.__class__")))
    (xmr_Nothing : PySem.W.mroIn K C_Nothing (.type "object") = some true)
    (xki_Full_NoText : PySem.W.subIn K (.ref C_NoText) (.ref C_Full) = some false)
    (xki_Full_NoPlacing : PySem.W.subIn K (.ref C_NoPlacing) (.ref C_Full) = some false)
    (xki_Full_NoEdit : PySem.W.subIn K (.ref C_NoEdit) (.ref C_Full) = some false)
    (xki_Full_NoLine : PySem.W.subIn K (.ref C_NoLine) (.ref C_Full) = some false)
    (xki_Full_Taken : PySem.W.subIn K (.ref C_Taken) (.ref C_Full) = some false)
    (xki_Full_Held : PySem.W.subIn K (.ref C_Held) (.ref C_Full) = some false)
    (xki_Full_Full : PySem.W.subIn K (.ref C_Full) (.ref C_Full) = some true)
    (xki_Full_NoBlock : PySem.W.subIn K (.ref C_NoBlock) (.ref C_Full) = some false)
    (xki_Full_NoRow : PySem.W.subIn K (.ref C_NoRow) (.ref C_Full) = some false)
    (xki_Full_NoPlace : PySem.W.subIn K (.ref C_NoPlace) (.ref C_Full) = some false)
    (xki_Full_Stopped : PySem.W.subIn K (.ref C_Stopped) (.ref C_Full) = some false)
    (xki_Full_NoProgram : PySem.W.subIn K (.ref C_NoProgram) (.ref C_Full) = some false)
    (xki_Full_Nothing : PySem.W.subIn K (.ref C_Nothing) (.ref C_Full) = some false)
    (xki_Halted_NoText : PySem.W.subIn K (.ref C_NoText) (.ref C_Halted) = some false)
    (xki_Halted_NoPlacing : PySem.W.subIn K (.ref C_NoPlacing) (.ref C_Halted) = some false)
    (xki_Halted_NoEdit : PySem.W.subIn K (.ref C_NoEdit) (.ref C_Halted) = some false)
    (xki_Halted_NoLine : PySem.W.subIn K (.ref C_NoLine) (.ref C_Halted) = some false)
    (xki_Halted_Taken : PySem.W.subIn K (.ref C_Taken) (.ref C_Halted) = some false)
    (xki_Halted_Held : PySem.W.subIn K (.ref C_Held) (.ref C_Halted) = some false)
    (xki_Halted_Full : PySem.W.subIn K (.ref C_Full) (.ref C_Halted) = some false)
    (xki_Halted_NoBlock : PySem.W.subIn K (.ref C_NoBlock) (.ref C_Halted) = some false)
    (xki_Halted_NoRow : PySem.W.subIn K (.ref C_NoRow) (.ref C_Halted) = some false)
    (xki_Halted_NoPlace : PySem.W.subIn K (.ref C_NoPlace) (.ref C_Halted) = some false)
    (xki_Halted_Stopped : PySem.W.subIn K (.ref C_Stopped) (.ref C_Halted) = some true)
    (xki_Halted_NoProgram : PySem.W.subIn K (.ref C_NoProgram) (.ref C_Halted) = some false)
    (xki_Halted_Nothing : PySem.W.subIn K (.ref C_Nothing) (.ref C_Halted) = some false)
    (xki_Held_NoText : PySem.W.subIn K (.ref C_NoText) (.ref C_Held) = some false)
    (xki_Held_NoPlacing : PySem.W.subIn K (.ref C_NoPlacing) (.ref C_Held) = some false)
    (xki_Held_NoEdit : PySem.W.subIn K (.ref C_NoEdit) (.ref C_Held) = some false)
    (xki_Held_NoLine : PySem.W.subIn K (.ref C_NoLine) (.ref C_Held) = some false)
    (xki_Held_Taken : PySem.W.subIn K (.ref C_Taken) (.ref C_Held) = some false)
    (xki_Held_Held : PySem.W.subIn K (.ref C_Held) (.ref C_Held) = some true)
    (xki_Held_Full : PySem.W.subIn K (.ref C_Full) (.ref C_Held) = some false)
    (xki_Held_NoBlock : PySem.W.subIn K (.ref C_NoBlock) (.ref C_Held) = some false)
    (xki_Held_NoRow : PySem.W.subIn K (.ref C_NoRow) (.ref C_Held) = some false)
    (xki_Held_NoPlace : PySem.W.subIn K (.ref C_NoPlace) (.ref C_Held) = some false)
    (xki_Held_Stopped : PySem.W.subIn K (.ref C_Stopped) (.ref C_Held) = some false)
    (xki_Held_NoProgram : PySem.W.subIn K (.ref C_NoProgram) (.ref C_Held) = some false)
    (xki_Held_Nothing : PySem.W.subIn K (.ref C_Nothing) (.ref C_Held) = some false)
    (xki_Missing_NoText : PySem.W.subIn K (.ref C_NoText) (.ref C_Missing) = some false)
    (xki_Missing_NoPlacing : PySem.W.subIn K (.ref C_NoPlacing) (.ref C_Missing) = some false)
    (xki_Missing_NoEdit : PySem.W.subIn K (.ref C_NoEdit) (.ref C_Missing) = some false)
    (xki_Missing_NoLine : PySem.W.subIn K (.ref C_NoLine) (.ref C_Missing) = some false)
    (xki_Missing_Taken : PySem.W.subIn K (.ref C_Taken) (.ref C_Missing) = some false)
    (xki_Missing_Held : PySem.W.subIn K (.ref C_Held) (.ref C_Missing) = some false)
    (xki_Missing_Full : PySem.W.subIn K (.ref C_Full) (.ref C_Missing) = some false)
    (xki_Missing_NoBlock : PySem.W.subIn K (.ref C_NoBlock) (.ref C_Missing) = some true)
    (xki_Missing_NoRow : PySem.W.subIn K (.ref C_NoRow) (.ref C_Missing) = some true)
    (xki_Missing_NoPlace : PySem.W.subIn K (.ref C_NoPlace) (.ref C_Missing) = some true)
    (xki_Missing_Stopped : PySem.W.subIn K (.ref C_Stopped) (.ref C_Missing) = some false)
    (xki_Missing_NoProgram : PySem.W.subIn K (.ref C_NoProgram) (.ref C_Missing) = some false)
    (xki_Missing_Nothing : PySem.W.subIn K (.ref C_Nothing) (.ref C_Missing) = some false)
    (xki_NoBlock_NoText : PySem.W.subIn K (.ref C_NoText) (.ref C_NoBlock) = some false)
    (xki_NoBlock_NoPlacing : PySem.W.subIn K (.ref C_NoPlacing) (.ref C_NoBlock) = some false)
    (xki_NoBlock_NoEdit : PySem.W.subIn K (.ref C_NoEdit) (.ref C_NoBlock) = some false)
    (xki_NoBlock_NoLine : PySem.W.subIn K (.ref C_NoLine) (.ref C_NoBlock) = some false)
    (xki_NoBlock_Taken : PySem.W.subIn K (.ref C_Taken) (.ref C_NoBlock) = some false)
    (xki_NoBlock_Held : PySem.W.subIn K (.ref C_Held) (.ref C_NoBlock) = some false)
    (xki_NoBlock_Full : PySem.W.subIn K (.ref C_Full) (.ref C_NoBlock) = some false)
    (xki_NoBlock_NoBlock : PySem.W.subIn K (.ref C_NoBlock) (.ref C_NoBlock) = some true)
    (xki_NoBlock_NoRow : PySem.W.subIn K (.ref C_NoRow) (.ref C_NoBlock) = some false)
    (xki_NoBlock_NoPlace : PySem.W.subIn K (.ref C_NoPlace) (.ref C_NoBlock) = some false)
    (xki_NoBlock_Stopped : PySem.W.subIn K (.ref C_Stopped) (.ref C_NoBlock) = some false)
    (xki_NoBlock_NoProgram : PySem.W.subIn K (.ref C_NoProgram) (.ref C_NoBlock) = some false)
    (xki_NoBlock_Nothing : PySem.W.subIn K (.ref C_Nothing) (.ref C_NoBlock) = some false)
    (xki_NoEdit_NoText : PySem.W.subIn K (.ref C_NoText) (.ref C_NoEdit) = some false)
    (xki_NoEdit_NoPlacing : PySem.W.subIn K (.ref C_NoPlacing) (.ref C_NoEdit) = some false)
    (xki_NoEdit_NoEdit : PySem.W.subIn K (.ref C_NoEdit) (.ref C_NoEdit) = some true)
    (xki_NoEdit_NoLine : PySem.W.subIn K (.ref C_NoLine) (.ref C_NoEdit) = some false)
    (xki_NoEdit_Taken : PySem.W.subIn K (.ref C_Taken) (.ref C_NoEdit) = some false)
    (xki_NoEdit_Held : PySem.W.subIn K (.ref C_Held) (.ref C_NoEdit) = some false)
    (xki_NoEdit_Full : PySem.W.subIn K (.ref C_Full) (.ref C_NoEdit) = some false)
    (xki_NoEdit_NoBlock : PySem.W.subIn K (.ref C_NoBlock) (.ref C_NoEdit) = some false)
    (xki_NoEdit_NoRow : PySem.W.subIn K (.ref C_NoRow) (.ref C_NoEdit) = some false)
    (xki_NoEdit_NoPlace : PySem.W.subIn K (.ref C_NoPlace) (.ref C_NoEdit) = some false)
    (xki_NoEdit_Stopped : PySem.W.subIn K (.ref C_Stopped) (.ref C_NoEdit) = some false)
    (xki_NoEdit_NoProgram : PySem.W.subIn K (.ref C_NoProgram) (.ref C_NoEdit) = some false)
    (xki_NoEdit_Nothing : PySem.W.subIn K (.ref C_Nothing) (.ref C_NoEdit) = some false)
    (xki_NoLine_NoText : PySem.W.subIn K (.ref C_NoText) (.ref C_NoLine) = some false)
    (xki_NoLine_NoPlacing : PySem.W.subIn K (.ref C_NoPlacing) (.ref C_NoLine) = some false)
    (xki_NoLine_NoEdit : PySem.W.subIn K (.ref C_NoEdit) (.ref C_NoLine) = some false)
    (xki_NoLine_NoLine : PySem.W.subIn K (.ref C_NoLine) (.ref C_NoLine) = some true)
    (xki_NoLine_Taken : PySem.W.subIn K (.ref C_Taken) (.ref C_NoLine) = some false)
    (xki_NoLine_Held : PySem.W.subIn K (.ref C_Held) (.ref C_NoLine) = some false)
    (xki_NoLine_Full : PySem.W.subIn K (.ref C_Full) (.ref C_NoLine) = some false)
    (xki_NoLine_NoBlock : PySem.W.subIn K (.ref C_NoBlock) (.ref C_NoLine) = some false)
    (xki_NoLine_NoRow : PySem.W.subIn K (.ref C_NoRow) (.ref C_NoLine) = some false)
    (xki_NoLine_NoPlace : PySem.W.subIn K (.ref C_NoPlace) (.ref C_NoLine) = some false)
    (xki_NoLine_Stopped : PySem.W.subIn K (.ref C_Stopped) (.ref C_NoLine) = some false)
    (xki_NoLine_NoProgram : PySem.W.subIn K (.ref C_NoProgram) (.ref C_NoLine) = some false)
    (xki_NoLine_Nothing : PySem.W.subIn K (.ref C_Nothing) (.ref C_NoLine) = some false)
    (xki_NoPlace_NoText : PySem.W.subIn K (.ref C_NoText) (.ref C_NoPlace) = some false)
    (xki_NoPlace_NoPlacing : PySem.W.subIn K (.ref C_NoPlacing) (.ref C_NoPlace) = some false)
    (xki_NoPlace_NoEdit : PySem.W.subIn K (.ref C_NoEdit) (.ref C_NoPlace) = some false)
    (xki_NoPlace_NoLine : PySem.W.subIn K (.ref C_NoLine) (.ref C_NoPlace) = some false)
    (xki_NoPlace_Taken : PySem.W.subIn K (.ref C_Taken) (.ref C_NoPlace) = some false)
    (xki_NoPlace_Held : PySem.W.subIn K (.ref C_Held) (.ref C_NoPlace) = some false)
    (xki_NoPlace_Full : PySem.W.subIn K (.ref C_Full) (.ref C_NoPlace) = some false)
    (xki_NoPlace_NoBlock : PySem.W.subIn K (.ref C_NoBlock) (.ref C_NoPlace) = some false)
    (xki_NoPlace_NoRow : PySem.W.subIn K (.ref C_NoRow) (.ref C_NoPlace) = some false)
    (xki_NoPlace_NoPlace : PySem.W.subIn K (.ref C_NoPlace) (.ref C_NoPlace) = some true)
    (xki_NoPlace_Stopped : PySem.W.subIn K (.ref C_Stopped) (.ref C_NoPlace) = some false)
    (xki_NoPlace_NoProgram : PySem.W.subIn K (.ref C_NoProgram) (.ref C_NoPlace) = some false)
    (xki_NoPlace_Nothing : PySem.W.subIn K (.ref C_Nothing) (.ref C_NoPlace) = some false)
    (xki_NoPlacing_NoText : PySem.W.subIn K (.ref C_NoText) (.ref C_NoPlacing) = some false)
    (xki_NoPlacing_NoPlacing : PySem.W.subIn K (.ref C_NoPlacing) (.ref C_NoPlacing) = some true)
    (xki_NoPlacing_NoEdit : PySem.W.subIn K (.ref C_NoEdit) (.ref C_NoPlacing) = some false)
    (xki_NoPlacing_NoLine : PySem.W.subIn K (.ref C_NoLine) (.ref C_NoPlacing) = some false)
    (xki_NoPlacing_Taken : PySem.W.subIn K (.ref C_Taken) (.ref C_NoPlacing) = some false)
    (xki_NoPlacing_Held : PySem.W.subIn K (.ref C_Held) (.ref C_NoPlacing) = some false)
    (xki_NoPlacing_Full : PySem.W.subIn K (.ref C_Full) (.ref C_NoPlacing) = some false)
    (xki_NoPlacing_NoBlock : PySem.W.subIn K (.ref C_NoBlock) (.ref C_NoPlacing) = some false)
    (xki_NoPlacing_NoRow : PySem.W.subIn K (.ref C_NoRow) (.ref C_NoPlacing) = some false)
    (xki_NoPlacing_NoPlace : PySem.W.subIn K (.ref C_NoPlace) (.ref C_NoPlacing) = some false)
    (xki_NoPlacing_Stopped : PySem.W.subIn K (.ref C_Stopped) (.ref C_NoPlacing) = some false)
    (xki_NoPlacing_NoProgram : PySem.W.subIn K (.ref C_NoProgram) (.ref C_NoPlacing) = some false)
    (xki_NoPlacing_Nothing : PySem.W.subIn K (.ref C_Nothing) (.ref C_NoPlacing) = some false)
    (xki_NoProgram_NoText : PySem.W.subIn K (.ref C_NoText) (.ref C_NoProgram) = some false)
    (xki_NoProgram_NoPlacing : PySem.W.subIn K (.ref C_NoPlacing) (.ref C_NoProgram) = some false)
    (xki_NoProgram_NoEdit : PySem.W.subIn K (.ref C_NoEdit) (.ref C_NoProgram) = some false)
    (xki_NoProgram_NoLine : PySem.W.subIn K (.ref C_NoLine) (.ref C_NoProgram) = some false)
    (xki_NoProgram_Taken : PySem.W.subIn K (.ref C_Taken) (.ref C_NoProgram) = some false)
    (xki_NoProgram_Held : PySem.W.subIn K (.ref C_Held) (.ref C_NoProgram) = some false)
    (xki_NoProgram_Full : PySem.W.subIn K (.ref C_Full) (.ref C_NoProgram) = some false)
    (xki_NoProgram_NoBlock : PySem.W.subIn K (.ref C_NoBlock) (.ref C_NoProgram) = some false)
    (xki_NoProgram_NoRow : PySem.W.subIn K (.ref C_NoRow) (.ref C_NoProgram) = some false)
    (xki_NoProgram_NoPlace : PySem.W.subIn K (.ref C_NoPlace) (.ref C_NoProgram) = some false)
    (xki_NoProgram_Stopped : PySem.W.subIn K (.ref C_Stopped) (.ref C_NoProgram) = some false)
    (xki_NoProgram_NoProgram : PySem.W.subIn K (.ref C_NoProgram) (.ref C_NoProgram) = some true)
    (xki_NoProgram_Nothing : PySem.W.subIn K (.ref C_Nothing) (.ref C_NoProgram) = some false)
    (xki_NoRow_NoText : PySem.W.subIn K (.ref C_NoText) (.ref C_NoRow) = some false)
    (xki_NoRow_NoPlacing : PySem.W.subIn K (.ref C_NoPlacing) (.ref C_NoRow) = some false)
    (xki_NoRow_NoEdit : PySem.W.subIn K (.ref C_NoEdit) (.ref C_NoRow) = some false)
    (xki_NoRow_NoLine : PySem.W.subIn K (.ref C_NoLine) (.ref C_NoRow) = some false)
    (xki_NoRow_Taken : PySem.W.subIn K (.ref C_Taken) (.ref C_NoRow) = some false)
    (xki_NoRow_Held : PySem.W.subIn K (.ref C_Held) (.ref C_NoRow) = some false)
    (xki_NoRow_Full : PySem.W.subIn K (.ref C_Full) (.ref C_NoRow) = some false)
    (xki_NoRow_NoBlock : PySem.W.subIn K (.ref C_NoBlock) (.ref C_NoRow) = some false)
    (xki_NoRow_NoRow : PySem.W.subIn K (.ref C_NoRow) (.ref C_NoRow) = some true)
    (xki_NoRow_NoPlace : PySem.W.subIn K (.ref C_NoPlace) (.ref C_NoRow) = some false)
    (xki_NoRow_Stopped : PySem.W.subIn K (.ref C_Stopped) (.ref C_NoRow) = some false)
    (xki_NoRow_NoProgram : PySem.W.subIn K (.ref C_NoProgram) (.ref C_NoRow) = some false)
    (xki_NoRow_Nothing : PySem.W.subIn K (.ref C_Nothing) (.ref C_NoRow) = some false)
    (xki_NoText_NoText : PySem.W.subIn K (.ref C_NoText) (.ref C_NoText) = some true)
    (xki_NoText_NoPlacing : PySem.W.subIn K (.ref C_NoPlacing) (.ref C_NoText) = some false)
    (xki_NoText_NoEdit : PySem.W.subIn K (.ref C_NoEdit) (.ref C_NoText) = some false)
    (xki_NoText_NoLine : PySem.W.subIn K (.ref C_NoLine) (.ref C_NoText) = some false)
    (xki_NoText_Taken : PySem.W.subIn K (.ref C_Taken) (.ref C_NoText) = some false)
    (xki_NoText_Held : PySem.W.subIn K (.ref C_Held) (.ref C_NoText) = some false)
    (xki_NoText_Full : PySem.W.subIn K (.ref C_Full) (.ref C_NoText) = some false)
    (xki_NoText_NoBlock : PySem.W.subIn K (.ref C_NoBlock) (.ref C_NoText) = some false)
    (xki_NoText_NoRow : PySem.W.subIn K (.ref C_NoRow) (.ref C_NoText) = some false)
    (xki_NoText_NoPlace : PySem.W.subIn K (.ref C_NoPlace) (.ref C_NoText) = some false)
    (xki_NoText_Stopped : PySem.W.subIn K (.ref C_Stopped) (.ref C_NoText) = some false)
    (xki_NoText_NoProgram : PySem.W.subIn K (.ref C_NoProgram) (.ref C_NoText) = some false)
    (xki_NoText_Nothing : PySem.W.subIn K (.ref C_Nothing) (.ref C_NoText) = some false)
    (xki_Nothing_NoText : PySem.W.subIn K (.ref C_NoText) (.ref C_Nothing) = some false)
    (xki_Nothing_NoPlacing : PySem.W.subIn K (.ref C_NoPlacing) (.ref C_Nothing) = some false)
    (xki_Nothing_NoEdit : PySem.W.subIn K (.ref C_NoEdit) (.ref C_Nothing) = some false)
    (xki_Nothing_NoLine : PySem.W.subIn K (.ref C_NoLine) (.ref C_Nothing) = some false)
    (xki_Nothing_Taken : PySem.W.subIn K (.ref C_Taken) (.ref C_Nothing) = some false)
    (xki_Nothing_Held : PySem.W.subIn K (.ref C_Held) (.ref C_Nothing) = some false)
    (xki_Nothing_Full : PySem.W.subIn K (.ref C_Full) (.ref C_Nothing) = some false)
    (xki_Nothing_NoBlock : PySem.W.subIn K (.ref C_NoBlock) (.ref C_Nothing) = some false)
    (xki_Nothing_NoRow : PySem.W.subIn K (.ref C_NoRow) (.ref C_Nothing) = some false)
    (xki_Nothing_NoPlace : PySem.W.subIn K (.ref C_NoPlace) (.ref C_Nothing) = some false)
    (xki_Nothing_Stopped : PySem.W.subIn K (.ref C_Stopped) (.ref C_Nothing) = some false)
    (xki_Nothing_NoProgram : PySem.W.subIn K (.ref C_NoProgram) (.ref C_Nothing) = some false)
    (xki_Nothing_Nothing : PySem.W.subIn K (.ref C_Nothing) (.ref C_Nothing) = some true)
    (xki_Refused_NoText : PySem.W.subIn K (.ref C_NoText) (.ref C_Refused) = some true)
    (xki_Refused_NoPlacing : PySem.W.subIn K (.ref C_NoPlacing) (.ref C_Refused) = some true)
    (xki_Refused_NoEdit : PySem.W.subIn K (.ref C_NoEdit) (.ref C_Refused) = some true)
    (xki_Refused_NoLine : PySem.W.subIn K (.ref C_NoLine) (.ref C_Refused) = some true)
    (xki_Refused_Taken : PySem.W.subIn K (.ref C_Taken) (.ref C_Refused) = some true)
    (xki_Refused_Held : PySem.W.subIn K (.ref C_Held) (.ref C_Refused) = some true)
    (xki_Refused_Full : PySem.W.subIn K (.ref C_Full) (.ref C_Refused) = some true)
    (xki_Refused_NoBlock : PySem.W.subIn K (.ref C_NoBlock) (.ref C_Refused) = some false)
    (xki_Refused_NoRow : PySem.W.subIn K (.ref C_NoRow) (.ref C_Refused) = some false)
    (xki_Refused_NoPlace : PySem.W.subIn K (.ref C_NoPlace) (.ref C_Refused) = some false)
    (xki_Refused_Stopped : PySem.W.subIn K (.ref C_Stopped) (.ref C_Refused) = some false)
    (xki_Refused_NoProgram : PySem.W.subIn K (.ref C_NoProgram) (.ref C_Refused) = some true)
    (xki_Refused_Nothing : PySem.W.subIn K (.ref C_Nothing) (.ref C_Refused) = some true)
    (xki_Stopped_NoText : PySem.W.subIn K (.ref C_NoText) (.ref C_Stopped) = some false)
    (xki_Stopped_NoPlacing : PySem.W.subIn K (.ref C_NoPlacing) (.ref C_Stopped) = some false)
    (xki_Stopped_NoEdit : PySem.W.subIn K (.ref C_NoEdit) (.ref C_Stopped) = some false)
    (xki_Stopped_NoLine : PySem.W.subIn K (.ref C_NoLine) (.ref C_Stopped) = some false)
    (xki_Stopped_Taken : PySem.W.subIn K (.ref C_Taken) (.ref C_Stopped) = some false)
    (xki_Stopped_Held : PySem.W.subIn K (.ref C_Held) (.ref C_Stopped) = some false)
    (xki_Stopped_Full : PySem.W.subIn K (.ref C_Full) (.ref C_Stopped) = some false)
    (xki_Stopped_NoBlock : PySem.W.subIn K (.ref C_NoBlock) (.ref C_Stopped) = some false)
    (xki_Stopped_NoRow : PySem.W.subIn K (.ref C_NoRow) (.ref C_Stopped) = some false)
    (xki_Stopped_NoPlace : PySem.W.subIn K (.ref C_NoPlace) (.ref C_Stopped) = some false)
    (xki_Stopped_Stopped : PySem.W.subIn K (.ref C_Stopped) (.ref C_Stopped) = some true)
    (xki_Stopped_NoProgram : PySem.W.subIn K (.ref C_NoProgram) (.ref C_Stopped) = some false)
    (xki_Stopped_Nothing : PySem.W.subIn K (.ref C_Nothing) (.ref C_Stopped) = some false)
    (xki_Taken_NoText : PySem.W.subIn K (.ref C_NoText) (.ref C_Taken) = some false)
    (xki_Taken_NoPlacing : PySem.W.subIn K (.ref C_NoPlacing) (.ref C_Taken) = some false)
    (xki_Taken_NoEdit : PySem.W.subIn K (.ref C_NoEdit) (.ref C_Taken) = some false)
    (xki_Taken_NoLine : PySem.W.subIn K (.ref C_NoLine) (.ref C_Taken) = some false)
    (xki_Taken_Taken : PySem.W.subIn K (.ref C_Taken) (.ref C_Taken) = some true)
    (xki_Taken_Held : PySem.W.subIn K (.ref C_Held) (.ref C_Taken) = some false)
    (xki_Taken_Full : PySem.W.subIn K (.ref C_Full) (.ref C_Taken) = some false)
    (xki_Taken_NoBlock : PySem.W.subIn K (.ref C_NoBlock) (.ref C_Taken) = some false)
    (xki_Taken_NoRow : PySem.W.subIn K (.ref C_NoRow) (.ref C_Taken) = some false)
    (xki_Taken_NoPlace : PySem.W.subIn K (.ref C_NoPlace) (.ref C_Taken) = some false)
    (xki_Taken_Stopped : PySem.W.subIn K (.ref C_Stopped) (.ref C_Taken) = some false)
    (xki_Taken_NoProgram : PySem.W.subIn K (.ref C_NoProgram) (.ref C_Taken) = some false)
    (xki_Taken_Nothing : PySem.W.subIn K (.ref C_Nothing) (.ref C_Taken) = some false)
    (n_LookupError : PySem.W.nsIn K mainGlobals "LookupError" = some none)
    (n_RuntimeError : PySem.W.nsIn K mainGlobals "RuntimeError" = some none)
    (n_ValueError : PySem.W.nsIn K mainGlobals "ValueError" = some none)
    (n_abs : PySem.W.nsIn K mainGlobals "abs" = some none)
    (n_all : PySem.W.nsIn K mainGlobals "all" = some none)
    (n_enumerate : PySem.W.nsIn K mainGlobals "enumerate" = some none)
    (n_int : PySem.W.nsIn K mainGlobals "int" = some none)
    (n_isinstance : PySem.W.nsIn K mainGlobals "isinstance" = some none)
    (n_len : PySem.W.nsIn K mainGlobals "len" = some none)
    (n_max : PySem.W.nsIn K mainGlobals "max" = some none)
    (n_min : PySem.W.nsIn K mainGlobals "min" = some none)
    (n_range : PySem.W.nsIn K mainGlobals "range" = some none)
    (n_repr : PySem.W.nsIn K mainGlobals "repr" = some none)
    : ∃ fd : FuncData, (∀ (s : Shared) (v : Value), BindsTo s fd ⟨[v], []⟩ [("_law_script", v)]) ∧ ∀ base : Heap, K.In base → base.Ns mainGlobals mg → FnG l.prog w K mg base 4 fa fd ["_law_script"] (spLaw K) := by
  have e := hfa.symm.trans (PySem.W.mg_of X G a_law)
  have e2 : fa = f_law := by injection e with e; injection e
  rw [e2]
  let ad : Ad := ⟨f__law_take, f__law_pick, f__law_things, f__law_made, f__law_hand, f__law_raised, f__law_values_right, f__law_classes_right, f_law, C_NoText, C_NoEdit, C_NoLine, C_Taken, C_Held, C_Full, C_NoBlock, C_NoRow, C_NoPlace, C_Stopped, C_Halted, C_Missing, C_NoPlacing, C_NoProgram, C_Nothing, C_Refused, i_NoText, i_NoEdit, i_NoLine, i_Taken, i_Held, i_Full, i_NoBlock, i_NoRow, i_NoPlace, i_Stopped, i_NoPlacing⟩
  let fd : Fd := ⟨(PySem.W.fnOf "_law_take" "_law_take" (defArgs st__law_take) (defBody st__law_take) (defScope st__law_take) .none kV__law_take dc__law_take pm__law_take an__law_take cd__law_take ct__law_take), (PySem.W.fnOf "_law_pick" "_law_pick" (defArgs st__law_pick) (defBody st__law_pick) (defScope st__law_pick) .none kV__law_pick dc__law_pick pm__law_pick an__law_pick cd__law_pick ct__law_pick), (PySem.W.fnOf "_law_things" "_law_things" (defArgs st__law_things) (defBody st__law_things) (defScope st__law_things) .none kV__law_things dc__law_things pm__law_things an__law_things cd__law_things ct__law_things), (PySem.W.fnOf "_law_made" "_law_made" (defArgs st__law_made) (defBody st__law_made) (defScope st__law_made) .none kV__law_made dc__law_made pm__law_made an__law_made cd__law_made ct__law_made), (PySem.W.fnOf "_law_hand" "_law_hand" (defArgs st__law_hand) (defBody st__law_hand) (defScope st__law_hand) .none kV__law_hand dc__law_hand pm__law_hand an__law_hand cd__law_hand ct__law_hand), (PySem.W.fnOf "_law_raised" "_law_raised" (defArgs st__law_raised) (defBody st__law_raised) (defScope st__law_raised) .none kV__law_raised dc__law_raised pm__law_raised an__law_raised cd__law_raised ct__law_raised), (PySem.W.fnOf "_law_values_right" "_law_values_right" (defArgs st__law_values_right) (defBody st__law_values_right) (defScope st__law_values_right) .none kV__law_values_right dc__law_values_right pm__law_values_right an__law_values_right cd__law_values_right ct__law_values_right), (PySem.W.fnOf "_law_classes_right" "_law_classes_right" (defArgs st__law_classes_right) (defBody st__law_classes_right) (defScope st__law_classes_right) .none kV__law_classes_right dc__law_classes_right pm__law_classes_right an__law_classes_right cd__law_classes_right ct__law_classes_right), (PySem.W.fnOf "law" "law" (defArgs st_law) (defBody st_law) (defScope st_law) .none kV_law dc_law pm_law an_law cd_law ct_law)⟩
  have F__law_take : Fun K "_law_take" "_law_take" st__law_take f__law_take (PySem.W.fnOf "_law_take" "_law_take" (defArgs st__law_take) (defBody st__law_take) (defScope st__law_take) .none kV__law_take dc__law_take pm__law_take an__law_take cd__law_take ct__law_take) := fun_mk (st := st__law_take) l__law_take c__law_take k__law_take
  have b__law_take := F__law_take.binds (ps := ["_law_hand_here", "_law_many"]) fun _ _ _ _ _ _ us hl => match us, hl with | [_, _], _ => rfl
  have F__law_pick : Fun K "_law_pick" "_law_pick" st__law_pick f__law_pick (PySem.W.fnOf "_law_pick" "_law_pick" (defArgs st__law_pick) (defBody st__law_pick) (defScope st__law_pick) .none kV__law_pick dc__law_pick pm__law_pick an__law_pick cd__law_pick ct__law_pick) := fun_mk (st := st__law_pick) l__law_pick c__law_pick k__law_pick
  have b__law_pick := F__law_pick.binds (ps := ["_law_hand_here", "_law_some"]) fun _ _ _ _ _ _ us hl => match us, hl with | [_, _], _ => rfl
  have F__law_things : Fun K "_law_things" "_law_things" st__law_things f__law_things (PySem.W.fnOf "_law_things" "_law_things" (defArgs st__law_things) (defBody st__law_things) (defScope st__law_things) .none kV__law_things dc__law_things pm__law_things an__law_things cd__law_things ct__law_things) := fun_mk (st := st__law_things) l__law_things c__law_things k__law_things
  have b__law_things := F__law_things.binds (ps := ["_law_hand_here"]) fun _ _ _ _ _ _ us hl => match us, hl with | [_], _ => rfl
  have F__law_made : Fun K "_law_made" "_law_made" st__law_made f__law_made (PySem.W.fnOf "_law_made" "_law_made" (defArgs st__law_made) (defBody st__law_made) (defScope st__law_made) .none kV__law_made dc__law_made pm__law_made an__law_made cd__law_made ct__law_made) := fun_mk (st := st__law_made) l__law_made c__law_made k__law_made
  have b__law_made := F__law_made.binds (ps := ["_law_many", "_law_whom", "_law_odd"]) fun _ _ _ _ _ _ us hl => match us, hl with | [_, _, _], _ => rfl
  have F__law_hand : Fun K "_law_hand" "_law_hand" st__law_hand f__law_hand (PySem.W.fnOf "_law_hand" "_law_hand" (defArgs st__law_hand) (defBody st__law_hand) (defScope st__law_hand) .none kV__law_hand dc__law_hand pm__law_hand an__law_hand cd__law_hand ct__law_hand) := fun_mk (st := st__law_hand) l__law_hand c__law_hand k__law_hand
  have b__law_hand := F__law_hand.binds (ps := ["_law_script", "_law_k"]) fun _ _ _ _ _ _ us hl => match us, hl with | [_, _], _ => rfl
  have F__law_raised : Fun K "_law_raised" "_law_raised" st__law_raised f__law_raised (PySem.W.fnOf "_law_raised" "_law_raised" (defArgs st__law_raised) (defBody st__law_raised) (defScope st__law_raised) .none kV__law_raised dc__law_raised pm__law_raised an__law_raised cd__law_raised ct__law_raised) := fun_mk (st := st__law_raised) l__law_raised c__law_raised k__law_raised
  have b__law_raised := F__law_raised.binds (ps := ["_law_which", "_law_many", "_law_whom"]) fun _ _ _ _ _ _ us hl => match us, hl with | [_, _, _], _ => rfl
  have F__law_values_right : Fun K "_law_values_right" "_law_values_right" st__law_values_right f__law_values_right (PySem.W.fnOf "_law_values_right" "_law_values_right" (defArgs st__law_values_right) (defBody st__law_values_right) (defScope st__law_values_right) .none kV__law_values_right dc__law_values_right pm__law_values_right an__law_values_right cd__law_values_right ct__law_values_right) := fun_mk (st := st__law_values_right) l__law_values_right c__law_values_right k__law_values_right
  have b__law_values_right := F__law_values_right.binds (ps := ["_law_some", "_law_many", "_law_whom", "_law_odd"]) fun _ _ _ _ _ _ us hl => match us, hl with | [_, _, _, _], _ => rfl
  have F__law_classes_right : Fun K "_law_classes_right" "_law_classes_right" st__law_classes_right f__law_classes_right (PySem.W.fnOf "_law_classes_right" "_law_classes_right" (defArgs st__law_classes_right) (defBody st__law_classes_right) (defScope st__law_classes_right) .none kV__law_classes_right dc__law_classes_right pm__law_classes_right an__law_classes_right cd__law_classes_right ct__law_classes_right) := fun_mk (st := st__law_classes_right) l__law_classes_right c__law_classes_right k__law_classes_right
  have b__law_classes_right := F__law_classes_right.binds (ps := ["_law_some"]) fun _ _ _ _ _ _ us hl => match us, hl with | [_], _ => rfl
  have F_law : Fun K "law" "law" st_law f_law (PySem.W.fnOf "law" "law" (defArgs st_law) (defBody st_law) (defScope st_law) .none kV_law dc_law pm_law an_law cd_law ct_law) := fun_mk (st := st_law) l_law c_law k_law
  have b_law := F_law.binds (ps := ["_law_script"]) fun _ _ _ _ _ _ us hl => match us, hl with | [_], _ => rfl
  have T : Top K w mg ad fd := by
    refine {
      F__law_take := F__law_take,
      b__law_take := b__law_take,
      g__law_take := PySem.W.mg_of X G a__law_take,
      F__law_pick := F__law_pick,
      b__law_pick := b__law_pick,
      g__law_pick := PySem.W.mg_of X G a__law_pick,
      F__law_things := F__law_things,
      b__law_things := b__law_things,
      g__law_things := PySem.W.mg_of X G a__law_things,
      F__law_made := F__law_made,
      b__law_made := b__law_made,
      g__law_made := PySem.W.mg_of X G a__law_made,
      F__law_hand := F__law_hand,
      b__law_hand := b__law_hand,
      g__law_hand := PySem.W.mg_of X G a__law_hand,
      F__law_raised := F__law_raised,
      b__law_raised := b__law_raised,
      g__law_raised := PySem.W.mg_of X G a__law_raised,
      F__law_values_right := F__law_values_right,
      b__law_values_right := b__law_values_right,
      g__law_values_right := PySem.W.mg_of X G a__law_values_right,
      F__law_classes_right := F__law_classes_right,
      b__law_classes_right := b__law_classes_right,
      g__law_classes_right := PySem.W.mg_of X G a__law_classes_right,
      F_law := F_law,
      b_law := b_law,
      g_law := PySem.W.mg_of X G a_law,
      x_NoText := { nok := OF.nok_line _, gC := PySem.W.mg_of X G xa_NoText, cls := ⟨nm_NoText, qq_NoText, NN_NoText, bs_NoText, _, sn_NoText, su_NoText, ab_NoText, co_NoText, dd_NoText, m0_NoText, m1_NoText, m2_NoText, m3_NoText, m5_NoText, _, xL_NoText, PySem.ExcT.tail_VE rfl⟩, sa := xsa_NoText, ga := xga_NoText, gg := xgg_NoText, noN := xnb_NoText, iC := xa1_NoText, tC := xt1_NoText, kC := xkC_NoText, exC := xeC_NoText, tyC := xtC_NoText, hdC := xhC_NoText, te := OF.exm_of xeC_NoText xiC_NoText xtC_NoText xsC_NoText, fn := ⟨_, _, _, _, _, _, _, _, _, _, _, _, _, _, xl1_NoText, xc1_NoText⟩ },
      x_NoEdit := { nok := OF.nok_thing _, gC := PySem.W.mg_of X G xa_NoEdit, cls := ⟨nm_NoEdit, qq_NoEdit, NN_NoEdit, bs_NoEdit, _, sn_NoEdit, su_NoEdit, ab_NoEdit, co_NoEdit, dd_NoEdit, m0_NoEdit, m1_NoEdit, m2_NoEdit, m3_NoEdit, m5_NoEdit, _, xL_NoEdit, PySem.ExcT.tail_VE rfl⟩, sa := xsa_NoEdit, ga := xga_NoEdit, gg := xgg_NoEdit, noN := xnb_NoEdit, iC := xa1_NoEdit, tC := xt1_NoEdit, kC := xkC_NoEdit, exC := xeC_NoEdit, tyC := xtC_NoEdit, hdC := xhC_NoEdit, te := OF.exm_of xeC_NoEdit xiC_NoEdit xtC_NoEdit xsC_NoEdit, fn := ⟨_, _, _, _, _, _, _, _, _, _, _, _, _, _, xl1_NoEdit, xc1_NoEdit⟩ },
      x_NoLine := { nok := OF.nok_line _, gC := PySem.W.mg_of X G xa_NoLine, cls := ⟨nm_NoLine, qq_NoLine, NN_NoLine, bs_NoLine, _, sn_NoLine, su_NoLine, ab_NoLine, co_NoLine, dd_NoLine, m0_NoLine, m1_NoLine, m2_NoLine, m3_NoLine, m5_NoLine, _, xL_NoLine, PySem.ExcT.tail_VE rfl⟩, sa := xsa_NoLine, ga := xga_NoLine, gg := xgg_NoLine, noN := xnb_NoLine, iC := xa1_NoLine, tC := xt1_NoLine, kC := xkC_NoLine, exC := xeC_NoLine, tyC := xtC_NoLine, hdC := xhC_NoLine, te := OF.exm_of xeC_NoLine xiC_NoLine xtC_NoLine xsC_NoLine, fn := ⟨_, _, _, _, _, _, _, _, _, _, _, _, _, _, xl1_NoLine, xc1_NoLine⟩ },
      x_Taken := { nok := OF.nok_thing _, gC := PySem.W.mg_of X G xa_Taken, cls := ⟨nm_Taken, qq_Taken, NN_Taken, bs_Taken, _, sn_Taken, su_Taken, ab_Taken, co_Taken, dd_Taken, m0_Taken, m1_Taken, m2_Taken, m3_Taken, m5_Taken, _, xL_Taken, PySem.ExcT.tail_VE rfl⟩, sa := xsa_Taken, ga := xga_Taken, gg := xgg_Taken, noN := xnb_Taken, iC := xa1_Taken, tC := xt1_Taken, kC := xkC_Taken, exC := xeC_Taken, tyC := xtC_Taken, hdC := xhC_Taken, te := OF.exm_of xeC_Taken xiC_Taken xtC_Taken xsC_Taken, fn := ⟨_, _, _, _, _, _, _, _, _, _, _, _, _, _, xl1_Taken, xc1_Taken⟩ },
      x_Held := { nok := OF.nok_name _, gC := PySem.W.mg_of X G xa_Held, cls := ⟨nm_Held, qq_Held, NN_Held, bs_Held, _, sn_Held, su_Held, ab_Held, co_Held, dd_Held, m0_Held, m1_Held, m2_Held, m3_Held, m5_Held, _, xL_Held, PySem.ExcT.tail_VE rfl⟩, sa := xsa_Held, ga := xga_Held, gg := xgg_Held, noN := xnb_Held, iC := xa1_Held, tC := xt1_Held, kC := xkC_Held, exC := xeC_Held, tyC := xtC_Held, hdC := xhC_Held, te := OF.exm_of xeC_Held xiC_Held xtC_Held xsC_Held, fn := ⟨_, _, _, _, _, _, _, _, _, _, _, _, _, _, xl1_Held, xc1_Held⟩ },
      x_Full := { nok := OF.nok_what _, gC := PySem.W.mg_of X G xa_Full, cls := ⟨nm_Full, qq_Full, NN_Full, bs_Full, _, sn_Full, su_Full, ab_Full, co_Full, dd_Full, m0_Full, m1_Full, m2_Full, m3_Full, m5_Full, _, xL_Full, PySem.ExcT.tail_VE rfl⟩, sa := xsa_Full, ga := xga_Full, gg := xgg_Full, noN := xnb_Full, iC := xa1_Full, tC := xt1_Full, kC := xkC_Full, exC := xeC_Full, tyC := xtC_Full, hdC := xhC_Full, te := OF.exm_of xeC_Full xiC_Full xtC_Full xsC_Full, fn := ⟨_, _, _, _, _, _, _, _, _, _, _, _, _, _, xl1_Full, xc1_Full⟩ },
      x_NoBlock := { nok := OF.nok_name _, gC := PySem.W.mg_of X G xa_NoBlock, cls := ⟨nm_NoBlock, qq_NoBlock, NN_NoBlock, bs_NoBlock, _, sn_NoBlock, su_NoBlock, ab_NoBlock, co_NoBlock, dd_NoBlock, m0_NoBlock, m1_NoBlock, m2_NoBlock, m3_NoBlock, m5_NoBlock, _, xL_NoBlock, PySem.ExcT.tail_LE rfl⟩, sa := xsa_NoBlock, ga := xga_NoBlock, gg := xgg_NoBlock, noN := xnb_NoBlock, iC := xa1_NoBlock, tC := xt1_NoBlock, kC := xkC_NoBlock, exC := xeC_NoBlock, tyC := xtC_NoBlock, hdC := xhC_NoBlock, te := OF.exm_of xeC_NoBlock xiC_NoBlock xtC_NoBlock xsC_NoBlock, fn := ⟨_, _, _, _, _, _, _, _, _, _, _, _, _, _, xl1_NoBlock, xc1_NoBlock⟩ },
      x_NoRow := { nok := OF.nok_number _, gC := PySem.W.mg_of X G xa_NoRow, cls := ⟨nm_NoRow, qq_NoRow, NN_NoRow, bs_NoRow, _, sn_NoRow, su_NoRow, ab_NoRow, co_NoRow, dd_NoRow, m0_NoRow, m1_NoRow, m2_NoRow, m3_NoRow, m5_NoRow, _, xL_NoRow, PySem.ExcT.tail_LE rfl⟩, sa := xsa_NoRow, ga := xga_NoRow, gg := xgg_NoRow, noN := xnb_NoRow, iC := xa1_NoRow, tC := xt1_NoRow, kC := xkC_NoRow, exC := xeC_NoRow, tyC := xtC_NoRow, hdC := xhC_NoRow, te := OF.exm_of xeC_NoRow xiC_NoRow xtC_NoRow xsC_NoRow, fn := ⟨_, _, _, _, _, _, _, _, _, _, _, _, _, _, xl1_NoRow, xc1_NoRow⟩ },
      x_NoPlace := { nok := OF.nok_number _, gC := PySem.W.mg_of X G xa_NoPlace, cls := ⟨nm_NoPlace, qq_NoPlace, NN_NoPlace, bs_NoPlace, _, sn_NoPlace, su_NoPlace, ab_NoPlace, co_NoPlace, dd_NoPlace, m0_NoPlace, m1_NoPlace, m2_NoPlace, m3_NoPlace, m5_NoPlace, _, xL_NoPlace, PySem.ExcT.tail_LE rfl⟩, sa := xsa_NoPlace, ga := xga_NoPlace, gg := xgg_NoPlace, noN := xnb_NoPlace, iC := xa1_NoPlace, tC := xt1_NoPlace, kC := xkC_NoPlace, exC := xeC_NoPlace, tyC := xtC_NoPlace, hdC := xhC_NoPlace, te := OF.exm_of xeC_NoPlace xiC_NoPlace xtC_NoPlace xsC_NoPlace, fn := ⟨_, _, _, _, _, _, _, _, _, _, _, _, _, _, xl1_NoPlace, xc1_NoPlace⟩ },
      x_Stopped := { nok := OF.nok_number _, gC := PySem.W.mg_of X G xa_Stopped, cls := ⟨nm_Stopped, qq_Stopped, NN_Stopped, bs_Stopped, _, sn_Stopped, su_Stopped, ab_Stopped, co_Stopped, dd_Stopped, m0_Stopped, m1_Stopped, m2_Stopped, m3_Stopped, m5_Stopped, _, xL_Stopped, PySem.ExcT.tail_RE rfl⟩, sa := xsa_Stopped, ga := xga_Stopped, gg := xgg_Stopped, noN := xnb_Stopped, iC := xa1_Stopped, tC := xt1_Stopped, kC := xkC_Stopped, exC := xeC_Stopped, tyC := xtC_Stopped, hdC := xhC_Stopped, te := OF.exm_of xeC_Stopped xiC_Stopped xtC_Stopped xsC_Stopped, fn := ⟨_, _, _, _, _, _, _, _, _, _, _, _, _, _, xl1_Stopped, xc1_Stopped⟩ },
      g_Halted := PySem.W.mg_of X G aC_Halted,
      g_Missing := PySem.W.mg_of X G aC_Missing,
      g_NoPlacing := PySem.W.mg_of X G aC_NoPlacing,
      g_NoProgram := PySem.W.mg_of X G aC_NoProgram,
      g_Nothing := PySem.W.mg_of X G aC_Nothing,
      g_Refused := PySem.W.mg_of X G aC_Refused,
      x2_NoPlacing := { nok := OF.nok2_block_name _, gC := PySem.W.mg_of X G aC_NoPlacing, cls := ⟨nm_NoPlacing, qq_NoPlacing, NN_NoPlacing, bs_NoPlacing, _, sn_NoPlacing, su_NoPlacing, ab_NoPlacing, co_NoPlacing, dd_NoPlacing, m0_NoPlacing, m1_NoPlacing, m2_NoPlacing, m3_NoPlacing, m5_NoPlacing, _, xL_NoPlacing, PySem.ExcT.tail_VE rfl, rfl⟩, sa := xsa_NoPlacing, noN1 := xnb1_NoPlacing, noN2 := xnb2_NoPlacing, iC := xa1_NoPlacing, tC := xt1_NoPlacing, kC := xkC_NoPlacing, fn := ⟨_, _, _, _, _, _, _, _, _, _, _, _, _, _, _, _, _, _, _, xl1_NoPlacing, xc1_NoPlacing⟩ },
      xq_NoPlacing := ⟨xga_NoPlacing, xgg_NoPlacing, xeC_NoPlacing, xhC_NoPlacing⟩,
      xe_NoProgram := xe_NoProgram,
      kc_NoProgram := xkC_NoProgram,
      xe_Nothing := xe_Nothing,
      kc_Nothing := xkC_Nothing,
      en_Halted_Stopped := OF.exm_ofb xeC_Halted xiC_Halted xtC_Halted xsn_Halted_Stopped,
      en_Halted_Held := OF.exm_ofb xeC_Halted xiC_Halted xtC_Halted xsn_Halted_Held,
      en_Halted_NoRow := OF.exm_ofb xeC_Halted xiC_Halted xtC_Halted xsn_Halted_NoRow,
      en_Missing_Stopped := OF.exm_ofb xeC_Missing xiC_Missing xtC_Missing xsn_Missing_Stopped,
      en_Missing_Held := OF.exm_ofb xeC_Missing xiC_Missing xtC_Missing xsn_Missing_Held,
      en_Missing_NoRow := OF.exm_ofb xeC_Missing xiC_Missing xtC_Missing xsn_Missing_NoRow,
      en_Refused_Stopped := OF.exm_ofb xeC_Refused xiC_Refused xtC_Refused xsn_Refused_Stopped,
      en_Refused_Held := OF.exm_ofb xeC_Refused xiC_Refused xtC_Refused xsn_Refused_Held,
      en_Refused_NoRow := OF.exm_ofb xeC_Refused xiC_Refused xtC_Refused xsn_Refused_NoRow,
      kib_LookupError_NoText := OF.kit_ofB (by decide +kernel) xkb_LookupError_NoText,
      kib_LookupError_NoPlacing := OF.kit_ofB (by decide +kernel) xkb_LookupError_NoPlacing,
      kib_LookupError_NoEdit := OF.kit_ofB (by decide +kernel) xkb_LookupError_NoEdit,
      kib_LookupError_NoLine := OF.kit_ofB (by decide +kernel) xkb_LookupError_NoLine,
      kib_LookupError_Taken := OF.kit_ofB (by decide +kernel) xkb_LookupError_Taken,
      kib_LookupError_Held := OF.kit_ofB (by decide +kernel) xkb_LookupError_Held,
      kib_LookupError_Full := OF.kit_ofB (by decide +kernel) xkb_LookupError_Full,
      kib_LookupError_NoBlock := OF.kit_ofB (by decide +kernel) xkb_LookupError_NoBlock,
      kib_LookupError_NoRow := OF.kit_ofB (by decide +kernel) xkb_LookupError_NoRow,
      kib_LookupError_NoPlace := OF.kit_ofB (by decide +kernel) xkb_LookupError_NoPlace,
      kib_LookupError_Stopped := OF.kit_ofB (by decide +kernel) xkb_LookupError_Stopped,
      kib_LookupError_NoProgram := OF.kit_ofB (by decide +kernel) xkb_LookupError_NoProgram,
      kib_LookupError_Nothing := OF.kit_ofB (by decide +kernel) xkb_LookupError_Nothing,
      kib_RuntimeError_NoText := OF.kit_ofB (by decide +kernel) xkb_RuntimeError_NoText,
      kib_RuntimeError_NoPlacing := OF.kit_ofB (by decide +kernel) xkb_RuntimeError_NoPlacing,
      kib_RuntimeError_NoEdit := OF.kit_ofB (by decide +kernel) xkb_RuntimeError_NoEdit,
      kib_RuntimeError_NoLine := OF.kit_ofB (by decide +kernel) xkb_RuntimeError_NoLine,
      kib_RuntimeError_Taken := OF.kit_ofB (by decide +kernel) xkb_RuntimeError_Taken,
      kib_RuntimeError_Held := OF.kit_ofB (by decide +kernel) xkb_RuntimeError_Held,
      kib_RuntimeError_Full := OF.kit_ofB (by decide +kernel) xkb_RuntimeError_Full,
      kib_RuntimeError_NoBlock := OF.kit_ofB (by decide +kernel) xkb_RuntimeError_NoBlock,
      kib_RuntimeError_NoRow := OF.kit_ofB (by decide +kernel) xkb_RuntimeError_NoRow,
      kib_RuntimeError_NoPlace := OF.kit_ofB (by decide +kernel) xkb_RuntimeError_NoPlace,
      kib_RuntimeError_Stopped := OF.kit_ofB (by decide +kernel) xkb_RuntimeError_Stopped,
      kib_RuntimeError_NoProgram := OF.kit_ofB (by decide +kernel) xkb_RuntimeError_NoProgram,
      kib_RuntimeError_Nothing := OF.kit_ofB (by decide +kernel) xkb_RuntimeError_Nothing,
      kib_ValueError_NoText := OF.kit_ofB (by decide +kernel) xkb_ValueError_NoText,
      kib_ValueError_NoPlacing := OF.kit_ofB (by decide +kernel) xkb_ValueError_NoPlacing,
      kib_ValueError_NoEdit := OF.kit_ofB (by decide +kernel) xkb_ValueError_NoEdit,
      kib_ValueError_NoLine := OF.kit_ofB (by decide +kernel) xkb_ValueError_NoLine,
      kib_ValueError_Taken := OF.kit_ofB (by decide +kernel) xkb_ValueError_Taken,
      kib_ValueError_Held := OF.kit_ofB (by decide +kernel) xkb_ValueError_Held,
      kib_ValueError_Full := OF.kit_ofB (by decide +kernel) xkb_ValueError_Full,
      kib_ValueError_NoBlock := OF.kit_ofB (by decide +kernel) xkb_ValueError_NoBlock,
      kib_ValueError_NoRow := OF.kit_ofB (by decide +kernel) xkb_ValueError_NoRow,
      kib_ValueError_NoPlace := OF.kit_ofB (by decide +kernel) xkb_ValueError_NoPlace,
      kib_ValueError_Stopped := OF.kit_ofB (by decide +kernel) xkb_ValueError_Stopped,
      kib_ValueError_NoProgram := OF.kit_ofB (by decide +kernel) xkb_ValueError_NoProgram,
      kib_ValueError_Nothing := OF.kit_ofB (by decide +kernel) xkb_ValueError_Nothing,
      kx_NoText := ⟨xga_NoText, xgg_NoText, xeC_NoText, xhC_NoText, xcl_NoText, xsp, xtk, xmr_NoText⟩,
      kx_NoPlacing := ⟨xga_NoPlacing, xgg_NoPlacing, xeC_NoPlacing, xhC_NoPlacing, xcl_NoPlacing, xsp, xtk, xmr_NoPlacing⟩,
      kx_NoEdit := ⟨xga_NoEdit, xgg_NoEdit, xeC_NoEdit, xhC_NoEdit, xcl_NoEdit, xsp, xtk, xmr_NoEdit⟩,
      kx_NoLine := ⟨xga_NoLine, xgg_NoLine, xeC_NoLine, xhC_NoLine, xcl_NoLine, xsp, xtk, xmr_NoLine⟩,
      kx_Taken := ⟨xga_Taken, xgg_Taken, xeC_Taken, xhC_Taken, xcl_Taken, xsp, xtk, xmr_Taken⟩,
      kx_Held := ⟨xga_Held, xgg_Held, xeC_Held, xhC_Held, xcl_Held, xsp, xtk, xmr_Held⟩,
      kx_Full := ⟨xga_Full, xgg_Full, xeC_Full, xhC_Full, xcl_Full, xsp, xtk, xmr_Full⟩,
      kx_NoBlock := ⟨xga_NoBlock, xgg_NoBlock, xeC_NoBlock, xhC_NoBlock, xcl_NoBlock, xsp, xtk, xmr_NoBlock⟩,
      kx_NoRow := ⟨xga_NoRow, xgg_NoRow, xeC_NoRow, xhC_NoRow, xcl_NoRow, xsp, xtk, xmr_NoRow⟩,
      kx_NoPlace := ⟨xga_NoPlace, xgg_NoPlace, xeC_NoPlace, xhC_NoPlace, xcl_NoPlace, xsp, xtk, xmr_NoPlace⟩,
      kx_Stopped := ⟨xga_Stopped, xgg_Stopped, xeC_Stopped, xhC_Stopped, xcl_Stopped, xsp, xtk, xmr_Stopped⟩,
      kx_NoProgram := ⟨xga_NoProgram, xgg_NoProgram, xeC_NoProgram, xhC_NoProgram, xcl_NoProgram, xsp, xtk, xmr_NoProgram⟩,
      kx_Nothing := ⟨xga_Nothing, xgg_Nothing, xeC_Nothing, xhC_Nothing, xcl_Nothing, xsp, xtk, xmr_Nothing⟩,
      ki_Full_NoText := OF.kit_of xiC_Full xtC_Full xsC_Full xki_Full_NoText,
      ki_Full_NoPlacing := OF.kit_of xiC_Full xtC_Full xsC_Full xki_Full_NoPlacing,
      ki_Full_NoEdit := OF.kit_of xiC_Full xtC_Full xsC_Full xki_Full_NoEdit,
      ki_Full_NoLine := OF.kit_of xiC_Full xtC_Full xsC_Full xki_Full_NoLine,
      ki_Full_Taken := OF.kit_of xiC_Full xtC_Full xsC_Full xki_Full_Taken,
      ki_Full_Held := OF.kit_of xiC_Full xtC_Full xsC_Full xki_Full_Held,
      ki_Full_Full := OF.kit_of xiC_Full xtC_Full xsC_Full xki_Full_Full,
      ki_Full_NoBlock := OF.kit_of xiC_Full xtC_Full xsC_Full xki_Full_NoBlock,
      ki_Full_NoRow := OF.kit_of xiC_Full xtC_Full xsC_Full xki_Full_NoRow,
      ki_Full_NoPlace := OF.kit_of xiC_Full xtC_Full xsC_Full xki_Full_NoPlace,
      ki_Full_Stopped := OF.kit_of xiC_Full xtC_Full xsC_Full xki_Full_Stopped,
      ki_Full_NoProgram := OF.kit_of xiC_Full xtC_Full xsC_Full xki_Full_NoProgram,
      ki_Full_Nothing := OF.kit_of xiC_Full xtC_Full xsC_Full xki_Full_Nothing,
      ki_Halted_NoText := OF.kit_of xiC_Halted xtC_Halted xsC_Halted xki_Halted_NoText,
      ki_Halted_NoPlacing := OF.kit_of xiC_Halted xtC_Halted xsC_Halted xki_Halted_NoPlacing,
      ki_Halted_NoEdit := OF.kit_of xiC_Halted xtC_Halted xsC_Halted xki_Halted_NoEdit,
      ki_Halted_NoLine := OF.kit_of xiC_Halted xtC_Halted xsC_Halted xki_Halted_NoLine,
      ki_Halted_Taken := OF.kit_of xiC_Halted xtC_Halted xsC_Halted xki_Halted_Taken,
      ki_Halted_Held := OF.kit_of xiC_Halted xtC_Halted xsC_Halted xki_Halted_Held,
      ki_Halted_Full := OF.kit_of xiC_Halted xtC_Halted xsC_Halted xki_Halted_Full,
      ki_Halted_NoBlock := OF.kit_of xiC_Halted xtC_Halted xsC_Halted xki_Halted_NoBlock,
      ki_Halted_NoRow := OF.kit_of xiC_Halted xtC_Halted xsC_Halted xki_Halted_NoRow,
      ki_Halted_NoPlace := OF.kit_of xiC_Halted xtC_Halted xsC_Halted xki_Halted_NoPlace,
      ki_Halted_Stopped := OF.kit_of xiC_Halted xtC_Halted xsC_Halted xki_Halted_Stopped,
      ki_Halted_NoProgram := OF.kit_of xiC_Halted xtC_Halted xsC_Halted xki_Halted_NoProgram,
      ki_Halted_Nothing := OF.kit_of xiC_Halted xtC_Halted xsC_Halted xki_Halted_Nothing,
      ki_Held_NoText := OF.kit_of xiC_Held xtC_Held xsC_Held xki_Held_NoText,
      ki_Held_NoPlacing := OF.kit_of xiC_Held xtC_Held xsC_Held xki_Held_NoPlacing,
      ki_Held_NoEdit := OF.kit_of xiC_Held xtC_Held xsC_Held xki_Held_NoEdit,
      ki_Held_NoLine := OF.kit_of xiC_Held xtC_Held xsC_Held xki_Held_NoLine,
      ki_Held_Taken := OF.kit_of xiC_Held xtC_Held xsC_Held xki_Held_Taken,
      ki_Held_Held := OF.kit_of xiC_Held xtC_Held xsC_Held xki_Held_Held,
      ki_Held_Full := OF.kit_of xiC_Held xtC_Held xsC_Held xki_Held_Full,
      ki_Held_NoBlock := OF.kit_of xiC_Held xtC_Held xsC_Held xki_Held_NoBlock,
      ki_Held_NoRow := OF.kit_of xiC_Held xtC_Held xsC_Held xki_Held_NoRow,
      ki_Held_NoPlace := OF.kit_of xiC_Held xtC_Held xsC_Held xki_Held_NoPlace,
      ki_Held_Stopped := OF.kit_of xiC_Held xtC_Held xsC_Held xki_Held_Stopped,
      ki_Held_NoProgram := OF.kit_of xiC_Held xtC_Held xsC_Held xki_Held_NoProgram,
      ki_Held_Nothing := OF.kit_of xiC_Held xtC_Held xsC_Held xki_Held_Nothing,
      ki_Missing_NoText := OF.kit_of xiC_Missing xtC_Missing xsC_Missing xki_Missing_NoText,
      ki_Missing_NoPlacing := OF.kit_of xiC_Missing xtC_Missing xsC_Missing xki_Missing_NoPlacing,
      ki_Missing_NoEdit := OF.kit_of xiC_Missing xtC_Missing xsC_Missing xki_Missing_NoEdit,
      ki_Missing_NoLine := OF.kit_of xiC_Missing xtC_Missing xsC_Missing xki_Missing_NoLine,
      ki_Missing_Taken := OF.kit_of xiC_Missing xtC_Missing xsC_Missing xki_Missing_Taken,
      ki_Missing_Held := OF.kit_of xiC_Missing xtC_Missing xsC_Missing xki_Missing_Held,
      ki_Missing_Full := OF.kit_of xiC_Missing xtC_Missing xsC_Missing xki_Missing_Full,
      ki_Missing_NoBlock := OF.kit_of xiC_Missing xtC_Missing xsC_Missing xki_Missing_NoBlock,
      ki_Missing_NoRow := OF.kit_of xiC_Missing xtC_Missing xsC_Missing xki_Missing_NoRow,
      ki_Missing_NoPlace := OF.kit_of xiC_Missing xtC_Missing xsC_Missing xki_Missing_NoPlace,
      ki_Missing_Stopped := OF.kit_of xiC_Missing xtC_Missing xsC_Missing xki_Missing_Stopped,
      ki_Missing_NoProgram := OF.kit_of xiC_Missing xtC_Missing xsC_Missing xki_Missing_NoProgram,
      ki_Missing_Nothing := OF.kit_of xiC_Missing xtC_Missing xsC_Missing xki_Missing_Nothing,
      ki_NoBlock_NoText := OF.kit_of xiC_NoBlock xtC_NoBlock xsC_NoBlock xki_NoBlock_NoText,
      ki_NoBlock_NoPlacing := OF.kit_of xiC_NoBlock xtC_NoBlock xsC_NoBlock xki_NoBlock_NoPlacing,
      ki_NoBlock_NoEdit := OF.kit_of xiC_NoBlock xtC_NoBlock xsC_NoBlock xki_NoBlock_NoEdit,
      ki_NoBlock_NoLine := OF.kit_of xiC_NoBlock xtC_NoBlock xsC_NoBlock xki_NoBlock_NoLine,
      ki_NoBlock_Taken := OF.kit_of xiC_NoBlock xtC_NoBlock xsC_NoBlock xki_NoBlock_Taken,
      ki_NoBlock_Held := OF.kit_of xiC_NoBlock xtC_NoBlock xsC_NoBlock xki_NoBlock_Held,
      ki_NoBlock_Full := OF.kit_of xiC_NoBlock xtC_NoBlock xsC_NoBlock xki_NoBlock_Full,
      ki_NoBlock_NoBlock := OF.kit_of xiC_NoBlock xtC_NoBlock xsC_NoBlock xki_NoBlock_NoBlock,
      ki_NoBlock_NoRow := OF.kit_of xiC_NoBlock xtC_NoBlock xsC_NoBlock xki_NoBlock_NoRow,
      ki_NoBlock_NoPlace := OF.kit_of xiC_NoBlock xtC_NoBlock xsC_NoBlock xki_NoBlock_NoPlace,
      ki_NoBlock_Stopped := OF.kit_of xiC_NoBlock xtC_NoBlock xsC_NoBlock xki_NoBlock_Stopped,
      ki_NoBlock_NoProgram := OF.kit_of xiC_NoBlock xtC_NoBlock xsC_NoBlock xki_NoBlock_NoProgram,
      ki_NoBlock_Nothing := OF.kit_of xiC_NoBlock xtC_NoBlock xsC_NoBlock xki_NoBlock_Nothing,
      ki_NoEdit_NoText := OF.kit_of xiC_NoEdit xtC_NoEdit xsC_NoEdit xki_NoEdit_NoText,
      ki_NoEdit_NoPlacing := OF.kit_of xiC_NoEdit xtC_NoEdit xsC_NoEdit xki_NoEdit_NoPlacing,
      ki_NoEdit_NoEdit := OF.kit_of xiC_NoEdit xtC_NoEdit xsC_NoEdit xki_NoEdit_NoEdit,
      ki_NoEdit_NoLine := OF.kit_of xiC_NoEdit xtC_NoEdit xsC_NoEdit xki_NoEdit_NoLine,
      ki_NoEdit_Taken := OF.kit_of xiC_NoEdit xtC_NoEdit xsC_NoEdit xki_NoEdit_Taken,
      ki_NoEdit_Held := OF.kit_of xiC_NoEdit xtC_NoEdit xsC_NoEdit xki_NoEdit_Held,
      ki_NoEdit_Full := OF.kit_of xiC_NoEdit xtC_NoEdit xsC_NoEdit xki_NoEdit_Full,
      ki_NoEdit_NoBlock := OF.kit_of xiC_NoEdit xtC_NoEdit xsC_NoEdit xki_NoEdit_NoBlock,
      ki_NoEdit_NoRow := OF.kit_of xiC_NoEdit xtC_NoEdit xsC_NoEdit xki_NoEdit_NoRow,
      ki_NoEdit_NoPlace := OF.kit_of xiC_NoEdit xtC_NoEdit xsC_NoEdit xki_NoEdit_NoPlace,
      ki_NoEdit_Stopped := OF.kit_of xiC_NoEdit xtC_NoEdit xsC_NoEdit xki_NoEdit_Stopped,
      ki_NoEdit_NoProgram := OF.kit_of xiC_NoEdit xtC_NoEdit xsC_NoEdit xki_NoEdit_NoProgram,
      ki_NoEdit_Nothing := OF.kit_of xiC_NoEdit xtC_NoEdit xsC_NoEdit xki_NoEdit_Nothing,
      ki_NoLine_NoText := OF.kit_of xiC_NoLine xtC_NoLine xsC_NoLine xki_NoLine_NoText,
      ki_NoLine_NoPlacing := OF.kit_of xiC_NoLine xtC_NoLine xsC_NoLine xki_NoLine_NoPlacing,
      ki_NoLine_NoEdit := OF.kit_of xiC_NoLine xtC_NoLine xsC_NoLine xki_NoLine_NoEdit,
      ki_NoLine_NoLine := OF.kit_of xiC_NoLine xtC_NoLine xsC_NoLine xki_NoLine_NoLine,
      ki_NoLine_Taken := OF.kit_of xiC_NoLine xtC_NoLine xsC_NoLine xki_NoLine_Taken,
      ki_NoLine_Held := OF.kit_of xiC_NoLine xtC_NoLine xsC_NoLine xki_NoLine_Held,
      ki_NoLine_Full := OF.kit_of xiC_NoLine xtC_NoLine xsC_NoLine xki_NoLine_Full,
      ki_NoLine_NoBlock := OF.kit_of xiC_NoLine xtC_NoLine xsC_NoLine xki_NoLine_NoBlock,
      ki_NoLine_NoRow := OF.kit_of xiC_NoLine xtC_NoLine xsC_NoLine xki_NoLine_NoRow,
      ki_NoLine_NoPlace := OF.kit_of xiC_NoLine xtC_NoLine xsC_NoLine xki_NoLine_NoPlace,
      ki_NoLine_Stopped := OF.kit_of xiC_NoLine xtC_NoLine xsC_NoLine xki_NoLine_Stopped,
      ki_NoLine_NoProgram := OF.kit_of xiC_NoLine xtC_NoLine xsC_NoLine xki_NoLine_NoProgram,
      ki_NoLine_Nothing := OF.kit_of xiC_NoLine xtC_NoLine xsC_NoLine xki_NoLine_Nothing,
      ki_NoPlace_NoText := OF.kit_of xiC_NoPlace xtC_NoPlace xsC_NoPlace xki_NoPlace_NoText,
      ki_NoPlace_NoPlacing := OF.kit_of xiC_NoPlace xtC_NoPlace xsC_NoPlace xki_NoPlace_NoPlacing,
      ki_NoPlace_NoEdit := OF.kit_of xiC_NoPlace xtC_NoPlace xsC_NoPlace xki_NoPlace_NoEdit,
      ki_NoPlace_NoLine := OF.kit_of xiC_NoPlace xtC_NoPlace xsC_NoPlace xki_NoPlace_NoLine,
      ki_NoPlace_Taken := OF.kit_of xiC_NoPlace xtC_NoPlace xsC_NoPlace xki_NoPlace_Taken,
      ki_NoPlace_Held := OF.kit_of xiC_NoPlace xtC_NoPlace xsC_NoPlace xki_NoPlace_Held,
      ki_NoPlace_Full := OF.kit_of xiC_NoPlace xtC_NoPlace xsC_NoPlace xki_NoPlace_Full,
      ki_NoPlace_NoBlock := OF.kit_of xiC_NoPlace xtC_NoPlace xsC_NoPlace xki_NoPlace_NoBlock,
      ki_NoPlace_NoRow := OF.kit_of xiC_NoPlace xtC_NoPlace xsC_NoPlace xki_NoPlace_NoRow,
      ki_NoPlace_NoPlace := OF.kit_of xiC_NoPlace xtC_NoPlace xsC_NoPlace xki_NoPlace_NoPlace,
      ki_NoPlace_Stopped := OF.kit_of xiC_NoPlace xtC_NoPlace xsC_NoPlace xki_NoPlace_Stopped,
      ki_NoPlace_NoProgram := OF.kit_of xiC_NoPlace xtC_NoPlace xsC_NoPlace xki_NoPlace_NoProgram,
      ki_NoPlace_Nothing := OF.kit_of xiC_NoPlace xtC_NoPlace xsC_NoPlace xki_NoPlace_Nothing,
      ki_NoPlacing_NoText := OF.kit_of xiC_NoPlacing xtC_NoPlacing xsC_NoPlacing xki_NoPlacing_NoText,
      ki_NoPlacing_NoPlacing := OF.kit_of xiC_NoPlacing xtC_NoPlacing xsC_NoPlacing xki_NoPlacing_NoPlacing,
      ki_NoPlacing_NoEdit := OF.kit_of xiC_NoPlacing xtC_NoPlacing xsC_NoPlacing xki_NoPlacing_NoEdit,
      ki_NoPlacing_NoLine := OF.kit_of xiC_NoPlacing xtC_NoPlacing xsC_NoPlacing xki_NoPlacing_NoLine,
      ki_NoPlacing_Taken := OF.kit_of xiC_NoPlacing xtC_NoPlacing xsC_NoPlacing xki_NoPlacing_Taken,
      ki_NoPlacing_Held := OF.kit_of xiC_NoPlacing xtC_NoPlacing xsC_NoPlacing xki_NoPlacing_Held,
      ki_NoPlacing_Full := OF.kit_of xiC_NoPlacing xtC_NoPlacing xsC_NoPlacing xki_NoPlacing_Full,
      ki_NoPlacing_NoBlock := OF.kit_of xiC_NoPlacing xtC_NoPlacing xsC_NoPlacing xki_NoPlacing_NoBlock,
      ki_NoPlacing_NoRow := OF.kit_of xiC_NoPlacing xtC_NoPlacing xsC_NoPlacing xki_NoPlacing_NoRow,
      ki_NoPlacing_NoPlace := OF.kit_of xiC_NoPlacing xtC_NoPlacing xsC_NoPlacing xki_NoPlacing_NoPlace,
      ki_NoPlacing_Stopped := OF.kit_of xiC_NoPlacing xtC_NoPlacing xsC_NoPlacing xki_NoPlacing_Stopped,
      ki_NoPlacing_NoProgram := OF.kit_of xiC_NoPlacing xtC_NoPlacing xsC_NoPlacing xki_NoPlacing_NoProgram,
      ki_NoPlacing_Nothing := OF.kit_of xiC_NoPlacing xtC_NoPlacing xsC_NoPlacing xki_NoPlacing_Nothing,
      ki_NoProgram_NoText := OF.kit_of xiC_NoProgram xtC_NoProgram xsC_NoProgram xki_NoProgram_NoText,
      ki_NoProgram_NoPlacing := OF.kit_of xiC_NoProgram xtC_NoProgram xsC_NoProgram xki_NoProgram_NoPlacing,
      ki_NoProgram_NoEdit := OF.kit_of xiC_NoProgram xtC_NoProgram xsC_NoProgram xki_NoProgram_NoEdit,
      ki_NoProgram_NoLine := OF.kit_of xiC_NoProgram xtC_NoProgram xsC_NoProgram xki_NoProgram_NoLine,
      ki_NoProgram_Taken := OF.kit_of xiC_NoProgram xtC_NoProgram xsC_NoProgram xki_NoProgram_Taken,
      ki_NoProgram_Held := OF.kit_of xiC_NoProgram xtC_NoProgram xsC_NoProgram xki_NoProgram_Held,
      ki_NoProgram_Full := OF.kit_of xiC_NoProgram xtC_NoProgram xsC_NoProgram xki_NoProgram_Full,
      ki_NoProgram_NoBlock := OF.kit_of xiC_NoProgram xtC_NoProgram xsC_NoProgram xki_NoProgram_NoBlock,
      ki_NoProgram_NoRow := OF.kit_of xiC_NoProgram xtC_NoProgram xsC_NoProgram xki_NoProgram_NoRow,
      ki_NoProgram_NoPlace := OF.kit_of xiC_NoProgram xtC_NoProgram xsC_NoProgram xki_NoProgram_NoPlace,
      ki_NoProgram_Stopped := OF.kit_of xiC_NoProgram xtC_NoProgram xsC_NoProgram xki_NoProgram_Stopped,
      ki_NoProgram_NoProgram := OF.kit_of xiC_NoProgram xtC_NoProgram xsC_NoProgram xki_NoProgram_NoProgram,
      ki_NoProgram_Nothing := OF.kit_of xiC_NoProgram xtC_NoProgram xsC_NoProgram xki_NoProgram_Nothing,
      ki_NoRow_NoText := OF.kit_of xiC_NoRow xtC_NoRow xsC_NoRow xki_NoRow_NoText,
      ki_NoRow_NoPlacing := OF.kit_of xiC_NoRow xtC_NoRow xsC_NoRow xki_NoRow_NoPlacing,
      ki_NoRow_NoEdit := OF.kit_of xiC_NoRow xtC_NoRow xsC_NoRow xki_NoRow_NoEdit,
      ki_NoRow_NoLine := OF.kit_of xiC_NoRow xtC_NoRow xsC_NoRow xki_NoRow_NoLine,
      ki_NoRow_Taken := OF.kit_of xiC_NoRow xtC_NoRow xsC_NoRow xki_NoRow_Taken,
      ki_NoRow_Held := OF.kit_of xiC_NoRow xtC_NoRow xsC_NoRow xki_NoRow_Held,
      ki_NoRow_Full := OF.kit_of xiC_NoRow xtC_NoRow xsC_NoRow xki_NoRow_Full,
      ki_NoRow_NoBlock := OF.kit_of xiC_NoRow xtC_NoRow xsC_NoRow xki_NoRow_NoBlock,
      ki_NoRow_NoRow := OF.kit_of xiC_NoRow xtC_NoRow xsC_NoRow xki_NoRow_NoRow,
      ki_NoRow_NoPlace := OF.kit_of xiC_NoRow xtC_NoRow xsC_NoRow xki_NoRow_NoPlace,
      ki_NoRow_Stopped := OF.kit_of xiC_NoRow xtC_NoRow xsC_NoRow xki_NoRow_Stopped,
      ki_NoRow_NoProgram := OF.kit_of xiC_NoRow xtC_NoRow xsC_NoRow xki_NoRow_NoProgram,
      ki_NoRow_Nothing := OF.kit_of xiC_NoRow xtC_NoRow xsC_NoRow xki_NoRow_Nothing,
      ki_NoText_NoText := OF.kit_of xiC_NoText xtC_NoText xsC_NoText xki_NoText_NoText,
      ki_NoText_NoPlacing := OF.kit_of xiC_NoText xtC_NoText xsC_NoText xki_NoText_NoPlacing,
      ki_NoText_NoEdit := OF.kit_of xiC_NoText xtC_NoText xsC_NoText xki_NoText_NoEdit,
      ki_NoText_NoLine := OF.kit_of xiC_NoText xtC_NoText xsC_NoText xki_NoText_NoLine,
      ki_NoText_Taken := OF.kit_of xiC_NoText xtC_NoText xsC_NoText xki_NoText_Taken,
      ki_NoText_Held := OF.kit_of xiC_NoText xtC_NoText xsC_NoText xki_NoText_Held,
      ki_NoText_Full := OF.kit_of xiC_NoText xtC_NoText xsC_NoText xki_NoText_Full,
      ki_NoText_NoBlock := OF.kit_of xiC_NoText xtC_NoText xsC_NoText xki_NoText_NoBlock,
      ki_NoText_NoRow := OF.kit_of xiC_NoText xtC_NoText xsC_NoText xki_NoText_NoRow,
      ki_NoText_NoPlace := OF.kit_of xiC_NoText xtC_NoText xsC_NoText xki_NoText_NoPlace,
      ki_NoText_Stopped := OF.kit_of xiC_NoText xtC_NoText xsC_NoText xki_NoText_Stopped,
      ki_NoText_NoProgram := OF.kit_of xiC_NoText xtC_NoText xsC_NoText xki_NoText_NoProgram,
      ki_NoText_Nothing := OF.kit_of xiC_NoText xtC_NoText xsC_NoText xki_NoText_Nothing,
      ki_Nothing_NoText := OF.kit_of xiC_Nothing xtC_Nothing xsC_Nothing xki_Nothing_NoText,
      ki_Nothing_NoPlacing := OF.kit_of xiC_Nothing xtC_Nothing xsC_Nothing xki_Nothing_NoPlacing,
      ki_Nothing_NoEdit := OF.kit_of xiC_Nothing xtC_Nothing xsC_Nothing xki_Nothing_NoEdit,
      ki_Nothing_NoLine := OF.kit_of xiC_Nothing xtC_Nothing xsC_Nothing xki_Nothing_NoLine,
      ki_Nothing_Taken := OF.kit_of xiC_Nothing xtC_Nothing xsC_Nothing xki_Nothing_Taken,
      ki_Nothing_Held := OF.kit_of xiC_Nothing xtC_Nothing xsC_Nothing xki_Nothing_Held,
      ki_Nothing_Full := OF.kit_of xiC_Nothing xtC_Nothing xsC_Nothing xki_Nothing_Full,
      ki_Nothing_NoBlock := OF.kit_of xiC_Nothing xtC_Nothing xsC_Nothing xki_Nothing_NoBlock,
      ki_Nothing_NoRow := OF.kit_of xiC_Nothing xtC_Nothing xsC_Nothing xki_Nothing_NoRow,
      ki_Nothing_NoPlace := OF.kit_of xiC_Nothing xtC_Nothing xsC_Nothing xki_Nothing_NoPlace,
      ki_Nothing_Stopped := OF.kit_of xiC_Nothing xtC_Nothing xsC_Nothing xki_Nothing_Stopped,
      ki_Nothing_NoProgram := OF.kit_of xiC_Nothing xtC_Nothing xsC_Nothing xki_Nothing_NoProgram,
      ki_Nothing_Nothing := OF.kit_of xiC_Nothing xtC_Nothing xsC_Nothing xki_Nothing_Nothing,
      ki_Refused_NoText := OF.kit_of xiC_Refused xtC_Refused xsC_Refused xki_Refused_NoText,
      ki_Refused_NoPlacing := OF.kit_of xiC_Refused xtC_Refused xsC_Refused xki_Refused_NoPlacing,
      ki_Refused_NoEdit := OF.kit_of xiC_Refused xtC_Refused xsC_Refused xki_Refused_NoEdit,
      ki_Refused_NoLine := OF.kit_of xiC_Refused xtC_Refused xsC_Refused xki_Refused_NoLine,
      ki_Refused_Taken := OF.kit_of xiC_Refused xtC_Refused xsC_Refused xki_Refused_Taken,
      ki_Refused_Held := OF.kit_of xiC_Refused xtC_Refused xsC_Refused xki_Refused_Held,
      ki_Refused_Full := OF.kit_of xiC_Refused xtC_Refused xsC_Refused xki_Refused_Full,
      ki_Refused_NoBlock := OF.kit_of xiC_Refused xtC_Refused xsC_Refused xki_Refused_NoBlock,
      ki_Refused_NoRow := OF.kit_of xiC_Refused xtC_Refused xsC_Refused xki_Refused_NoRow,
      ki_Refused_NoPlace := OF.kit_of xiC_Refused xtC_Refused xsC_Refused xki_Refused_NoPlace,
      ki_Refused_Stopped := OF.kit_of xiC_Refused xtC_Refused xsC_Refused xki_Refused_Stopped,
      ki_Refused_NoProgram := OF.kit_of xiC_Refused xtC_Refused xsC_Refused xki_Refused_NoProgram,
      ki_Refused_Nothing := OF.kit_of xiC_Refused xtC_Refused xsC_Refused xki_Refused_Nothing,
      ki_Stopped_NoText := OF.kit_of xiC_Stopped xtC_Stopped xsC_Stopped xki_Stopped_NoText,
      ki_Stopped_NoPlacing := OF.kit_of xiC_Stopped xtC_Stopped xsC_Stopped xki_Stopped_NoPlacing,
      ki_Stopped_NoEdit := OF.kit_of xiC_Stopped xtC_Stopped xsC_Stopped xki_Stopped_NoEdit,
      ki_Stopped_NoLine := OF.kit_of xiC_Stopped xtC_Stopped xsC_Stopped xki_Stopped_NoLine,
      ki_Stopped_Taken := OF.kit_of xiC_Stopped xtC_Stopped xsC_Stopped xki_Stopped_Taken,
      ki_Stopped_Held := OF.kit_of xiC_Stopped xtC_Stopped xsC_Stopped xki_Stopped_Held,
      ki_Stopped_Full := OF.kit_of xiC_Stopped xtC_Stopped xsC_Stopped xki_Stopped_Full,
      ki_Stopped_NoBlock := OF.kit_of xiC_Stopped xtC_Stopped xsC_Stopped xki_Stopped_NoBlock,
      ki_Stopped_NoRow := OF.kit_of xiC_Stopped xtC_Stopped xsC_Stopped xki_Stopped_NoRow,
      ki_Stopped_NoPlace := OF.kit_of xiC_Stopped xtC_Stopped xsC_Stopped xki_Stopped_NoPlace,
      ki_Stopped_Stopped := OF.kit_of xiC_Stopped xtC_Stopped xsC_Stopped xki_Stopped_Stopped,
      ki_Stopped_NoProgram := OF.kit_of xiC_Stopped xtC_Stopped xsC_Stopped xki_Stopped_NoProgram,
      ki_Stopped_Nothing := OF.kit_of xiC_Stopped xtC_Stopped xsC_Stopped xki_Stopped_Nothing,
      ki_Taken_NoText := OF.kit_of xiC_Taken xtC_Taken xsC_Taken xki_Taken_NoText,
      ki_Taken_NoPlacing := OF.kit_of xiC_Taken xtC_Taken xsC_Taken xki_Taken_NoPlacing,
      ki_Taken_NoEdit := OF.kit_of xiC_Taken xtC_Taken xsC_Taken xki_Taken_NoEdit,
      ki_Taken_NoLine := OF.kit_of xiC_Taken xtC_Taken xsC_Taken xki_Taken_NoLine,
      ki_Taken_Taken := OF.kit_of xiC_Taken xtC_Taken xsC_Taken xki_Taken_Taken,
      ki_Taken_Held := OF.kit_of xiC_Taken xtC_Taken xsC_Taken xki_Taken_Held,
      ki_Taken_Full := OF.kit_of xiC_Taken xtC_Taken xsC_Taken xki_Taken_Full,
      ki_Taken_NoBlock := OF.kit_of xiC_Taken xtC_Taken xsC_Taken xki_Taken_NoBlock,
      ki_Taken_NoRow := OF.kit_of xiC_Taken xtC_Taken xsC_Taken xki_Taken_NoRow,
      ki_Taken_NoPlace := OF.kit_of xiC_Taken xtC_Taken xsC_Taken xki_Taken_NoPlace,
      ki_Taken_Stopped := OF.kit_of xiC_Taken xtC_Taken xsC_Taken xki_Taken_Stopped,
      ki_Taken_NoProgram := OF.kit_of xiC_Taken xtC_Taken xsC_Taken xki_Taken_NoProgram,
      ki_Taken_Nothing := OF.kit_of xiC_Taken xtC_Taken xsC_Taken xki_Taken_Nothing,
      n_LookupError := PySem.W.mg_none_of X G n_LookupError,
      n_RuntimeError := PySem.W.mg_none_of X G n_RuntimeError,
      n_ValueError := PySem.W.mg_none_of X G n_ValueError,
      n_abs := PySem.W.mg_none_of X G n_abs,
      n_all := PySem.W.mg_none_of X G n_all,
      n_enumerate := PySem.W.mg_none_of X G n_enumerate,
      n_int := PySem.W.mg_none_of X G n_int,
      n_isinstance := PySem.W.mg_none_of X G n_isinstance,
      n_len := PySem.W.mg_none_of X G n_len,
      n_max := PySem.W.mg_none_of X G n_max,
      n_min := PySem.W.mg_none_of X G n_min,
      n_range := PySem.W.mg_none_of X G n_range,
      n_repr := PySem.W.mg_none_of X G n_repr }
  exact ⟨(PySem.W.fnOf "law" "law" (defArgs st_law) (defBody st_law) (defScope st_law) .none kV_law dc_law pm_law an_law cd_law ct_law), fun s v => .of_eq rfl, fun base _ _ => ok_endG (G := gx ad) (ok_law (ad := ad) (fd := fd) T) law_true⟩
end K05
open PySem PySem.W PyProof.Rows
set_option maxRecDepth 100000 in
set_option maxHeartbeats 0 in
theorem PySem.Challenge.cw_onceforms_k05_refusals_made_holds : PySem.Challenge.rw_onceforms_k05_refusals_made.Holds := by
  w_on; o_law; k_head; (case hw => w_witness2)
  k_fill
  refine OF.walkG (l := PySem.Challenge.rw_onceforms_k05_refusals_made) (n := 63) (k := 4) (x := "_law_script") rfl rfl rfl ⟨rfl, by decide, by decide⟩ (fun w h Y => PySem.W.kIn_of Y) ?F
  case F =>
    intro w mg fa h KX G hmg
    refine' K05.all_mk KX G hmg ?a__law_take ?l__law_take ?c__law_take ?k__law_take ?a__law_pick ?l__law_pick ?c__law_pick ?k__law_pick ?a__law_things ?l__law_things ?c__law_things ?k__law_things ?a__law_made ?l__law_made ?c__law_made ?k__law_made ?a__law_hand ?l__law_hand ?c__law_hand ?k__law_hand ?a__law_raised ?l__law_raised ?c__law_raised ?k__law_raised ?a__law_values_right ?l__law_values_right ?c__law_values_right ?k__law_values_right ?a__law_classes_right ?l__law_classes_right ?c__law_classes_right ?k__law_classes_right ?a_law ?l_law ?c_law ?k_law ?aC_Halted ?aC_Missing ?aC_NoPlacing ?aC_NoProgram ?aC_Nothing ?aC_Refused ?xa_NoText ?xL_NoText ?xsa_NoText ?xga_NoText ?xgg_NoText ?xnb_NoText ?xa1_NoText ?xt1_NoText ?xl1_NoText ?xc1_NoText ?xkC_NoText ?xeC_NoText ?xtC_NoText ?xhC_NoText ?xa_NoEdit ?xL_NoEdit ?xsa_NoEdit ?xga_NoEdit ?xgg_NoEdit ?xnb_NoEdit ?xa1_NoEdit ?xt1_NoEdit ?xl1_NoEdit ?xc1_NoEdit ?xkC_NoEdit ?xeC_NoEdit ?xtC_NoEdit ?xhC_NoEdit ?xa_NoLine ?xL_NoLine ?xsa_NoLine ?xga_NoLine ?xgg_NoLine ?xnb_NoLine ?xa1_NoLine ?xt1_NoLine ?xl1_NoLine ?xc1_NoLine ?xkC_NoLine ?xeC_NoLine ?xtC_NoLine ?xhC_NoLine ?xa_Taken ?xL_Taken ?xsa_Taken ?xga_Taken ?xgg_Taken ?xnb_Taken ?xa1_Taken ?xt1_Taken ?xl1_Taken ?xc1_Taken ?xkC_Taken ?xeC_Taken ?xtC_Taken ?xhC_Taken ?xa_Held ?xL_Held ?xsa_Held ?xga_Held ?xgg_Held ?xnb_Held ?xa1_Held ?xt1_Held ?xl1_Held ?xc1_Held ?xkC_Held ?xeC_Held ?xtC_Held ?xhC_Held ?xa_Full ?xL_Full ?xsa_Full ?xga_Full ?xgg_Full ?xnb_Full ?xa1_Full ?xt1_Full ?xl1_Full ?xc1_Full ?xkC_Full ?xeC_Full ?xtC_Full ?xhC_Full ?xa_NoBlock ?xL_NoBlock ?xsa_NoBlock ?xga_NoBlock ?xgg_NoBlock ?xnb_NoBlock ?xa1_NoBlock ?xt1_NoBlock ?xl1_NoBlock ?xc1_NoBlock ?xkC_NoBlock ?xeC_NoBlock ?xtC_NoBlock ?xhC_NoBlock ?xa_NoRow ?xL_NoRow ?xsa_NoRow ?xga_NoRow ?xgg_NoRow ?xnb_NoRow ?xa1_NoRow ?xt1_NoRow ?xl1_NoRow ?xc1_NoRow ?xkC_NoRow ?xeC_NoRow ?xtC_NoRow ?xhC_NoRow ?xa_NoPlace ?xL_NoPlace ?xsa_NoPlace ?xga_NoPlace ?xgg_NoPlace ?xnb_NoPlace ?xa1_NoPlace ?xt1_NoPlace ?xl1_NoPlace ?xc1_NoPlace ?xkC_NoPlace ?xeC_NoPlace ?xtC_NoPlace ?xhC_NoPlace ?xa_Stopped ?xL_Stopped ?xsa_Stopped ?xga_Stopped ?xgg_Stopped ?xnb_Stopped ?xa1_Stopped ?xt1_Stopped ?xl1_Stopped ?xc1_Stopped ?xkC_Stopped ?xeC_Stopped ?xtC_Stopped ?xhC_Stopped ?xL_NoPlacing ?xsa_NoPlacing ?xnb1_NoPlacing ?xnb2_NoPlacing ?xa1_NoPlacing ?xt1_NoPlacing ?xl1_NoPlacing ?xc1_NoPlacing ?xe_NoProgram ?xe_Nothing ?xga_NoPlacing ?xgg_NoPlacing ?xkC_NoPlacing ?xhC_NoPlacing ?xga_NoProgram ?xgg_NoProgram ?xkC_NoProgram ?xhC_NoProgram ?xga_Nothing ?xgg_Nothing ?xkC_Nothing ?xhC_Nothing ?xsn_Halted_Stopped ?xsn_Halted_Held ?xsn_Halted_NoRow ?xsn_Missing_Stopped ?xsn_Missing_Held ?xsn_Missing_NoRow ?xsn_Refused_Stopped ?xsn_Refused_Held ?xsn_Refused_NoRow ?xkb_LookupError_NoText ?xkb_LookupError_NoPlacing ?xkb_LookupError_NoEdit ?xkb_LookupError_NoLine ?xkb_LookupError_Taken ?xkb_LookupError_Held ?xkb_LookupError_Full ?xkb_LookupError_NoBlock ?xkb_LookupError_NoRow ?xkb_LookupError_NoPlace ?xkb_LookupError_Stopped ?xkb_LookupError_NoProgram ?xkb_LookupError_Nothing ?xkb_RuntimeError_NoText ?xkb_RuntimeError_NoPlacing ?xkb_RuntimeError_NoEdit ?xkb_RuntimeError_NoLine ?xkb_RuntimeError_Taken ?xkb_RuntimeError_Held ?xkb_RuntimeError_Full ?xkb_RuntimeError_NoBlock ?xkb_RuntimeError_NoRow ?xkb_RuntimeError_NoPlace ?xkb_RuntimeError_Stopped ?xkb_RuntimeError_NoProgram ?xkb_RuntimeError_Nothing ?xkb_ValueError_NoText ?xkb_ValueError_NoPlacing ?xkb_ValueError_NoEdit ?xkb_ValueError_NoLine ?xkb_ValueError_Taken ?xkb_ValueError_Held ?xkb_ValueError_Full ?xkb_ValueError_NoBlock ?xkb_ValueError_NoRow ?xkb_ValueError_NoPlace ?xkb_ValueError_Stopped ?xkb_ValueError_NoProgram ?xkb_ValueError_Nothing ?xiC_NoText ?xsC_NoText ?xiC_NoEdit ?xsC_NoEdit ?xiC_NoLine ?xsC_NoLine ?xiC_Taken ?xsC_Taken ?xiC_Held ?xsC_Held ?xiC_Full ?xsC_Full ?xiC_NoBlock ?xsC_NoBlock ?xiC_NoRow ?xsC_NoRow ?xiC_NoPlace ?xsC_NoPlace ?xiC_Stopped ?xsC_Stopped ?xiC_Halted ?xsC_Halted ?xiC_Missing ?xsC_Missing ?xiC_NoPlacing ?xsC_NoPlacing ?xiC_NoProgram ?xsC_NoProgram ?xiC_Nothing ?xsC_Nothing ?xiC_Refused ?xsC_Refused ?xtC_Halted ?xeC_Halted ?xtC_Missing ?xeC_Missing ?xtC_NoPlacing ?xeC_NoPlacing ?xtC_NoProgram ?xeC_NoProgram ?xtC_Nothing ?xeC_Nothing ?xtC_Refused ?xeC_Refused ?xsp ?xtk ?xcl_NoText ?xmr_NoText ?xcl_NoPlacing ?xmr_NoPlacing ?xcl_NoEdit ?xmr_NoEdit ?xcl_NoLine ?xmr_NoLine ?xcl_Taken ?xmr_Taken ?xcl_Held ?xmr_Held ?xcl_Full ?xmr_Full ?xcl_NoBlock ?xmr_NoBlock ?xcl_NoRow ?xmr_NoRow ?xcl_NoPlace ?xmr_NoPlace ?xcl_Stopped ?xmr_Stopped ?xcl_NoProgram ?xmr_NoProgram ?xcl_Nothing ?xmr_Nothing ?xki_Full_NoText ?xki_Full_NoPlacing ?xki_Full_NoEdit ?xki_Full_NoLine ?xki_Full_Taken ?xki_Full_Held ?xki_Full_Full ?xki_Full_NoBlock ?xki_Full_NoRow ?xki_Full_NoPlace ?xki_Full_Stopped ?xki_Full_NoProgram ?xki_Full_Nothing ?xki_Halted_NoText ?xki_Halted_NoPlacing ?xki_Halted_NoEdit ?xki_Halted_NoLine ?xki_Halted_Taken ?xki_Halted_Held ?xki_Halted_Full ?xki_Halted_NoBlock ?xki_Halted_NoRow ?xki_Halted_NoPlace ?xki_Halted_Stopped ?xki_Halted_NoProgram ?xki_Halted_Nothing ?xki_Held_NoText ?xki_Held_NoPlacing ?xki_Held_NoEdit ?xki_Held_NoLine ?xki_Held_Taken ?xki_Held_Held ?xki_Held_Full ?xki_Held_NoBlock ?xki_Held_NoRow ?xki_Held_NoPlace ?xki_Held_Stopped ?xki_Held_NoProgram ?xki_Held_Nothing ?xki_Missing_NoText ?xki_Missing_NoPlacing ?xki_Missing_NoEdit ?xki_Missing_NoLine ?xki_Missing_Taken ?xki_Missing_Held ?xki_Missing_Full ?xki_Missing_NoBlock ?xki_Missing_NoRow ?xki_Missing_NoPlace ?xki_Missing_Stopped ?xki_Missing_NoProgram ?xki_Missing_Nothing ?xki_NoBlock_NoText ?xki_NoBlock_NoPlacing ?xki_NoBlock_NoEdit ?xki_NoBlock_NoLine ?xki_NoBlock_Taken ?xki_NoBlock_Held ?xki_NoBlock_Full ?xki_NoBlock_NoBlock ?xki_NoBlock_NoRow ?xki_NoBlock_NoPlace ?xki_NoBlock_Stopped ?xki_NoBlock_NoProgram ?xki_NoBlock_Nothing ?xki_NoEdit_NoText ?xki_NoEdit_NoPlacing ?xki_NoEdit_NoEdit ?xki_NoEdit_NoLine ?xki_NoEdit_Taken ?xki_NoEdit_Held ?xki_NoEdit_Full ?xki_NoEdit_NoBlock ?xki_NoEdit_NoRow ?xki_NoEdit_NoPlace ?xki_NoEdit_Stopped ?xki_NoEdit_NoProgram ?xki_NoEdit_Nothing ?xki_NoLine_NoText ?xki_NoLine_NoPlacing ?xki_NoLine_NoEdit ?xki_NoLine_NoLine ?xki_NoLine_Taken ?xki_NoLine_Held ?xki_NoLine_Full ?xki_NoLine_NoBlock ?xki_NoLine_NoRow ?xki_NoLine_NoPlace ?xki_NoLine_Stopped ?xki_NoLine_NoProgram ?xki_NoLine_Nothing ?xki_NoPlace_NoText ?xki_NoPlace_NoPlacing ?xki_NoPlace_NoEdit ?xki_NoPlace_NoLine ?xki_NoPlace_Taken ?xki_NoPlace_Held ?xki_NoPlace_Full ?xki_NoPlace_NoBlock ?xki_NoPlace_NoRow ?xki_NoPlace_NoPlace ?xki_NoPlace_Stopped ?xki_NoPlace_NoProgram ?xki_NoPlace_Nothing ?xki_NoPlacing_NoText ?xki_NoPlacing_NoPlacing ?xki_NoPlacing_NoEdit ?xki_NoPlacing_NoLine ?xki_NoPlacing_Taken ?xki_NoPlacing_Held ?xki_NoPlacing_Full ?xki_NoPlacing_NoBlock ?xki_NoPlacing_NoRow ?xki_NoPlacing_NoPlace ?xki_NoPlacing_Stopped ?xki_NoPlacing_NoProgram ?xki_NoPlacing_Nothing ?xki_NoProgram_NoText ?xki_NoProgram_NoPlacing ?xki_NoProgram_NoEdit ?xki_NoProgram_NoLine ?xki_NoProgram_Taken ?xki_NoProgram_Held ?xki_NoProgram_Full ?xki_NoProgram_NoBlock ?xki_NoProgram_NoRow ?xki_NoProgram_NoPlace ?xki_NoProgram_Stopped ?xki_NoProgram_NoProgram ?xki_NoProgram_Nothing ?xki_NoRow_NoText ?xki_NoRow_NoPlacing ?xki_NoRow_NoEdit ?xki_NoRow_NoLine ?xki_NoRow_Taken ?xki_NoRow_Held ?xki_NoRow_Full ?xki_NoRow_NoBlock ?xki_NoRow_NoRow ?xki_NoRow_NoPlace ?xki_NoRow_Stopped ?xki_NoRow_NoProgram ?xki_NoRow_Nothing ?xki_NoText_NoText ?xki_NoText_NoPlacing ?xki_NoText_NoEdit ?xki_NoText_NoLine ?xki_NoText_Taken ?xki_NoText_Held ?xki_NoText_Full ?xki_NoText_NoBlock ?xki_NoText_NoRow ?xki_NoText_NoPlace ?xki_NoText_Stopped ?xki_NoText_NoProgram ?xki_NoText_Nothing ?xki_Nothing_NoText ?xki_Nothing_NoPlacing ?xki_Nothing_NoEdit ?xki_Nothing_NoLine ?xki_Nothing_Taken ?xki_Nothing_Held ?xki_Nothing_Full ?xki_Nothing_NoBlock ?xki_Nothing_NoRow ?xki_Nothing_NoPlace ?xki_Nothing_Stopped ?xki_Nothing_NoProgram ?xki_Nothing_Nothing ?xki_Refused_NoText ?xki_Refused_NoPlacing ?xki_Refused_NoEdit ?xki_Refused_NoLine ?xki_Refused_Taken ?xki_Refused_Held ?xki_Refused_Full ?xki_Refused_NoBlock ?xki_Refused_NoRow ?xki_Refused_NoPlace ?xki_Refused_Stopped ?xki_Refused_NoProgram ?xki_Refused_Nothing ?xki_Stopped_NoText ?xki_Stopped_NoPlacing ?xki_Stopped_NoEdit ?xki_Stopped_NoLine ?xki_Stopped_Taken ?xki_Stopped_Held ?xki_Stopped_Full ?xki_Stopped_NoBlock ?xki_Stopped_NoRow ?xki_Stopped_NoPlace ?xki_Stopped_Stopped ?xki_Stopped_NoProgram ?xki_Stopped_Nothing ?xki_Taken_NoText ?xki_Taken_NoPlacing ?xki_Taken_NoEdit ?xki_Taken_NoLine ?xki_Taken_Taken ?xki_Taken_Held ?xki_Taken_Full ?xki_Taken_NoBlock ?xki_Taken_NoRow ?xki_Taken_NoPlace ?xki_Taken_Stopped ?xki_Taken_NoProgram ?xki_Taken_Nothing ?n_LookupError ?n_RuntimeError ?n_ValueError ?n_abs ?n_all ?n_enumerate ?n_int ?n_isinstance ?n_len ?n_max ?n_min ?n_range ?n_repr
    (case a__law_take => first | k_is | rfl)
    (case l__law_take => first | k_is | rfl)
    (case c__law_take => first | k_is | rfl)
    (case k__law_take => first | k_is | rfl)
    (case a__law_pick => first | k_is | rfl)
    (case l__law_pick => first | k_is | rfl)
    (case c__law_pick => first | k_is | rfl)
    (case k__law_pick => first | k_is | rfl)
    (case a__law_things => first | k_is | rfl)
    (case l__law_things => first | k_is | rfl)
    (case c__law_things => first | k_is | rfl)
    (case k__law_things => first | k_is | rfl)
    (case a__law_made => first | k_is | rfl)
    (case l__law_made => first | k_is | rfl)
    (case c__law_made => first | k_is | rfl)
    (case k__law_made => first | k_is | rfl)
    (case a__law_hand => first | k_is | rfl)
    (case l__law_hand => first | k_is | rfl)
    (case c__law_hand => first | k_is | rfl)
    (case k__law_hand => first | k_is | rfl)
    (case a__law_raised => first | k_is | rfl)
    (case l__law_raised => first | k_is | rfl)
    (case c__law_raised => first | k_is | rfl)
    (case k__law_raised => first | k_is | rfl)
    (case a__law_values_right => first | k_is | rfl)
    (case l__law_values_right => first | k_is | rfl)
    (case c__law_values_right => first | k_is | rfl)
    (case k__law_values_right => first | k_is | rfl)
    (case a__law_classes_right => first | k_is | rfl)
    (case l__law_classes_right => first | k_is | rfl)
    (case c__law_classes_right => first | k_is | rfl)
    (case k__law_classes_right => first | k_is | rfl)
    (case a_law => first | k_is | rfl)
    (case l_law => first | k_is | rfl)
    (case c_law => first | k_is | rfl)
    (case k_law => first | k_is | rfl)
    (case aC_Halted => first | k_is | rfl)
    (case aC_Missing => first | k_is | rfl)
    (case aC_NoPlacing => first | k_is | rfl)
    (case aC_NoProgram => first | k_is | rfl)
    (case aC_Nothing => first | k_is | rfl)
    (case aC_Refused => first | k_is | rfl)
    (case xa_NoText => first | k_is | rfl)
    (case xL_NoText => first | k_is | rfl)
    (case xsa_NoText => first | k_is | rfl)
    (case xga_NoText => first | k_is | rfl)
    (case xgg_NoText => first | k_is | rfl)
    (case xnb_NoText => first | k_is | rfl)
    (case xa1_NoText => first | k_is | rfl)
    (case xt1_NoText => first | k_is | rfl)
    (case xl1_NoText => first | k_is | rfl)
    (case xc1_NoText => first | k_is | rfl)
    (case xkC_NoText => first | k_is | rfl)
    (case xeC_NoText => first | k_is | rfl)
    (case xtC_NoText => first | k_is | rfl)
    (case xhC_NoText => first | k_is | rfl)
    (case xa_NoEdit => first | k_is | rfl)
    (case xL_NoEdit => first | k_is | rfl)
    (case xsa_NoEdit => first | k_is | rfl)
    (case xga_NoEdit => first | k_is | rfl)
    (case xgg_NoEdit => first | k_is | rfl)
    (case xnb_NoEdit => first | k_is | rfl)
    (case xa1_NoEdit => first | k_is | rfl)
    (case xt1_NoEdit => first | k_is | rfl)
    (case xl1_NoEdit => first | k_is | rfl)
    (case xc1_NoEdit => first | k_is | rfl)
    (case xkC_NoEdit => first | k_is | rfl)
    (case xeC_NoEdit => first | k_is | rfl)
    (case xtC_NoEdit => first | k_is | rfl)
    (case xhC_NoEdit => first | k_is | rfl)
    (case xa_NoLine => first | k_is | rfl)
    (case xL_NoLine => first | k_is | rfl)
    (case xsa_NoLine => first | k_is | rfl)
    (case xga_NoLine => first | k_is | rfl)
    (case xgg_NoLine => first | k_is | rfl)
    (case xnb_NoLine => first | k_is | rfl)
    (case xa1_NoLine => first | k_is | rfl)
    (case xt1_NoLine => first | k_is | rfl)
    (case xl1_NoLine => first | k_is | rfl)
    (case xc1_NoLine => first | k_is | rfl)
    (case xkC_NoLine => first | k_is | rfl)
    (case xeC_NoLine => first | k_is | rfl)
    (case xtC_NoLine => first | k_is | rfl)
    (case xhC_NoLine => first | k_is | rfl)
    (case xa_Taken => first | k_is | rfl)
    (case xL_Taken => first | k_is | rfl)
    (case xsa_Taken => first | k_is | rfl)
    (case xga_Taken => first | k_is | rfl)
    (case xgg_Taken => first | k_is | rfl)
    (case xnb_Taken => first | k_is | rfl)
    (case xa1_Taken => first | k_is | rfl)
    (case xt1_Taken => first | k_is | rfl)
    (case xl1_Taken => first | k_is | rfl)
    (case xc1_Taken => first | k_is | rfl)
    (case xkC_Taken => first | k_is | rfl)
    (case xeC_Taken => first | k_is | rfl)
    (case xtC_Taken => first | k_is | rfl)
    (case xhC_Taken => first | k_is | rfl)
    (case xa_Held => first | k_is | rfl)
    (case xL_Held => first | k_is | rfl)
    (case xsa_Held => first | k_is | rfl)
    (case xga_Held => first | k_is | rfl)
    (case xgg_Held => first | k_is | rfl)
    (case xnb_Held => first | k_is | rfl)
    (case xa1_Held => first | k_is | rfl)
    (case xt1_Held => first | k_is | rfl)
    (case xl1_Held => first | k_is | rfl)
    (case xc1_Held => first | k_is | rfl)
    (case xkC_Held => first | k_is | rfl)
    (case xeC_Held => first | k_is | rfl)
    (case xtC_Held => first | k_is | rfl)
    (case xhC_Held => first | k_is | rfl)
    (case xa_Full => first | k_is | rfl)
    (case xL_Full => first | k_is | rfl)
    (case xsa_Full => first | k_is | rfl)
    (case xga_Full => first | k_is | rfl)
    (case xgg_Full => first | k_is | rfl)
    (case xnb_Full => first | k_is | rfl)
    (case xa1_Full => first | k_is | rfl)
    (case xt1_Full => first | k_is | rfl)
    (case xl1_Full => first | k_is | rfl)
    (case xc1_Full => first | k_is | rfl)
    (case xkC_Full => first | k_is | rfl)
    (case xeC_Full => first | k_is | rfl)
    (case xtC_Full => first | k_is | rfl)
    (case xhC_Full => first | k_is | rfl)
    (case xa_NoBlock => first | k_is | rfl)
    (case xL_NoBlock => first | k_is | rfl)
    (case xsa_NoBlock => first | k_is | rfl)
    (case xga_NoBlock => first | k_is | rfl)
    (case xgg_NoBlock => first | k_is | rfl)
    (case xnb_NoBlock => first | k_is | rfl)
    (case xa1_NoBlock => first | k_is | rfl)
    (case xt1_NoBlock => first | k_is | rfl)
    (case xl1_NoBlock => first | k_is | rfl)
    (case xc1_NoBlock => first | k_is | rfl)
    (case xkC_NoBlock => first | k_is | rfl)
    (case xeC_NoBlock => first | k_is | rfl)
    (case xtC_NoBlock => first | k_is | rfl)
    (case xhC_NoBlock => first | k_is | rfl)
    (case xa_NoRow => first | k_is | rfl)
    (case xL_NoRow => first | k_is | rfl)
    (case xsa_NoRow => first | k_is | rfl)
    (case xga_NoRow => first | k_is | rfl)
    (case xgg_NoRow => first | k_is | rfl)
    (case xnb_NoRow => first | k_is | rfl)
    (case xa1_NoRow => first | k_is | rfl)
    (case xt1_NoRow => first | k_is | rfl)
    (case xl1_NoRow => first | k_is | rfl)
    (case xc1_NoRow => first | k_is | rfl)
    (case xkC_NoRow => first | k_is | rfl)
    (case xeC_NoRow => first | k_is | rfl)
    (case xtC_NoRow => first | k_is | rfl)
    (case xhC_NoRow => first | k_is | rfl)
    (case xa_NoPlace => first | k_is | rfl)
    (case xL_NoPlace => first | k_is | rfl)
    (case xsa_NoPlace => first | k_is | rfl)
    (case xga_NoPlace => first | k_is | rfl)
    (case xgg_NoPlace => first | k_is | rfl)
    (case xnb_NoPlace => first | k_is | rfl)
    (case xa1_NoPlace => first | k_is | rfl)
    (case xt1_NoPlace => first | k_is | rfl)
    (case xl1_NoPlace => first | k_is | rfl)
    (case xc1_NoPlace => first | k_is | rfl)
    (case xkC_NoPlace => first | k_is | rfl)
    (case xeC_NoPlace => first | k_is | rfl)
    (case xtC_NoPlace => first | k_is | rfl)
    (case xhC_NoPlace => first | k_is | rfl)
    (case xa_Stopped => first | k_is | rfl)
    (case xL_Stopped => first | k_is | rfl)
    (case xsa_Stopped => first | k_is | rfl)
    (case xga_Stopped => first | k_is | rfl)
    (case xgg_Stopped => first | k_is | rfl)
    (case xnb_Stopped => first | k_is | rfl)
    (case xa1_Stopped => first | k_is | rfl)
    (case xt1_Stopped => first | k_is | rfl)
    (case xl1_Stopped => first | k_is | rfl)
    (case xc1_Stopped => first | k_is | rfl)
    (case xkC_Stopped => first | k_is | rfl)
    (case xeC_Stopped => first | k_is | rfl)
    (case xtC_Stopped => first | k_is | rfl)
    (case xhC_Stopped => first | k_is | rfl)
    (case xL_NoPlacing => first | k_is | rfl)
    (case xsa_NoPlacing => first | k_is | rfl)
    (case xnb1_NoPlacing => first | k_is | rfl)
    (case xnb2_NoPlacing => first | k_is | rfl)
    (case xa1_NoPlacing => first | k_is | rfl)
    (case xt1_NoPlacing => first | k_is | rfl)
    (case xl1_NoPlacing => first | k_is | rfl)
    (case xc1_NoPlacing => first | k_is | rfl)
    (case xe_NoProgram => first | k_exc | k_is | rfl)
    (case xe_Nothing => first | k_exc | k_is | rfl)
    (case xga_NoPlacing => first | k_is | rfl)
    (case xgg_NoPlacing => first | k_is | rfl)
    (case xkC_NoPlacing => first | k_is | rfl)
    (case xhC_NoPlacing => first | k_is | rfl)
    (case xga_NoProgram => first | k_is | rfl)
    (case xgg_NoProgram => first | k_is | rfl)
    (case xkC_NoProgram => first | k_is | rfl)
    (case xhC_NoProgram => first | k_is | rfl)
    (case xga_Nothing => first | k_is | rfl)
    (case xgg_Nothing => first | k_is | rfl)
    (case xkC_Nothing => first | k_is | rfl)
    (case xhC_Nothing => first | k_is | rfl)
    (case xsn_Halted_Stopped => first | k_is | rfl)
    (case xsn_Halted_Held => first | k_is | rfl)
    (case xsn_Halted_NoRow => first | k_is | rfl)
    (case xsn_Missing_Stopped => first | k_is | rfl)
    (case xsn_Missing_Held => first | k_is | rfl)
    (case xsn_Missing_NoRow => first | k_is | rfl)
    (case xsn_Refused_Stopped => first | k_is | rfl)
    (case xsn_Refused_Held => first | k_is | rfl)
    (case xsn_Refused_NoRow => first | k_is | rfl)
    (case xkb_LookupError_NoText => first | k_is | rfl)
    (case xkb_LookupError_NoPlacing => first | k_is | rfl)
    (case xkb_LookupError_NoEdit => first | k_is | rfl)
    (case xkb_LookupError_NoLine => first | k_is | rfl)
    (case xkb_LookupError_Taken => first | k_is | rfl)
    (case xkb_LookupError_Held => first | k_is | rfl)
    (case xkb_LookupError_Full => first | k_is | rfl)
    (case xkb_LookupError_NoBlock => first | k_is | rfl)
    (case xkb_LookupError_NoRow => first | k_is | rfl)
    (case xkb_LookupError_NoPlace => first | k_is | rfl)
    (case xkb_LookupError_Stopped => first | k_is | rfl)
    (case xkb_LookupError_NoProgram => first | k_is | rfl)
    (case xkb_LookupError_Nothing => first | k_is | rfl)
    (case xkb_RuntimeError_NoText => first | k_is | rfl)
    (case xkb_RuntimeError_NoPlacing => first | k_is | rfl)
    (case xkb_RuntimeError_NoEdit => first | k_is | rfl)
    (case xkb_RuntimeError_NoLine => first | k_is | rfl)
    (case xkb_RuntimeError_Taken => first | k_is | rfl)
    (case xkb_RuntimeError_Held => first | k_is | rfl)
    (case xkb_RuntimeError_Full => first | k_is | rfl)
    (case xkb_RuntimeError_NoBlock => first | k_is | rfl)
    (case xkb_RuntimeError_NoRow => first | k_is | rfl)
    (case xkb_RuntimeError_NoPlace => first | k_is | rfl)
    (case xkb_RuntimeError_Stopped => first | k_is | rfl)
    (case xkb_RuntimeError_NoProgram => first | k_is | rfl)
    (case xkb_RuntimeError_Nothing => first | k_is | rfl)
    (case xkb_ValueError_NoText => first | k_is | rfl)
    (case xkb_ValueError_NoPlacing => first | k_is | rfl)
    (case xkb_ValueError_NoEdit => first | k_is | rfl)
    (case xkb_ValueError_NoLine => first | k_is | rfl)
    (case xkb_ValueError_Taken => first | k_is | rfl)
    (case xkb_ValueError_Held => first | k_is | rfl)
    (case xkb_ValueError_Full => first | k_is | rfl)
    (case xkb_ValueError_NoBlock => first | k_is | rfl)
    (case xkb_ValueError_NoRow => first | k_is | rfl)
    (case xkb_ValueError_NoPlace => first | k_is | rfl)
    (case xkb_ValueError_Stopped => first | k_is | rfl)
    (case xkb_ValueError_NoProgram => first | k_is | rfl)
    (case xkb_ValueError_Nothing => first | k_is | rfl)
    (case xiC_NoText => first | k_is | rfl)
    (case xsC_NoText => first | k_is | rfl)
    (case xiC_NoEdit => first | k_is | rfl)
    (case xsC_NoEdit => first | k_is | rfl)
    (case xiC_NoLine => first | k_is | rfl)
    (case xsC_NoLine => first | k_is | rfl)
    (case xiC_Taken => first | k_is | rfl)
    (case xsC_Taken => first | k_is | rfl)
    (case xiC_Held => first | k_is | rfl)
    (case xsC_Held => first | k_is | rfl)
    (case xiC_Full => first | k_is | rfl)
    (case xsC_Full => first | k_is | rfl)
    (case xiC_NoBlock => first | k_is | rfl)
    (case xsC_NoBlock => first | k_is | rfl)
    (case xiC_NoRow => first | k_is | rfl)
    (case xsC_NoRow => first | k_is | rfl)
    (case xiC_NoPlace => first | k_is | rfl)
    (case xsC_NoPlace => first | k_is | rfl)
    (case xiC_Stopped => first | k_is | rfl)
    (case xsC_Stopped => first | k_is | rfl)
    (case xiC_Halted => first | k_is | rfl)
    (case xsC_Halted => first | k_is | rfl)
    (case xiC_Missing => first | k_is | rfl)
    (case xsC_Missing => first | k_is | rfl)
    (case xiC_NoPlacing => first | k_is | rfl)
    (case xsC_NoPlacing => first | k_is | rfl)
    (case xiC_NoProgram => first | k_is | rfl)
    (case xsC_NoProgram => first | k_is | rfl)
    (case xiC_Nothing => first | k_is | rfl)
    (case xsC_Nothing => first | k_is | rfl)
    (case xiC_Refused => first | k_is | rfl)
    (case xsC_Refused => first | k_is | rfl)
    (case xtC_Halted => first | k_is | rfl)
    (case xeC_Halted => first | k_is | rfl)
    (case xtC_Missing => first | k_is | rfl)
    (case xeC_Missing => first | k_is | rfl)
    (case xtC_NoPlacing => first | k_is | rfl)
    (case xeC_NoPlacing => first | k_is | rfl)
    (case xtC_NoProgram => first | k_is | rfl)
    (case xeC_NoProgram => first | k_is | rfl)
    (case xtC_Nothing => first | k_is | rfl)
    (case xeC_Nothing => first | k_is | rfl)
    (case xtC_Refused => first | k_is | rfl)
    (case xeC_Refused => first | k_is | rfl)
    (case xsp => first | k_is | rfl)
    (case xtk => first | k_is | rfl)
    (case xcl_NoText => first | k_is | rfl)
    (case xmr_NoText => first | k_is | rfl)
    (case xcl_NoPlacing => first | k_is | rfl)
    (case xmr_NoPlacing => first | k_is | rfl)
    (case xcl_NoEdit => first | k_is | rfl)
    (case xmr_NoEdit => first | k_is | rfl)
    (case xcl_NoLine => first | k_is | rfl)
    (case xmr_NoLine => first | k_is | rfl)
    (case xcl_Taken => first | k_is | rfl)
    (case xmr_Taken => first | k_is | rfl)
    (case xcl_Held => first | k_is | rfl)
    (case xmr_Held => first | k_is | rfl)
    (case xcl_Full => first | k_is | rfl)
    (case xmr_Full => first | k_is | rfl)
    (case xcl_NoBlock => first | k_is | rfl)
    (case xmr_NoBlock => first | k_is | rfl)
    (case xcl_NoRow => first | k_is | rfl)
    (case xmr_NoRow => first | k_is | rfl)
    (case xcl_NoPlace => first | k_is | rfl)
    (case xmr_NoPlace => first | k_is | rfl)
    (case xcl_Stopped => first | k_is | rfl)
    (case xmr_Stopped => first | k_is | rfl)
    (case xcl_NoProgram => first | k_is | rfl)
    (case xmr_NoProgram => first | k_is | rfl)
    (case xcl_Nothing => first | k_is | rfl)
    (case xmr_Nothing => first | k_is | rfl)
    (case xki_Full_NoText => first | k_is | rfl)
    (case xki_Full_NoPlacing => first | k_is | rfl)
    (case xki_Full_NoEdit => first | k_is | rfl)
    (case xki_Full_NoLine => first | k_is | rfl)
    (case xki_Full_Taken => first | k_is | rfl)
    (case xki_Full_Held => first | k_is | rfl)
    (case xki_Full_Full => first | k_is | rfl)
    (case xki_Full_NoBlock => first | k_is | rfl)
    (case xki_Full_NoRow => first | k_is | rfl)
    (case xki_Full_NoPlace => first | k_is | rfl)
    (case xki_Full_Stopped => first | k_is | rfl)
    (case xki_Full_NoProgram => first | k_is | rfl)
    (case xki_Full_Nothing => first | k_is | rfl)
    (case xki_Halted_NoText => first | k_is | rfl)
    (case xki_Halted_NoPlacing => first | k_is | rfl)
    (case xki_Halted_NoEdit => first | k_is | rfl)
    (case xki_Halted_NoLine => first | k_is | rfl)
    (case xki_Halted_Taken => first | k_is | rfl)
    (case xki_Halted_Held => first | k_is | rfl)
    (case xki_Halted_Full => first | k_is | rfl)
    (case xki_Halted_NoBlock => first | k_is | rfl)
    (case xki_Halted_NoRow => first | k_is | rfl)
    (case xki_Halted_NoPlace => first | k_is | rfl)
    (case xki_Halted_Stopped => first | k_is | rfl)
    (case xki_Halted_NoProgram => first | k_is | rfl)
    (case xki_Halted_Nothing => first | k_is | rfl)
    (case xki_Held_NoText => first | k_is | rfl)
    (case xki_Held_NoPlacing => first | k_is | rfl)
    (case xki_Held_NoEdit => first | k_is | rfl)
    (case xki_Held_NoLine => first | k_is | rfl)
    (case xki_Held_Taken => first | k_is | rfl)
    (case xki_Held_Held => first | k_is | rfl)
    (case xki_Held_Full => first | k_is | rfl)
    (case xki_Held_NoBlock => first | k_is | rfl)
    (case xki_Held_NoRow => first | k_is | rfl)
    (case xki_Held_NoPlace => first | k_is | rfl)
    (case xki_Held_Stopped => first | k_is | rfl)
    (case xki_Held_NoProgram => first | k_is | rfl)
    (case xki_Held_Nothing => first | k_is | rfl)
    (case xki_Missing_NoText => first | k_is | rfl)
    (case xki_Missing_NoPlacing => first | k_is | rfl)
    (case xki_Missing_NoEdit => first | k_is | rfl)
    (case xki_Missing_NoLine => first | k_is | rfl)
    (case xki_Missing_Taken => first | k_is | rfl)
    (case xki_Missing_Held => first | k_is | rfl)
    (case xki_Missing_Full => first | k_is | rfl)
    (case xki_Missing_NoBlock => first | k_is | rfl)
    (case xki_Missing_NoRow => first | k_is | rfl)
    (case xki_Missing_NoPlace => first | k_is | rfl)
    (case xki_Missing_Stopped => first | k_is | rfl)
    (case xki_Missing_NoProgram => first | k_is | rfl)
    (case xki_Missing_Nothing => first | k_is | rfl)
    (case xki_NoBlock_NoText => first | k_is | rfl)
    (case xki_NoBlock_NoPlacing => first | k_is | rfl)
    (case xki_NoBlock_NoEdit => first | k_is | rfl)
    (case xki_NoBlock_NoLine => first | k_is | rfl)
    (case xki_NoBlock_Taken => first | k_is | rfl)
    (case xki_NoBlock_Held => first | k_is | rfl)
    (case xki_NoBlock_Full => first | k_is | rfl)
    (case xki_NoBlock_NoBlock => first | k_is | rfl)
    (case xki_NoBlock_NoRow => first | k_is | rfl)
    (case xki_NoBlock_NoPlace => first | k_is | rfl)
    (case xki_NoBlock_Stopped => first | k_is | rfl)
    (case xki_NoBlock_NoProgram => first | k_is | rfl)
    (case xki_NoBlock_Nothing => first | k_is | rfl)
    (case xki_NoEdit_NoText => first | k_is | rfl)
    (case xki_NoEdit_NoPlacing => first | k_is | rfl)
    (case xki_NoEdit_NoEdit => first | k_is | rfl)
    (case xki_NoEdit_NoLine => first | k_is | rfl)
    (case xki_NoEdit_Taken => first | k_is | rfl)
    (case xki_NoEdit_Held => first | k_is | rfl)
    (case xki_NoEdit_Full => first | k_is | rfl)
    (case xki_NoEdit_NoBlock => first | k_is | rfl)
    (case xki_NoEdit_NoRow => first | k_is | rfl)
    (case xki_NoEdit_NoPlace => first | k_is | rfl)
    (case xki_NoEdit_Stopped => first | k_is | rfl)
    (case xki_NoEdit_NoProgram => first | k_is | rfl)
    (case xki_NoEdit_Nothing => first | k_is | rfl)
    (case xki_NoLine_NoText => first | k_is | rfl)
    (case xki_NoLine_NoPlacing => first | k_is | rfl)
    (case xki_NoLine_NoEdit => first | k_is | rfl)
    (case xki_NoLine_NoLine => first | k_is | rfl)
    (case xki_NoLine_Taken => first | k_is | rfl)
    (case xki_NoLine_Held => first | k_is | rfl)
    (case xki_NoLine_Full => first | k_is | rfl)
    (case xki_NoLine_NoBlock => first | k_is | rfl)
    (case xki_NoLine_NoRow => first | k_is | rfl)
    (case xki_NoLine_NoPlace => first | k_is | rfl)
    (case xki_NoLine_Stopped => first | k_is | rfl)
    (case xki_NoLine_NoProgram => first | k_is | rfl)
    (case xki_NoLine_Nothing => first | k_is | rfl)
    (case xki_NoPlace_NoText => first | k_is | rfl)
    (case xki_NoPlace_NoPlacing => first | k_is | rfl)
    (case xki_NoPlace_NoEdit => first | k_is | rfl)
    (case xki_NoPlace_NoLine => first | k_is | rfl)
    (case xki_NoPlace_Taken => first | k_is | rfl)
    (case xki_NoPlace_Held => first | k_is | rfl)
    (case xki_NoPlace_Full => first | k_is | rfl)
    (case xki_NoPlace_NoBlock => first | k_is | rfl)
    (case xki_NoPlace_NoRow => first | k_is | rfl)
    (case xki_NoPlace_NoPlace => first | k_is | rfl)
    (case xki_NoPlace_Stopped => first | k_is | rfl)
    (case xki_NoPlace_NoProgram => first | k_is | rfl)
    (case xki_NoPlace_Nothing => first | k_is | rfl)
    (case xki_NoPlacing_NoText => first | k_is | rfl)
    (case xki_NoPlacing_NoPlacing => first | k_is | rfl)
    (case xki_NoPlacing_NoEdit => first | k_is | rfl)
    (case xki_NoPlacing_NoLine => first | k_is | rfl)
    (case xki_NoPlacing_Taken => first | k_is | rfl)
    (case xki_NoPlacing_Held => first | k_is | rfl)
    (case xki_NoPlacing_Full => first | k_is | rfl)
    (case xki_NoPlacing_NoBlock => first | k_is | rfl)
    (case xki_NoPlacing_NoRow => first | k_is | rfl)
    (case xki_NoPlacing_NoPlace => first | k_is | rfl)
    (case xki_NoPlacing_Stopped => first | k_is | rfl)
    (case xki_NoPlacing_NoProgram => first | k_is | rfl)
    (case xki_NoPlacing_Nothing => first | k_is | rfl)
    (case xki_NoProgram_NoText => first | k_is | rfl)
    (case xki_NoProgram_NoPlacing => first | k_is | rfl)
    (case xki_NoProgram_NoEdit => first | k_is | rfl)
    (case xki_NoProgram_NoLine => first | k_is | rfl)
    (case xki_NoProgram_Taken => first | k_is | rfl)
    (case xki_NoProgram_Held => first | k_is | rfl)
    (case xki_NoProgram_Full => first | k_is | rfl)
    (case xki_NoProgram_NoBlock => first | k_is | rfl)
    (case xki_NoProgram_NoRow => first | k_is | rfl)
    (case xki_NoProgram_NoPlace => first | k_is | rfl)
    (case xki_NoProgram_Stopped => first | k_is | rfl)
    (case xki_NoProgram_NoProgram => first | k_is | rfl)
    (case xki_NoProgram_Nothing => first | k_is | rfl)
    (case xki_NoRow_NoText => first | k_is | rfl)
    (case xki_NoRow_NoPlacing => first | k_is | rfl)
    (case xki_NoRow_NoEdit => first | k_is | rfl)
    (case xki_NoRow_NoLine => first | k_is | rfl)
    (case xki_NoRow_Taken => first | k_is | rfl)
    (case xki_NoRow_Held => first | k_is | rfl)
    (case xki_NoRow_Full => first | k_is | rfl)
    (case xki_NoRow_NoBlock => first | k_is | rfl)
    (case xki_NoRow_NoRow => first | k_is | rfl)
    (case xki_NoRow_NoPlace => first | k_is | rfl)
    (case xki_NoRow_Stopped => first | k_is | rfl)
    (case xki_NoRow_NoProgram => first | k_is | rfl)
    (case xki_NoRow_Nothing => first | k_is | rfl)
    (case xki_NoText_NoText => first | k_is | rfl)
    (case xki_NoText_NoPlacing => first | k_is | rfl)
    (case xki_NoText_NoEdit => first | k_is | rfl)
    (case xki_NoText_NoLine => first | k_is | rfl)
    (case xki_NoText_Taken => first | k_is | rfl)
    (case xki_NoText_Held => first | k_is | rfl)
    (case xki_NoText_Full => first | k_is | rfl)
    (case xki_NoText_NoBlock => first | k_is | rfl)
    (case xki_NoText_NoRow => first | k_is | rfl)
    (case xki_NoText_NoPlace => first | k_is | rfl)
    (case xki_NoText_Stopped => first | k_is | rfl)
    (case xki_NoText_NoProgram => first | k_is | rfl)
    (case xki_NoText_Nothing => first | k_is | rfl)
    (case xki_Nothing_NoText => first | k_is | rfl)
    (case xki_Nothing_NoPlacing => first | k_is | rfl)
    (case xki_Nothing_NoEdit => first | k_is | rfl)
    (case xki_Nothing_NoLine => first | k_is | rfl)
    (case xki_Nothing_Taken => first | k_is | rfl)
    (case xki_Nothing_Held => first | k_is | rfl)
    (case xki_Nothing_Full => first | k_is | rfl)
    (case xki_Nothing_NoBlock => first | k_is | rfl)
    (case xki_Nothing_NoRow => first | k_is | rfl)
    (case xki_Nothing_NoPlace => first | k_is | rfl)
    (case xki_Nothing_Stopped => first | k_is | rfl)
    (case xki_Nothing_NoProgram => first | k_is | rfl)
    (case xki_Nothing_Nothing => first | k_is | rfl)
    (case xki_Refused_NoText => first | k_is | rfl)
    (case xki_Refused_NoPlacing => first | k_is | rfl)
    (case xki_Refused_NoEdit => first | k_is | rfl)
    (case xki_Refused_NoLine => first | k_is | rfl)
    (case xki_Refused_Taken => first | k_is | rfl)
    (case xki_Refused_Held => first | k_is | rfl)
    (case xki_Refused_Full => first | k_is | rfl)
    (case xki_Refused_NoBlock => first | k_is | rfl)
    (case xki_Refused_NoRow => first | k_is | rfl)
    (case xki_Refused_NoPlace => first | k_is | rfl)
    (case xki_Refused_Stopped => first | k_is | rfl)
    (case xki_Refused_NoProgram => first | k_is | rfl)
    (case xki_Refused_Nothing => first | k_is | rfl)
    (case xki_Stopped_NoText => first | k_is | rfl)
    (case xki_Stopped_NoPlacing => first | k_is | rfl)
    (case xki_Stopped_NoEdit => first | k_is | rfl)
    (case xki_Stopped_NoLine => first | k_is | rfl)
    (case xki_Stopped_Taken => first | k_is | rfl)
    (case xki_Stopped_Held => first | k_is | rfl)
    (case xki_Stopped_Full => first | k_is | rfl)
    (case xki_Stopped_NoBlock => first | k_is | rfl)
    (case xki_Stopped_NoRow => first | k_is | rfl)
    (case xki_Stopped_NoPlace => first | k_is | rfl)
    (case xki_Stopped_Stopped => first | k_is | rfl)
    (case xki_Stopped_NoProgram => first | k_is | rfl)
    (case xki_Stopped_Nothing => first | k_is | rfl)
    (case xki_Taken_NoText => first | k_is | rfl)
    (case xki_Taken_NoPlacing => first | k_is | rfl)
    (case xki_Taken_NoEdit => first | k_is | rfl)
    (case xki_Taken_NoLine => first | k_is | rfl)
    (case xki_Taken_Taken => first | k_is | rfl)
    (case xki_Taken_Held => first | k_is | rfl)
    (case xki_Taken_Full => first | k_is | rfl)
    (case xki_Taken_NoBlock => first | k_is | rfl)
    (case xki_Taken_NoRow => first | k_is | rfl)
    (case xki_Taken_NoPlace => first | k_is | rfl)
    (case xki_Taken_Stopped => first | k_is | rfl)
    (case xki_Taken_NoProgram => first | k_is | rfl)
    (case xki_Taken_Nothing => first | k_is | rfl)
    (case n_LookupError => first | k_is | rfl)
    (case n_RuntimeError => first | k_is | rfl)
    (case n_ValueError => first | k_is | rfl)
    (case n_abs => first | k_is | rfl)
    (case n_all => first | k_is | rfl)
    (case n_enumerate => first | k_is | rfl)
    (case n_int => first | k_is | rfl)
    (case n_isinstance => first | k_is | rfl)
    (case n_len => first | k_is | rfl)
    (case n_max => first | k_is | rfl)
    (case n_min => first | k_is | rfl)
    (case n_range => first | k_is | rfl)
    (case n_repr => first | k_is | rfl)
