import PyProof.Rows.All
import Wide.All
import OpenK.AllK
import Wide.FinOn
import HandS.ForMost
import HandS.Exc
import HandS.TryOnly
import HandS.ExcOwn
import HandS.WordsExc
import HandS.Defaults
import HandS.CallSlots
import HandS.TupAny
import HandS.TupMul
import HandS.Deep
import HandS.Wide
import HandS.Style
import HandS.IsInst
import KE.GoesMore
import KE.GoesEnum
import KE.GoesEnumKw
import KE.GoesZip
import PyProof.ReprRoads
import PyProof.CallFns
import PyProof.ReprLen
import PySem.Challenge.RW_losinglanes_k01_words_within_others
import HandS.Ends
import HandS.HeadEnd
import HandS.Head0
import HandS.Head1
import HandS.Head2
import HandS.HeadHook1
import HandS.HeadHook2
set_option Elab.async false
set_option linter.all false
set_option maxRecDepth 100000
set_option maxHeartbeats 0
/-! Mi: values without a heap, what relates them to the heap, bundles of syntax, meaning, soundness. -/
namespace Mi
open PySem PySem.Spec PyProof.Rows L2

/-- values: frozen lists and dicts are values; ref n is the n-th object of the store -/
inductive D where
  | non | bl (b : Bool) | int (i : Int) | str (s : Str)
  | tup (ds : List D) | lst (ds : List D) | rol (ds : List D) | dic (ks vs : List D) | ref (n : Nat)
/-- objects of the store -/
inductive O where
  | lst (ds : List D) | dic (ks vs : List D)
abbrev Env := List (Option D)
abbrev Sto := List O
/-- an exception: its class, its fields -/
structure DX where
  cls : Str
  fs : List (Str × D)
abbrev QD := D → Sto → Prop
abbrev QX := DX → Sto → Prop

/-- what never changes -/
def Immut : HO → Prop
  | .tup _ => True
  | .frz _ _ => True
  | _ => False

/-- where the store's objects stand; what else no frozen list is -/
structure Mu where
  l : List Addr
  av : List Addr
def Mu.has (mu : Mu) (a : Addr) : Prop := a ∈ mu.l ∨ a ∈ mu.av
section
variable (K : PySem.W.Frag) (mu : Mu) (H : Hp)
mutual
def RV : D → V → Prop
  | .non, v => v = .non
  | .bl b, v => v = .bl b
  | .int i, v => v = .int i
  | .str s, v => v = .str s
  | .tup ds, v => ∃ a vs, v = .ref a ∧ SqT K H a vs ∧ RVs ds vs
  | .lst ds, v => ∃ a vs, v = .ref a ∧ H a = some (.lst vs) ∧ ¬ mu.has a ∧ RVs ds vs
  | .rol ds, v => ∃ a vs, v = .ref a ∧ (SqL K (fun _ => none) a vs ∨ ∃ o, H a = some (.frz o (.lst vs))) ∧ RVs ds vs
  | .dic _ _, _ => False
  | .ref n, v => ∃ a, v = .ref a ∧ mu.l[n]? = some a
def RVs : List D → List V → Prop
  | [], vs => vs = []
  | d :: ds, vs => ∃ v r, vs = v :: r ∧ RV d v ∧ RVs ds r
end
def RO : O → Addr → Prop
  | .lst ds, a => ∃ vs, H a = some (.lst vs) ∧ RVs K mu H ds vs
  | .dic _ _, _ => False
/-- the store -/
structure RelS (st : Sto) : Prop where
  nd : mu.l.Nodup
  len : mu.l.length = st.length
  obj : ∀ (n : Nat) (o : O) (a : Addr), st[n]? = some o → mu.l[n]? = some a → RO K mu H o a
  av : ∀ a, a ∈ mu.av → H a ≠ none ∧ a ∉ mu.l
/-- the slots -/
def RelN (en : Env) (σ : L2.St) : Prop := ∀ (i : Nat) (d : D), en[i]? = some (some d) → ∃ v, σ[i]? = some (some v) ∧ RV K mu H d v
structure RelE (en : Env) (st : Sto) (σ : L2.St) : Prop where
  sto : RelS K mu H st
  env : RelN K mu H en σ
  len : en.length = σ.length
end

/-- how heaps go on -/
structure Step (mu : Mu) (H : Hp) (mu' : Mu) (H' : Hp) : Prop where
  av : ∀ a, a ∈ mu.av → a ∈ mu'.av
  nav : ∀ a, a ∈ mu'.av → a ∈ mu.av ∨ H a = none
  pre : ∃ ext, mu'.l = mu.l ++ ext ∧ ∀ a ∈ ext, H a = none
  keep : ∀ a o, H a = some o → (a ∉ mu.l ∨ Immut o) → H' a = some o
  live : ∀ a, H a ≠ none → H' a ≠ none
theorem Step.refl (mu : Mu) (H : Hp) : Step mu H mu H := ⟨fun _ h => h, fun _ h => .inl h, ⟨[], by simp, by simp⟩, fun _ _ h _ => h, fun _ h => h⟩
theorem Step.trans {m0 m1 m2 : Mu} {H0 H1 H2 : Hp} (a : Step m0 H0 m1 H1) (b : Step m1 H1 m2 H2) : Step m0 H0 m2 H2 := by
  obtain ⟨e1, r1, f1⟩ := a.pre
  obtain ⟨e2, r2, f2⟩ := b.pre
  have back : ∀ x, H1 x = none → H0 x = none := fun x h1 => by
    cases q : H0 x with
    | none => rfl
    | some o => exact absurd h1 (a.live x (by rw [q]; simp))
  refine ⟨fun x h => b.av x (a.av x h), fun x h => (b.nav x h).elim (fun z => a.nav x z) fun z => .inr (back x z), ⟨e1 ++ e2, by rw [r2, r1, List.append_assoc], fun x hx => ?_⟩, fun x o h c => ?_, fun x h => b.live x (a.live x h)⟩
  · rcases List.mem_append.mp hx with h | h
    · exact f1 x h
    · have h1 := f2 x h
      cases q : H0 x with
      | none => rfl
      | some o => exact absurd h1 (a.live x (by rw [q]; simp))
  · refine b.keep x o (a.keep x o h c) ?_
    rcases c with c | c
    · refine .inl fun hx => ?_
      rw [r1] at hx
      rcases List.mem_append.mp hx with z | z
      · exact c z
      · rw [f1 x z] at h; cases h
    · exact .inr c
theorem Step.sub {m0 m1 : Mu} {H0 H1 : Hp} (a : Step m0 H0 m1 H1) {n : Nat} {x : Addr} (h : m0.l[n]? = some x) : m1.l[n]? = some x := by
  obtain ⟨e1, r1, _⟩ := a.pre
  rw [r1, List.getElem?_append_left (List.getElem?_eq_some_iff.mp h).1]
  exact h
theorem Step.rdT {m0 m1 : Mu} {H0 H1 : Hp} {K : PySem.W.Frag} (s : Step m0 H0 m1 H1) {a : Addr} {vs : List V} (h : SqT K H0 a vs) : SqT K H1 a vs := by
  rcases h with (h | ⟨o, h⟩) | h
  · exact .inl (.inl (s.keep _ _ h (.inr trivial)))
  · exact .inl (.inr ⟨o, s.keep _ _ h (.inr trivial)⟩)
  · exact .inr h
theorem Step.out {m0 m1 : Mu} {H0 H1 : Hp} (s : Step m0 H0 m1 H1) {a : Addr} (h : H0 a ≠ none) (n : ¬ m0.has a) : ¬ m1.has a := fun z => by
  obtain ⟨e1, r1, f1⟩ := s.pre
  rcases z with z | z
  · rw [r1] at z
    rcases List.mem_append.mp z with z | z
    · exact n (.inl z)
    · exact h (f1 a z)
  · rcases s.nav a z with z | z
    · exact n (.inr z)
    · exact h z
section
variable {K : PySem.W.Frag} {m0 m1 : Mu} {H0 H1 : Hp}
mutual
theorem RV.step (s : Step m0 H0 m1 H1) : ∀ {d : D} {v : V}, RV K m0 H0 d v → RV K m1 H1 d v
  | .non, _, h => h
  | .bl _, _, h => h
  | .int _, _, h => h
  | .str _, _, h => h
  | .tup ds, _, ⟨a, vs, e, h, r⟩ => ⟨a, vs, e, s.rdT h, RVs.step s r⟩
  | .lst ds, _, ⟨a, vs, e, h, n, r⟩ => ⟨a, vs, e, s.keep _ _ h (.inl fun z => n (.inl z)), s.out (by rw [h]; simp) n, RVs.step s r⟩
  | .rol ds, _, ⟨a, vs, e, h, r⟩ => ⟨a, vs, e, h.elim .inl fun ⟨o, h⟩ => .inr ⟨o, s.keep _ _ h (.inr trivial)⟩, RVs.step s r⟩
  | .dic _ _, _, h => h
  | .ref n, _, ⟨a, e, h⟩ => ⟨a, e, s.sub h⟩
theorem RVs.step (s : Step m0 H0 m1 H1) : ∀ {ds : List D} {vs : List V}, RVs K m0 H0 ds vs → RVs K m1 H1 ds vs
  | [], _, h => h
  | _ :: _, _, ⟨v, r, e, h, t⟩ => ⟨v, r, e, RV.step s h, RVs.step s t⟩
end
theorem RelN.step (s : Step m0 H0 m1 H1) {en : Env} {σ : L2.St} (h : RelN K m0 H0 en σ) : RelN K m1 H1 en σ := fun i d e =>
  let ⟨v, e1, r⟩ := h i d e
  ⟨v, e1, r.step s⟩
theorem RelE.step (s : Step m0 H0 m1 H1) {en : Env} {st st' : Sto} {σ : L2.St} (h : RelE K m0 H0 en st σ) (hs : RelS K m1 H1 st') : RelE K m1 H1 en st' σ := ⟨hs, h.env.step s, h.len⟩
theorem RVs.len : ∀ {ds : List D} {vs : List V}, RVs K m0 H0 ds vs → ds.length = vs.length
  | [], _, h => by rw [show _ = [] from h]; rfl
  | _ :: _, _, ⟨v, r, e, h, t⟩ => by rw [e, List.length_cons, List.length_cons, RVs.len t]
theorem RVs.get : ∀ {ds : List D} {vs : List V}, RVs K m0 H0 ds vs → ∀ {i : Nat} {d : D}, ds[i]? = some d → ∃ v, vs[i]? = some v ∧ RV K m0 H0 d v
  | [], _, _, _, _, e => by simp at e
  | _ :: _, _, ⟨v, r, e1, h, t⟩, 0, _, e => by subst e1; simp at e; subst e; exact ⟨v, rfl, h⟩
  | _ :: _, _, ⟨v, r, e1, h, t⟩, i + 1, _, e => by
    subst e1
    obtain ⟨u, q1, q2⟩ := RVs.get t (i := i) (by simpa using e)
    exact ⟨u, by simpa using q1, q2⟩
theorem RVs.app : ∀ {ds es : List D} {vs us : List V}, RVs K m0 H0 ds vs → RVs K m0 H0 es us → RVs K m0 H0 (ds ++ es) (vs ++ us)
  | [], _, _, _, h, q => by rw [show _ = [] from h]; exact q
  | _ :: _, _, _, _, ⟨v, r, e, h, t⟩, q => ⟨v, _, by rw [e]; rfl, h, RVs.app t q⟩
end

/-- the fixed surroundings -/
structure GEnv where
  prog : Program
  w : World
  K : PySem.W.Frag
  mg : Str → Option Value
  base : Heap
/-- an exception's fields, class -/
structure XR (G : GEnv) (mu : Mu) (H : Hp) (x : DX) (cls : Value) (dd : Option Addr) : Prop where
  cl : G.mg x.cls = some cls
  fs : x.fs = [] ∨ ∃ (d : Addr) (fs : List (Str × V)), dd = some d ∧ H d = some (.xd fs) ∧ ¬ mu.has d ∧ fs.map (·.1) = x.fs.map (·.1) ∧ RVs G.K mu H (x.fs.map (·.2)) (fs.map (·.2))
theorem XR.step {G : GEnv} {m0 m1 : Mu} {H0 H1 : Hp} (s : Step m0 H0 m1 H1) {x : DX} {cls : Value} {dd : Option Addr} (h : XR G m0 H0 x cls dd) : XR G m1 H1 x cls dd := by
  refine ⟨h.cl, ?_⟩
  rcases h.fs with e | ⟨d, fs, e, hd, n, q, r⟩
  · exact .inl e
  · exact .inr ⟨d, fs, e, s.keep _ _ hd (.inl fun z => n (.inl z)), s.out (by rw [hd]; simp) n, q, r.step s⟩

/-- a context of the surroundings G with k levels of room -/
structure Good (G : GEnv) (k : Nat) (X : Cx) : Prop where
  prog : X.prog = G.prog
  w : X.w = G.w
  K : X.K = G.K
  mg : X.mg = G.mg
  base : X.base = G.base
  room : Room k X.A
  nd : X.N.Nodup
  calm : X.calm = true
  kind : X.env.scope.kind = .function
  guards : X.A.guards = some []

/-! ### posts over the heap -/
def PostD (G : GEnv) (mu : Mu) (H : Hp) (Q : VK) : QD := fun d st' => ∀ mu' v H', Step mu H mu' H' → RelS G.K mu' H' st' → RV G.K mu' H' d v → Q v H'
def PostX (G : GEnv) (mu : Mu) (H : Hp) (σ : L2.St) (W : WX) : QX := fun x st' => ∀ mu' cls dd H', Step mu H mu' H' → RelS G.K mu' H' st' → XR G mu' H' x cls dd → W cls dd σ H'
theorem PostD.step {G : GEnv} {m0 m1 : Mu} {H0 H1 : Hp} {Q : VK} (s : Step m0 H0 m1 H1) {d : D} {st : Sto} (h : PostD G m0 H0 Q d st) : PostD G m1 H1 Q d st := fun mu v H' s2 r q => h mu v H' (s.trans s2) r q
theorem PostX.step {G : GEnv} {m0 m1 : Mu} {H0 H1 : Hp} {σ : L2.St} {W : WX} (s : Step m0 H0 m1 H1) {x : DX} {st : Sto} (h : PostX G m0 H0 σ W x st) : PostX G m1 H1 σ W x st := fun mu c dd H' s2 r q => h mu c dd H' (s.trans s2) r q

abbrev WpE := Env → Sto → QD → QX → Prop
def MonoE (wp : WpE) : Prop := ∀ (en : Env) (st : Sto) (Q Q' : QD) (E E' : QX), wp en st Q E → (∀ d s, Q d s → Q' d s) → (∀ x s, E x s → E' x s) → wp en st Q' E'
/-- the reading of a meaning -/
def tW (G : GEnv) (wp : WpE) (W : WX) : TE := fun σ H Q => ∃ mu en st, RelE G.K mu H en st σ ∧ wp en st (PostD G mu H Q) (PostX G mu H σ W)
/-- an expression: its shape, what it needs, its meaning -/
structure SemE where
  chk : List Str → Scope → Expr → Bool
  req : GEnv → Nat → Prop
  wp : WpE
  mono : MonoE wp
  sound : ∀ (G : GEnv) (k : Nat) (X : Cx) (W : WX) (e : Expr), Good G k X → Takes X W → req G k → chk X.N X.env.scope e = true → PE X e (tW G wp W)

/-- one operand -/
theorem tw1 {G : GEnv} {W : WX} {a : WpE} (ma : MonoE a) {mu : Mu} {en : Env} {st : Sto} {σ : L2.St} {H : Hp} (R : RelE G.K mu H en st σ) {F : QD} {Q : V → Hp → Prop}
    (h : a en st F (PostX G mu H σ W)) (f : ∀ d st1 mu1 v H1, F d st1 → Step mu H mu1 H1 → RelS G.K mu1 H1 st1 → RV G.K mu1 H1 d v → Q v H1) : tW G a W σ H Q :=
  ⟨mu, en, st, R, ma _ _ _ _ _ _ h (fun d s1 hF mu1 v H1 s r q => f d s1 mu1 v H1 hF s r q) fun _ _ hx => hx⟩
/-- two operands -/
theorem tw2 {G : GEnv} {W : WX} {a b : WpE} (ma : MonoE a) (mb : MonoE b) {mu : Mu} {en : Env} {st : Sto} {σ : L2.St} {H : Hp} (R : RelE G.K mu H en st σ) {F : D → QD} {Q : V → V → Hp → Prop}
    (h : a en st (fun x st1 => b en st1 (F x) (PostX G mu H σ W)) (PostX G mu H σ W))
    (f : ∀ x y st2 mu2 v u H2, F x y st2 → Step mu H mu2 H2 → RelS G.K mu2 H2 st2 → RV G.K mu2 H2 x v → RV G.K mu2 H2 y u → Q v u H2) : tW G a W σ H (fun v H1 => tW G b W σ H1 (Q v)) :=
  tw1 ma R h fun x st1 mu1 v H1 h1 s1 r1 q1 => ⟨mu1, en, st1, R.step s1 r1, mb _ _ _ _ _ _ h1 (fun y st2 hF mu2 u H2 s2 r2 q2 => f x y st2 mu2 v u H2 hF (s1.trans s2) r2 (q1.step s2) q2) fun _ _ hx => hx.step s1⟩
end Mi
namespace Mi
open PySem PySem.Spec PyProof.Rows L2

/-! ### names -/
def isNm (N : List Str) (i : Nat) (x : Str) : Bool := match N[i]? with | some y => decide (y = x) | none => false
theorem isNm_ok {N : List Str} {i : Nat} {x : Str} (h : isNm N i x = true) : N[i]? = some x := by
  unfold isNm at h
  split at h
  · rename_i y e; rw [e, of_decide_eq_true h]
  · cases h
def visB (sc : Scope) (x : Str) : Bool := match sc.names.lookup x with | some .local => true | some .cell => true | some .free => true | _ => false
theorem visB_ok {sc : Scope} {x : Str} (h : visB sc x = true) : Vis sc x := by
  unfold visB at h
  split at h
  · exact .inl (by assumption)
  · exact .inr (.inl (by assumption))
  · exact .inr (.inr (by assumption))
  · cases h
def glB (sc : Scope) (x : Str) : Bool := match sc.names.lookup x with | some .globalImplicit => true | _ => false
theorem glB_ok {X : Cx} {x : Str} (h : glB X.env.scope x = true) : Gl X x := by
  unfold glB at h
  split at h
  · assumption
  · cases h
/-- no name of the machine's own -/
def plainNm (x : Str) : Bool := !(x == ("__debug__" : Str)) && !(x == ("__classdict__" : Str)) && !decide (x = ("__name__" : Str))
theorem plainNm_ok {x : Str} (h : plainNm x = true) : (x == ("__debug__" : Str)) = false ∧ (x == ("__classdict__" : Str)) = false ∧ x ≠ "__name__" := by
  unfold plainNm at h
  simp only [Bool.and_eq_true, Bool.not_eq_true', decide_eq_false_iff_not] at h
  exact ⟨h.1.1, h.1.2, h.2⟩

def eVar (i : Nat) : SemE where
  chk N sc e := match e with | .Name x _ => isNm N i x && visB sc x && plainNm x | _ => false
  req _ _ := True
  wp en st Q _ := match en[i]? with | some (some d) => Q d st | _ => False
  mono := by
    intro en st Q Q' E E' h f g
    split at h
    · exact f _ _ h
    · exact h.elim
  sound := by
    intro G k X W e gd tk rq hc
    split at hc
    · rename_i x p
      simp only [Bool.and_eq_true] at hc
      obtain ⟨⟨h1, h2⟩, h3⟩ := hc
      obtain ⟨p1, p2, _⟩ := plainNm_ok h3
      have base := pe_var (pos := p) (isNm_ok h1) (visB_ok h2) p1 p2
      refine ⟨fun pins s σ H Q I h => base.run pins s σ H Q I ?_⟩
      obtain ⟨mu, en, st, R, h⟩ := h
      split at h
      · rename_i d e
        obtain ⟨v, e1, r⟩ := R.env i d e
        exact ⟨v, e1, h mu v H (Step.refl _ _) R.sto r⟩
      · exact h.elim
    · cases hc

/-- a value that is written -/
def eLit (m : Const → Bool) (d : D) (hm : ∀ c, m c = true → ∀ (X : Cx) (j : Nat) (pos : Pos), ∃ v : V, PE X (.Constant c j pos) (tC v) ∧ ∀ K mu H, RV K mu H d v) : SemE where
  chk _ _ e := match e with | .Constant c _ _ => m c | _ => false
  req _ _ := True
  wp _ st Q _ := Q d st
  mono _ _ _ _ _ _ h f _ := f _ _ h
  sound := by
    intro G k X W e gd tk rq hc
    split at hc
    · rename_i c j p
      obtain ⟨v, h1, h2⟩ := hm c hc X j p
      refine ⟨fun pins s σ H Q I h => h1.run pins s σ H Q I ?_⟩
      obtain ⟨mu, en, st, R, h⟩ := h
      exact h mu v H (Step.refl _ _) R.sto (h2 _ _ _)
    · cases hc
def eInt (i : Int) : SemE := eLit (fun c => match c with | .int j => decide (j = i) | _ => false) (.int i) (by
  intro c h X j pos
  split at h
  · have e := of_decide_eq_true h
    subst e
    exact ⟨.int _, pe_int, fun _ _ _ => rfl⟩
  · cases h)
def eBl (b : Bool) : SemE := eLit (fun c => match c with | .bool j => decide (j = b) | _ => false) (.bl b) (by
  intro c h X j pos
  split at h
  · have e := of_decide_eq_true h
    subst e
    exact ⟨.bl _, pe_bl, fun _ _ _ => rfl⟩
  · cases h)
def eStr (b : Str) : SemE := eLit (fun c => match c with | .str j => decide (j = b) | _ => false) (.str b) (by
  intro c h X j pos
  split at h
  · have e := of_decide_eq_true h
    subst e
    exact ⟨.str _, pe_str, fun _ _ _ => rfl⟩
  · cases h)
def eNone : SemE := eLit (fun c => match c with | .none => true | _ => false) .non (by
  intro c h X j pos
  split at h
  · exact ⟨.non, pe_non, fun _ _ _ => rfl⟩
  · cases h)

/-! ### two-place operations on values -/
def rD (G : GEnv) (wp : D → D → Sto → QD → Prop) : R2 := fun v u H Q => ∃ mu st x y, RelS G.K mu H st ∧ RV G.K mu H x v ∧ RV G.K mu H y u ∧ wp x y st (PostD G mu H Q)
structure OpD (f : Value → Value → Sem Value) where
  wp : D → D → Sto → QD → Prop
  mono : ∀ x y st Q Q', wp x y st Q → (∀ d s, Q d s → Q' d s) → wp x y st Q'
  sound : ∀ (G : GEnv) (k : Nat) (X : Cx), Good G k X → OpR X f (rD G wp)
def eBin (op : Operator) (o : OpD (binaryOp op)) (a b : SemE) : SemE where
  chk N sc e := match e with | .BinOp x p y _ => decide (p = op) && a.chk N sc x && b.chk N sc y | _ => false
  req G k := a.req G k ∧ b.req G k
  wp en st Q E := a.wp en st (fun x st1 => b.wp en st1 (fun y st2 => o.wp x y st2 Q) E) E
  mono en st Q Q' E E' h f g := a.mono _ _ _ _ _ _ h (fun x s hx => b.mono _ _ _ _ _ _ hx (fun y s hy => o.mono _ _ _ _ _ hy f) g) g
  sound := by
    intro G k X W e gd tk rq hc
    split at hc
    · rename_i x p y pos
      simp only [Bool.and_eq_true, decide_eq_true_eq] at hc
      obtain ⟨⟨rfl, h1⟩, h2⟩ := hc
      have base := pe_op (pos := pos) (o.sound G k X gd) (a.sound G k X W x gd tk rq.1 h1) (b.sound G k X W y gd tk rq.2 h2)
      refine ⟨fun pins s σ H Q I h => base.run pins s σ H Q I ?_⟩
      obtain ⟨mu, en, st, R, h⟩ := h
      exact tw2 a.mono b.mono R h fun x y st2 mu2 v u H2 hF s2 r2 q1 q2 => ⟨mu2, st2, x, y, r2, q1, q2, o.mono _ _ _ _ _ hF fun d s hd => hd.step s2⟩
    · cases hc

/-! ### comparisons -/
/-- an operator that wants no mark -/
def noMarkOp (op : CmpOp) (b : Expr) : Bool := !behindInMarks op b
def eCmp (op : CmpOp) (o : OpD (compareOp op)) (a b : SemE) : SemE where
  chk N sc e := match e with | .Compare x [p] [y] _ => decide (p = op) && noMarkOp op y && a.chk N sc x && b.chk N sc y | _ => false
  req G k := a.req G k ∧ b.req G k
  wp en st Q E := a.wp en st (fun x st1 => b.wp en st1 (fun y st2 => o.wp x y st2 Q) E) E
  mono en st Q Q' E E' h f g := a.mono _ _ _ _ _ _ h (fun x s hx => b.mono _ _ _ _ _ _ hx (fun y s hy => o.mono _ _ _ _ _ hy f) g) g
  sound := by
    intro G k X W e gd tk rq hc
    split at hc
    · rename_i x p y pos
      simp only [Bool.and_eq_true, decide_eq_true_eq] at hc
      obtain ⟨⟨⟨rfl, hm⟩, h1⟩, h2⟩ := hc
      have hm' : behindInMarks p y = false := by simpa [noMarkOp] using hm
      have base := pe_cmpR (pos := pos) (o.sound G k X gd) (a.sound G k X W x gd tk rq.1 h1) (b.sound G k X W y gd tk rq.2 h2) hm'
      refine ⟨fun pins s σ H Q I h => base.run pins s σ H Q I ?_⟩
      obtain ⟨mu, en, st, R, h⟩ := h
      exact tw2 a.mono b.mono R h fun x y st2 mu2 v u H2 hF s2 r2 q1 q2 => ⟨mu2, st2, x, y, r2, q1, q2, o.mono _ _ _ _ _ hF fun d s hd => hd.step s2⟩
    · cases hc
/-- a op b op' c -/
def eChain (op op' : CmpOp) (o : OpD (compareOp op)) (o' : OpD (compareOp op')) (a b c : SemE) : SemE where
  chk N sc e := match e with | .Compare x [p, p'] [y, z] _ => decide (p = op) && decide (p' = op') && noMarkOp op' z && a.chk N sc x && b.chk N sc y && c.chk N sc z | _ => false
  req G k := a.req G k ∧ b.req G k ∧ c.req G k
  wp en st Q E := a.wp en st (fun x st1 => b.wp en st1 (fun y st2 => o.wp x y st2 fun r st3 => match r with | .bl true => c.wp en st3 (fun z st4 => o'.wp y z st4 Q) E | .bl false => Q (.bl false) st3 | _ => False) E) E
  mono en st Q Q' E E' h f g := a.mono _ _ _ _ _ _ h (fun x s hx => b.mono _ _ _ _ _ _ hx (fun y s hy => o.mono _ _ _ _ _ hy fun r s3 hr => by
    split at hr
    · exact c.mono _ _ _ _ _ _ hr (fun z s hz => o'.mono _ _ _ _ _ hz f) g
    · exact f _ _ hr
    · exact hr.elim) g) g
  sound := by
    intro G k X W e gd tk rq hc
    split at hc
    · rename_i x p p' y z pos
      simp only [Bool.and_eq_true, decide_eq_true_eq] at hc
      obtain ⟨⟨⟨⟨⟨rfl, rfl⟩, hm⟩, h1⟩, h2⟩, h3⟩ := hc
      have hm' : behindInMarks p' z = false := by simpa [noMarkOp] using hm
      have base := pe_chain (pos := pos) (o.sound G k X gd) (o'.sound G k X gd) (a.sound G k X W x gd tk rq.1 h1) (b.sound G k X W y gd tk rq.2.1 h2) (c.sound G k X W z gd tk rq.2.2 h3) hm'
      refine ⟨fun pins s σ H Q I h => base.run pins s σ H Q I ?_⟩
      obtain ⟨mu, en, st, R, h⟩ := h
      refine tw2 a.mono b.mono R h fun x y st2 mu2 v u H2 hF s2 r2 q1 q2 => ⟨mu2, st2, x, y, r2, q1, q2, o.mono _ _ _ _ _ hF fun d s hd => ?_⟩
      intro mu3 w3 H3 s3 r3 q3
      split at hd
      · refine ⟨true, q3, ?_⟩
        rw [if_pos rfl]
        refine tw1 c.mono (R.step (s2.trans s3) r3) (c.mono _ _ _ _ _ _ hd (fun _ _ h => h) fun _ _ hx => PostX.step (s2.trans s3) hx) fun z st4 mu4 t H4 hF4 s4 r4 q4 => ?_
        exact ⟨mu4, st4, y, z, r4, (q2.step s3).step s4, q4, o'.mono _ _ _ _ _ hF4 fun d s hd => PostD.step ((s2.trans s3).trans s4) hd⟩
      · refine ⟨false, q3, ?_⟩
        rw [if_neg (by simp)]
        exact hd mu3 (.bl false) H3 (s2.trans s3) r3 rfl
      · exact hd.elim
    · cases hc

/-! ### and, or, not as values (of bools) -/
def wpAndL : List SemE → Env → Sto → QD → QX → Prop
  | [], _, _, _, _ => False
  | [a], en, st, Q, E => a.wp en st Q E
  | a :: r, en, st, Q, E => a.wp en st (fun x st1 => match x with | .bl true => wpAndL r en st1 Q E | .bl false => Q (.bl false) st1 | _ => False) E
theorem wpAndL_mono : ∀ (l : List SemE), MonoE (wpAndL l)
  | [], _, _, _, _, _, _, h, _, _ => h.elim
  | [a], en, st, Q, Q', E, E', h, f, g => a.mono _ _ _ _ _ _ h f g
  | a :: b :: r, en, st, Q, Q', E, E', h, f, g => a.mono _ _ _ _ _ _ h (fun x s hx => by
    split at hx
    · exact wpAndL_mono (b :: r) _ _ _ _ _ _ hx f g
    · exact f _ _ hx
    · exact hx.elim) g
def wpOrL : List SemE → Env → Sto → QD → QX → Prop
  | [], _, _, _, _ => False
  | [a], en, st, Q, E => a.wp en st Q E
  | a :: r, en, st, Q, E => a.wp en st (fun x st1 => match x with | .bl true => Q (.bl true) st1 | .bl false => wpOrL r en st1 Q E | _ => False) E
theorem wpOrL_mono : ∀ (l : List SemE), MonoE (wpOrL l)
  | [], _, _, _, _, _, _, h, _, _ => h.elim
  | [a], en, st, Q, Q', E, E', h, f, g => a.mono _ _ _ _ _ _ h f g
  | a :: b :: r, en, st, Q, Q', E, E', h, f, g => a.mono _ _ _ _ _ _ h (fun x s hx => by
    split at hx
    · exact f _ _ hx
    · exact wpOrL_mono (b :: r) _ _ _ _ _ _ hx f g
    · exact hx.elim) g
def chkL : List SemE → List Str → Scope → List Expr → Bool
  | [], _, _, [] => true
  | a :: r, N, sc, e :: es => a.chk N sc e && chkL r N sc es
  | _, _, _, _ => false
def reqL : List SemE → GEnv → Nat → Prop
  | [], _, _ => True
  | a :: r, G, k => a.req G k ∧ reqL r G k
theorem andL_sound (G : GEnv) (k : Nat) (X : Cx) (W : WX) (gd : Good G k X) (tk : Takes X W) (pos : Pos) : ∀ (l : List SemE) (es : List Expr), reqL l G k → chkL l X.N X.env.scope es = true → l ≠ [] → PE X (.BoolOp .And es pos) (tW G (wpAndL l) W)
  | [], _, _, _, h => absurd rfl h
  | [a], [e], rq, hc, _ => by
    have h1 : a.chk X.N X.env.scope e = true := by simpa [chkL] using hc
    exact pe_one (a.sound G k X W e gd tk rq.1 h1)
  | [a], [], _, hc, _ => by simp [chkL] at hc
  | [a], _ :: _ :: _, _, hc, _ => by simp [chkL] at hc
  | a :: b :: r, [], _, hc, _ => by simp [chkL] at hc
  | a :: b :: r, [_], _, hc, _ => by simp [chkL] at hc
  | a :: b :: r, e :: e2 :: es, rq, hc, _ => by
    have hc' : a.chk X.N X.env.scope e = true ∧ chkL (b :: r) X.N X.env.scope (e2 :: es) = true := by
      rw [← Bool.and_eq_true]; exact hc
    have base := pe_and (a.sound G k X W e gd tk rq.1 hc'.1) (andL_sound G k X W gd tk pos (b :: r) (e2 :: es) rq.2 hc'.2 (by simp))
    refine ⟨fun pins s σ H Q I h => base.run pins s σ H Q I ?_⟩
    obtain ⟨mu, en, st, R, h⟩ := h
    refine tw1 a.mono R h fun d st1 mu1 v H1 hF s1 r1 q1 => ?_
    split at hF
    · exact ⟨true, q1, by rw [if_pos rfl]; exact ⟨mu1, en, st1, R.step s1 r1, wpAndL_mono (b :: r) _ _ _ _ _ _ hF (fun _ _ h => PostD.step s1 h) fun _ _ h => PostX.step s1 h⟩⟩
    · exact ⟨false, q1, by rw [if_neg (by simp)]; exact hF mu1 (.bl false) H1 s1 r1 rfl⟩
    · exact hF.elim
theorem orL_sound (G : GEnv) (k : Nat) (X : Cx) (W : WX) (gd : Good G k X) (tk : Takes X W) (pos : Pos) : ∀ (l : List SemE) (es : List Expr), reqL l G k → chkL l X.N X.env.scope es = true → l ≠ [] → PE X (.BoolOp .Or es pos) (tW G (wpOrL l) W)
  | [], _, _, _, h => absurd rfl h
  | [a], [e], rq, hc, _ => by
    have h1 : a.chk X.N X.env.scope e = true := by simpa [chkL] using hc
    exact pe_one (a.sound G k X W e gd tk rq.1 h1)
  | [a], [], _, hc, _ => by simp [chkL] at hc
  | [a], _ :: _ :: _, _, hc, _ => by simp [chkL] at hc
  | a :: b :: r, [], _, hc, _ => by simp [chkL] at hc
  | a :: b :: r, [_], _, hc, _ => by simp [chkL] at hc
  | a :: b :: r, e :: e2 :: es, rq, hc, _ => by
    have hc' : a.chk X.N X.env.scope e = true ∧ chkL (b :: r) X.N X.env.scope (e2 :: es) = true := by
      rw [← Bool.and_eq_true]; exact hc
    have base := pe_or (a.sound G k X W e gd tk rq.1 hc'.1) (orL_sound G k X W gd tk pos (b :: r) (e2 :: es) rq.2 hc'.2 (by simp))
    refine ⟨fun pins s σ H Q I h => base.run pins s σ H Q I ?_⟩
    obtain ⟨mu, en, st, R, h⟩ := h
    refine tw1 a.mono R h fun d st1 mu1 v H1 hF s1 r1 q1 => ?_
    split at hF
    · exact ⟨true, q1, by rw [if_pos rfl]; exact hF mu1 (.bl true) H1 s1 r1 rfl⟩
    · exact ⟨false, q1, by rw [if_neg (by simp)]; exact ⟨mu1, en, st1, R.step s1 r1, wpOrL_mono (b :: r) _ _ _ _ _ _ hF (fun _ _ h => PostD.step s1 h) fun _ _ h => PostX.step s1 h⟩⟩
    · exact hF.elim
def eAnd (l : List SemE) (hl : l ≠ [] := by simp) : SemE where
  chk N sc e := match e with | .BoolOp .And es _ => chkL l N sc es | _ => false
  req := reqL l
  wp := wpAndL l
  mono := wpAndL_mono l
  sound := by
    intro G k X W e gd tk rq hc
    split at hc
    · exact andL_sound G k X W gd tk _ l _ rq hc hl
    · cases hc
def eOr (l : List SemE) (hl : l ≠ [] := by simp) : SemE where
  chk N sc e := match e with | .BoolOp .Or es _ => chkL l N sc es | _ => false
  req := reqL l
  wp := wpOrL l
  mono := wpOrL_mono l
  sound := by
    intro G k X W e gd tk rq hc
    split at hc
    · exact orL_sound G k X W gd tk _ l _ rq hc hl
    · cases hc
def eNot (a : SemE) : SemE where
  chk N sc e := match e with | .UnaryOp .Not x _ => a.chk N sc x | _ => false
  req := a.req
  wp en st Q E := a.wp en st (fun x st1 => match x with | .bl b => Q (.bl (!b)) st1 | _ => False) E
  mono en st Q Q' E E' h f g := a.mono _ _ _ _ _ _ h (fun x s hx => by
    split at hx
    · exact f _ _ hx
    · exact hx.elim) g
  sound := by
    intro G k X W e gd tk rq hc
    split at hc
    · rename_i x p
      have base := pe_not (pos := p) (a.sound G k X W x gd tk rq hc)
      refine ⟨fun pins s σ H Q I h => base.run pins s σ H Q I ?_⟩
      obtain ⟨mu, en, st, R, h⟩ := h
      refine tw1 a.mono R h fun d st1 mu1 v H1 hF s1 r1 q1 => ?_
      split at hF
      · exact ⟨_, q1, hF mu1 _ H1 s1 r1 rfl⟩
      · exact hF.elim
    · cases hc

/-! ### tests -/
abbrev WpT := Env → Sto → (Bool → Sto → Prop) → QX → Prop
def MonoT (wp : WpT) : Prop := ∀ (en : Env) (st : Sto) (Q Q' : Bool → Sto → Prop) (E E' : QX), wp en st Q E → (∀ d s, Q d s → Q' d s) → (∀ x s, E x s → E' x s) → wp en st Q' E'
def PostB (G : GEnv) (mu : Mu) (H : Hp) (Q : Bool → Hp → Prop) : Bool → Sto → Prop := fun b st' => ∀ mu' H', Step mu H mu' H' → RelS G.K mu' H' st' → Q b H'
theorem PostB.step {G : GEnv} {m0 m1 : Mu} {H0 H1 : Hp} {Q : Bool → Hp → Prop} (s : Step m0 H0 m1 H1) {d : Bool} {st : Sto} (h : PostB G m0 H0 Q d st) : PostB G m1 H1 Q d st := fun mu H' s2 r => h mu H' (s.trans s2) r
def tWT (G : GEnv) (wp : WpT) (W : WX) : TT := fun σ H Q => ∃ mu en st, RelE G.K mu H en st σ ∧ wp en st (PostB G mu H Q) (PostX G mu H σ W)
structure SemT where
  chk : List Str → Scope → Expr → Bool
  req : GEnv → Nat → Prop
  wp : WpT
  mono : MonoT wp
  sound : ∀ (G : GEnv) (k : Nat) (X : Cx) (W : WX) (e : Expr), Good G k X → Takes X W → req G k → chk X.N X.env.scope e = true → PT X e (tWT G wp W)
/-- an expression that is no and, or, not, if, comparison -/
def isPlainE : Expr → Bool
  | .BoolOp .. => false
  | .UnaryOp .. => false
  | .IfExp .. => false
  | .Compare .. => false
  | _ => true
def tV (a : SemE) : SemT where
  chk N sc e := isPlainE e && a.chk N sc e
  req := a.req
  wp en st Q E := a.wp en st (fun x st1 => match x with | .bl b => Q b st1 | _ => False) E
  mono en st Q Q' E E' h f g := a.mono _ _ _ _ _ _ h (fun x s hx => by
    split at hx
    · exact f _ _ hx
    · exact hx.elim) g
  sound := by
    intro G k X W e gd tk rq hc
    simp only [Bool.and_eq_true] at hc
    have base := pt_val (a.sound G k X W e gd tk rq hc.2) (by
      intro whole
      have h := hc.1
      cases e <;> first | rfl | (simp [isPlainE] at h))
    refine ⟨fun pins s σ H Q I h => base.run pins s σ H Q I ?_⟩
    obtain ⟨mu, en, st, R, h⟩ := h
    refine tw1 a.mono R h fun d st1 mu1 v H1 hF s1 r1 q1 => ?_
    split at hF
    · exact ⟨_, q1, hF mu1 H1 s1 r1⟩
    · exact hF.elim
def tCm (op : CmpOp) (o : OpD (compareOp op)) (a b : SemE) : SemT where
  chk N sc e := match e with | .Compare x [p] [y] _ => decide (p = op) && noMarkOp op y && a.chk N sc x && b.chk N sc y | _ => false
  req G k := a.req G k ∧ b.req G k
  wp en st Q E := a.wp en st (fun x st1 => b.wp en st1 (fun y st2 => o.wp x y st2 fun r st3 => match r with | .bl b => Q b st3 | _ => False) E) E
  mono en st Q Q' E E' h f g := a.mono _ _ _ _ _ _ h (fun x s hx => b.mono _ _ _ _ _ _ hx (fun y s hy => o.mono _ _ _ _ _ hy fun r s hr => by
    split at hr
    · exact f _ _ hr
    · exact hr.elim) g) g
  sound := by
    intro G k X W e gd tk rq hc
    split at hc
    · rename_i x p y pos
      simp only [Bool.and_eq_true, decide_eq_true_eq] at hc
      obtain ⟨⟨⟨rfl, hm⟩, h1⟩, h2⟩ := hc
      have hm' : behindInMarks p y = false := by simpa [noMarkOp] using hm
      have base := pt_cmpR (pos := pos) (o.sound G k X gd) (a.sound G k X W x gd tk rq.1 h1) (b.sound G k X W y gd tk rq.2 h2) hm'
      refine ⟨fun pins s σ H Q I h => base.run pins s σ H Q I ?_⟩
      obtain ⟨mu, en, st, R, h⟩ := h
      refine tw2 a.mono b.mono R h fun x y st2 mu2 v u H2 hF s2 r2 q1 q2 => ⟨mu2, st2, x, y, r2, q1, q2, o.mono _ _ _ _ _ hF fun d s hd => ?_⟩
      intro mu3 w3 H3 s3 r3 q3
      split at hd
      · exact ⟨_, q3, hd mu3 H3 (s2.trans s3) r3⟩
      · exact hd.elim
    · cases hc
def tCh (op op' : CmpOp) (o : OpD (compareOp op)) (o' : OpD (compareOp op')) (a b c : SemE) : SemT where
  chk N sc e := match e with | .Compare x [p, p'] [y, z] _ => decide (p = op) && decide (p' = op') && noMarkOp op' z && a.chk N sc x && b.chk N sc y && c.chk N sc z | _ => false
  req G k := a.req G k ∧ b.req G k ∧ c.req G k
  wp en st Q E := a.wp en st (fun x st1 => b.wp en st1 (fun y st2 => o.wp x y st2 fun r st3 => match r with | .bl true => c.wp en st3 (fun z st4 => o'.wp y z st4 fun r st5 => match r with | .bl b => Q b st5 | _ => False) E | .bl false => Q false st3 | _ => False) E) E
  mono en st Q Q' E E' h f g := a.mono _ _ _ _ _ _ h (fun x s hx => b.mono _ _ _ _ _ _ hx (fun y s hy => o.mono _ _ _ _ _ hy fun r s3 hr => by
    split at hr
    · exact c.mono _ _ _ _ _ _ hr (fun z s hz => o'.mono _ _ _ _ _ hz fun r s hr => by
        split at hr
        · exact f _ _ hr
        · exact hr.elim) g
    · exact f _ _ hr
    · exact hr.elim) g) g
  sound := by
    intro G k X W e gd tk rq hc
    split at hc
    · rename_i x p p' y z pos
      simp only [Bool.and_eq_true, decide_eq_true_eq] at hc
      obtain ⟨⟨⟨⟨⟨rfl, rfl⟩, hm⟩, h1⟩, h2⟩, h3⟩ := hc
      have hm' : behindInMarks p' z = false := by simpa [noMarkOp] using hm
      have base := pt_chain (pos := pos) (o.sound G k X gd) (o'.sound G k X gd) (a.sound G k X W x gd tk rq.1 h1) (b.sound G k X W y gd tk rq.2.1 h2) (c.sound G k X W z gd tk rq.2.2 h3) hm'
      refine ⟨fun pins s σ H Q I h => base.run pins s σ H Q I ?_⟩
      obtain ⟨mu, en, st, R, h⟩ := h
      refine tw2 a.mono b.mono R h fun x y st2 mu2 v u H2 hF s2 r2 q1 q2 => ⟨mu2, st2, x, y, r2, q1, q2, o.mono _ _ _ _ _ hF fun d s hd => ?_⟩
      intro mu3 w3 H3 s3 r3 q3
      split at hd
      · refine ⟨true, q3, ?_⟩
        rw [if_pos rfl]
        refine tw1 c.mono (R.step (s2.trans s3) r3) (c.mono _ _ _ _ _ _ hd (fun _ _ h => h) fun _ _ hx => PostX.step (s2.trans s3) hx) fun z st4 mu4 t H4 hF4 s4 r4 q4 => ?_
        refine ⟨mu4, st4, y, z, r4, (q2.step s3).step s4, q4, o'.mono _ _ _ _ _ hF4 fun d s hd => ?_⟩
        intro mu5 w5 H5 s5 r5 q5
        split at hd
        · exact ⟨_, q5, hd mu5 H5 (((s2.trans s3).trans s4).trans s5) r5⟩
        · exact hd.elim
      · refine ⟨false, q3, ?_⟩
        rw [if_neg (by simp)]
        exact ⟨_, rfl, hd mu3 H3 (s2.trans s3) r3⟩
      · exact hd.elim
    · cases hc
/-- one test from a state -/
theorem tt1 {G : GEnv} {W : WX} {a : WpT} (ma : MonoT a) {mu : Mu} {en : Env} {st : Sto} {σ : L2.St} {H : Hp} (R : RelE G.K mu H en st σ) {F : Bool → Sto → Prop} {Q : Bool → Hp → Prop}
    (h : a en st F (PostX G mu H σ W)) (f : ∀ d st1 mu1 H1, F d st1 → Step mu H mu1 H1 → RelS G.K mu1 H1 st1 → Q d H1) : tWT G a W σ H Q :=
  ⟨mu, en, st, R, ma _ _ _ _ _ _ h (fun d s1 hF mu1 H1 s r => f d s1 mu1 H1 hF s r) fun _ _ hx => hx⟩
def tNo (a : SemT) : SemT where
  chk N sc e := match e with | .UnaryOp .Not x _ => a.chk N sc x | _ => false
  req := a.req
  wp en st Q E := a.wp en st (fun b st1 => Q (!b) st1) E
  mono en st Q Q' E E' h f g := a.mono _ _ _ _ _ _ h (fun x s hx => f _ _ hx) g
  sound := by
    intro G k X W e gd tk rq hc
    split at hc
    · rename_i x p
      have base := pt_not (pos := p) (a.sound G k X W x gd tk rq hc)
      refine ⟨fun pins s σ H Q I h => base.run pins s σ H Q I ?_⟩
      obtain ⟨mu, en, st, R, h⟩ := h
      exact tt1 a.mono R h fun d st1 mu1 H1 hF s1 r1 => hF mu1 H1 s1 r1
    · cases hc
def tchkL : List SemT → List Str → Scope → List Expr → Bool
  | [], _, _, [] => true
  | a :: r, N, sc, e :: es => a.chk N sc e && tchkL r N sc es
  | _, _, _, _ => false
def treqL : List SemT → GEnv → Nat → Prop
  | [], _, _ => True
  | a :: r, G, k => a.req G k ∧ treqL r G k
def twpAnd : List SemT → WpT
  | [], _, _, _, _ => False
  | [a], en, st, Q, E => a.wp en st Q E
  | a :: r, en, st, Q, E => a.wp en st (fun x st1 => match x with | true => twpAnd r en st1 Q E | false => Q false st1) E
def twpOr : List SemT → WpT
  | [], _, _, _, _ => False
  | [a], en, st, Q, E => a.wp en st Q E
  | a :: r, en, st, Q, E => a.wp en st (fun x st1 => match x with | true => Q true st1 | false => twpOr r en st1 Q E) E
theorem twpAnd_mono : ∀ (l : List SemT), MonoT (twpAnd l)
  | [], _, _, _, _, _, _, h, _, _ => h.elim
  | [a], en, st, Q, Q', E, E', h, f, g => a.mono _ _ _ _ _ _ h f g
  | a :: b :: r, en, st, Q, Q', E, E', h, f, g => a.mono _ _ _ _ _ _ h (fun x s hx => by
    split at hx
    · exact twpAnd_mono (b :: r) _ _ _ _ _ _ hx f g
    · exact f _ _ hx) g
theorem twpOr_mono : ∀ (l : List SemT), MonoT (twpOr l)
  | [], _, _, _, _, _, _, h, _, _ => h.elim
  | [a], en, st, Q, Q', E, E', h, f, g => a.mono _ _ _ _ _ _ h f g
  | a :: b :: r, en, st, Q, Q', E, E', h, f, g => a.mono _ _ _ _ _ _ h (fun x s hx => by
    split at hx
    · exact f _ _ hx
    · exact twpOr_mono (b :: r) _ _ _ _ _ _ hx f g) g
theorem tand_sound (G : GEnv) (k : Nat) (X : Cx) (W : WX) (gd : Good G k X) (tk : Takes X W) (pos : Pos) : ∀ (l : List SemT) (es : List Expr), treqL l G k → tchkL l X.N X.env.scope es = true → l ≠ [] → PW X (.BoolOp .And es pos) (tWT G (twpAnd l) W)
  | [], _, _, _, h => absurd rfl h
  | [a], [e], rq, hc, _ => by
    have h1 : a.chk X.N X.env.scope e = true := by simpa [tchkL] using hc
    exact pw_and1 (a.sound G k X W e gd tk rq.1 h1)
  | [a], [], _, hc, _ => by simp [tchkL] at hc
  | [a], _ :: _ :: _, _, hc, _ => by simp [tchkL] at hc
  | a :: b :: r, [], _, hc, _ => by simp [tchkL] at hc
  | a :: b :: r, [_], _, hc, _ => by simp [tchkL] at hc
  | a :: b :: r, e :: e2 :: es, rq, hc, _ => by
    have hc' : a.chk X.N X.env.scope e = true ∧ tchkL (b :: r) X.N X.env.scope (e2 :: es) = true := by
      rw [← Bool.and_eq_true]; exact hc
    have base := pw_and (a.sound G k X W e gd tk rq.1 hc'.1) (tand_sound G k X W gd tk pos (b :: r) (e2 :: es) rq.2 hc'.2 (by simp))
    refine ⟨fun whole pins s σ H Q I h => base.run whole pins s σ H Q I ?_⟩
    obtain ⟨mu, en, st, R, h⟩ := h
    refine tt1 a.mono R h fun d st1 mu1 H1 hF s1 r1 => ?_
    cases d with
    | true => rw [if_pos rfl]; exact ⟨mu1, en, st1, R.step s1 r1, twpAnd_mono (b :: r) _ _ _ _ _ _ hF (fun _ _ h => PostB.step s1 h) fun _ _ h => PostX.step s1 h⟩
    | false => rw [if_neg (by simp)]; exact hF mu1 H1 s1 r1
theorem tor_sound (G : GEnv) (k : Nat) (X : Cx) (W : WX) (gd : Good G k X) (tk : Takes X W) (pos : Pos) : ∀ (l : List SemT) (es : List Expr), treqL l G k → tchkL l X.N X.env.scope es = true → l ≠ [] → PW X (.BoolOp .Or es pos) (tWT G (twpOr l) W)
  | [], _, _, _, h => absurd rfl h
  | [a], [e], rq, hc, _ => by
    have h1 : a.chk X.N X.env.scope e = true := by simpa [tchkL] using hc
    exact pw_or1 (a.sound G k X W e gd tk rq.1 h1)
  | [a], [], _, hc, _ => by simp [tchkL] at hc
  | [a], _ :: _ :: _, _, hc, _ => by simp [tchkL] at hc
  | a :: b :: r, [], _, hc, _ => by simp [tchkL] at hc
  | a :: b :: r, [_], _, hc, _ => by simp [tchkL] at hc
  | a :: b :: r, e :: e2 :: es, rq, hc, _ => by
    have hc' : a.chk X.N X.env.scope e = true ∧ tchkL (b :: r) X.N X.env.scope (e2 :: es) = true := by
      rw [← Bool.and_eq_true]; exact hc
    have base := pw_or (a.sound G k X W e gd tk rq.1 hc'.1) (tor_sound G k X W gd tk pos (b :: r) (e2 :: es) rq.2 hc'.2 (by simp))
    refine ⟨fun whole pins s σ H Q I h => base.run whole pins s σ H Q I ?_⟩
    obtain ⟨mu, en, st, R, h⟩ := h
    refine tt1 a.mono R h fun d st1 mu1 H1 hF s1 r1 => ?_
    cases d with
    | true => rw [if_pos rfl]; exact hF mu1 H1 s1 r1
    | false => rw [if_neg (by simp)]; exact ⟨mu1, en, st1, R.step s1 r1, twpOr_mono (b :: r) _ _ _ _ _ _ hF (fun _ _ h => PostB.step s1 h) fun _ _ h => PostX.step s1 h⟩
def tAn (l : List SemT) (hl : l ≠ [] := by simp) : SemT where
  chk N sc e := match e with | .BoolOp .And es _ => tchkL l N sc es | _ => false
  req := treqL l
  wp := twpAnd l
  mono := twpAnd_mono l
  sound := by
    intro G k X W e gd tk rq hc
    split at hc
    · exact (tand_sound G k X W gd tk _ l _ rq hc hl).pt
    · cases hc
def tOr' (l : List SemT) (hl : l ≠ [] := by simp) : SemT where
  chk N sc e := match e with | .BoolOp .Or es _ => tchkL l N sc es | _ => false
  req := treqL l
  wp := twpOr l
  mono := twpOr_mono l
  sound := by
    intro G k X W e gd tk rq hc
    split at hc
    · exact (tor_sound G k X W gd tk _ l _ rq hc hl).pt
    · cases hc
/-- a if t else b -/
def eIf (t : SemT) (a b : SemE) : SemE where
  chk N sc e := match e with | .IfExp c x y _ => t.chk N sc c && a.chk N sc x && b.chk N sc y | _ => false
  req G k := t.req G k ∧ a.req G k ∧ b.req G k
  wp en st Q E := t.wp en st (fun c st1 => match c with | true => a.wp en st1 Q E | false => b.wp en st1 Q E) E
  mono en st Q Q' E E' h f g := t.mono _ _ _ _ _ _ h (fun c s hc => by
    split at hc
    · exact a.mono _ _ _ _ _ _ hc f g
    · exact b.mono _ _ _ _ _ _ hc f g) g
  sound := by
    intro G k X W e gd tk rq hc
    split at hc
    · rename_i c x y pos
      simp only [Bool.and_eq_true] at hc
      have base := pe_ifExp (pos := pos) (t.sound G k X W c gd tk rq.1 hc.1.1) (a.sound G k X W x gd tk rq.2.1 hc.1.2) (b.sound G k X W y gd tk rq.2.2 hc.2)
      refine ⟨fun pins s σ H Q I h => base.run pins s σ H Q I ?_⟩
      obtain ⟨mu, en, st, R, h⟩ := h
      refine tt1 t.mono R h fun d st1 mu1 H1 hF s1 r1 => ?_
      cases d with
      | true => rw [if_pos rfl]; exact ⟨mu1, en, st1, R.step s1 r1, a.mono _ _ _ _ _ _ hF (fun _ _ h => PostD.step s1 h) fun _ _ h => PostX.step s1 h⟩
      | false => rw [if_neg (by simp)]; exact ⟨mu1, en, st1, R.step s1 r1, b.mono _ _ _ _ _ _ hF (fun _ _ h => PostD.step s1 h) fun _ _ h => PostX.step s1 h⟩
    · cases hc
end Mi
namespace Mi
open PySem PySem.Spec PyProof.Rows L2

/-! ### lists of expressions -/
def notStar : Expr → Bool
  | .Starred .. => false
  | _ => true
theorem star_plain {e : Expr} (h : notStar e = true) (es : List Expr) (env : PySem.Env) : starEach (e :: es) env = (false, eval e env) :: starEach es env := by
  cases e <;> first | rfl | (simp [notStar] at h)
def chkA : List SemE → List Str → Scope → List Expr → Bool
  | [], _, _, [] => true
  | a :: r, N, sc, e :: es => notStar e && a.chk N sc e && chkA r N sc es
  | _, _, _, _ => false
theorem chkA_any : ∀ (l : List SemE) {N : List Str} {sc : Scope} {es : List Expr}, chkA l N sc es = true → ∀ (pos : Pos) (env : PySem.Env), (backTo pos (starEach es env)).any (·.1) = false
  | [], _, _, [], _, _, _ => rfl
  | [], _, _, _ :: _, h, _, _ => by simp [chkA] at h
  | _ :: _, _, _, [], h, _, _ => by simp [chkA] at h
  | a :: r, N, sc, e :: es, h, pos, env => by
    simp only [chkA, Bool.and_eq_true] at h
    rw [star_plain h.1.1]
    have ih := chkA_any r h.2 pos env
    unfold backTo at ih ⊢
    simp only [List.map_cons, List.any_cons, ih, Bool.or_false]
theorem chkA_star {a : SemE} {r : List SemE} {N : List Str} {sc : Scope} {e : Expr} {es : List Expr} (h : chkA (a :: r) N sc (e :: es) = true) (env : PySem.Env) : starEach (e :: es) env = (false, eval e env) :: starEach es env := by
  simp only [chkA, Bool.and_eq_true] at h
  exact star_plain h.1.1 es env
theorem chkA_tail {a : SemE} {r : List SemE} {N : List Str} {sc : Scope} {e : Expr} {es : List Expr} (h : chkA (a :: r) N sc (e :: es) = true) : chkA r N sc es = true := by
  simp only [chkA, Bool.and_eq_true] at h
  exact h.2
abbrev QL := List D → Sto → Prop
def wpA : List SemE → Env → Sto → QL → QX → Prop
  | [], _, st, Q, _ => Q [] st
  | a :: r, en, st, Q, E => a.wp en st (fun x st1 => wpA r en st1 (fun xs st2 => Q (x :: xs) st2) E) E
theorem wpA_mono : ∀ (l : List SemE) (en : Env) (st : Sto) (Q Q' : QL) (E E' : QX), wpA l en st Q E → (∀ d s, Q d s → Q' d s) → (∀ x s, E x s → E' x s) → wpA l en st Q' E'
  | [], _, _, _, _, _, _, h, f, _ => f _ _ h
  | a :: r, en, st, Q, Q', E, E', h, f, g => a.mono _ _ _ _ _ _ h (fun x s hx => wpA_mono r _ _ _ _ _ _ hx (fun xs s2 hs => f _ _ hs) g) g
def PostL (G : GEnv) (mu : Mu) (H : Hp) (Q : List V → Hp → Prop) : QL := fun ds st' => ∀ mu' vs H', Step mu H mu' H' → RelS G.K mu' H' st' → RVs G.K mu' H' ds vs → Q vs H'
def tWA (G : GEnv) (l : List SemE) (W : WX) : TA := fun σ H Q => ∃ mu en st, RelE G.K mu H en st σ ∧ wpA l en st (PostL G mu H Q) (PostX G mu H σ W)
theorem pa_sound (G : GEnv) (k : Nat) (X : Cx) (W : WX) (gd : Good G k X) (tk : Takes X W) : ∀ (l : List SemE) (es : List Expr), reqL l G k → chkA l X.N X.env.scope es = true → PA X es (tWA G l W)
  | [], [], _, _ => by
    refine ⟨fun pos pins s σ H Q I h => pa_nil.run pos pins s σ H Q I ?_⟩
    obtain ⟨mu, en, st, R, h⟩ := h
    exact h mu [] H (Step.refl _ _) R.sto rfl
  | [], _ :: _, _, h => by simp [chkA] at h
  | _ :: _, [], _, h => by simp [chkA] at h
  | a :: r, e :: es, rq, h => by
    have h' := h
    simp only [chkA, Bool.and_eq_true] at h'
    have base := pa_cons (a.sound G k X W e gd tk rq.1 h'.1.2) (pa_sound G k X W gd tk r es rq.2 h'.2) (chkA_star h _)
    refine ⟨fun pos pins s σ H Q I hw => base.run pos pins s σ H Q I ?_⟩
    obtain ⟨mu, en, st, R, hw⟩ := hw
    refine tw1 a.mono R hw fun x st1 mu1 v H1 hF s1 r1 q1 => ?_
    refine ⟨mu1, en, st1, R.step s1 r1, wpA_mono r _ _ _ _ _ _ hF (fun xs st2 hs => ?_) fun _ _ hx => PostX.step s1 hx⟩
    intro mu2 vs H2 s2 r2 q2
    exact hs mu2 (v :: vs) H2 (s1.trans s2) r2 ⟨v, vs, rfl, q1.step s2, q2⟩
/-- all operands from a state -/
theorem twa {G : GEnv} {W : WX} {l : List SemE} {mu : Mu} {en : Env} {st : Sto} {σ : L2.St} {H : Hp} (R : RelE G.K mu H en st σ) {F : QL} {Q : List V → Hp → Prop}
    (h : wpA l en st F (PostX G mu H σ W)) (f : ∀ ds st1 mu1 vs H1, F ds st1 → Step mu H mu1 H1 → RelS G.K mu1 H1 st1 → RVs G.K mu1 H1 ds vs → Q vs H1) : tWA G l W σ H Q :=
  ⟨mu, en, st, R, wpA_mono l _ _ _ _ _ _ h (fun ds s1 hF mu1 vs H1 s r q => f ds s1 mu1 vs H1 hF s r q) fun _ _ hx => hx⟩

/-! ### new objects -/
/-- a new thing at p that is no object of the store -/
theorem Step.newV {mu : Mu} {H : Hp} {p : Addr} {o : HO} (h : H p = none) : Step mu H mu (upd H p o) := by
  refine ⟨fun _ h => h, fun _ h => .inl h, ⟨[], by simp, by simp⟩, fun a u e _ => ?_, fun a e => ?_⟩
  · rw [upd_ne (ne_of_none e h)]; exact e
  · by_cases z : a = p
    · subst z; rw [upd_same]; simp
    · rw [upd_ne z]; exact e
def Mu.push (mu : Mu) (p : Addr) : Mu := ⟨mu.l ++ [p], mu.av⟩
/-- .. that is the store's next object -/
theorem Step.newO {mu : Mu} {H : Hp} {p : Addr} {o : HO} (h : H p = none) : Step mu H (mu.push p) (upd H p o) := by
  refine ⟨fun _ h => h, fun _ h => .inl h, ⟨[p], rfl, by simp [h]⟩, fun a u e _ => ?_, fun a e => ?_⟩
  · rw [upd_ne (ne_of_none e h)]; exact e
  · by_cases z : a = p
    · subst z; rw [upd_same]; simp
    · rw [upd_ne z]; exact e
section
variable {K : PySem.W.Frag} {mu : Mu} {H : Hp} {st : Sto}
theorem RO.step {m0 m1 : Mu} {H0 H1 : Hp} (s : Step m0 H0 m1 H1) {o : O} {a : Addr} (h : RO K m0 H0 o a) (e : H1 a = H0 a) : RO K m1 H1 o a := by
  cases o with
  | lst ds => obtain ⟨vs, h1, h2⟩ := h; exact ⟨vs, by rw [e]; exact h1, h2.step s⟩
  | dic ks vs => exact h
/-- the store's objects stand in H -/
theorem RelS.at (R : RelS K mu H st) {a : Addr} (h : mu.has a) : H a ≠ none := by
  rcases h with h | h
  · obtain ⟨n, hn⟩ := List.getElem?_of_mem h
    have hl : n < st.length := by rw [← R.len]; exact (List.getElem?_eq_some_iff.mp hn).1
    have := R.obj n st[n] a (List.getElem?_eq_getElem hl) hn
    cases e : st[n] with
    | lst ds => rw [e] at this; obtain ⟨vs, h1, _⟩ := this; rw [h1]; simp
    | dic ks vs => rw [e] at this; exact this.elim
  · exact (R.av a h).1
theorem RelS.newV (R : RelS K mu H st) {p : Addr} {o : HO} (h : H p = none) : RelS K mu (upd H p o) st :=
  ⟨R.nd, R.len, fun n o' a h1 h2 => (R.obj n o' a h1 h2).step (Step.newV h) (by
    have hm : a ∈ mu.l := List.mem_of_getElem? h2
    rw [upd_ne (fun z => R.at (.inl hm) (by rw [z]; exact h))]), fun a ha => ⟨(Step.newV (mu := mu) h).live a (R.av a ha).1, (R.av a ha).2⟩⟩
theorem RelS.newO (R : RelS K mu H st) {p : Addr} {o : O} {ho : HO} (h : H p = none) (hr : RO K (mu.push p) (upd H p ho) o p) : RelS K (mu.push p) (upd H p ho) (st ++ [o]) := by
  have np : p ∉ mu.l := fun z => R.at (.inl z) h
  refine ⟨?_, by show (mu.l ++ [p]).length = _; rw [List.length_append, List.length_append, R.len]; rfl, fun n o' a h1 h2 => ?_, fun a ha => ⟨(Step.newO (mu := mu) h).live a (R.av a ha).1, fun z => ?_⟩⟩
  · show (mu.l ++ [p]).Nodup
    rw [List.nodup_append]
    exact ⟨R.nd, by simp, fun a ha b hb => by
      have : b = p := by simpa using hb
      subst this
      exact fun z => np (z ▸ ha)⟩
  · have h2 : (mu.l ++ [p])[n]? = some a := h2
    by_cases hn : n < mu.l.length
    · rw [List.getElem?_append_left hn] at h2
      rw [List.getElem?_append_left (by rw [← R.len]; exact hn)] at h1
      refine (R.obj n o' a h1 h2).step (Step.newO h) ?_
      rw [upd_ne (fun z => np (by rw [← z]; exact List.mem_of_getElem? h2))]
    · have e1 : n = mu.l.length := by
        have := (List.getElem?_eq_some_iff.mp h2).1
        rw [List.length_append] at this
        simp at this
        omega
      subst e1
      rw [List.getElem?_append_right (Nat.le_refl _)] at h2
      rw [R.len, List.getElem?_append_right (Nat.le_refl _)] at h1
      simp at h1 h2
      subst h1 h2
      exact hr
  · rcases List.mem_append.mp z with z | z
    · exact (R.av a ha).2 z
    · have : a = p := by simpa using z
      rw [this] at ha
      exact R.at (.inr ha) h
end
/-- a new frozen tuple -/
theorem new_tup {G : GEnv} {mu : Mu} {H : Hp} {Q : VK} {st : Sto} {ds : List D} {m1 : Mu} {H1 : Hp} {vs : List V} (s : Step mu H m1 H1) (R : RelS G.K m1 H1 st) (r : RVs G.K m1 H1 ds vs)
    (h : PostD G mu H Q (.tup ds) st) {p : Addr} (hp : H1 p = none) : Q (.ref p) (upd H1 p (.tup vs)) :=
  h m1 (.ref p) _ (s.trans (Step.newV hp)) (R.newV hp) ⟨p, vs, rfl, .of upd_same, r.step (Step.newV hp)⟩
/-- a new frozen list -/
theorem new_lst {G : GEnv} {mu : Mu} {H : Hp} {Q : VK} {st : Sto} {ds : List D} {m1 : Mu} {H1 : Hp} {vs : List V} (s : Step mu H m1 H1) (R : RelS G.K m1 H1 st) (r : RVs G.K m1 H1 ds vs)
    (h : PostD G mu H Q (.lst ds) st) {p : Addr} (hp : H1 p = none) : Q (.ref p) (upd H1 p (.lst vs)) :=
  h m1 (.ref p) _ (s.trans (Step.newV hp)) (R.newV hp) ⟨p, vs, rfl, upd_same, fun z => R.at z hp, r.step (Step.newV hp)⟩
/-- a new list that may change -/
theorem new_ref {G : GEnv} {mu : Mu} {H : Hp} {Q : VK} {st : Sto} {ds : List D} {m1 : Mu} {H1 : Hp} {vs : List V} (s : Step mu H m1 H1) (R : RelS G.K m1 H1 st) (r : RVs G.K m1 H1 ds vs)
    (h : PostD G mu H Q (.ref st.length) (st ++ [.lst ds])) {p : Addr} (hp : H1 p = none) : Q (.ref p) (upd H1 p (.lst vs)) :=
  h (m1.push p) (.ref p) _ (s.trans (Step.newO hp)) (R.newO hp ⟨vs, upd_same, r.step (Step.newO hp)⟩) ⟨p, rfl, by show (m1.l ++ [p])[st.length]? = _; rw [← R.len]; simp⟩

/-! ### displays -/
def eTup (l : List SemE) : SemE where
  chk N sc e := match e with | .Tuple es _ _ => chkA l N sc es | _ => false
  req := reqL l
  wp en st Q E := wpA l en st (fun ds st1 => ds.length ≤ sizeLine ∧ Q (.tup ds) st1) E
  mono en st Q Q' E E' h f g := wpA_mono l _ _ _ _ _ _ h (fun ds s hx => ⟨hx.1, f _ _ hx.2⟩) g
  sound := by
    intro G k X W e gd tk rq hc
    split at hc
    · rename_i es j p
      have base := pe_tup (x1 := j) (pos := p) (pa_sound G k X W gd tk l es rq hc)
      refine ⟨fun pins s σ H Q I h => base.run pins s σ H Q I ?_⟩
      obtain ⟨mu, en, st, R, h⟩ := h
      exact twa R h fun ds st1 mu1 vs H1 hF s1 r1 q1 => ⟨by rw [← q1.len]; exact hF.1, fun p hp => new_tup s1 r1 q1 hF.2 hp⟩
    · cases hc
/-- m: whether the list will be changed -/
def newL (m : Bool) (ds : List D) (st : Sto) (Q : QD) : Prop := match m with | true => Q (.ref st.length) (st ++ [.lst ds]) | false => Q (.lst ds) st
theorem newL_mono {m : Bool} {ds : List D} {st : Sto} {Q Q' : QD} (h : newL m ds st Q) (f : ∀ d s, Q d s → Q' d s) : newL m ds st Q' := by
  cases m with
  | true => exact f _ _ h
  | false => exact f _ _ h
theorem new_list {G : GEnv} {mu : Mu} {H : Hp} {Q : VK} {st : Sto} {ds : List D} {m1 : Mu} {H1 : Hp} {vs : List V} (m : Bool) (s : Step mu H m1 H1) (R : RelS G.K m1 H1 st) (r : RVs G.K m1 H1 ds vs)
    (h : newL m ds st (PostD G mu H Q)) {p : Addr} (hp : H1 p = none) : Q (.ref p) (upd H1 p (.lst vs)) := by
  cases m with
  | true => exact new_ref s R r h hp
  | false => exact new_lst s R r h hp
def eList (m : Bool) (l : List SemE) : SemE where
  chk N sc e := match e with | .List es _ => chkA l N sc es | _ => false
  req := reqL l
  wp en st Q E := wpA l en st (fun ds st1 => ds.length ≤ sizeLine ∧ newL m ds st1 Q) E
  mono en st Q Q' E E' h f g := wpA_mono l _ _ _ _ _ _ h (fun ds s hx => ⟨hx.1, newL_mono hx.2 f⟩) g
  sound := by
    intro G k X W e gd tk rq hc
    split at hc
    · rename_i es p
      have base := pe_lst (pos := p) (pa_sound G k X W gd tk l es rq hc)
      refine ⟨fun pins s σ H Q I h => base.run pins s σ H Q I ?_⟩
      obtain ⟨mu, en, st, R, h⟩ := h
      exact twa R h fun ds st1 mu1 vs H1 hF s1 r1 q1 => ⟨by rw [← q1.len]; exact hF.1, fun p hp => new_list m s1 r1 q1 hF.2 hp⟩
    · cases hc

/-! ### what stands behind a value -/
def lookD (st : Sto) (d : D) : D := match d with
  | .ref n => (match st[n]? with | some (.lst ds) => .lst ds | _ => d)
  | d => d
/-- the items of a tuple or list -/
def seqOf (st : Sto) (d : D) : Option (List D) := match d with
  | .tup ds => some ds
  | .lst ds => some ds
  | .ref n => (match st[n]? with | some (.lst ds) => some ds | _ => none)
  | _ => none
def lstOf (st : Sto) (d : D) : Option (List D) := match d with
  | .lst ds => some ds
  | .ref n => (match st[n]? with | some (.lst ds) => some ds | _ => none)
  | _ => none
section
variable {K : PySem.W.Frag} {mu : Mu} {H : Hp} {st : Sto}
theorem RelS.get (R : RelS K mu H st) {n : Nat} {o : O} {a : Addr} (h : st[n]? = some o) (e : mu.l[n]? = some a) : RO K mu H o a := R.obj n o a h e
theorem lst_at (R : RelS K mu H st) {d : D} {v : V} {ds : List D} (h : lstOf st d = some ds) (r : RV K mu H d v) : ∃ a vs, v = .ref a ∧ H a = some (.lst vs) ∧ RVs K mu H ds vs := by
  unfold lstOf at h
  split at h
  · cases h
    obtain ⟨a, vs, e, h1, _, h2⟩ := r
    exact ⟨a, vs, e, h1, h2⟩
  · rename_i n
    obtain ⟨a, e, h1⟩ := r
    split at h
    · rename_i ds' hs
      cases h
      obtain ⟨vs, h2, h3⟩ := R.get hs h1
      exact ⟨a, vs, e, h2, h3⟩
    · cases h
  · cases h
theorem seq_at (R : RelS K mu H st) {d : D} {v : V} {ds : List D} (h : seqOf st d = some ds) (r : RV K mu H d v) : ∃ a vs, v = .ref a ∧ ((∃ es, d = .tup es) ∧ SqT K H a vs ∨ lstOf st d = some ds ∧ H a = some (.lst vs)) ∧ RVs K mu H ds vs := by
  by_cases z : ∃ es, d = .tup es
  · obtain ⟨es, rfl⟩ := z
    cases h
    obtain ⟨a, vs, e, h1, h2⟩ := r
    exact ⟨a, vs, e, .inl ⟨⟨_, rfl⟩, h1⟩, h2⟩
  · have h' : lstOf st d = some ds := by
      unfold seqOf at h
      unfold lstOf
      split at h
      · exact absurd ⟨_, rfl⟩ z
      · exact h
      · exact h
      · cases h
    obtain ⟨a, vs, e, h1, h2⟩ := lst_at R h' r
    exact ⟨a, vs, e, .inr ⟨h', h1⟩, h2⟩
end

/-! ### data -/
mutual
def toPy : D → PyData
  | .non => .none
  | .bl b => .bool b
  | .int i => .int i
  | .str s => .str s
  | .tup ds => .tuple (toPys ds)
  | .lst ds => .list (toPys ds)
  | .rol ds => .list (toPys ds)
  | .dic _ _ => .dict []
  | .ref _ => .dict []
def toPys : List D → List PyData
  | [] => []
  | d :: r => toPy d :: toPys r
end
section
variable {K : PySem.W.Frag} {mu : Mu} {H : Hp}
mutual
theorem RV.dp : ∀ {d : D} {v : V}, RV K mu H d v → (toPy d).canLay0 = true → Dp K H v (toPy d)
  | .non, _, h, _ => by cases (show _ = V.non from h); exact .non
  | .bl b, _, h, _ => by cases (show _ = V.bl b from h); exact .bl b
  | .int i, _, h, _ => by cases (show _ = V.int i from h); exact .int i
  | .str x, _, h, _ => by cases (show _ = V.str x from h); exact .str x
  | .tup ds, _, ⟨a, vs, e, h, r⟩, c => by subst e; exact .tup h (RVs.dp r (by simpa [toPy, PyData.canLay0] using c))
  | .lst ds, _, ⟨a, vs, e, h, _, r⟩, c => by subst e; exact .lst (.of h) (RVs.dp r (by simpa [toPy, PyData.canLay0] using c))
  | .rol ds, _, ⟨a, vs, e, h, r⟩, c => by
    subst e
    refine .lst ?_ (RVs.dp r (by simpa [toPy, PyData.canLay0] using c))
    rcases h with h | ⟨o, h⟩
    · rcases h with (h | ⟨o, h⟩) | h
      · cases h
      · cases h
      · exact .inr h
    · exact .inl (.inr ⟨o, h⟩)
  | .dic _ _, _, h, _ => h.elim
  | .ref _, _, _, c => by simp [toPy, PyData.canLay0] at c
theorem RVs.dp : ∀ {ds : List D} {vs : List V}, RVs K mu H ds vs → PyData.canLayAll0 (toPys ds) = true → DpAll K H vs (toPys ds)
  | [], _, h, _ => by cases (show _ = [] from h); exact .nil
  | d :: r, _, ⟨v, u, e, h, t⟩, c => by
    subst e
    simp only [toPys, PyData.canLayAll0, Bool.and_eq_true] at c
    exact .cons (RV.dp h c.1) (RVs.dp t c.2)
end
theorem look_dp {st : Sto} (R : RelS K mu H st) {d : D} {v : V} (r : RV K mu H d v) (c : (toPy (lookD st d)).canLay0 = true) : Dp K H v (toPy (lookD st d)) := by
  by_cases z : ∃ n ds, d = .ref n ∧ st[n]? = some (.lst ds)
  · obtain ⟨n, ds, rfl, hs⟩ := z
    have e : lookD st (.ref n) = .lst ds := by unfold lookD; simp only [hs]
    rw [e] at c ⊢
    obtain ⟨a, ev, h1⟩ := r
    obtain ⟨vs, h2, h3⟩ := R.get hs h1
    subst ev
    exact .lst (.of h2) (RVs.dp h3 (by simpa [toPy, PyData.canLay0] using c))
  · have e : lookD st d = d := by
      unfold lookD
      split
      · split
        · exact absurd ⟨_, _, rfl, by assumption⟩ z
        · rfl
      · rfl
    rw [e] at c ⊢
    exact r.dp c
end
def shp (d : D) : Bool := SeqAt.shaped (toPy d)
def eqD (x y : D) : Bool := PyData.eqv (toPy x) (toPy y)
end Mi
namespace Mi
open PySem PySem.Spec PyProof.Rows L2

theorem Good.K' {G : GEnv} {k : Nat} {X : Cx} (gd : Good G k X) {P : PySem.W.Frag → Prop} (h : P G.K) : P X.K := by rw [gd.K]; exact h
/-! ### + -/
def wpAdd (m : Bool) (x y : D) (st : Sto) (Q : QD) : Prop := match x, y with
  | .int i, .int j => Q (.int (i + j)) st
  | .str a, .str b => a.length + b.length ≤ sizeLine ∧ Q (.str (a ++ b)) st
  | .tup a, .tup b => a.length + b.length ≤ sizeLine ∧ Q (.tup (a ++ b)) st
  | x, y => match lstOf st x, lstOf st y with
    | some a, some b => a.length + b.length ≤ sizeLine ∧ newL m (a ++ b) st Q
    | _, _ => False
def opAdd (m : Bool) : OpD (binaryOp .Add) where
  wp := wpAdd m
  mono x y st Q Q' h f := by
    unfold wpAdd at h ⊢
    split at h
    · exact f _ _ h
    · exact ⟨h.1, f _ _ h.2⟩
    · exact ⟨h.1, f _ _ h.2⟩
    · split at h
      · exact ⟨h.1, newL_mono h.2 f⟩
      · exact h.elim
  sound := by
    intro G k X gd pins s σ H xv yv v u Q I rx ry h
    obtain ⟨mu, st, x, y, R, hx, hy, h⟩ := h
    unfold wpAdd at h
    split at h
    · cases (show xv = V.int _ from hx); cases (show yv = V.int _ from hy)
      exact op_add pins s σ H _ _ v u Q I rx ry ⟨_, _, rfl, rfl, h mu _ H (Step.refl _ _) R rfl⟩
    · cases (show xv = V.str _ from hx); cases (show yv = V.str _ from hy)
      exact op_add_str pins s σ H _ _ v u Q I rx ry ⟨_, _, rfl, rfl, h.1, h.2 mu _ H (Step.refl _ _) R rfl⟩
    · rename_i as bs
      obtain ⟨a, vs, rfl, h1, r1⟩ := hx
      obtain ⟨b, us, rfl, h2, r2⟩ := hy
      have l1 := r1.len
      have l2 := r2.len
      refine op_catA pins s σ H _ _ v u Q I rx ry ⟨a, b, vs, us, rfl, rfl, gd.K' (P := fun K => SqT K H a vs) h1, gd.K' (P := fun K => SqT K H b us) h2, by rw [← l1, ← l2]; exact h.1, fun e => ?_, fun _ e => ?_, fun _ _ p hp => ?_⟩
      · have ea : as = [] := List.eq_nil_of_length_eq_zero (by rw [l1, e]; rfl)
        subst ea
        exact h.2 mu _ H (Step.refl _ _) R ⟨b, us, rfl, h2, r2⟩
      · have eb : bs = [] := List.eq_nil_of_length_eq_zero (by rw [l2, e]; rfl)
        subst eb
        exact h.2 mu _ H (Step.refl _ _) R ⟨a, vs, rfl, h1, by rw [List.append_nil]; exact r1⟩
      · exact new_tup (Step.refl _ _) R (r1.app r2) h.2 hp
    · split at h
      · rename_i as bs e1 e2
        obtain ⟨a, vs, rfl, h1, r1⟩ := lst_at R e1 hx
        obtain ⟨b, us, rfl, h2, r2⟩ := lst_at R e2 hy
        exact op_cat pins s σ H _ _ v u Q I rx ry ⟨a, b, vs, us, rfl, rfl, h1, h2, by rw [← r1.len, ← r2.len]; exact h.1, fun p hp => new_list m (Step.refl _ _) R (r1.app r2) h.2 hp⟩
      · exact h.elim
/-! ### ints -/
def opI (op : Operator) (C : Int → Int → Prop) (g : Int → Int → Int) (hr : ∀ X : Cx, OpR X (binaryOp op) (rI C fun i j => .int (g i j))) : OpD (binaryOp op) where
  wp x y st Q := match x, y with
    | .int i, .int j => C i j ∧ Q (.int (g i j)) st
    | _, _ => False
  mono x y st Q Q' h f := by
    split at h
    · exact ⟨h.1, f _ _ h.2⟩
    · exact h.elim
  sound := by
    intro G k X gd pins s σ H xv yv v u Q I rx ry h
    obtain ⟨mu, st, x, y, R, hx, hy, h⟩ := h
    split at h
    · cases (show xv = V.int _ from hx); cases (show yv = V.int _ from hy)
      exact hr X pins s σ H _ _ v u Q I rx ry ⟨_, _, rfl, rfl, h.1, h.2 mu _ H (Step.refl _ _) R rfl⟩
    · exact h.elim
def CT (i j : Int) : Prop := True
def opSub : OpD (binaryOp .Sub) := opI .Sub CT (fun i j => i - j) fun X pins s σ H x y v u Q I rx ry h => op_sub pins s σ H x y v u Q I rx ry (let ⟨i, j, e1, e2, _, q⟩ := h; ⟨i, j, e1, e2, q⟩)
def CPos (i j : Int) : Prop := 0 < j
def opMod : OpD (binaryOp .Mod) := opI .Mod CPos (fun i j => i % j) fun X => op_mod
def opFDiv : OpD (binaryOp .FloorDiv) := opI .FloorDiv CDiv (fun i j => i / j) fun X => op_fdiv
def opPow : OpD (binaryOp .Pow) := opI .Pow CPow (fun i j => i ^ j.toNat) fun X => op_pow
/-! ### comparisons -/
def wpEq (neg : Bool) (x y : D) (st : Sto) (Q : QD) : Prop := match x, y with
  | .str a, .str b => Q (.bl (neg != decide (a = b))) st
  | x, y => shp (lookD st x) = true ∧ shp (lookD st y) = true ∧ Q (.bl (neg != eqD (lookD st x) (lookD st y))) st
theorem wpEq_mono {neg : Bool} {x y : D} {st : Sto} {Q Q' : QD} (h : wpEq neg x y st Q) (f : ∀ d s, Q d s → Q' d s) : wpEq neg x y st Q' := by
  unfold wpEq at h ⊢
  split at h
  · exact f _ _ h
  · exact ⟨h.1, h.2.1, f _ _ h.2.2⟩
theorem dec_strV (a b : Str) : decide (V.str a = V.str b) = decide (a = b) := by
  by_cases e : a = b
  · rw [e, decide_eq_true rfl, decide_eq_true rfl]
  · rw [decide_eq_false e, decide_eq_false fun q => e (V.str.inj q)]
def opEq : OpD (compareOp .Eq) where
  wp := wpEq false
  mono x y st Q Q' h f := wpEq_mono h f
  sound := by
    intro G k X gd pins s σ H xv yv v u Q I rx ry h
    obtain ⟨mu, st, x, y, R, hx, hy, h⟩ := h
    unfold wpEq at h
    split at h
    · cases (show xv = V.str _ from hx); cases (show yv = V.str _ from hy)
      refine op_eq pins s σ H _ _ v u Q I rx ry ⟨rfl, h mu _ H (Step.refl _ _) R ?_⟩
      show V.bl _ = V.bl _
      rw [dec_strV]; simp
    · obtain ⟨h1, h2, h3⟩ := h
      have d1 := look_dp R hx (SeqAt.canLay_of_shaped h1)
      have d2 := look_dp R hy (SeqAt.canLay_of_shaped h2)
      refine op_eqD gd.room.units pins s σ H _ _ v u Q I rx ry ⟨_, _, gd.K' (P := fun K => Dp K H _ _) d1, gd.K' (P := fun K => Dp K H _ _) d2, h1, h2, h3 mu _ H (Step.refl _ _) R ?_⟩
      show V.bl _ = V.bl _
      simp [eqD]
def opNe : OpD (compareOp .NotEq) where
  wp := wpEq true
  mono x y st Q Q' h f := wpEq_mono h f
  sound := by
    intro G k X gd pins s σ H xv yv v u Q I rx ry h
    obtain ⟨mu, st, x, y, R, hx, hy, h⟩ := h
    unfold wpEq at h
    split at h
    · cases (show xv = V.str _ from hx); cases (show yv = V.str _ from hy)
      refine op_ne pins s σ H _ _ v u Q I rx ry ⟨rfl, h mu _ H (Step.refl _ _) R ?_⟩
      show V.bl _ = V.bl _
      rw [dec_strV]; simp
    · obtain ⟨h1, h2, h3⟩ := h
      have d1 := look_dp R hx (SeqAt.canLay_of_shaped h1)
      have d2 := look_dp R hy (SeqAt.canLay_of_shaped h2)
      refine op_neD gd.room.units pins s σ H _ _ v u Q I rx ry ⟨_, _, gd.K' (P := fun K => Dp K H _ _) d1, gd.K' (P := fun K => Dp K H _ _) d2, h1, h2, h3 mu _ H (Step.refl _ _) R ?_⟩
      show V.bl _ = V.bl _
      simp [eqD]
def opCI (op : CmpOp) (g : Int → Int → Bool) (hr : ∀ X : Cx, OpR X (compareOp op) (rI0 fun i j => .bl (g i j))) : OpD (compareOp op) where
  wp x y st Q := match x, y with
    | .int i, .int j => Q (.bl (g i j)) st
    | _, _ => False
  mono x y st Q Q' h f := by
    split at h
    · exact f _ _ h
    · exact h.elim
  sound := by
    intro G k X gd pins s σ H xv yv v u Q I rx ry h
    obtain ⟨mu, st, x, y, R, hx, hy, h⟩ := h
    split at h
    · cases (show xv = V.int _ from hx); cases (show yv = V.int _ from hy)
      exact hr X pins s σ H _ _ v u Q I rx ry ⟨_, _, rfl, rfl, h mu _ H (Step.refl _ _) R rfl⟩
    · exact h.elim
def opLe : OpD (compareOp .LtE) := opCI .LtE (fun i j => decide (i ≤ j)) fun X => op_le
def opGt : OpD (compareOp .Gt) := opCI .Gt (fun i j => decide (j < i)) fun X => op_gt
def opGe : OpD (compareOp .GtE) := opCI .GtE (fun i j => decide (j ≤ i)) fun X => op_ge
def opLtI : OpD (compareOp .Lt) := opCI .Lt (fun i j => decide (i < j)) fun X => op_lt
/-- is None -/
def isNonD : D → Bool
  | .non => true
  | _ => false
theorem isNon_rel {K : PySem.W.Frag} {mu : Mu} {H : Hp} {d : D} {v : V} (r : RV K mu H d v) : isNonD d = decide (v = .non) := by
  cases d with
  | non => cases (show v = _ from r); rfl
  | bl b => cases (show v = _ from r); rfl
  | int b => cases (show v = _ from r); rfl
  | str b => cases (show v = _ from r); rfl
  | tup b => obtain ⟨a, vs, rfl, _⟩ := r; rfl
  | lst b => obtain ⟨a, vs, rfl, _⟩ := r; rfl
  | rol b => obtain ⟨a, vs, rfl, _⟩ := r; rfl
  | dic b c => exact r.elim
  | ref n => obtain ⟨a, rfl, _⟩ := r; rfl
def opIs : OpD (compareOp .Is) where
  wp x y st Q := match y with
    | .non => Q (.bl (isNonD x)) st
    | _ => False
  mono x y st Q Q' h f := by
    split at h
    · exact f _ _ h
    · exact h.elim
  sound := by
    intro G k X gd pins s σ H xv yv v u Q I rx ry h
    obtain ⟨mu, st, x, y, R, hx, hy, h⟩ := h
    split at h
    · cases (show yv = V.non from hy)
      exact op_isN pins s σ H _ _ v u Q I rx ry ⟨rfl, by rw [← isNon_rel hx]; exact h mu _ H (Step.refl _ _) R rfl⟩
    · exact h.elim
def opIsNot : OpD (compareOp .IsNot) where
  wp x y st Q := match y with
    | .non => Q (.bl (!isNonD x)) st
    | _ => False
  mono x y st Q Q' h f := by
    split at h
    · exact f _ _ h
    · exact h.elim
  sound := by
    intro G k X gd pins s σ H xv yv v u Q I rx ry h
    obtain ⟨mu, st, x, y, R, hx, hy, h⟩ := h
    split at h
    · cases (show yv = V.non from hy)
      exact op_notN pins s σ H _ _ v u Q I rx ry ⟨rfl, by rw [← isNon_rel hx]; exact h mu _ H (Step.refl _ _) R rfl⟩
    · exact h.elim

/-! ### subscripts -/
def plainIxB : Expr → Bool
  | .Slice .. => false
  | _ => true
theorem plainIxB_ok {b : Expr} (h : plainIxB b = true) : PlainIx b := by
  intro o i
  cases b <;> first | rfl | (simp [plainIxB] at h)
def ixD (st : Sto) (x y : D) : Option D := match x, y with
  | .str z, .int i => (atI z.cps.toList i).map fun c => .str ⟨#[c]⟩
  | x, .int i => (seqOf st x).bind fun ds => atI ds i
  | _, _ => none
theorem atI_rel {K : PySem.W.Frag} {mu : Mu} {H : Hp} {ds : List D} {vs : List V} (r : RVs K mu H ds vs) {i : Int} {d : D} (h : atI ds i = some d) : ∃ v, atI vs i = some v ∧ RV K mu H d v := by
  unfold atI at h ⊢
  rw [← r.len]
  cases e : ixN ds.length i with
  | none => rw [e] at h; cases h
  | some j =>
    rw [e] at h
    obtain ⟨v, h1, h2⟩ := r.get (i := j) (d := d) (by simpa using h)
    exact ⟨v, by simpa using h1, h2⟩
def eIx (a b : SemE) : SemE where
  chk N sc e := match e with | .Subscript x y _ => plainIxB y && a.chk N sc x && b.chk N sc y | _ => false
  req G k := a.req G k ∧ b.req G k
  wp en st Q E := a.wp en st (fun x st1 => b.wp en st1 (fun y st2 => (∀ z, x = .str z → z.length ≤ sizeLine) ∧ match ixD st2 x y with | some d => Q d st2 | none => False) E) E
  mono en st Q Q' E E' h f g := a.mono _ _ _ _ _ _ h (fun x s hx => b.mono _ _ _ _ _ _ hx (fun y s hy => ⟨hy.1, by
    have h2 := hy.2
    split at h2
    · exact f _ _ h2
    · exact h2.elim⟩) g) g
  sound := by
    intro G k X W e gd tk rq hc
    split at hc
    · rename_i x y pos
      simp only [Bool.and_eq_true] at hc
      have base := pe_ix (pos := pos) ix_seq (a.sound G k X W x gd tk rq.1 hc.1.2) (b.sound G k X W y gd tk rq.2 hc.2) (plainIxB_ok hc.1.1)
      refine ⟨fun pins s σ H Q I h => base.run pins s σ H Q I ?_⟩
      obtain ⟨mu, en, st, R, h⟩ := h
      refine tw2 a.mono b.mono R h fun x y st2 mu2 v u H2 hF s2 r2 q1 q2 => ?_
      obtain ⟨hz, hF⟩ := hF
      split at hF
      · rename_i d hd
        unfold ixD at hd
        split at hd
        · rename_i z i
          cases (show v = V.str z from q1); cases (show u = V.int i from q2)
          cases e1 : atI z.cps.toList i with
          | none => rw [e1] at hd; cases hd
          | some c =>
            rw [e1] at hd
            cases hd
            exact .inr (.inr ⟨z, i, c, rfl, rfl, hz z rfl, e1, hF mu2 _ H2 s2 r2 rfl⟩)
        · rename_i x' i _
          cases (show u = V.int i from q2)
          cases e1 : seqOf st2 x with
          | none => rw [e1] at hd; cases hd
          | some ds =>
            rw [e1] at hd
            obtain ⟨a, vs, rfl, h1, h2⟩ := seq_at r2 e1 q1
            obtain ⟨w, e2, h3⟩ := atI_rel h2 (show atI ds i = some d from hd)
            have hq := hF mu2 w H2 s2 r2 h3
            rcases h1 with ⟨_, h1⟩ | ⟨_, h1⟩
            · exact .inr (.inl ⟨a, vs, i, w, rfl, rfl, gd.K' (P := fun K => SqT K H2 a vs) h1, e2, hq⟩)
            · exact .inl ⟨a, vs, i, w, rfl, rfl, .of h1, e2, hq⟩
        · cases hd
      · exact hF.elim
    · cases hc
end Mi
namespace Mi
open PySem PySem.Spec PyProof.Rows L2

/-! ### slices -/
def cutD (ds : List D) (lo hi : Option Int) : List D := (ds.drop (HT.sIx ds.length 0 lo)).take (HT.sIx ds.length ds.length hi - HT.sIx ds.length 0 lo)
theorem RVs.drop {K : PySem.W.Frag} {mu : Mu} {H : Hp} : ∀ {ds : List D} {vs : List V} (n : Nat), RVs K mu H ds vs → RVs K mu H (ds.drop n) (vs.drop n)
  | _, _, 0, h => h
  | [], _, _ + 1, h => by rw [show _ = [] from h]; rfl
  | _ :: _, _, n + 1, ⟨v, r, e, _, t⟩ => by rw [e]; exact RVs.drop n t
theorem RVs.take {K : PySem.W.Frag} {mu : Mu} {H : Hp} : ∀ {ds : List D} {vs : List V} (n : Nat), RVs K mu H ds vs → RVs K mu H (ds.take n) (vs.take n)
  | _, _, 0, _ => rfl
  | [], _, _ + 1, h => by rw [show _ = [] from h]; rfl
  | _ :: _, _, n + 1, ⟨v, r, e, h, t⟩ => by rw [e]; exact ⟨v, _, rfl, h, RVs.take n t⟩
theorem RVs.cut {K : PySem.W.Frag} {mu : Mu} {H : Hp} {ds : List D} {vs : List V} (r : RVs K mu H ds vs) (lo hi : Option Int) : RVs K mu H (cutD ds lo hi) (cutV vs lo hi) := by
  unfold cutD cutV
  rw [r.len]
  exact (r.drop _).take _
/-- m: whether the list will be changed -/
def wpSl (m : Bool) (x : D) (lo hi : Option Int) (st : Sto) (Q : QD) : Prop := match x with
  | .tup ds => Q (.tup (cutD ds lo hi)) st
  | .rol ds => newL m (cutD ds lo hi) st Q
  | x => match lstOf st x with
    | some ds => newL m (cutD ds lo hi) st Q
    | none => False
theorem wpSl_mono {m : Bool} {x : D} {lo hi : Option Int} {st : Sto} {Q Q' : QD} (h : wpSl m x lo hi st Q) (f : ∀ d s, Q d s → Q' d s) : wpSl m x lo hi st Q' := by
  unfold wpSl at h ⊢
  split at h
  · exact f _ _ h
  · exact newL_mono h f
  · split at h
    · exact newL_mono h f
    · exact h.elim
def rSD (G : GEnv) (m : Bool) : V → Option Int → Option Int → Hp → VK → Prop := fun xv lo hi H Q => ∃ mu st x, RelS G.K mu H st ∧ RV G.K mu H x xv ∧ wpSl m x lo hi st (PostD G mu H Q)
theorem sl_sound {G : GEnv} {k : Nat} {X : Cx} (gd : Good G k X) (m : Bool) : SlR X (rSD G m) := by
  intro pins s σ H xv v vl vu lo hi sl Q I rx hs pl pu h
  obtain ⟨mu, st, x, R, hx, h⟩ := h
  unfold wpSl at h
  split at h
  · rename_i ds
    obtain ⟨a, vs, rfl, h1, r1⟩ := hx
    refine sl_tupA pins s σ H _ v vl vu lo hi sl Q I rx hs pl pu ⟨a, vs, rfl, gd.K' (P := fun K => SqT K H a vs) h1, fun e => ?_, fun _ p hp => new_tup (Step.refl _ _) R (r1.cut lo hi) h hp⟩
    refine h mu _ H (Step.refl _ _) R ⟨a, vs, rfl, h1, ?_⟩
    have : cutD ds lo hi = ds := by
      unfold cutD
      rw [r1.len, e.1, e.2, Nat.sub_zero, List.drop_zero]
      exact List.take_of_length_le (Nat.le_of_eq r1.len)
    rw [this]
    exact r1
  · rename_i ds
    obtain ⟨a, vs, rfl, h1, r1⟩ := hx
    have h2 : SqL X.K H a vs := by
      rcases h1 with h1 | ⟨o, h1⟩
      · rcases h1 with (h1 | ⟨o, h1⟩) | h1
        · cases h1
        · cases h1
        · exact gd.K' (P := fun K => SqL K H a vs) (.inr h1)
      · exact .inl (.inr ⟨o, h1⟩)
    exact sl_list pins s σ H _ v vl vu lo hi sl Q I rx hs pl pu ⟨a, vs, rfl, h2, fun p hp => new_list m (Step.refl _ _) R (r1.cut lo hi) h hp⟩
  · split at h
    · rename_i ds e1
      obtain ⟨a, vs, rfl, h1, r1⟩ := lst_at R e1 hx
      exact sl_list pins s σ H _ v vl vu lo hi sl Q I rx hs pl pu ⟨a, vs, rfl, .of h1, fun p hp => new_list m (Step.refl _ _) R (r1.cut lo hi) h hp⟩
    · exact h.elim
/-- an optional part -/
def chkO : Option SemE → List Str → Scope → Option Expr → Bool
  | none, _, _, none => true
  | some a, N, sc, some e => a.chk N sc e
  | _, _, _, _ => false
def reqO : Option SemE → GEnv → Nat → Prop
  | none, _, _ => True
  | some a, G, k => a.req G k
def wpO (a : Option SemE) (en : Env) (st : Sto) (Q : Option Int → Sto → Prop) (E : QX) : Prop := match a with
  | none => Q none st
  | some a => a.wp en st (fun x st1 => match x with | .int i => Q (some i) st1 | _ => False) E
theorem wpO_mono {a : Option SemE} {en : Env} {st : Sto} {Q Q' : Option Int → Sto → Prop} {E E' : QX} (h : wpO a en st Q E) (f : ∀ d s, Q d s → Q' d s) (g : ∀ x s, E x s → E' x s) : wpO a en st Q' E' := by
  cases a with
  | none => exact f _ _ h
  | some a => exact a.mono _ _ _ _ _ _ h (fun x s hx => by
      split at hx
      · exact f _ _ hx
      · exact hx.elim) g
theorem po_sound (G : GEnv) (k : Nat) (X : Cx) (W : WX) (gd : Good G k X) (tk : Takes X W) (a : Option SemE) (e : Option Expr) (rq : reqO a G k) (hc : chkO a X.N X.env.scope e = true) :
    PO X e (fun σ H Q => ∃ mu en st, RelE G.K mu H en st σ ∧ wpO a en st (fun o st' => ∀ mu' H', Step mu H mu' H' → RelS G.K mu' H' st' → Q o H') (PostX G mu H σ W)) := by
  cases a with
  | none =>
    cases e with
    | none =>
      refine ⟨fun pins s σ H Q I h => po_none.run pins s σ H Q I ?_⟩
      obtain ⟨mu, en, st, R, h⟩ := h
      exact h mu H (Step.refl _ _) R.sto
    | some e => simp [chkO] at hc
  | some a =>
    cases e with
    | none => simp [chkO] at hc
    | some e =>
      have base := po_some (a.sound G k X W e gd tk rq hc)
      refine ⟨fun pins s σ H Q I h => base.run pins s σ H Q I ?_⟩
      obtain ⟨mu, en, st, R, h⟩ := h
      refine tw1 a.mono R h fun d st1 mu1 v H1 hF s1 r1 q1 => ?_
      split at hF
      · cases (show v = V.int _ from q1)
        exact ⟨_, rfl, hF mu1 H1 s1 r1⟩
      · exact hF.elim
def eSl (m : Bool) (a : SemE) (lo hi : Option SemE) : SemE where
  chk N sc e := match e with | .Subscript x (.Slice l h none _) _ => a.chk N sc x && chkO lo N sc l && chkO hi N sc h | _ => false
  req G k := a.req G k ∧ reqO lo G k ∧ reqO hi G k
  wp en st Q E := a.wp en st (fun x st1 => wpO lo en st1 (fun l st2 => wpO hi en st2 (fun h st3 => wpSl m x l h st3 Q) E) E) E
  mono en st Q Q' E E' h f g := a.mono _ _ _ _ _ _ h (fun x s hx => wpO_mono hx (fun l s2 h2 => wpO_mono h2 (fun u s3 h3 => wpSl_mono h3 f) g) g) g
  sound := by
    intro G k X W e gd tk rq hc
    split at hc
    · rename_i x l u p2 pos
      simp only [Bool.and_eq_true] at hc
      have base := pe_slice (p2 := p2) (pos := pos) (sl_sound gd m) (a.sound G k X W x gd tk rq.1 hc.1.1) (po_sound G k X W gd tk lo l rq.2.1 hc.1.2) (po_sound G k X W gd tk hi u rq.2.2 hc.2)
      refine ⟨fun pins s σ H Q I h => base.run pins s σ H Q I ?_⟩
      obtain ⟨mu, en, st, R, h⟩ := h
      refine tw1 a.mono R h fun x st1 mu1 v H1 hF s1 r1 q1 => ⟨mu1, en, st1, R.step s1 r1, wpO_mono hF (fun l st2 h2 mu2 H2 s2 r2 => ?_) fun _ _ hx => PostX.step s1 hx⟩
      refine ⟨mu2, en, st2, (R.step (s1.trans s2) r2), wpO_mono h2 (fun u st3 h3 mu3 H3 s3 r3 => ?_) fun _ _ hx => PostX.step (s1.trans s2) hx⟩
      exact ⟨mu3, st3, x, r3, (q1.step s2).step s3, wpSl_mono h3 fun d s hd => PostD.step ((s1.trans s2).trans s3) hd⟩
    · cases hc

/-! ### calls of built-ins by values -/
def rL (G : GEnv) (wp : List D → Sto → QD → Prop) : List V → Hp → VK → Prop := fun vs H Q => ∃ mu st ds, RelS G.K mu H st ∧ RVs G.K mu H ds vs ∧ wp ds st (PostD G mu H Q)
/-- a built-in function or class -/
structure BIn where
  name : Str
  val : Value
  wp : List D → Sto → QD → Prop
  mono : ∀ ds st Q Q', wp ds st Q → (∀ d s, Q d s → Q' d s) → wp ds st Q'
  sound : ∀ (G : GEnv) (k : Nat) (X : Cx), Good G k X → CallR X val (rL G wp)
  boot : bootBuiltins name = some val
  kind : (∃ id, val = .builtin id) ∨ (∃ T, val = .type T)
  nm : plainNm name = true
def eB (b : BIn) (l : List SemE) : SemE where
  chk N sc e := match e with | .Call (.Name x _) (e :: es) [] _ => decide (x = b.name) && glB sc x && chkA l N sc (e :: es) | _ => false
  req G k := G.mg b.name = none ∧ reqL l G k
  wp en st Q E := wpA l en st (fun ds st1 => b.wp ds st1 Q) E
  mono en st Q Q' E E' h f g := wpA_mono l _ _ _ _ _ _ h (fun ds s hx => b.mono _ _ _ _ hx f) g
  sound := by
    intro G k X W e gd tk rq hc
    split at hc
    · rename_i x px e es pos
      simp only [Bool.and_eq_true, decide_eq_true_eq] at hc
      obtain ⟨⟨rfl, hg⟩, ha⟩ := hc
      obtain ⟨p1, p2, p3⟩ := plainNm_ok b.nm
      have hm : X.mg b.name = none := by rw [gd.mg]; exact rq.1
      cases l with
      | nil => simp [chkA] at ha
      | cons a r =>
        have pa := pa_sound G k X W gd tk (a :: r) (e :: es) rq.2 ha
        have base : PE X (.Call (.Name b.name px) (e :: es) [] pos) (tCB (rL G b.wp) (tWA G (a :: r) W)) := by
          have cr := b.sound G k X gd
          have bt := b.boot
          rcases b.kind with ⟨id, hv⟩ | ⟨T, hv⟩
          · rw [hv] at cr bt
            exact pe_callB cr (glB_ok hg) hm bt pa p3 p1 (chkA_star ha _) (chkA_any r (chkA_tail ha) _ _)
          · rw [hv] at cr bt
            exact pe_callTy cr (glB_ok hg) hm bt pa p3 p1 (chkA_star ha _) (chkA_any r (chkA_tail ha) _ _)
        refine ⟨fun pins s σ H Q I h => base.run pins s σ H Q I ?_⟩
        obtain ⟨mu, en, st, R, h⟩ := h
        exact twa R h fun ds st1 mu1 vs H1 hF s1 r1 q1 => ⟨mu1, st1, ds, r1, q1, b.mono _ _ _ _ hF fun d s hd => hd.step s1⟩
    · cases hc
end Mi
namespace Mi
open PySem PySem.Spec PyProof.Rows L2

/-! ### statements -/
structure EndsD where
  nx : Env → Sto → Prop
  rt : D → Sto → Prop
  bk : Env → Sto → Prop
  ct : Env → Sto → Prop
  ex : DX → Env → Sto → Prop
structure EndsD.Le (a b : EndsD) : Prop where
  nx : ∀ en st, a.nx en st → b.nx en st
  rt : ∀ d st, a.rt d st → b.rt d st
  bk : ∀ en st, a.bk en st → b.bk en st
  ct : ∀ en st, a.ct en st → b.ct en st
  ex : ∀ x en st, a.ex x en st → b.ex x en st
abbrev WpS := EndsD → Env → Sto → Prop
def MonoS (wp : WpS) : Prop := ∀ (a b : EndsD) (en : Env) (st : Sto), EndsD.Le a b → wp a en st → wp b en st
def PostN (G : GEnv) (mu : Mu) (H : Hp) (N : L2.St → Hp → Prop) : Env → Sto → Prop := fun en' st' => ∀ mu' σ' H', Step mu H mu' H' → RelE G.K mu' H' en' st' σ' → N σ' H'
theorem PostN.step {G : GEnv} {m0 m1 : Mu} {H0 H1 : Hp} {N : L2.St → Hp → Prop} (s : Step m0 H0 m1 H1) {en : Env} {st : Sto} (h : PostN G m0 H0 N en st) : PostN G m1 H1 N en st := fun mu σ H' s2 r => h mu σ H' (s.trans s2) r
def PostXS (G : GEnv) (mu : Mu) (H : Hp) (W : WX) : DX → Env → Sto → Prop := fun x en' st' => ∀ mu' σ' cls dd H', Step mu H mu' H' → RelE G.K mu' H' en' st' σ' → XR G mu' H' x cls dd → W cls dd σ' H'
theorem PostXS.step {G : GEnv} {m0 m1 : Mu} {H0 H1 : Hp} {W : WX} (s : Step m0 H0 m1 H1) {x : DX} {en : Env} {st : Sto} (h : PostXS G m0 H0 W x en st) : PostXS G m1 H1 W x en st := fun mu σ c dd H' s2 r q => h mu σ c dd H' (s.trans s2) r q
def PostS (G : GEnv) (mu : Mu) (H : Hp) (Dn : Ends) (W : WX) : EndsD := ⟨PostN G mu H Dn.nx, PostD G mu H Dn.rt, PostN G mu H Dn.bk, PostN G mu H Dn.ct, PostXS G mu H W⟩
theorem PostS.step {G : GEnv} {m0 m1 : Mu} {H0 H1 : Hp} {Dn : Ends} {W : WX} (s : Step m0 H0 m1 H1) : EndsD.Le (PostS G m0 H0 Dn W) (PostS G m1 H1 Dn W) :=
  ⟨fun _ _ h => PostN.step s h, fun _ _ h => PostD.step s h, fun _ _ h => PostN.step s h, fun _ _ h => PostN.step s h, fun _ _ _ h => PostXS.step s h⟩
theorem PostXS.ofX {G : GEnv} {mu : Mu} {H : Hp} {W : WX} {x : DX} {en : Env} {st st0 : Sto} {σ : L2.St} (R : RelE G.K mu H en st0 σ) (h : PostXS G mu H W x en st) : PostX G mu H σ W x st := fun mu' cls dd H' s r q => h mu' σ cls dd H' s (R.step s r) q
def tWS (G : GEnv) (wp : WpS) (W : WX) : TS := fun Dn σ H => ∃ mu en st, RelE G.K mu H en st σ ∧ wp (PostS G mu H Dn W) en st
structure SemS where
  chk : List Str → Scope → Stmt → Bool
  req : GEnv → Nat → Prop
  lp : Bool
  wp : WpS
  mono : MonoS wp
  sound : ∀ (G : GEnv) (k : Nat) (X : Cx) (W : WX) (st : Stmt), Good G k X → (∀ x, X.fn x = true) → Takes X W → (lp = true → PassesOwn (model X.prog X.w) X.A X.env X.xe) → req G k → chk X.N X.env.scope st = true → PS X st (tWS G wp W)
/-- a statement that is an expression's value put somewhere -/
theorem se1 {G : GEnv} {W : WX} {a : WpE} (ma : MonoE a) {mu : Mu} {en : Env} {st : Sto} {σ : L2.St} {H : Hp} (R : RelE G.K mu H en st σ) {F : QD} {Dn : Ends} {Q : V → Hp → Prop}
    (h : a en st F (fun x st' => (PostS G mu H Dn W).ex x en st')) (f : ∀ d st1 mu1 v H1, F d st1 → Step mu H mu1 H1 → RelS G.K mu1 H1 st1 → RV G.K mu1 H1 d v → Q v H1) : tW G a W σ H Q :=
  tw1 ma R (ma _ _ _ _ _ _ h (fun _ _ h => h) fun x st' hx => PostXS.ofX R hx) f
def sRet (a : SemE) : SemS where
  chk N sc st := match st with | .Return (some e) _ => a.chk N sc e | _ => false
  req := a.req
  lp := false
  wp Dn en st := a.wp en st Dn.rt (fun x st' => Dn.ex x en st')
  mono A B en st le h := a.mono _ _ _ _ _ _ h le.rt fun x s hx => le.ex x en s hx
  sound := by
    intro G k X W st gd hfn tk hl rq hc
    split at hc
    · rename_i e p
      have base := ps_ret (pos := p) (a.sound G k X W e gd tk rq hc)
      refine ⟨fun pins s σ H Dn I h => base.run pins s σ H Dn I ?_⟩
      obtain ⟨mu, en, st, R, h⟩ := h
      exact se1 a.mono R h fun d st1 mu1 v H1 hF s1 r1 q1 => hF mu1 v H1 s1 r1 q1
    · cases hc
def sRetN : SemS where
  chk N sc st := match st with | .Return none _ => true | _ => false
  req _ _ := True
  lp := false
  wp Dn en st := Dn.rt .non st
  mono A B en st le h := le.rt _ _ h
  sound := by
    intro G k X W st gd hfn tk hl rq hc
    split at hc
    · rename_i p
      refine ⟨fun pins s σ H Dn I h => (ps_retN (pos := p)).run pins s σ H Dn I ?_⟩
      obtain ⟨mu, en, st, R, h⟩ := h
      exact h mu _ H (Step.refl _ _) R.sto rfl
    · cases hc
def sPass : SemS where
  chk N sc st := match st with | .Pass _ => true | _ => false
  req _ _ := True
  lp := false
  wp Dn en st := Dn.nx en st
  mono A B en st le h := le.nx _ _ h
  sound := by
    intro G k X W st gd hfn tk hl rq hc
    split at hc
    · rename_i p
      refine ⟨fun pins s σ H Dn I h => (ps_pass (pos := p)).run pins s σ H Dn I ?_⟩
      obtain ⟨mu, en, st, R, h⟩ := h
      exact h mu σ H (Step.refl _ _) R
    · cases hc
/-! ### names stored -/
/-- the scope alone -/
def envS (sc : Scope) : PySem.Env := { scope := sc, locals := 0, globals := 0, cells := [] }
def locB (sc : Scope) (x : Str) : Bool := match sc.names.lookup x with | some .local => true | some .cell => true | _ => false
theorem locB_ok {X : Cx} (hfn : ∀ x, X.fn x = true) {x : Str} (h : locB X.env.scope x = true) : Loc X.env.scope x ∧ (X.fn x = true ∨ X.env.scope.names.lookup x = some .local) := by
  unfold locB at h
  split at h
  · rename_i e; exact ⟨.inl e, .inr e⟩
  · rename_i e; exact ⟨.inr e, .inl (hfn x)⟩
  · cases h
def pureIs {α : Type} (p : α → Bool) : Sem α → Bool
  | .pure a => p a
  | _ => false
theorem pureIs_ok {α : Type} {p : α → Bool} {m : Sem α} (h : pureIs p m = true) : ∃ a, m = .pure a ∧ p a = true := by
  unfold pureIs at h
  split at h
  · exact ⟨_, rfl, h⟩
  · cases h
theorem swaps_scope (e : Expr) (t : Option Expr) (l : Nat) (env : PySem.Env) : swapsWith e t l env = swapsWith e t l (envS env.scope) := rfl
theorem swapped_scope (ts : List Expr) (e : Expr) (env : PySem.Env) : swappedStores ts e env = swappedStores ts e (envS env.scope) := rfl
theorem RelN.set {K : PySem.W.Frag} {mu : Mu} {H : Hp} {en : Env} {σ : L2.St} (R : RelN K mu H en σ) (l : en.length = σ.length) {i : Nat} {d : D} {v : V} (r : RV K mu H d v) : RelN K mu H (en.set i (some d)) (σ.set i (some v)) := fun j d' e => by
  by_cases hj : i = j
  · subst hj
    have hl : i < en.length := by
      have := (List.getElem?_eq_some_iff.mp e).1
      simpa using this
    rw [List.getElem?_set_self hl] at e
    cases e
    exact ⟨v, List.getElem?_set_self (by rw [← l]; exact hl), r⟩
  · rw [List.getElem?_set_ne hj] at e
    obtain ⟨w, e1, r1⟩ := R j d' e
    exact ⟨w, by rw [List.getElem?_set_ne hj]; exact e1, r1⟩
theorem RelE.set {K : PySem.W.Frag} {mu : Mu} {H : Hp} {en : Env} {st : Sto} {σ : L2.St} (R : RelE K mu H en st σ) {i : Nat} {d : D} {v : V} (r : RV K mu H d v) : RelE K mu H (en.set i (some d)) st (σ.set i (some v)) :=
  ⟨R.sto, R.env.set R.len r, by rw [List.length_set, List.length_set]; exact R.len⟩
/-- x = e -/
def sSet (i : Nat) (a : SemE) : SemS where
  chk N sc st := match st with | .Assign [.Name x px] e pos => isNm N i x && locB sc x && pureIs (fun b => !b) (swapsWith e (some (.Name x px)) pos.line (envS sc)) && a.chk N sc e | _ => false
  req := a.req
  lp := false
  wp Dn en st := a.wp en st (fun d st1 => Dn.nx (en.set i (some d)) st1) (fun x st' => Dn.ex x en st')
  mono A B en st le h := a.mono _ _ _ _ _ _ h (fun d s hd => le.nx _ _ hd) fun x s hx => le.ex x en s hx
  sound := by
    intro G k X W st gd hfn tk hl rq hc
    split at hc
    · rename_i x px e pos
      simp only [Bool.and_eq_true] at hc
      obtain ⟨⟨⟨h1, h2⟩, h3⟩, h4⟩ := hc
      obtain ⟨b, e3, e4⟩ := pureIs_ok h3
      have e5 : b = false := by simpa using e4
      subst e5
      obtain ⟨hx, hf⟩ := locB_ok hfn h2
      have base := ps_set (pos := pos) (pos' := px) gd.nd (isNm_ok h1) hx (a.sound G k X W e gd tk rq h4) ((swaps_scope _ _ _ _).trans e3) hf
      refine ⟨fun pins s σ H Dn I h => base.run pins s σ H Dn I ?_⟩
      obtain ⟨mu, en, st, R, h⟩ := h
      exact se1 a.mono R h fun d st1 mu1 v H1 hF s1 r1 q1 => hF mu1 _ H1 s1 ((R.step s1 r1).set q1)
    · cases hc
/-- e alone -/
def sExp (a : SemE) : SemS where
  chk N sc st := match st with | .Expr e pos => pureIs (fun b => !b) (swapsWith e none pos.line (envS sc)) && a.chk N sc e | _ => false
  req := a.req
  lp := false
  wp Dn en st := a.wp en st (fun d st1 => Dn.nx en st1) (fun x st' => Dn.ex x en st')
  mono A B en st le h := a.mono _ _ _ _ _ _ h (fun d s hd => le.nx _ _ hd) fun x s hx => le.ex x en s hx
  sound := by
    intro G k X W st gd hfn tk hl rq hc
    split at hc
    · rename_i e pos
      simp only [Bool.and_eq_true] at hc
      obtain ⟨h3, h4⟩ := hc
      obtain ⟨b, e3, e4⟩ := pureIs_ok h3
      have e5 : b = false := by simpa using e4
      subst e5
      have base := ps_expr (pos := pos) (a.sound G k X W e gd tk rq h4) ((swaps_scope _ _ _ _).trans e3)
      refine ⟨fun pins s σ H Dn I h => base.run pins s σ H Dn I ?_⟩
      obtain ⟨mu, en, st, R, h⟩ := h
      exact se1 a.mono R h fun d st1 mu1 v H1 hF s1 r1 q1 => hF mu1 σ H1 s1 (R.step s1 r1)
    · cases hc
/-! ### blocks -/
def wpB : List SemS → WpS
  | [], Dn, en, st => Dn.nx en st
  | [a], Dn, en, st => a.wp Dn en st
  | a :: r, Dn, en, st => a.wp { Dn with nx := fun en1 st1 => wpB r Dn en1 st1 } en st
theorem wpB_mono : ∀ (l : List SemS), MonoS (wpB l)
  | [], A, B, en, st, le, h => le.nx _ _ h
  | [a], A, B, en, st, le, h => a.mono A B en st le h
  | a :: b :: r, A, B, en, st, le, h => a.mono { A with nx := fun en1 st1 => wpB (b :: r) A en1 st1 } { B with nx := fun en1 st1 => wpB (b :: r) B en1 st1 } en st ⟨fun en1 st1 h1 => wpB_mono (b :: r) A B en1 st1 le h1, le.rt, le.bk, le.ct, le.ex⟩ h
def chkB : List SemS → List Str → Scope → List Stmt → Bool
  | [], _, _, [] => true
  | a :: r, N, sc, e :: es => a.chk N sc e && chkB r N sc es
  | _, _, _, _ => false
def reqB : List SemS → GEnv → Nat → Prop
  | [], _, _ => True
  | a :: r, G, k => a.req G k ∧ reqB r G k
def lpB : List SemS → Bool
  | [] => false
  | a :: r => a.lp || lpB r
theorem pss_sound (G : GEnv) (k : Nat) (X : Cx) (W : WX) (gd : Good G k X) (hfn : ∀ x, X.fn x = true) (tk : Takes X W) : ∀ (l : List SemS) (es : List Stmt), (lpB l = true → PassesOwn (model X.prog X.w) X.A X.env X.xe) → reqB l G k → chkB l X.N X.env.scope es = true → PSs X es (tWS G (wpB l) W)
  | [], [], _, _, _ => by
    refine ⟨fun pins s σ H Dn I h => pss_nil.run pins s σ H Dn I ?_⟩
    obtain ⟨mu, en, st, R, h⟩ := h
    exact h mu σ H (Step.refl _ _) R
  | [], _ :: _, _, _, h => by simp [chkB] at h
  | _ :: _, [], _, _, h => by simp [chkB] at h
  | [a], [e], hl, rq, h => by
    have h1 : a.chk X.N X.env.scope e = true := by simpa [chkB] using h
    exact pss_one (a.sound G k X W e gd hfn tk (fun q => hl (by simp [lpB, q])) rq.1 h1)
  | [a], _ :: _ :: _, _, _, h => by simp [chkB] at h
  | a :: b :: r, [_], _, _, h => by simp [chkB] at h
  | a :: b :: r, e :: e2 :: es, hl, rq, h => by
    have h' : a.chk X.N X.env.scope e = true ∧ chkB (b :: r) X.N X.env.scope (e2 :: es) = true := by
      rw [← Bool.and_eq_true]; exact h
    have base := pss_cons (a.sound G k X W e gd hfn tk (fun q => hl (by simp [lpB, q])) rq.1 h'.1) (pss_sound G k X W gd hfn tk (b :: r) (e2 :: es) (fun q => hl (by rw [lpB, q, Bool.or_true])) rq.2 h'.2)
    refine ⟨fun pins s σ H Dn I h => base.run pins s σ H Dn I ?_⟩
    obtain ⟨mu, en, st, R, h⟩ := h
    refine ⟨mu, en, st, R, a.mono { PostS G mu H Dn W with nx := fun en1 st1 => wpB (b :: r) (PostS G mu H Dn W) en1 st1 } _ _ _ ⟨fun en1 st1 h1 => ?_, fun _ _ h => h, fun _ _ h => h, fun _ _ h => h, fun _ _ _ h => h⟩ h⟩
    intro mu1 σ1 H1 s1 R1
    exact ⟨mu1, en1, st1, R1, wpB_mono (b :: r) _ _ _ _ (PostS.step s1) h1⟩
/-- if -/
def sIf (t : SemT) (a b : List SemS) : SemS where
  chk N sc st := match st with | .If c x y _ => t.chk N sc c && chkB a N sc x && chkB b N sc y | _ => false
  req G k := t.req G k ∧ reqB a G k ∧ reqB b G k
  lp := lpB a || lpB b
  wp Dn en st := t.wp en st (fun c st1 => match c with | true => wpB a Dn en st1 | false => wpB b Dn en st1) (fun x st' => Dn.ex x en st')
  mono A B en st le h := t.mono _ _ _ _ _ _ h (fun c s hc => by
    split at hc
    · exact wpB_mono a _ _ _ _ le hc
    · exact wpB_mono b _ _ _ _ le hc) fun x s hx => le.ex x en s hx
  sound := by
    intro G k X W st gd hfn tk hl rq hc
    split at hc
    · rename_i c x y p
      simp only [Bool.and_eq_true] at hc
      have base := ps_if (pos := p) (t.sound G k X W c gd tk rq.1 hc.1.1) (pss_sound G k X W gd hfn tk a x (fun q => hl (by rw [q]; rfl)) rq.2.1 hc.1.2) (pss_sound G k X W gd hfn tk b y (fun q => hl (by rw [q, Bool.or_true])) rq.2.2 hc.2)
      refine ⟨fun pins s σ H Dn I h => base.run pins s σ H Dn I ?_⟩
      obtain ⟨mu, en, st, R, h⟩ := h
      refine tt1 t.mono R (t.mono _ _ _ _ _ _ h (fun _ _ h => h) fun x st' hx => PostXS.ofX R hx) fun d st1 mu1 H1 hF s1 r1 => ?_
      cases d with
      | true => rw [if_pos rfl]; exact ⟨mu1, en, st1, R.step s1 r1, wpB_mono a _ _ _ _ (PostS.step s1) hF⟩
      | false => rw [if_neg (by simp)]; exact ⟨mu1, en, st1, R.step s1 r1, wpB_mono b _ _ _ _ (PostS.step s1) hF⟩
    · cases hc
end Mi
namespace Mi
open PySem PySem.Spec PyProof.Rows L2

/-! ### objects that a def leaves behind -/
mutual
/-- no reference from n on -/
def noRef (n : Nat) : D → Bool
  | .tup ds => noRefs n ds
  | .lst ds => noRefs n ds
  | .rol ds => noRefs n ds
  | .ref m => decide (m < n)
  | .dic ks vs => noRefs n ks && noRefs n vs
  | _ => true
def noRefs (n : Nat) : List D → Bool
  | [] => true
  | d :: r => noRef n d && noRefs n r
end
def noRefO (n : Nat) : O → Bool
  | .lst ds => noRefs n ds
  | .dic ks vs => noRefs n ks && noRefs n vs
/-- what was made since then becomes values -/
def frz (st : Sto) (n : Nat) : Nat → D → Option D
  | 0, d => if noRef n d then some d else none
  | f + 1, d => if noRef n d then some d else match d with
    | .tup ds => (ds.mapM (frz st n f)).map .tup
    | .lst ds => (ds.mapM (frz st n f)).map .lst
    | .ref m => (match st[m]? with
      | some (.lst ds) => (ds.mapM (frz st n f)).map .lst
      | _ => none)
    | _ => none
def closedTo (st s2 : Sto) : Prop := ∀ (i : Nat) (o : O), s2[i]? = some o → st[i]? = some o ∨ noRefO st.length o = true
/-- the end of a def that began with the store st -/
def retD (st : Sto) (d : D) (st' : Sto) (Q : QD) : Prop :=
  Q d st' ∨ (∃ d' f, frz st' st.length f d = some d' ∧ closedTo st (st'.take st.length) ∧ Q d' (st'.take st.length)) ∨
    (∃ m ds, d = .ref m ∧ st.length ≤ m ∧ st'[m]? = some (.lst ds) ∧ noRefs st.length ds = true ∧ closedTo st (st'.take st.length) ∧ Q (.ref st.length) (st'.take st.length ++ [.lst ds]))
def retX (st : Sto) (x : DX) (st' : Sto) (E : QX) : Prop :=
  E x st' ∨ (noRefs st.length (x.fs.map (·.2)) = true ∧ closedTo st (st'.take st.length) ∧ E x (st'.take st.length))
section
variable {K : PySem.W.Frag} {mu : Mu} {H : Hp}
mutual
theorem RV.nr : ∀ {d : D} {v : V}, RV K mu H d v → noRef mu.l.length d = true
  | .non, _, _ => rfl
  | .bl _, _, _ => rfl
  | .int _, _, _ => rfl
  | .str _, _, _ => rfl
  | .tup ds, _, ⟨_, _, _, _, r⟩ => by rw [Mi.noRef]; exact RVs.nr r
  | .lst ds, _, ⟨_, _, _, _, _, r⟩ => by rw [Mi.noRef]; exact RVs.nr r
  | .rol ds, _, ⟨_, _, _, _, r⟩ => by rw [Mi.noRef]; exact RVs.nr r
  | .dic _ _, _, h => h.elim
  | .ref n, _, ⟨a, _, h⟩ => by rw [Mi.noRef]; exact decide_eq_true (List.getElem?_eq_some_iff.mp h).1
theorem RVs.nr : ∀ {ds : List D} {vs : List V}, RVs K mu H ds vs → noRefs mu.l.length ds = true
  | [], _, _ => rfl
  | _ :: _, _, ⟨_, _, _, h, t⟩ => by rw [Mi.noRefs, RV.nr h, RVs.nr t]; rfl
end
mutual
theorem RV.sub {m1 : Mu} {n : Nat} (hs : ∀ a, m1.has a → mu.has a) (hi : ∀ i, i < n → m1.l[i]? = mu.l[i]?) : ∀ {d : D} {v : V}, RV K mu H d v → noRef n d = true → RV K m1 H d v
  | .non, _, h, _ => h
  | .bl _, _, h, _ => h
  | .int _, _, h, _ => h
  | .str _, _, h, _ => h
  | .tup ds, _, ⟨a, vs, e, h, r⟩, c => ⟨a, vs, e, h, RVs.sub hs hi r (by rw [Mi.noRef] at c; exact c)⟩
  | .lst ds, _, ⟨a, vs, e, h, n, r⟩, c => ⟨a, vs, e, h, fun z => n (hs a z), RVs.sub hs hi r (by rw [Mi.noRef] at c; exact c)⟩
  | .rol ds, _, ⟨a, vs, e, h, r⟩, c => ⟨a, vs, e, h, RVs.sub hs hi r (by rw [Mi.noRef] at c; exact c)⟩
  | .dic _ _, _, h, _ => h
  | .ref m, _, ⟨a, e, h⟩, c => ⟨a, e, by
    rw [Mi.noRef] at c
    rw [hi m (of_decide_eq_true c)]; exact h⟩
theorem RVs.sub {m1 : Mu} {n : Nat} (hs : ∀ a, m1.has a → mu.has a) (hi : ∀ i, i < n → m1.l[i]? = mu.l[i]?) : ∀ {ds : List D} {vs : List V}, RVs K mu H ds vs → noRefs n ds = true → RVs K m1 H ds vs
  | [], _, h, _ => h
  | _ :: _, _, ⟨v, r, e, h, t⟩, c => by
    rw [Mi.noRefs, Bool.and_eq_true] at c
    exact ⟨v, r, e, RV.sub hs hi h c.1, RVs.sub hs hi t c.2⟩
end
/-- m1 is mu up to n -/
structure Mu.Cut (m1 mu : Mu) (n : Nat) : Prop where
  l : m1.l = mu.l.take n
  av : ∀ a, a ∈ m1.av → a ∈ mu.av
theorem Mu.Cut.has {m1 mu : Mu} {n : Nat} (c : Mu.Cut m1 mu n) {a : Addr} (h : m1.has a) : mu.has a := h.elim (fun z => .inl (by rw [c.l] at z; exact List.mem_of_mem_take z)) fun z => .inr (c.av a z)
theorem Mu.Cut.ix {m1 mu : Mu} {n : Nat} (c : Mu.Cut m1 mu n) (i : Nat) (h : i < n) : m1.l[i]? = mu.l[i]? := by rw [c.l]; exact List.getElem?_take_of_lt h
theorem RV.cut {m1 : Mu} {n : Nat} (C : Mu.Cut m1 mu n) {d : D} {v : V} (h : RV K mu H d v) (c : noRef n d = true) : RV K m1 H d v := h.sub (fun _ z => C.has z) C.ix c
theorem RVs.cut' {m1 : Mu} {n : Nat} (C : Mu.Cut m1 mu n) {ds : List D} {vs : List V} (h : RVs K mu H ds vs) (c : noRefs n ds = true) : RVs K m1 H ds vs := h.sub (fun _ z => C.has z) C.ix c
theorem frzs_ok {m1 : Mu} {st : Sto} {n f : Nat} (ih : ∀ (d d' : D) (v : V), RV K mu H d v → frz st n f d = some d' → RV K m1 H d' v) : ∀ (ds ds' : List D) (vs : List V), RVs K mu H ds vs → ds.mapM (frz st n f) = some ds' → RVs K m1 H ds' vs
  | [], ds', vs, r, h => by
    have : ds' = [] := by simpa using h.symm
    subst this
    exact r
  | d :: r, ds', vs, ⟨v, u, e, h1, t⟩, h => by
    rw [List.mapM_cons] at h
    cases e1 : frz st n f d with
    | none => rw [e1] at h; cases h
    | some d1 =>
      rw [e1] at h
      cases e2 : r.mapM (frz st n f) with
      | none => rw [e2] at h; cases h
      | some r1 =>
        rw [e2] at h
        have : ds' = d1 :: r1 := (Option.some.inj h).symm
        subst this
        exact ⟨v, u, e, ih d d1 v h1 e1, frzs_ok ih r r1 u t e2⟩
theorem frz_ok {m1 : Mu} {st : Sto} (R : RelS K mu H st) {n : Nat} (C : Mu.Cut m1 mu n) : ∀ (f : Nat) (d d' : D) (v : V), RV K mu H d v → frz st n f d = some d' → RV K m1 H d' v
  | 0, d, d', v, r, h => by
    unfold frz at h
    split at h
    · rename_i c; cases h; exact r.cut C c
    · cases h
  | f + 1, d, d', v, r, h => by
    unfold frz at h
    split at h
    · rename_i c; cases h; exact r.cut C c
    · rename_i c
      split at h
      · rename_i ds
        obtain ⟨a, vs, e, h1, h2⟩ := r
        cases e1 : ds.mapM (frz st n f) with
        | none => rw [e1] at h; cases h
        | some ds1 =>
          rw [e1] at h
          have : d' = .tup ds1 := (Option.some.inj h).symm
          subst this
          exact ⟨a, vs, e, h1, frzs_ok (frz_ok R C f) _ _ _ h2 e1⟩
      · rename_i ds
        obtain ⟨a, vs, e, h1, h2, h3⟩ := r
        cases e1 : ds.mapM (frz st n f) with
        | none => rw [e1] at h; cases h
        | some ds1 =>
          rw [e1] at h
          have : d' = .lst ds1 := (Option.some.inj h).symm
          subst this
          exact ⟨a, vs, e, h1, fun z => h2 (C.has z), frzs_ok (frz_ok R C f) _ _ _ h3 e1⟩
      · rename_i m
        split at h
        · rename_i ds hs
          obtain ⟨a, e, h1⟩ := r
          obtain ⟨vs, h2, h3⟩ := R.get hs h1
          cases e1 : ds.mapM (frz st n f) with
          | none => rw [e1] at h; cases h
          | some ds1 =>
            rw [e1] at h
            have : d' = .lst ds1 := (Option.some.inj h).symm
            subst this
            refine ⟨a, vs, e, h2, fun z => ?_, frzs_ok (frz_ok R C f) _ _ _ h3 e1⟩
            have hm : ¬ m < n := by
              intro hlt
              apply c
              rw [Mi.noRef]
              exact decide_eq_true hlt
            rcases z with z | z
            · obtain ⟨j, hj⟩ := List.getElem?_of_mem z
              rw [C.l] at hj
              have hjn : j < n := by
                have : j < (mu.l.take n).length := (List.getElem?_eq_some_iff.mp hj).1
                rw [List.length_take] at this
                omega
              rw [List.getElem?_take_of_lt hjn] at hj
              have := (List.getElem?_inj (List.getElem?_eq_some_iff.mp hj).1 R.nd).mp (hj.trans h1.symm)
              omega
            · exact (R.av a (C.av a z)).2 (List.mem_of_getElem? h1)
        · cases h
      · cases h
end
/-- the store behind a def, cut to what stood before; m1: what is kept of the objects -/
theorem RelS.cutTo {K : PySem.W.Frag} {mu mu' m1 : Mu} {H H' : Hp} {st st' : Sto} (R : RelS K mu H st) (s : Step mu H mu' H') (R' : RelS K mu' H' st') (c : closedTo st (st'.take st.length)) (hs : ∀ a, m1.has a → mu'.has a)
    (hp : ∀ i, i < mu.l.length → m1.l[i]? = mu.l[i]?) : ∀ (n : Nat) (o : O) (a : Addr), (st'.take st.length)[n]? = some o → mu.l[n]? = some a → RO K m1 H' o a := by
  obtain ⟨ext, e, _⟩ := s.pre
  intro n o a h1 h2
  have hn : n < st.length := by rw [← R.len]; exact (List.getElem?_eq_some_iff.mp h2).1
  have h1' := h1
  rw [List.getElem?_take_of_lt hn] at h1'
  have ro := R'.obj n o a h1' (s.sub h2)
  have nr : noRefO st.length o = true := by
    rcases c n o h1 with z | z
    · have r0 := R.obj n o a z h2
      cases o with
      | lst ds =>
        obtain ⟨vs, _, r⟩ := r0
        have := r.nr
        rw [R.len] at this
        exact this
      | dic ks vs => exact r0.elim
    · exact z
  cases o with
  | lst ds =>
    obtain ⟨vs, h3, r⟩ := ro
    refine ⟨vs, h3, r.sub (n := st.length) hs (fun i hi => ?_) (by simpa [noRefO] using nr)⟩
    rw [hp i (by rw [R.len]; exact hi), e, List.getElem?_append_left (by rw [R.len]; exact hi)]
  | dic ks vs => exact ro.elim
theorem RelS.cut0 {K : PySem.W.Frag} {mu mu' : Mu} {H H' : Hp} {st st' : Sto} (R : RelS K mu H st) (s : Step mu H mu' H') (R' : RelS K mu' H' st') (c : closedTo st (st'.take st.length)) :
    Mu.Cut mu mu' st.length ∧ (st'.take st.length).length = st.length ∧ RelS K mu H' (st'.take st.length) ∧ Step mu H mu H' := by
  obtain ⟨ext, e, _⟩ := s.pre
  have e1 : Mu.Cut mu mu' st.length := ⟨by rw [e, ← R.len, List.take_left']; rfl, s.av⟩
  have e2 : (st'.take st.length).length = st.length := by
    have := R'.len
    rw [List.length_take, ← this, e, List.length_append, R.len]
    omega
  exact ⟨e1, e2, ⟨R.nd, by rw [e2, R.len], fun n o a h1 h2 => R.cutTo s R' c (fun a ha => ha.elim (fun z => .inl (by rw [e]; exact List.mem_append_left _ z)) fun z => .inr (s.av a z)) (fun _ _ => rfl) n o a h1 h2, fun a ha => ⟨s.live a (R.av a ha).1, (R.av a ha).2⟩⟩, ⟨fun _ h => h, fun _ h => .inl h, ⟨[], by simp, by simp⟩, s.keep, s.live⟩⟩
theorem ret_sound {G : GEnv} {mu : Mu} {H : Hp} {st : Sto} (R : RelS G.K mu H st) {Q : VK} {d : D} {st' : Sto} (h : retD st d st' (PostD G mu H Q)) : PostD G mu H Q d st' := by
  intro mu' v H' s R' r
  rcases h with h | ⟨d', f, hf, c, h⟩ | ⟨m, ds, rfl, hm, hs, nr, c, h⟩
  · exact h mu' v H' s R' r
  · obtain ⟨e1, _, R2, s2⟩ := R.cut0 s R' c
    have r2 := frz_ok R' e1 f d d' v r hf
    exact h mu v H' s2 R2 r2
  · obtain ⟨e1, e2, R2, s2⟩ := R.cut0 s R' c
    obtain ⟨a, e, h1⟩ := r
    obtain ⟨vs, h2, h3⟩ := R'.get hs h1
    obtain ⟨ext, ep, fr⟩ := s.pre
    have ha : a ∈ ext ∧ a ∉ mu.l := by
      have nd := R'.nd
      rw [ep] at h1 nd
      rw [List.getElem?_append_right (by rw [R.len]; exact hm)] at h1
      have hm := List.mem_of_getElem? h1
      exact ⟨hm, fun z => (List.nodup_append.mp nd).2.2 a z a hm rfl⟩
    have s3 : Step mu H (mu.push a) H' := ⟨fun _ h => h, fun _ h => .inl h, ⟨[a], rfl, by simpa using fr a ha.1⟩, s.keep, s.live⟩
    have sub : ∀ b, (mu.push a).has b → mu'.has b := fun b hb => by
      rcases hb with hb | hb
      · refine .inl ?_
        rw [ep]
        rcases List.mem_append.mp hb with z | z
        · exact List.mem_append_left _ z
        · have : b = a := by simpa using z
          rw [this]; exact List.mem_append_right _ ha.1
      · exact .inr (s.av b hb)
    have h4 : RVs G.K (mu.push a) H' ds vs := h3.sub (n := st.length) sub (fun i hi => by
      show (mu.l ++ [a])[i]? = _
      rw [ep, List.getElem?_append_left (by rw [R.len]; exact hi), List.getElem?_append_left (by rw [R.len]; exact hi)]) nr
    refine h (mu.push a) v H' s3 ⟨?_, by show (mu.l ++ [a]).length = _; rw [List.length_append, List.length_append, e2, R.len]; rfl, fun n o b h5 h6 => ?_, fun b hb => ⟨s.live b (R.av b hb).1, fun z => ?_⟩⟩ ⟨a, e, by show (mu.l ++ [a])[st.length]? = _; rw [← R.len]; simp⟩
    · show (mu.l ++ [a]).Nodup
      rw [List.nodup_append]
      exact ⟨R.nd, by simp, fun x hx y hy => by
        have : y = a := by simpa using hy
        subst this
        exact fun z => ha.2 (z ▸ hx)⟩
    · have h6 : (mu.l ++ [a])[n]? = some b := h6
      by_cases hn : n < mu.l.length
      · rw [List.getElem?_append_left hn] at h6
        rw [List.getElem?_append_left (by rw [e2, ← R.len]; exact hn)] at h5
        exact R.cutTo s R' c sub (fun i hi => by show (mu.l ++ [a])[i]? = _; rw [List.getElem?_append_left hi]) n o b h5 h6
      · have hnl : n = mu.l.length := by
          have := (List.getElem?_eq_some_iff.mp h6).1
          rw [List.length_append] at this
          simp at this
          omega
        subst hnl
        rw [List.getElem?_append_right (Nat.le_refl _)] at h6
        rw [R.len, List.getElem?_append_right (by rw [e2]; exact Nat.le_refl _), e2] at h5
        simp at h5 h6
        subst h5 h6
        exact ⟨vs, h2, h4⟩
    · rcases List.mem_append.mp z with z | z
      · exact (R.av b hb).2 z
      · have : b = a := by simpa using z
        rw [this] at hb
        exact (R'.av a (s.av a hb)).2 (List.mem_of_getElem? h1)
theorem retX_sound {G : GEnv} {mu : Mu} {H : Hp} {st : Sto} (R : RelS G.K mu H st) {E : XK} {x : DX} {st' : Sto}
    (h : retX st x st' (fun x st' => ∀ mu' cls dd H', Step mu H mu' H' → RelS G.K mu' H' st' → XR G mu' H' x cls dd → E cls dd H')) :
    ∀ mu' cls dd H', Step mu H mu' H' → RelS G.K mu' H' st' → XR G mu' H' x cls dd → E cls dd H' := by
  intro mu' cls dd H' s R' r
  rcases h with h | ⟨nr, c, h⟩
  · exact h mu' cls dd H' s R' r
  · obtain ⟨e1, e2, R2, s2⟩ := R.cut0 s R' c
    refine h mu cls dd H' s2 R2 ⟨r.cl, ?_⟩
    rcases r.fs with z | ⟨d, fs, h1, h2, h3, h4, h5⟩
    · exact .inl z
    · exact .inr ⟨d, fs, h1, h2, fun z => h3 (e1.has z), h4, h5.cut' e1 nr⟩
theorem retD_mono {st : Sto} {d : D} {st' : Sto} {Q Q' : QD} (h : retD st d st' Q) (f : ∀ d s, Q d s → Q' d s) : retD st d st' Q' := by
  rcases h with h | ⟨d', n, hf, c, h⟩ | ⟨m, ds, e, hm, hs, nr, c, h⟩
  · exact .inl (f _ _ h)
  · exact .inr (.inl ⟨d', n, hf, c, f _ _ h⟩)
  · exact .inr (.inr ⟨m, ds, e, hm, hs, nr, c, f _ _ h⟩)

/-! ### defs -/
/-- what a def does with values -/
structure SpecD where
  ar : Nat
  run : List D → Sto → QD → QX → Prop
  mono : ∀ (ds : List D) (st : Sto) (Q Q' : QD) (E E' : QX), run ds st Q E → (∀ d s, Q d s → Q' d s) → (∀ x s, E x s → E' x s) → run ds st Q' E'
def PostE (G : GEnv) (mu : Mu) (H : Hp) (E : XK) : QX := fun x st' => ∀ mu' cls dd H', Step mu H mu' H' → RelS G.K mu' H' st' → XR G mu' H' x cls dd → E cls dd H'
def spOf (G : GEnv) (S : SpecD) : Sp := fun vs H Q E => vs.length = S.ar ∧ ∃ mu ds st, RelS G.K mu H st ∧ RVs G.K mu H ds vs ∧ S.run ds st (PostD G mu H Q) (PostE G mu H E)
/-- a body as a spec; n: how many slots -/
def bodyD (l : List SemS) (n : Nat) (ds : List D) (st : Sto) (Q : QD) (E : QX) : Prop :=
  wpB l ⟨fun _ st' => retD st .non st' Q, fun d st' => retD st d st' Q, fun _ _ => False, fun _ _ => False, fun x _ st' => retX st x st' E⟩ (ds.map some ++ List.replicate (n - ds.length) none) st
abbrev CXof (G : GEnv) : CXT := L2.CX G.prog G.w
/-- the scope of a def, by a look -/
def scopeB (N P : List Str) (sc : Scope) : Bool :=
  (match sc.kind with | .function => true | _ => false) && !sc.isCoroutine && !sc.isGenerator && decide (N.Nodup) && decide (N.take P.length = P) &&
    (P.all fun x => match sc.names.lookup x with | some .local => true | some .cell => true | _ => false) && (sc.names.all fun y => match y.2 with | .free => false | _ => true)
theorem scopeB_ok {N P : List Str} {sc : Scope} (h : scopeB N P sc = true) : FnScope N P sc := by
  unfold scopeB at h
  simp only [Bool.and_eq_true, Bool.not_eq_true', decide_eq_true_eq, List.all_eq_true] at h
  obtain ⟨⟨⟨⟨⟨⟨h1, h2⟩, h3⟩, h4⟩, h5⟩, h6⟩, h7⟩ := h
  refine ⟨?_, h2, h3, h4, h5, fun x hx => ?_, fun y hy e => ?_⟩
  · split at h1
    · assumption
    · cases h1
  · have := h6 x hx
    split at this
    · exact .inl (by assumption)
    · exact .inr (by assumption)
    · cases this
  · have := h7 y hy
    rw [e] at this
    cases this
theorem RelN.start {K : PySem.W.Frag} {mu : Mu} {H : Hp} {ds : List D} {vs : List V} (r : RVs K mu H ds vs) (m n : Nat) : RelN K mu H (ds.map some ++ List.replicate m none) (vs.map some ++ List.replicate n none) := fun i d e => by
  by_cases hi : i < ds.length
  · rw [List.getElem?_append_left (by simpa using hi), List.getElem?_map] at e
    cases e1 : ds[i]? with
    | none => rw [e1] at e; cases e
    | some d1 =>
      rw [e1] at e
      cases e
      obtain ⟨v, h1, h2⟩ := r.get e1
      refine ⟨v, ?_, h2⟩
      rw [List.getElem?_append_left (by rw [List.length_map, ← r.len]; exact hi), List.getElem?_map, h1]
      rfl
  · rw [List.getElem?_append_right (by simpa using hi), List.getElem?_replicate] at e
    split at e <;> cases e
/-- a def keeps its promise wherever no repr is under way -/
structure FnG (P : Program) (w : World) (K : PySem.W.Frag) (mg : Str → Option Value) (base : Heap) (CX : CXT) (k : Nat) (f : Addr) (fd : FuncData) (ps : List Str) (sp : Sp) : Prop where
  len : ∀ (vs : List V) (H : Hp) (Q : VK) (E : XK), sp vs H Q E → vs.length = ps.length
  run : ∀ (A : Around) (out : List PySem.Env) (s : Shared) (H : Hp) (args : Args) (us : List Value) (vs : List V) (Q : VK) (E : XK), Room k A → A.guards = some [] → Env0 P w K mg base A out s H →
    BindsTo s fd args (ps.zip us) → Vals vs us → sp vs H Q E → codeAny (model P w) A (.call (.ref f) args) (CR CX out P w H s Q E) s
theorem FnG.mono {P : Program} {w : World} {K : PySem.W.Frag} {mg : Str → Option Value} {base : Heap} {CX : CXT} {j k : Nat} {f : Addr} {fd : FuncData} {ps : List Str} {sp : Sp} (F : FnG P w K mg base CX j f fd ps sp) (h : j ≤ k) : FnG P w K mg base CX k f fd ps sp :=
  ⟨F.len, fun A out s H args us vs Q E r => F.run A out s H args us vs Q E (r.mono h)⟩
theorem fnG_of {CX : CXT} {P : Program} {w : World} {K : PySem.W.Frag} {mg : Str → Option Value} {base : Heap} {k : Nat} {f : Addr} {fd : FuncData} {x qual : Str} {params : Arguments} {body : List Stmt} {scope : Scope} {dvs : List V} {kws : List (Str × V)} {N ps : List Str} {sp : Sp}
    (F : FunD K x qual params body scope dvs kws f fd) (S : FnScope N ps scope) (len : ∀ (vs : List V) (H : Hp) (Q : VK) (E : XK), sp vs H Q E → vs.length = ps.length)
    (hbody : ∀ (cdv : Value) (A : Around) (out : List PySem.Env) (s : Shared) (H : Hp) (vs : List V) (Q : VK) (E : XK), Room k (A.deeper (envOfC qual scope s.heap.objs.size f cdv)) → A.guards = some [] → sp vs H Q E →
      ∃ t, PSs (cxOf CX P w K mg base N qual scope f cdv A out s H E) body t ∧ t { nx := fun _ H' => Q .non H', rt := Q } (start N vs) H) : FnG P w K mg base CX (k + 1) f fd ps sp := by
  obtain ⟨oc, od, dV, kV, doc, pm, an, cdv, ct, osl, rfl, lk, hcd, _, _⟩ := F.ex
  refine ⟨len, fun A out s H args us vs Q E room hg e0 hb r hsp => ?_⟩
  have hl := len _ _ _ _ hsp
  have kin : K.In s.heap := e0.mod.kin.keeps fun b o e => (e0.bs b o e).1
  have lim : s.heap.NoLimit := e0.mod.nolimit.keeps fun b o e => (e0.bs b o e).1
  have kinds : ∀ y ∈ ps.zip us, scope.names.lookup y.1 = some .local ∨ (scope.names.lookup y.1 = some .cell ∧ ((cellsFrom (s.heap.objs.size + 1) scope.names []).lookup y.1).isSome = true) := fun y hy =>
    (S.par y.1 (List.of_mem_zip (a := y.1) (b := y.2) hy).1).elim .inl fun q => .inr ⟨q, PySem.W.cellsFrom_some _ _ _ (.inl q)⟩
  refine codeAny_call_function room.depth (kin _ _ lk) rfl S.co S.gen rfl (PySem.W.codeRec_of kin hcd) (hb _ _ _ _ (?_ : wpAny _ _ _ _ _ _))
  refine wpAny_newFunctionEnv_cells S.kind kinds fun env he s1 x => ⟨lim.keeps x.toInCall.keep, codeAny_func (?_ : wpAny _ _ _ _ _ _)⟩
  subst he
  obtain ⟨t, ht, hq⟩ := hbody cdv A out s H vs Q E (room.deeper _) hg hsp
  have I : Inv (cxOf CX P w K mg base N qual scope f cdv A out s H E) [] (start N vs) H s1 := inv_start S room.hd e0 hl r x
  refine wpAny_mono (ht.run [] s1 (start N vs) H _ I hq) (fun fl s' hs => ?_) fun e s' hs => hs
  have fin : ∀ {σ' : L2.St} {H' : Hp} {v : V} {u : Value}, Inv (cxOf CX P w K mg base N qual scope f cdv A out s H E) [] σ' H' s' → RelV v u → Q v H' → CE out P w H s Q u s' := fun {σ' H' v u} J rv q => ⟨v, H', J.os, J.bare, J.base, J.hok, rv, q⟩
  cases fl with
  | ret u => obtain ⟨v, σ', H', J, rv, q⟩ := hs; exact fin J rv q
  | next => obtain ⟨σ', H', J, q⟩ := hs; exact fin (v := V.non) (u := Value.none) J rfl q
  | brk => obtain ⟨_, _, _, q⟩ := hs; exact q.elim
  | cont => obtain ⟨_, _, _, q⟩ := hs; exact q.elim
/-- THE RULE for a def -/
theorem fn_ok {G : GEnv} {k : Nat} {f : Addr} {fd : FuncData} {x qual : Str} {st0 : Stmt} {dvs : List V} {kws : List (Str × V)} {N ps : List Str} {l : List SemS} {S : SpecD}
    (F : FunD G.K x qual (defArgs st0) (defBody st0) (defScope st0) dvs kws f fd) (hs : scopeB N ps (defScope st0) = true) (hc : chkB l N (defScope st0) (defBody st0) = true) (har : ps.length = S.ar) (rq : reqB l G k)
    (hS : ∀ ds st Q E, ds.length = S.ar → S.run ds st Q E → bodyD l N.length ds st Q E) : FnG G.prog G.w G.K G.mg G.base (CXof G) (k + 1) f fd ps (spOf G S) := by
  have sc := scopeB_ok hs
  refine fnG_of F sc (fun vs H Q E h => h.1.trans har.symm) (fun cdv A outer s H vs Q E hr hgd h => ?_)
  obtain ⟨hl, mu, ds, st, R, r, h⟩ := h
  have gd : Good G k (cxOf (CXof G) G.prog G.w G.K G.mg G.base N qual (defScope st0) f cdv A outer s H E) := ⟨rfl, rfl, rfl, rfl, rfl, hr, sc.nd, rfl, sc.kind, hgd⟩
  have tk : Takes (cxOf (CXof G) G.prog G.w G.K G.mg G.base N qual (defScope st0) f cdv A outer s H E) (fun cls d _ H => E cls d H) := takes_of rfl rfl rfl rfl
  refine ⟨tWS G (wpB l) (fun cls d _ H => E cls d H), pss_sound G k _ _ gd (fun _ => rfl) tk l _ (fun _ => passes_of rfl) rq hc, ?_⟩
  have hd : ds.length = S.ar := by rw [r.len]; exact hl
  refine ⟨mu, _, st, ⟨R, RelN.start r (N.length - ds.length) (N.length - vs.length), ?_⟩, wpB_mono l _ _ _ _ ⟨fun en st' h => ?_, fun d st' h => ?_, fun _ _ h => False.elim h, fun _ _ h => False.elim h, fun x en st' h => ?_⟩ (hS ds st _ _ hd h)⟩
  · show _ = (vs.map some ++ List.replicate (N.length - vs.length) none).length
    rw [List.length_append, List.length_append, List.length_map, List.length_map, List.length_replicate, List.length_replicate, r.len]
  · intro mu' σ' H' s' R'
    exact ret_sound R h mu' .non H' s' R'.sto rfl
  · exact ret_sound R h
  · intro mu' σ' cls dd H' s' R' q
    exact retX_sound R h mu' cls dd H' s' R'.sto q
end Mi
namespace Mi
open PySem PySem.Spec PyProof.Rows L2

/-! ### calls of defs -/
/-- the def of that name keeps S; d: the values that fill up what a call leaves out -/
def FnAvail (G : GEnv) (k : Nat) (name : Str) (S : SpecD) (d : List D) : Prop :=
  ∃ (f : Addr) (fd : FuncData) (ps : List Str) (dvs : List V) (ds : List Value), G.mg name = some (.ref f) ∧ PySem.W.keepIn G.K (.ref f) = true ∧ FnG G.prog G.w G.K G.mg G.base (CXof G) k f fd ps (spOf G S) ∧
    Binds G.K fd ps ds ∧ Vals dvs ds ∧ ∀ mu H, RVs G.K mu H d dvs
theorem FnAvail.mono {G : GEnv} {j k : Nat} {name : Str} {S : SpecD} {d : List D} (h : FnAvail G j name S d) (hk : j ≤ k) : FnAvail G k name S d :=
  let ⟨f, fd, ps, dvs, ds, h1, h2, h3, h4⟩ := h
  ⟨f, fd, ps, dvs, ds, h1, h2, h3.mono hk, h4⟩
theorem passes_at {X : Cx} {G : GEnv} {k : Nat} (gd : Good G k X) {W : WX} (tk : Takes X W) (σ : L2.St) : PassesAt (CXof G) X σ (WE W σ) := by
  have := passAt tk σ
  rw [gd.prog, gd.w] at this
  exact this
theorem Good.fnok {G : GEnv} {k j : Nat} {X : Cx} (gd : Good G k X) {CX : CXT} {f : Addr} {fd : FuncData} {ps : List Str} {sp : Sp} (F : FnG G.prog G.w G.K G.mg G.base CX j f fd ps sp) : FnG X.prog X.w X.K X.mg X.base CX j f fd ps sp := by
  rw [gd.prog, gd.w, gd.K, gd.mg, gd.base]; exact F
theorem pe_callG {X : Cx} {CX : CXT} {k : Nat} {f : Addr} {fd : FuncData} {ps : List Str} {ds : List Value} {dvs : List V} {sp : Sp} {E : L2.St → XK} {x : Str} {p pos : Pos} {e : Expr} {es : List Expr} {t : TA} (F : FnG X.prog X.w X.K X.mg X.base CX k f fd ps sp) (hr : Room k X.A) (hgd : X.A.guards = some []) (hg : Gl X x) (hm : X.mg x = some (.ref f))
    (hk : PySem.W.keepIn X.K (.ref f) = true) (hb : Binds X.K fd ps ds) (hd : Vals dvs ds) (hx : ∀ σ, PassesAt CX X σ (E σ)) (ha : PA X (e :: es) t) (hdb : (x == ("__debug__" : Str)) = false)
    (he : starEach (e :: es) X.env = (false, eval e X.env) :: starEach es X.env) (hpl : (backTo pos (starEach es X.env)).any (·.1) = false) : PE X (.Call (.Name x p) (e :: es) [] pos) (tCallSD sp dvs E t) := by
  refine ⟨fun pins s σ H Q I h => ?_⟩
  refine wpAny_Call_Name_kw (ld_glob I hg hm (?_ : wpAny _ _ _ _ _ _) hdb)
  refine PySem.W.callWith_K (h₀ := X.base) I.ok.mod.kin hk (thn (ha.run pos pins s σ H _ I h) fun us s1 ⟨vs, H1, I1, r, q⟩ => ⟨I1.kIn, ?_⟩) he hpl
  have r2 : Vals (vs ++ dvs) (us ++ ds) := r.append hd
  have hl : (us ++ ds).length = ps.length := by rw [← r2.length]; exact F.len _ _ _ _ q
  refine wpAny_call (codeAny_mono (F.run X.A X.stack s1 H1 ⟨us, []⟩ (us ++ ds) (vs ++ dvs) Q (E σ) hr hgd I1.env0 (hb s1 us I1.kIn hl) r2 q) fun r s' hq => ?_)
  cases r with
  | error e => exact hx σ pins H1 s1 e s' I1 hq
  | ok fl =>
    cases fl with
    | ret u => exact I1.after hq
    | next => exact hq.elim
    | brk => exact hq.elim
    | cont => exact hq.elim
def eCall (name : Str) (S : SpecD) (d : List D) (l : List SemE) : SemE where
  chk N sc e := match e with | .Call (.Name x _) (e :: es) [] _ => decide (x = name) && plainNm x && glB sc x && chkA l N sc (e :: es) | _ => false
  req G k := FnAvail G k name S d ∧ reqL l G k
  wp en st Q E := wpA l en st (fun ds st1 => ds.length + d.length = S.ar ∧ S.run (ds ++ d) st1 Q E) E
  mono en st Q Q' E E' h f g := wpA_mono l _ _ _ _ _ _ h (fun ds s hx => ⟨hx.1, S.mono _ _ _ _ _ _ hx.2 f g⟩) g
  sound := by
    intro G k X W e gd tk rq hc
    split at hc
    · rename_i x px e es pos
      simp only [Bool.and_eq_true, decide_eq_true_eq] at hc
      obtain ⟨⟨⟨rfl, hn⟩, hg⟩, ha⟩ := hc
      obtain ⟨p1, p2, p3⟩ := plainNm_ok hn
      obtain ⟨⟨f, fd, ps, dvs, dvals, hmg, hkp, F, hb, hv, hr⟩, rql⟩ := rq
      cases l with
      | nil => simp [chkA] at ha
      | cons a r =>
        have pa := pa_sound G k X W gd tk (a :: r) (e :: es) rql ha
        have base := pe_callG (pos := pos) (p := px) (E := fun σ => WE W σ) (gd.fnok F) gd.room gd.guards (glB_ok hg) (by rw [gd.mg]; exact hmg) (by rw [gd.K]; exact hkp) (by rw [gd.K]; exact hb) hv (fun σ => passes_at gd tk σ) pa p1 (chkA_star ha _) (chkA_any r (chkA_tail ha) _ _)
        refine ⟨fun pins s σ H Q I h => base.run pins s σ H Q I ?_⟩
        obtain ⟨mu, en, st, R, h⟩ := h
        refine twa R h fun ds st1 mu1 vs H1 hF s1 r1 q1 => ?_
        have q2 := q1.app (hr mu1 H1)
        refine ⟨by rw [← q2.len, List.length_append]; exact hF.1, mu1, _, st1, r1, q2, S.mono _ _ _ _ _ _ hF.2 (fun d s hd => PostD.step s1 hd) fun x s hx => ?_⟩
        exact PostX.step s1 hx
    · cases hc

/-! ### targets -/
/-- where a value goes: a name, or the items of a tuple -/
inductive Tg where
  | nm (i : Nat)
  | tup (l : List Tg)
mutual
/-- ok: the names that may be stored -/
def chkT (ok : Str → Bool) : Tg → List Str → Expr → Bool
  | .nm i, N, .Name x _ => isNm N i x && ok x
  | .tup l, N, .Tuple es _ _ => chkTs ok l N es
  | _, _, _ => false
def chkTs (ok : Str → Bool) : List Tg → List Str → List Expr → Bool
  | [], _, [] => true
  | t :: r, N, e :: es => notStar e && chkT ok t N e && chkTs ok r N es
  | _, _, _ => false
end
mutual
/-- the slots behind the store -/
def putT : Tg → Env → D → Option Env
  | .nm i, en, d => some (en.set i (some d))
  | .tup l, en, .tup ds => putTs l en ds
  | .tup _, _, _ => none
def putTs : List Tg → Env → List D → Option Env
  | [], en, [] => some en
  | t :: r, en, d :: ds => (putT t en d).bind fun en1 => putTs r en1 ds
  | _, _, _ => none
end
mutual
def slT : Tg → List Nat
  | .nm i => [i]
  | .tup l => slTs l
def slTs : List Tg → List Nat
  | [] => []
  | t :: r => slT t ++ slTs r
end
theorem assign_each {e : Expr} (h : notStar e = true) (es : List Expr) (env : PySem.Env) : assignEach (e :: es) env = (false, assign e env) :: assignEach es env := by
  cases e <;> first | rfl | (simp [notStar] at h)
theorem assign_len {ok : Str → Bool} : ∀ (l : List Tg) {N : List Str} (es : List Expr) (env : PySem.Env), chkTs ok l N es = true → (assignEach es env).length = l.length ∧ (assignEach es env).findIdx? (·.1) = none
  | [], _, [], _, _ => ⟨rfl, rfl⟩
  | [], _, _ :: _, _, h => by simp [chkTs] at h
  | _ :: _, _, [], _, h => by simp [chkTs] at h
  | t :: r, N, e :: es, env, h => by
    simp only [chkTs, Bool.and_eq_true] at h
    obtain ⟨h1, h2⟩ := assign_len r es env h.2
    rw [assign_each h.1.1]
    refine ⟨by rw [List.length_cons, h1, List.length_cons], ?_⟩
    rw [List.findIdx?_cons]
    simp [h2]
mutual
theorem putT_len : ∀ (t : Tg) (en en' : Env) (d : D), putT t en d = some en' → en'.length = en.length
  | .nm i, en, en', d, h => by
    have : en' = en.set i (some d) := by rw [putT] at h; exact (Option.some.inj h).symm
    rw [this, List.length_set]
  | .tup l, en, en', .tup ds, h => putTs_len l en en' ds (by rw [putT] at h; exact h)
  | .tup l, en, en', .non, h => by simp [putT] at h
  | .tup l, en, en', .bl _, h => by simp [putT] at h
  | .tup l, en, en', .int _, h => by simp [putT] at h
  | .tup l, en, en', .str _, h => by simp [putT] at h
  | .tup l, en, en', .lst _, h => by simp [putT] at h
  | .tup l, en, en', .rol _, h => by simp [putT] at h
  | .tup l, en, en', .dic _ _, h => by simp [putT] at h
  | .tup l, en, en', .ref _, h => by simp [putT] at h
theorem putTs_len : ∀ (l : List Tg) (en en' : Env) (ds : List D), putTs l en ds = some en' → en'.length = en.length
  | [], en, en', [], h => by rw [putTs] at h; cases h; rfl
  | [], en, en', _ :: _, h => by simp [putTs] at h
  | _ :: _, en, en', [], h => by simp [putTs] at h
  | t :: r, en, en', d :: ds, h => by
    rw [putTs] at h
    cases e : putT t en d with
    | none => rw [e] at h; cases h
    | some en1 =>
      rw [e] at h
      rw [putTs_len r en1 en' ds h, putT_len t en en1 d e]
end
theorem putTs_ds : ∀ (l : List Tg) (en en' : Env) (ds : List D), putTs l en ds = some en' → ds.length = l.length
  | [], en, en', [], h => rfl
  | [], en, en', _ :: _, h => by simp [putTs] at h
  | _ :: _, en, en', [], h => by simp [putTs] at h
  | t :: r, en, en', d :: ds, h => by
    rw [putTs] at h
    cases e : putT t en d with
    | none => rw [e] at h; cases h
    | some en1 =>
      rw [e] at h
      rw [List.length_cons, List.length_cons, putTs_ds r en1 en' ds h]
mutual
/-- what a target's store is -/
def gOf (K : PySem.W.Frag) : Tg → TG
  | .nm i => gName i
  | .tup l => gTup K l.length (gsOf K l)
def gsOf (K : PySem.W.Frag) : List Tg → TGs
  | [] => gNil
  | t :: r => gCons (gOf K t) (gsOf K r)
end
mutual
theorem pg_rule (X : Cx) (nd : X.N.Nodup) (hc : X.calm = true) {ok : Str → Bool} (hst : ∀ x, ok x = true → Loc X.env.scope x ∧ (X.fn x = true ∨ X.env.scope.names.lookup x = some .local)) : ∀ (t : Tg) (e : Expr), chkT ok t X.N e = true → PG X e (gOf X.K t)
  | .nm i, e, h => by
    cases e with
    | Name x p =>
      simp only [chkT, Bool.and_eq_true] at h
      obtain ⟨hx, hf⟩ := hst _ h.2
      rw [gOf]
      exact pg_name nd (isNm_ok h.1) hx hf
    | _ => simp [chkT] at h
  | .tup l, e, h => by
    cases e with
    | Tuple es kk p =>
      rw [chkT] at h
      obtain ⟨h1, h2⟩ := assign_len l es X.env h
      rw [gOf]
      exact pg_tup hc (pgs_rule X nd hc hst l es h) h1 h2
    | _ => simp [chkT] at h
theorem pgs_rule (X : Cx) (nd : X.N.Nodup) (hc : X.calm = true) {ok : Str → Bool} (hst : ∀ x, ok x = true → Loc X.env.scope x ∧ (X.fn x = true ∨ X.env.scope.names.lookup x = some .local)) : ∀ (l : List Tg) (es : List Expr), chkTs ok l X.N es = true → PGs X es (gsOf X.K l)
  | [], [], _ => by rw [gsOf]; exact pgs_nil
  | [], _ :: _, h => by simp [chkTs] at h
  | _ :: _, [], h => by simp [chkTs] at h
  | t :: l, e :: es, h => by
    simp only [chkTs, Bool.and_eq_true] at h
    rw [gsOf]
    exact pgs_cons (pg_rule X nd hc hst t e h.1.2) (pgs_rule X nd hc hst l es h.2) (by rw [assign_each h.1.1]; rfl)
end
mutual
theorem gOf_ok {K : PySem.W.Frag} : ∀ (t : Tg) (v : V) (σ : L2.St) (H : Hp) (Q : L2.St → Hp → Prop) (mu : Mu) (en en' : Env) (st : Sto) (d : D), RelE K mu H en st σ → RV K mu H d v → putT t en d = some en' →
    (∀ σ', RelE K mu H en' st σ' → (∀ i, i ∉ slT t → σ'[i]? = σ[i]?) → Q σ' H) → gOf K t v σ H Q
  | .nm i, v, σ, H, Q, mu, en, en', st, d, R, r, e, f => by
    have : en' = en.set i (some d) := by rw [putT] at e; exact (Option.some.inj e).symm
    subst this
    rw [gOf]
    exact f _ (R.set r) fun j hj => List.getElem?_set_ne (fun z => hj (by rw [slT, z]; exact List.mem_singleton.mpr rfl))
  | .tup l, v, σ, H, Q, mu, en, en', st, d, R, r, e, f => by
    rw [gOf]
    cases d with
    | tup ds =>
      obtain ⟨a, vs, ev, h3, h4⟩ := r
      rw [putT] at e
      exact ⟨a, vs, ev, h3, by rw [← h4.len]; exact putTs_ds l en en' ds e, gsOf_ok l vs σ H Q mu en en' st ds R h4 e fun σ' R' q => f σ' R' (by rw [slT]; exact q)⟩
    | _ => simp [putT] at e
theorem gsOf_ok {K : PySem.W.Frag} : ∀ (l : List Tg) (vs : List V) (σ : L2.St) (H : Hp) (Q : L2.St → Hp → Prop) (mu : Mu) (en en' : Env) (st : Sto) (ds : List D), RelE K mu H en st σ → RVs K mu H ds vs → putTs l en ds = some en' →
    (∀ σ', RelE K mu H en' st σ' → (∀ i, i ∉ slTs l → σ'[i]? = σ[i]?) → Q σ' H) → gsOf K l vs σ H Q
  | [], vs, σ, H, Q, mu, en, en', st, ds, R, r, e, f => by
    rw [gsOf]
    cases ds with
    | nil =>
      rw [putTs] at e
      cases e
      exact ⟨r, f σ R fun _ _ => rfl⟩
    | cons _ _ => simp [putTs] at e
  | t :: l, vs, σ, H, Q, mu, en, en', st, ds, R, r, e, f => by
    rw [gsOf]
    cases ds with
    | nil => simp [putTs] at e
    | cons d ds =>
      obtain ⟨v, u, ev, r1, r2⟩ := r
      rw [putTs] at e
      cases e1 : putT t en d with
      | none => rw [e1] at e; cases e
      | some en1 =>
        rw [e1] at e
        subst ev
        refine ⟨v, u, rfl, gOf_ok t v σ H _ mu en en1 st d R r1 e1 fun σ1 R1 k1 => ?_⟩
        exact gsOf_ok l u σ1 H Q mu en1 en' st ds R1 r2 e fun σ2 R2 k2 => f σ2 R2 fun i hi => by
          rw [slTs, List.mem_append] at hi
          exact (k2 i fun z => hi (.inr z)).trans (k1 i fun z => hi (.inl z))
end
theorem pg_sound (G : GEnv) (k : Nat) (X : Cx) (gd : Good G k X) {ok : Str → Bool} (hst : ∀ x, ok x = true → Loc X.env.scope x ∧ (X.fn x = true ∨ X.env.scope.names.lookup x = some .local)) (t : Tg) (e : Expr) (h : chkT ok t X.N e = true) : PG X e (gOf G.K t) := by
  have := pg_rule X gd.nd gd.calm hst t e h
  rw [gd.K] at this
  exact this

theorem assign_one {ok : Str → Bool} (t : Tg) {N : List Str} {e : Expr} (h : chkT ok t N e = true) (env : PySem.Env) : (assignEach [e] env).map (·.2) = [assign e env] := by
  have hs : notStar e = true := by
    cases t <;> cases e <;> first | rfl | (simp [chkT] at h)
  rw [assign_each hs]
  rfl
/-- targets = e -/
def sAsg (t : Tg) (a : SemE) : SemS where
  chk N sc st := match st with | .Assign [tg] e pos => chkT (locB sc) t N tg && pureIs (fun b => !b) (swapsWithSole [tg] e pos.line (envS sc)) && pureIs (fun o => o.isNone) (swappedStores [tg] e (envS sc)) && a.chk N sc e | _ => false
  req := a.req
  lp := false
  wp Dn en st := a.wp en st (fun d st1 => match putT t en d with | some en1 => Dn.nx en1 st1 | none => False) (fun x st' => Dn.ex x en st')
  mono A B en st le h := a.mono _ _ _ _ _ _ h (fun d s hd => by
    split at hd
    · exact le.nx _ _ hd
    · exact hd.elim) fun x s hx => le.ex x en s hx
  sound := by
    intro G k X W st gd hfn tk hl rq hc
    split at hc
    · rename_i tg e pos
      simp only [Bool.and_eq_true] at hc
      obtain ⟨⟨⟨h1, h2⟩, h3⟩, h4⟩ := hc
      obtain ⟨b, e3, e4⟩ := pureIs_ok h2
      have e5 : b = false := by simpa using e4
      subst e5
      obtain ⟨o, e6, e7⟩ := pureIs_ok h3
      have e8 : o = none := by simpa using e7
      subst e8
      have hg := pg_sound G k X gd (fun _ q => locB_ok hfn q) t tg h1
      have base := ps_asg (pos := pos) (a.sound G k X W e gd tk rq h4) hg (show swapsWithSole [tg] e pos.line X.env = _ from e3) ((swapped_scope _ _ _).trans e6) (assign_one t h1 _)
      refine ⟨fun pins s σ H Dn I h => base.run pins s σ H Dn I ?_⟩
      obtain ⟨mu, en, st, R, h⟩ := h
      refine se1 a.mono R h fun d st1 mu1 v H1 hF s1 r1 q1 => ?_
      split at hF
      · rename_i en1 he
        exact gOf_ok t v σ H1 Dn.nx mu1 en en1 st1 d (R.step s1 r1) q1 he fun σ' R' _ => hF mu1 σ' H1 s1 R'
      · exact hF.elim
    · cases hc
def locOnly (sc : Scope) (x : Str) : Bool := match sc.names.lookup x with | some .local => true | _ => false
theorem locOnly_ok {sc : Scope} {x : Str} (h : locOnly sc x = true) : sc.names.lookup x = some .local := by
  unfold locOnly at h
  split at h
  · assumption
  · cases h
/-- a, b = e1, e2 -/
def sPar2 (i j : Nat) (a b : SemE) : SemS where
  chk N sc st := match st with
    | .Assign [.Tuple [.Name x px, .Name y py] kt pt] (.Tuple [e, e2] k2 pt2) pos => isNm N i x && isNm N j y && decide (i ≠ j) && locOnly sc x && locOnly sc y && chkA [a, b] N sc [e, e2] &&
        pureIs (fun o => decide (o = some [x, y])) (swappedStores [.Tuple [.Name x px, .Name y py] kt pt] (.Tuple [e, e2] k2 pt2) (envS sc))
    | _ => false
  req G k := reqL [a, b] G k
  lp := false
  wp Dn en st := wpA [a, b] en st (fun ds st1 => match ds with | [d1, d2] => Dn.nx ((en.set i (some d1)).set j (some d2)) st1 | _ => False) (fun x st' => Dn.ex x en st')
  mono A B en st le h := wpA_mono _ _ _ _ _ _ _ h (fun d s hd => by
    split at hd
    · exact le.nx _ _ hd
    · exact hd.elim) fun x s hx => le.ex x en s hx
  sound := by
    intro G k X W st gd hfn tk hl rq hc
    split at hc
    · rename_i x px y py kt pt e e2 k2 pt2 pos
      simp only [Bool.and_eq_true, decide_eq_true_eq] at hc
      obtain ⟨⟨⟨⟨⟨⟨h1, h2⟩, h3⟩, h4⟩, h5⟩, h6⟩, h7⟩ := hc
      obtain ⟨o, e6, e7⟩ := pureIs_ok h7
      have e8 : o = some [x, y] := of_decide_eq_true e7
      subst e8
      have base := ps_par (pos := pos) (px := px) (py := py) (kt := kt) (pt := pt) (k2 := k2) (pt2 := pt2) gd.calm gd.nd (isNm_ok h1) (isNm_ok h2) h3 (locOnly_ok h4) (locOnly_ok h5) (pa_sound G k X W gd tk [a, b] [e, e2] rq h6) ((swapped_scope _ _ _).trans e6) rfl
      refine ⟨fun pins s σ H Dn I h => base.run pins s σ H Dn I ?_⟩
      obtain ⟨mu, en, st, R, h⟩ := h
      refine twa R (wpA_mono _ _ _ _ _ _ _ h (fun _ _ h => h) fun x st' hx => PostXS.ofX R hx) fun ds st1 mu1 vs H1 hF s1 r1 q1 => ?_
      split at hF
      · rename_i d1 d2
        obtain ⟨v, u, rfl, r2, r3⟩ := q1
        obtain ⟨w, u, rfl, r4, r5⟩ := r3
        cases (show u = [] from r5)
        exact ⟨v, w, rfl, hF mu1 _ H1 s1 (((R.step s1 r1).set r2).set r4)⟩
      · exact hF.elim
    · cases hc
/-- a, b, c = e1, e2, e3 -/
def sPar3 (i j l : Nat) (a b c : SemE) : SemS where
  chk N sc st := match st with
    | .Assign [.Tuple [.Name x px, .Name y py, .Name z pz] kt pt] (.Tuple [e, e2, e3] k2 pt2) pos => isNm N i x && isNm N j y && isNm N l z && decide (i ≠ j) && decide (i ≠ l) && decide (j ≠ l) && locOnly sc x && locOnly sc y && locOnly sc z && chkA [a, b, c] N sc [e, e2, e3] &&
        pureIs (fun o => decide (o = some [x, y, z])) (swappedStores [.Tuple [.Name x px, .Name y py, .Name z pz] kt pt] (.Tuple [e, e2, e3] k2 pt2) (envS sc))
    | _ => false
  req G k := reqL [a, b, c] G k
  lp := false
  wp Dn en st := wpA [a, b, c] en st (fun ds st1 => match ds with | [d1, d2, d3] => Dn.nx (((en.set i (some d1)).set j (some d2)).set l (some d3)) st1 | _ => False) (fun x st' => Dn.ex x en st')
  mono A B en st le h := wpA_mono _ _ _ _ _ _ _ h (fun d s hd => by
    split at hd
    · exact le.nx _ _ hd
    · exact hd.elim) fun x s hx => le.ex x en s hx
  sound := by
    intro G k X W st gd hfn tk hl rq hc
    split at hc
    · rename_i x px y py z pz kt pt e e2 e3 k2 pt2 pos
      simp only [Bool.and_eq_true, decide_eq_true_eq] at hc
      obtain ⟨⟨⟨⟨⟨⟨⟨⟨⟨⟨h1, h2⟩, h3⟩, h4⟩, h5⟩, h6⟩, h7⟩, h8⟩, h9⟩, h10⟩, h11⟩ := hc
      obtain ⟨o, e6, e7⟩ := pureIs_ok h11
      have e8 : o = some [x, y, z] := of_decide_eq_true e7
      subst e8
      have base := ps_par3 (pos := pos) (px := px) (py := py) (pz := pz) (kt := kt) (pt := pt) (k2 := k2) (pt2 := pt2) gd.calm gd.nd (isNm_ok h1) (isNm_ok h2) (isNm_ok h3) h4 h5 h6 (locOnly_ok h7) (locOnly_ok h8) (locOnly_ok h9) (pa_sound G k X W gd tk [a, b, c] [e, e2, e3] rq h10) ((swapped_scope _ _ _).trans e6) rfl
      refine ⟨fun pins s σ H Dn I h => base.run pins s σ H Dn I ?_⟩
      obtain ⟨mu, en, st, R, h⟩ := h
      refine twa R (wpA_mono _ _ _ _ _ _ _ h (fun _ _ h => h) fun x st' hx => PostXS.ofX R hx) fun ds st1 mu1 vs H1 hF s1 r1 q1 => ?_
      split at hF
      · rename_i d1 d2 d3
        obtain ⟨v, u, rfl, r2, r3⟩ := q1
        obtain ⟨w, u, rfl, r4, r5⟩ := r3
        obtain ⟨w3, u, rfl, r6, r7⟩ := r5
        cases (show u = [] from r7)
        exact ⟨v, w, w3, rfl, hF mu1 _ H1 s1 ((((R.step s1 r1).set r2).set r4).set r6)⟩
      · exact hF.elim
    · cases hc
end Mi
namespace Mi
open PySem PySem.Spec PyProof.Rows L2

/-! ### what is walked -/
/-- the iterator J tells the items one by one, as long as ok holds of the store -/
def ItOk (G : GEnv) (J : It) (items : List D) (ok : Sto → Prop) (m0 : Mu) (H0 : Hp) : Prop :=
  ∀ (mu : Mu) (st : Sto) (H : Hp), Step m0 H0 mu H → RelS G.K mu H st → ok st → ∀ i : Nat,
    (∀ d, items[i]? = some d → J.go i H ∧ ∀ x H', J.yld i H x H' → Step mu H mu H' ∧ RelS G.K mu H' st ∧ RV G.K mu H' d x) ∧ (items.length = i → J.stop i H)
abbrev QI := List D → (Sto → Prop) → Sto → Prop
abbrev WpI := Env → Sto → QI → QX → Prop
def PostI (G : GEnv) (mu : Mu) (H : Hp) (R : It → Hp → Prop) : QI := fun items ok st' => ∀ mu' J H', Step mu H mu' H' → RelS G.K mu' H' st' → ItOk G J items ok mu' H' → R J H'
theorem PostI.step {G : GEnv} {m0 m1 : Mu} {H0 H1 : Hp} {R : It → Hp → Prop} (s : Step m0 H0 m1 H1) {is : List D} {ok : Sto → Prop} {st : Sto} (h : PostI G m0 H0 R is ok st) : PostI G m1 H1 R is ok st := fun mu J H' s2 r q => h mu J H' (s.trans s2) r q
def tWI (G : GEnv) (wp : WpI) (W : WX) : TI := fun σ H R => ∃ mu en st, RelE G.K mu H en st σ ∧ wp en st (PostI G mu H R) (PostX G mu H σ W)
/-- tup: whether the target must be a row of names -/
def isTupE : Expr → Bool
  | .Tuple .. => true
  | _ => false
structure SemI where
  chk : List Str → Scope → Expr → Bool
  req : GEnv → Nat → Prop
  tup : Bool
  wp : WpI
  mono : ∀ (en : Env) (st : Sto) (Q Q' : QI) (E E' : QX), wp en st Q E → (∀ d o s, Q d o s → Q' d o s) → (∀ x s, E x s → E' x s) → wp en st Q' E'
  sound : ∀ (G : GEnv) (k : Nat) (X : Cx) (W : WX) (tg e : Expr), Good G k X → Takes X W → req G k → (tup = true → isTupE tg = true) → chk X.N X.env.scope e = true → PI X tg e (tWI G wp W)
/-- a tuple or a list, as it comes -/
def iAny (K : PySem.W.Frag) (tl : TE) : TI := fun σ H R => tl σ H fun x H1 => ∃ a, x = .ref a ∧ (((∃ xs, SqL K H1 a xs) ∧ R (Itl K a) H1) ∨ ((∃ xs, SqT K H1 a xs) ∧ R (Itt K a) H1))
theorem pi_any {X : Cx} {tg l : Expr} {tl : TE} (hl : PE X l tl) : PI X tg l (iAny X.K tl) := by
  refine ⟨fun pins s σ H R I h => ?_⟩
  refine thn (hl.run pins s σ H _ I h) fun v s1 ⟨x, H1, I1, r1, q1⟩ => ?_
  obtain ⟨a, e, q1⟩ := q1
  subst e
  cases r1
  rcases q1 with ⟨⟨xs, hq⟩, q⟩ | ⟨⟨xs, hq⟩, q⟩
  · obtain ⟨its, rv, p, hz⟩ := I1.list hq
    refine wpAny_pyIter_list p.isList ⟨s1.heap.objs.size, [s1.heap.objs.size], _, _, H1, rfl, I1.kept (t' := s1.toks) fun b o e => Heap.get?_push_of_some _ e, turn_list a _, ⟨_, Heap.get?_push_size _ rfl, rfl, rfl⟩, fun b hb => ?_, q⟩
    rw [show b = s1.heap.objs.size by simpa using hb]
    exact I1.fpOk (Nat.le_refl _) (I1.hok.fresh (Nat.le_refl _))
  · obtain ⟨its, rv, p, hz⟩ := I1.tuple hq
    refine wpAny_pyIter_tuple (show s1.heap.IsTuple a its.toArray from p) ⟨s1.heap.objs.size, [s1.heap.objs.size], _, _, H1, rfl, I1.kept (t' := s1.toks) fun b o e => Heap.get?_push_of_some _ e, turn_tuple a _, ⟨_, Heap.get?_push_size _ rfl, rfl, rfl⟩, fun b hb => ?_, q⟩
    rw [show b = s1.heap.objs.size by simpa using hb]
    exact I1.fpOk (Nat.le_refl _) (I1.hok.fresh (Nat.le_refl _))
theorem seq_it {G : GEnv} {k : Nat} {X : Cx} (gd : Good G k X) {mu : Mu} {H : Hp} {st : Sto} (R : RelS G.K mu H st) {d : D} {v : V} {ds : List D} (h : seqOf st d = some ds) (r : RV G.K mu H d v) :
    ∃ a, v = .ref a ∧ (((∃ xs, SqL X.K H a xs) ∧ ItOk G (Itl X.K a) ds (fun s => seqOf s d = some ds) mu H) ∨ ((∃ xs, SqT X.K H a xs) ∧ ItOk G (Itt X.K a) ds (fun s => seqOf s d = some ds) mu H)) := by
  obtain ⟨a, vs, rfl, h1, h2⟩ := seq_at R h r
  refine ⟨a, rfl, ?_⟩
  rcases h1 with ⟨⟨es, rfl⟩, h1⟩ | ⟨hl, h1⟩
  · cases h
    refine .inr ⟨⟨vs, gd.K' (P := fun K => SqT K H a vs) h1⟩, fun mu2 st2 H2 s2 r2 _ i => ⟨fun d hd => ?_, fun hl => ⟨vs, gd.K' (P := fun K => SqT K H2 a vs) (s2.rdT h1), by rw [← h2.len]; exact Nat.le_of_eq hl⟩⟩⟩
    obtain ⟨x, hx, rx⟩ := h2.get hd
    have h3 : SqT X.K H2 a vs := gd.K' (P := fun K => SqT K H2 a vs) (s2.rdT h1)
    refine ⟨⟨vs, x, h3, hx⟩, fun y H' hy => ?_⟩
    obtain ⟨rfl, hy⟩ := hy
    have := (hy vs h3).symm.trans hx
    cases this
    exact ⟨Step.refl _ _, r2, rx.step s2⟩
  · refine .inl ⟨⟨vs, .of h1⟩, fun mu2 st2 H2 s2 r2 ho i => ?_⟩
    obtain ⟨b, us, e, h3, h4⟩ := seq_at r2 ho (r.step s2)
    cases e
    have h3 : SqL X.K H2 a us := by
      rcases h3 with ⟨⟨es, rfl⟩, _⟩ | ⟨_, h3⟩
      · unfold lstOf at hl; cases hl
      · exact .of h3
    refine ⟨fun d hd => ?_, fun hl => ⟨us, h3, by rw [← h4.len]; exact Nat.le_of_eq hl⟩⟩
    obtain ⟨x, hx, rx⟩ := h4.get hd
    refine ⟨⟨us, x, h3, hx⟩, fun y H' hy => ?_⟩
    obtain ⟨rfl, hy⟩ := hy
    have := (hy us h3).symm.trans hx
    cases this
    exact ⟨Step.refl _ _, r2, rx⟩
def iSeq (a : SemE) : SemI where
  chk N sc e := a.chk N sc e
  req := a.req
  tup := false
  wp en st Q E := a.wp en st (fun d st1 => match seqOf st1 d with | some ds => Q ds (fun s => seqOf s d = some ds) st1 | none => False) E
  mono en st Q Q' E E' h f g := a.mono _ _ _ _ _ _ h (fun d s hd => by
    split at hd
    · exact f _ _ _ hd
    · exact hd.elim) g
  sound := by
    intro G k X W tg e gd tk rq _ hc
    have base := pi_any (tg := tg) (a.sound G k X W e gd tk rq hc)
    refine ⟨fun pins s σ H R I h => base.run pins s σ H R I ?_⟩
    obtain ⟨mu, en, st, Re, h⟩ := h
    refine tw1 a.mono Re h fun d st1 mu1 v H1 hF s1 r1 q1 => ?_
    split at hF
    · rename_i ds hs
      obtain ⟨a, rfl, h1⟩ := seq_it gd r1 hs q1
      refine ⟨a, rfl, ?_⟩
      rcases h1 with ⟨h1, h2⟩ | ⟨h1, h2⟩
      · exact .inl ⟨h1, hF mu1 _ H1 s1 r1 h2⟩
      · exact .inr ⟨h1, hF mu1 _ H1 s1 r1 h2⟩
    · exact hF.elim
/-- range(a), range(a, b) -/
def rngD (lo : Int) (n : Nat) : List D := (List.range n).map fun (i : Nat) => D.int (lo + i)
theorem rng_ok {G : GEnv} {lo : Int} {n : Nat} {mu : Mu} {H : Hp} : ItOk G (Itr lo n) (rngD lo n) (fun _ => True) mu H := fun mu2 st2 H2 s2 r2 _ i => by
  refine ⟨fun d hd => ?_, fun hl => by
    have : n = i := by simpa [rngD] using hl
    exact Nat.le_of_eq this⟩
  unfold rngD at hd
  rw [List.getElem?_map] at hd
  have hi : i < n := by
    have := (List.getElem?_eq_some_iff.mp (show ((List.range n).map fun (i : Nat) => D.int (lo + i))[i]? = some d by rw [List.getElem?_map]; exact hd)).1
    simpa using this
  rw [List.getElem?_range hi] at hd
  cases hd
  refine ⟨hi, fun y H' hy => ?_⟩
  obtain ⟨rfl, rfl⟩ := hy
  exact ⟨Step.refl _ _, r2, rfl⟩
def bd62 (i : Int) : Prop := -(2 ^ 62) ≤ i ∧ i < 2 ^ 62
def iRange1 (a : SemE) : SemI where
  chk N sc e := match e with | .Call (.Name x _) [e] [] _ => decide (x = ("range" : Str)) && glB sc x && chkA [a] N sc [e] | _ => false
  req G k := G.mg "range" = none ∧ reqL [a] G k
  tup := false
  wp en st Q E := a.wp en st (fun d st1 => match d with
    | .int j => bd62 j ∧ Q (rngD 0 j.toNat) (fun _ => True) st1
    | _ => False) E
  mono en st Q Q' E E' h f g := a.mono _ _ _ _ _ _ h (fun d s hd => by
    split at hd
    · exact ⟨hd.1, f _ _ _ hd.2⟩
    · exact hd.elim) g
  sound := by
    intro G k X W tg e gd tk rq _ hc
    split at hc
    · rename_i x px e pos
      simp only [Bool.and_eq_true, decide_eq_true_eq] at hc
      obtain ⟨⟨rfl, hg⟩, ha⟩ := hc
      have pa := pa_sound G k X W gd tk [a] [e] rq.2 ha
      have hm : X.mg "range" = none := by rw [gd.mg]; exact rq.1
      have base := pi_range1 (tg := tg) (p := px) (pos := pos) (glB_ok hg) hm pa (chkA_star ha _)
      refine ⟨fun pins s σ H R I h => base.run pins s σ H R I ?_⟩
      obtain ⟨mu, en, st, Re, h⟩ := h
      refine twa (l := [a]) (F := fun ds st1 => match ds with | [.int j] => bd62 j ∧ PostI G mu H R (rngD 0 j.toNat) (fun _ => True) st1 | _ => False) Re (a.mono _ _ _ _ _ _ h (fun d s hd => by
        split at hd
        · exact hd
        · exact hd.elim) fun _ _ h => h) fun ds st1 mu1 vs H1 hF s1 r1 q1 => ?_
      split at hF
      · obtain ⟨v, u, rfl, r2, r3⟩ := q1
        cases (show u = [] from r3)
        cases (show v = V.int _ from r2)
        exact ⟨_, rfl, hF.1.1, hF.1.2, hF.2 mu1 _ H1 s1 r1 rng_ok⟩
      · exact hF.elim
    · cases hc
def iRange2 (a b : SemE) : SemI where
  chk N sc e := match e with | .Call (.Name x _) [e, e2] [] _ => decide (x = ("range" : Str)) && glB sc x && chkA [a, b] N sc [e, e2] | _ => false
  req G k := G.mg "range" = none ∧ reqL [a, b] G k
  tup := false
  wp en st Q E := a.wp en st (fun d st1 => b.wp en st1 (fun d2 st2 => match d, d2 with
    | .int i, .int j => bd62 i ∧ bd62 j ∧ Q (rngD i (j - i).toNat) (fun _ => True) st2
    | _, _ => False) E) E
  mono en st Q Q' E E' h f g := a.mono _ _ _ _ _ _ h (fun d s hd => b.mono _ _ _ _ _ _ hd (fun d s hd => by
    split at hd
    · exact ⟨hd.1, hd.2.1, f _ _ _ hd.2.2⟩
    · exact hd.elim) g) g
  sound := by
    intro G k X W tg e gd tk rq _ hc
    split at hc
    · rename_i x px e e2 pos
      simp only [Bool.and_eq_true, decide_eq_true_eq] at hc
      obtain ⟨⟨rfl, hg⟩, ha⟩ := hc
      have pa := pa_sound G k X W gd tk [a, b] [e, e2] rq.2 ha
      have hm : X.mg "range" = none := by rw [gd.mg]; exact rq.1
      have base := pi_range2 (tg := tg) (p := px) (pos := pos) (glB_ok hg) hm pa (by rw [chkA_star ha _, chkA_star (chkA_tail ha) _]; rfl) (by rw [chkA_star (chkA_tail ha) _]; rfl)
      refine ⟨fun pins s σ H R I h => base.run pins s σ H R I ?_⟩
      obtain ⟨mu, en, st, Re, h⟩ := h
      refine twa (l := [a, b]) (F := fun ds st1 => match ds with | [.int i, .int j] => bd62 i ∧ bd62 j ∧ PostI G mu H R (rngD i (j - i).toNat) (fun _ => True) st1 | _ => False) Re (a.mono _ _ _ _ _ _ h (fun d s hd => b.mono _ _ _ _ _ _ hd (fun d2 s2 hd => by
        split at hd
        · exact hd
        · exact hd.elim) fun _ _ h => h) fun _ _ h => h) fun ds st1 mu1 vs H1 hF s1 r1 q1 => ?_
      split at hF
      · obtain ⟨v, u, rfl, r2, r3⟩ := q1
        obtain ⟨v3, u, rfl, r4, r5⟩ := r3
        cases (show u = [] from r5)
        cases (show v = V.int _ from r2)
        cases (show v3 = V.int _ from r4)
        exact ⟨_, _, rfl, ⟨hF.1.1, hF.1.2, hF.2.1.1, hF.2.1.2⟩, hF.2.2 mu1 _ H1 s1 r1 rng_ok⟩
      · exact hF.elim
    · cases hc

/-! ### for -/
/-- the turns over the items that are left -/
def forD (t : Tg) (body : WpS) (ok : Sto → Prop) (Dn : EndsD) : List D → Env → Sto → Prop
  | [], en, st => ok st ∧ Dn.nx en st
  | d :: r, en, st => ok st ∧ match putT t en d with
    | some en1 => body { Dn with nx := forD t body ok Dn r, ct := forD t body ok Dn r, bk := Dn.nx } en1 st
    | none => False
theorem forD_mono {t : Tg} {body : WpS} (mb : MonoS body) {ok : Sto → Prop} {A B : EndsD} (le : EndsD.Le A B) : ∀ (l : List D) (en : Env) (st : Sto), forD t body ok A l en st → forD t body ok B l en st
  | [], _, _, h => ⟨h.1, le.nx _ _ h.2⟩
  | d :: r, en, st, h => by
    rw [forD] at h ⊢
    refine ⟨h.1, ?_⟩
    have h2 := h.2
    split at h2
    · exact mb { A with nx := forD t body ok A r, ct := forD t body ok A r, bk := A.nx } _ _ _ ⟨forD_mono mb le r, le.rt, le.nx, forD_mono mb le r, le.ex⟩ h2
    · exact h2.elim
def tgTup : Tg → Bool
  | .tup _ => true
  | _ => false
theorem isTup_of {ok : Str → Bool} {t : Tg} {N : List Str} {e : Expr} (h : chkT ok t N e = true) (ht : tgTup t = true) : isTupE e = true := by
  cases t with
  | nm i => cases ht
  | tup l => cases e <;> first | rfl | (simp [chkT] at h)
def notSet : Expr → Bool
  | .Set .. => false
  | _ => true
theorem notSet_ok {e : Expr} (h : notSet e = true) (env : PySem.Env) : ∀ x, foldedSetIterable e env x = pure x := by
  intro x
  cases e <;> first | rfl | (simp [notSet] at h)
def sFor (t : Tg) (i : SemI) (b : List SemS) : SemS where
  chk N sc st := match st with | .For tg e body [] _ => chkT (locB sc) t N tg && notSet e && (!i.tup || tgTup t) && i.chk N sc e && chkB b N sc body | _ => false
  req G k := i.req G k ∧ reqB b G k
  lp := true
  wp Dn en st := i.wp en st (fun items ok st1 => forD t (wpB b) ok Dn items en st1) (fun x st' => Dn.ex x en st')
  mono A B en st le h := i.mono _ _ _ _ _ _ h (fun d o s hd => forD_mono (wpB_mono b) le _ _ _ hd) fun x s hx => le.ex x en s hx
  sound := by
    intro G k X W st gd hfn tk hl rq hc
    split at hc
    · rename_i tg e body pos
      simp only [Bool.and_eq_true] at hc
      obtain ⟨⟨⟨⟨h1, h2⟩, h3⟩, h4⟩, h5⟩ := hc
      have hg := pg_sound G k X gd (fun _ q => locB_ok hfn q) t tg h1
      have pi := i.sound G k X W tg e gd tk rq.1 (fun q => isTup_of h1 (by rw [q] at h3; simpa using h3)) h4
      have base := ps_for (pos := pos) (hl rfl) gd.calm pi hg (pss_sound G k X W gd hfn tk b body (fun _ => hl rfl) rq.2 h5) (notSet_ok h2 _)
      refine ⟨fun pins s σ H Dn I h => base.run pins s σ H Dn I ?_⟩
      obtain ⟨mu, en, st, R, h⟩ := h
      refine ⟨mu, en, st, R, i.mono _ _ _ _ _ _ h (fun items ok st1 hF mu1 J H1 s1 r1 hJ => ?_) fun x st' hx => PostXS.ofX R hx⟩
      refine ⟨fun j m σ' H' => m = items.length - j ∧ j ≤ items.length ∧ ∃ mu' en' st', Step mu1 H1 mu' H' ∧ RelE G.K mu' H' en' st' σ' ∧ forD t (wpB b) ok (PostS G mu H Dn W) (items.drop j) en' st', ⟨_, rfl, Nat.zero_le _, mu1, en, st1, Step.refl _ _, R.step s1 r1, by rw [List.drop_zero]; exact hF⟩, ?_⟩
      rintro j m σ' H' ⟨rfl, hj, mu', en', st', s', R', hD⟩
      by_cases hlt : j < items.length
      · rw [List.drop_eq_getElem_cons hlt, forD] at hD
        obtain ⟨hok, hD⟩ := hD
        obtain ⟨go, yl⟩ := (hJ mu' st' H' s' R'.sto hok j).1 items[j] (List.getElem?_eq_getElem hlt)
        refine .inr ⟨go, fun σ2 H2 => j + 1 ≤ items.length ∧ ∃ mu2 en2 st2, Step mu1 H1 mu2 H2 ∧ RelE G.K mu2 H2 en2 st2 σ2 ∧ forD t (wpB b) ok (PostS G mu H Dn W) (items.drop (j + 1)) en2 st2, fun σ2 H2 ⟨q1, q2⟩ => ⟨items.length - (j + 1), by omega, rfl, q1, q2⟩, fun x H2 hy => ?_⟩
        obtain ⟨s2, r2, q2⟩ := yl x H2 hy
        split at hD
        · rename_i en1 he
          refine gOf_ok t x σ' H2 _ mu' en' en1 st' items[j] (R'.step s2 r2) q2 he fun σ3 R3 _ => ⟨mu', en1, st', R3, wpB_mono b _ _ _ _ ?_ hD⟩
          have st3 := s1.trans (s'.trans s2)
          refine ⟨fun en4 st4 h4 mu4 σ4 H4 s4 R4 => ⟨hlt, mu4, en4, st4, (s'.trans s2).trans s4, R4, h4⟩, fun _ _ h => PostD.step st3 h, fun _ _ h => PostN.step st3 h, fun en4 st4 h4 mu4 σ4 H4 s4 R4 => ⟨hlt, mu4, en4, st4, (s'.trans s2).trans s4, R4, h4⟩, fun _ _ _ h => PostXS.step st3 h⟩
        · exact hD.elim
      · have e : j = items.length := by omega
        subst e
        rw [List.drop_length, forD] at hD
        exact .inl ⟨(hJ mu' st' H' s' R'.sto hD.1 _).2 rfl, hD.2 mu' σ' H' (s1.trans s') R'⟩
    · cases hc
/-- while, by an invariant and a measure -/
def whD (t : SemT) (body : WpS) (Dn : EndsD) (en : Env) (st : Sto) : Prop :=
  ∃ Inv : Nat → Env → Sto → Prop, (∃ m, Inv m en st) ∧ ∀ m en st, Inv m en st → t.wp en st (fun c st1 => match c with
    | true => body { Dn with nx := fun en' st' => ∃ m', m' < m ∧ Inv m' en' st', ct := fun en' st' => ∃ m', m' < m ∧ Inv m' en' st', bk := Dn.nx } en st1
    | false => Dn.nx en st1) (fun x st' => Dn.ex x en st')
def sWhile (t : SemT) (b : List SemS) : SemS where
  chk N sc st := match st with | .While c body [] _ => t.chk N sc c && chkB b N sc body | _ => false
  req G k := t.req G k ∧ reqB b G k
  lp := true
  wp Dn en st := whD t (wpB b) Dn en st
  mono A B en st le h := by
    obtain ⟨Iv, h0, hs⟩ := h
    refine ⟨Iv, h0, fun m en st hi => t.mono _ _ _ _ _ _ (hs m en st hi) (fun c s hc => ?_) fun x s hx => le.ex x en s hx⟩
    split at hc
    · exact wpB_mono b { A with nx := fun en' st' => ∃ m', m' < m ∧ Iv m' en' st', ct := fun en' st' => ∃ m', m' < m ∧ Iv m' en' st', bk := A.nx } _ _ _ ⟨fun _ _ h => h, le.rt, le.nx, fun _ _ h => h, le.ex⟩ hc
    · exact le.nx _ _ hc
  sound := by
    intro G k X W st gd hfn tk hl rq hc
    split at hc
    · rename_i c body pos
      simp only [Bool.and_eq_true] at hc
      have base := ps_while (pos := pos) (hl rfl) (t.sound G k X W c gd tk rq.1 hc.1) (pss_sound G k X W gd hfn tk b body (fun _ => hl rfl) rq.2 hc.2)
      refine ⟨fun pins s σ H Dn I h => base.run pins s σ H Dn I ?_⟩
      obtain ⟨mu, en, st, R, Iv, ⟨m0, h0⟩, hs⟩ := h
      refine ⟨fun m σ' H' => ∃ mu' en' st', Step mu H mu' H' ∧ RelE G.K mu' H' en' st' σ' ∧ Iv m en' st', ⟨m0, mu, en, st, Step.refl _ _, R, h0⟩, ?_⟩
      rintro m σ' H' ⟨mu', en', st', s', R', hi⟩
      refine tt1 t.mono R' (t.mono _ _ _ _ _ _ (hs m en' st' hi) (fun _ _ h => h) fun x st2 hx => PostXS.ofX R' (PostXS.step s' hx)) fun d st1 mu1 H1 hF s1 r1 => ?_
      cases d with
      | true =>
        rw [if_pos rfl]
        refine ⟨fun σ2 H2 => ∃ m', m' < m ∧ ∃ mu2 en2 st2, Step mu H mu2 H2 ∧ RelE G.K mu2 H2 en2 st2 σ2 ∧ Iv m' en2 st2, fun σ2 H2 ⟨m', hm, q⟩ => ⟨m', hm, q⟩, mu1, en', st1, R'.step s1 r1, wpB_mono b _ _ _ _ ?_ hF⟩
        have st3 := s'.trans s1
        exact ⟨fun en4 st4 ⟨m', hm, h4⟩ mu4 σ4 H4 s4 R4 => ⟨m', hm, mu4, en4, st4, st3.trans s4, R4, h4⟩, fun _ _ h => PostD.step st3 h, fun _ _ h => PostN.step st3 h, fun en4 st4 ⟨m', hm, h4⟩ mu4 σ4 H4 s4 R4 => ⟨m', hm, mu4, en4, st4, st3.trans s4, R4, h4⟩, fun _ _ _ h => PostXS.step st3 h⟩
      | false =>
        rw [if_neg (by simp)]
        exact hF mu1 σ' H1 (s'.trans s1) (R'.step s1 r1)
    · cases hc
end Mi
namespace Mi
open PySem PySem.Spec PyProof.Rows L2

/-! ### comprehensions -/
def wipeD (en : Env) : List Nat → Env
  | [] => en
  | v :: vs => (wipeD en vs).set v none
theorem wipeD_len (en : Env) : ∀ vs, (wipeD en vs).length = en.length
  | [] => rfl
  | v :: vs => by rw [wipeD, List.length_set, wipeD_len en vs]
theorem wipe_get (σ : L2.St) (i : Nat) : ∀ vs : List Nat, (wipe σ vs)[i]? = if i ∈ vs then (if i < σ.length then some none else none) else σ[i]?
  | [] => by simp [wipe]
  | v :: vs => by
    rw [wipe]
    by_cases h : v = i
    · subst h
      by_cases hl : v < σ.length
      · rw [List.getElem?_set_self (by rw [wipe_length]; exact hl)]
        simp [hl]
      · rw [List.getElem?_eq_none (by rw [List.length_set, wipe_length]; omega)]
        simp [hl]
    · rw [List.getElem?_set_ne h, wipe_get σ i vs]
      have : (i ∈ v :: vs) ↔ (i ∈ vs) := by
        rw [List.mem_cons]
        exact ⟨fun z => z.elim (fun q => absurd q.symm h) id, .inr⟩
      simp only [this]
theorem wipeD_get (en : Env) (i : Nat) : ∀ vs : List Nat, (wipeD en vs)[i]? = if i ∈ vs then (if i < en.length then some none else none) else en[i]?
  | [] => by simp [wipeD]
  | v :: vs => by
    rw [wipeD]
    by_cases h : v = i
    · subst h
      by_cases hl : v < en.length
      · rw [List.getElem?_set_self (by rw [wipeD_len]; exact hl)]
        simp [hl]
      · rw [List.getElem?_eq_none (by rw [List.length_set, wipeD_len]; omega)]
        simp [hl]
    · rw [List.getElem?_set_ne h, wipeD_get en i vs]
      have : (i ∈ v :: vs) ↔ (i ∈ vs) := by
        rw [List.mem_cons]
        exact ⟨fun z => z.elim (fun q => absurd q.symm h) id, .inr⟩
      simp only [this]
theorem wipe_same {σ σ' : L2.St} {vs ss : List Nat} (hl : σ'.length = σ.length) (hs : ∀ i ∈ ss, i ∈ vs) (h : ∀ i, i ∉ ss → σ'[i]? = (wipe σ vs)[i]?) : wipe σ' vs = wipe σ vs := by
  apply List.ext_getElem?
  intro i
  rw [wipe_get, wipe_get]
  by_cases hi : i ∈ vs
  · simp only [hi, if_true, hl]
  · simp only [hi, if_false]
    rw [h i (fun z => hi (hs i z)), wipe_get]
    simp only [hi, if_false]
theorem RelE.wipe {K : PySem.W.Frag} {mu : Mu} {H : Hp} {en : Env} {st : Sto} {σ : L2.St} (R : RelE K mu H en st σ) (vs : List Nat) : RelE K mu H (wipeD en vs) st (L2.wipe σ vs) := by
  refine ⟨R.sto, fun i d e => ?_, by rw [wipeD_len, wipe_length]; exact R.len⟩
  rw [wipeD_get] at e
  by_cases hi : i ∈ vs
  · simp only [hi, if_true] at e
    split at e <;> cases e
  · simp only [hi, if_false] at e
    obtain ⟨v, h1, h2⟩ := R.env i d e
    refine ⟨v, ?_, h2⟩
    rw [wipe_get]
    simp only [hi, if_false]
    exact h1
/-- the block's names as the machine has them -/
def rlS (sc scope : Scope) : Scope := relabel scope (envS sc)
theorem rlS_eq (scope : Scope) (env : PySem.Env) : relabel scope env = rlS env.scope scope := rfl
theorem lookup_keep {sc : Scope} {scope : Scope} {x : Str} {k : NameKind} (hk : k ≠ .free) (h : scope.names.lookup x = some k) : (rlS sc scope).names.lookup x = some k := lookup_relS_keep hk h
theorem blk_good {G : GEnv} {k : Nat} {X : Cx} (gd : Good G k X) {scope : Scope} {own : List (Str × Nat)} (ok : BlkOk X.N X.env.scope scope own) (s : Shared) (H : Hp) (C : Addr) (cl : List (Str × Addr)) (fp : List Addr) :
    Good G k (X.blk s H scope (compEnvC scope cl C X.env) fp) := ⟨gd.prog, gd.w, gd.K, gd.mg, gd.base, gd.room, gd.nd, gd.calm, ok.kind, gd.guards⟩
theorem blk_store {X : Cx} {scope : Scope} (s : Shared) (H : Hp) (C : Addr) (cl : List (Str × Addr)) (fp : List Addr) (x : Str) (h : locB scope x = true) :
    Loc (X.blk s H scope (compEnvC scope cl C X.env) fp).env.scope x ∧ ((X.blk s H scope (compEnvC scope cl C X.env) fp).fn x = true ∨ (X.blk s H scope (compEnvC scope cl C X.env) fp).env.scope.names.lookup x = some .local) := by
  unfold locB at h
  split at h
  · rename_i e
    have := lookup_keep (sc := X.env.scope) (by decide) e
    exact ⟨.inl this, .inr this⟩
  · rename_i e
    have := lookup_keep (sc := X.env.scope) (by decide) e
    exact ⟨.inr this, .inl (by show (scope.names.lookup x == some .cell) = true; rw [e]; rfl)⟩
  · cases h
/-- an optional test -/
def chkC : Option SemT → List Str → Scope → List Expr → Bool
  | none, _, _, [] => true
  | some a, N, sc, [e] => a.chk N sc e
  | _, _, _, _ => false
def reqC : Option SemT → GEnv → Nat → Prop
  | none, _, _ => True
  | some a, G, k => a.req G k
def wpC (a : Option SemT) : WpT := fun en st Q E => match a with
  | none => Q true st
  | some a => a.wp en st Q E
theorem wpC_mono (a : Option SemT) : MonoT (wpC a) := fun en st Q Q' E E' h f g => by
  cases a with
  | none => exact f _ _ h
  | some a => exact a.mono _ _ _ _ _ _ h f g
theorem pts_sound (G : GEnv) (k : Nat) (X : Cx) (W : WX) (gd : Good G k X) (tk : Takes X W) (a : Option SemT) (es : List Expr) (rq : reqC a G k) (hc : chkC a X.N X.env.scope es = true) : PTs X es (tWT G (wpC a) W) := by
  cases a with
  | none =>
    cases es with
    | nil =>
      refine ⟨fun pins s σ H Q I h => pts_nil.run pins s σ H Q I ?_⟩
      obtain ⟨mu, en, st, R, h⟩ := h
      exact h mu H (Step.refl _ _) R.sto
    | cons _ _ => simp [chkC] at hc
  | some a =>
    cases es with
    | nil => simp [chkC] at hc
    | cons e r =>
      cases r with
      | nil => exact pts_one (a.sound G k X W e gd tk rq hc)
      | cons _ _ => simp [chkC] at hc
/-! ### an object that is protected for a while -/
def Mu.prot (mu : Mu) (A : Addr) : Mu := ⟨mu.l, A :: mu.av⟩
section
variable {K : PySem.W.Frag} {mu : Mu} {H : Hp} {A : Addr}
theorem Mu.prot_has {a : Addr} (h : (mu.prot A).has a) : mu.has a ∨ a = A := by
  rcases h with h | h
  · exact .inl (.inl h)
  · rcases List.mem_cons.mp h with h | h
    · exact .inr h
    · exact .inl (.inr h)
mutual
theorem RV.prot (hA : H A = none) : ∀ {d : D} {v : V}, RV K mu H d v → RV K (mu.prot A) H d v
  | .non, _, h => h
  | .bl _, _, h => h
  | .int _, _, h => h
  | .str _, _, h => h
  | .tup ds, _, ⟨a, vs, e, h, r⟩ => ⟨a, vs, e, h, RVs.prot hA r⟩
  | .lst ds, _, ⟨a, vs, e, h, n, r⟩ => ⟨a, vs, e, h, fun z => (Mu.prot_has z).elim n (fun q => by subst q; rw [hA] at h; cases h), RVs.prot hA r⟩
  | .rol ds, _, ⟨a, vs, e, h, r⟩ => ⟨a, vs, e, h, RVs.prot hA r⟩
  | .dic _ _, _, h => h
  | .ref n, _, h => h
theorem RVs.prot (hA : H A = none) : ∀ {ds : List D} {vs : List V}, RVs K mu H ds vs → RVs K (mu.prot A) H ds vs
  | [], _, h => h
  | _ :: _, _, ⟨v, r, e, h, t⟩ => ⟨v, r, e, RV.prot hA h, RVs.prot hA t⟩
end
mutual
theorem RV.chg {us us' : List V} (ha : A ∈ mu.av) (hA : H A = some (.lst us)) : ∀ {d : D} {v : V}, RV K mu H d v → RV K mu (upd H A (.lst us')) d v
  | .non, _, h => h
  | .bl _, _, h => h
  | .int _, _, h => h
  | .str _, _, h => h
  | .tup ds, _, ⟨a, vs, e, h, r⟩ => by
    refine ⟨a, vs, e, ?_, RVs.chg ha hA r⟩
    rcases h with (h | ⟨o, h⟩) | h
    · exact .inl (.inl (by rw [upd_ne (fun z => by rw [z, hA] at h; cases h)]; exact h))
    · exact .inl (.inr ⟨o, by rw [upd_ne (fun z => by rw [z, hA] at h; cases h)]; exact h⟩)
    · exact .inr h
  | .lst ds, _, ⟨a, vs, e, h, n, r⟩ => ⟨a, vs, e, by rw [upd_ne (fun z => n (.inr (by rw [z]; exact ha)))]; exact h, n, RVs.chg ha hA r⟩
  | .rol ds, _, ⟨a, vs, e, h, r⟩ => ⟨a, vs, e, h.elim .inl fun ⟨o, h⟩ => .inr ⟨o, by rw [upd_ne (fun z => by rw [z, hA] at h; cases h)]; exact h⟩, RVs.chg ha hA r⟩
  | .dic _ _, _, h => h
  | .ref n, _, h => h
theorem RVs.chg {us us' : List V} (ha : A ∈ mu.av) (hA : H A = some (.lst us)) : ∀ {ds : List D} {vs : List V}, RVs K mu H ds vs → RVs K mu (upd H A (.lst us')) ds vs
  | [], _, h => h
  | _ :: _, _, ⟨v, r, e, h, t⟩ => ⟨v, r, e, RV.chg ha hA h, RVs.chg ha hA t⟩
end
theorem RelS.prot {st : Sto} (R : RelS K mu H st) (hA : H A = none) : RelS K (mu.prot A) (upd H A (.lst [])) st := by
  have np : A ∉ mu.l := fun z => R.at (.inl z) hA
  have s : Step (mu.prot A) H (mu.prot A) (upd H A (.lst [])) := Step.newV hA
  refine ⟨R.nd, R.len, fun n o a h1 h2 => ?_, fun a ha => ?_⟩
  · have r := R.obj n o a h1 h2
    have ne : a ≠ A := fun z => np (by rw [← z]; exact List.mem_of_getElem? h2)
    cases o with
    | lst ds => obtain ⟨vs, h3, h4⟩ := r; exact ⟨vs, by rw [upd_ne ne]; exact h3, (h4.prot hA).step s⟩
    | dic _ _ => exact r.elim
  · rcases List.mem_cons.mp ha with e | ha
    · rw [e]; exact ⟨by rw [upd_same]; simp, np⟩
    · exact ⟨s.live a (R.av a ha).1, (R.av a ha).2⟩
theorem Step.prot (hA : H A = none) : Step mu H (mu.prot A) (upd H A (.lst [])) := by
  have q : Step mu H mu (upd H A (.lst [])) := Step.newV hA
  exact ⟨fun a h => List.mem_cons_of_mem _ h, fun a h => (List.mem_cons.mp h).elim (fun z => .inr (by rw [z]; exact hA)) .inl, q.pre, q.keep, q.live⟩
theorem RelS.chg {st : Sto} {us us' : List V} (R : RelS K mu H st) (ha : A ∈ mu.av) (hA : H A = some (.lst us)) : RelS K mu (upd H A (.lst us')) st := by
  refine ⟨R.nd, R.len, fun n o a h1 h2 => ?_, fun a hb => ⟨?_, (R.av a hb).2⟩⟩
  · have r := R.obj n o a h1 h2
    have ne : a ≠ A := fun z => (R.av A ha).2 (by rw [← z]; exact List.mem_of_getElem? h2)
    cases o with
    | lst ds => obtain ⟨vs, h3, h4⟩ := r; exact ⟨vs, by rw [upd_ne ne]; exact h3, h4.chg ha hA⟩
    | dic _ _ => exact r.elim
  · by_cases e : a = A
    · rw [e, upd_same]; simp
    · rw [upd_ne e]; exact (R.av a hb).1
end
abbrev NoX : QX := fun _ _ => False
/-- the turns of a comprehension over the items that are left; acc: what is made so far -/
def compD (t : Tg) (vs : List Nat) (c : WpT) (elt : WpE) (ok : Sto → Prop) (en : Env) (Q : List D → Sto → Prop) : List D → List D → Sto → Prop
  | [], acc, st => ok st ∧ Q acc st
  | d :: r, acc, st => ok st ∧ match putT t (wipeD en vs) d with
    | some en1 => c en1 st (fun b st1 => match b with
      | true => elt en1 st1 (fun y st2 => acc.length < sizeLine ∧ compD t vs c elt ok en Q r (acc ++ [y]) st2) NoX
      | false => compD t vs c elt ok en Q r acc st1) NoX
    | none => False
theorem compD_mono {t : Tg} {vs : List Nat} {c : WpT} {elt : WpE} (mc : MonoT c) (me : MonoE elt) {ok : Sto → Prop} {en : Env} {Q Q' : List D → Sto → Prop} (f : ∀ d s, Q d s → Q' d s) : ∀ (l acc : List D) (st : Sto), compD t vs c elt ok en Q l acc st → compD t vs c elt ok en Q' l acc st
  | [], _, _, h => ⟨h.1, f _ _ h.2⟩
  | d :: r, acc, st, h => by
    rw [compD] at h ⊢
    refine ⟨h.1, ?_⟩
    have h2 := h.2
    split at h2
    · exact mc _ _ _ _ _ _ h2 (fun b st1 hb => by
        split at hb
        · exact me _ _ _ _ _ _ hb (fun y st2 hy => ⟨hy.1, compD_mono mc me f r _ _ hy.2⟩) fun _ _ h => h
        · exact compD_mono mc me f r _ _ hb) fun _ _ h => h
    · exact h2.elim
def slIn (t : Tg) (vs : List Nat) : Bool := (slT t).all fun i => vs.contains i
/-- [elt for t in i if c]; own: the block's own names and their slots; m: whether the list will be changed -/
def eComp (m_ : Bool) (t : Tg) (own : List (Str × Nat)) (i : SemI) (c : Option SemT) (elt : SemE) : SemE where
  chk N sc e := match e with
    | .ListComp el [⟨tg, iter, ifs, 0⟩] scope _ => blkC N sc scope own && slIn t (own.map Prod.snd) && notSet iter && (!i.tup || tgTup t) && i.chk N sc iter && chkT (locB scope) t N tg && chkC c N (rlS sc scope) ifs && elt.chk N (rlS sc scope) el
    | _ => false
  req G k := i.req G k ∧ reqC c G k ∧ elt.req G k
  wp en st Q E := i.wp en st (fun items ok st1 => compD t (own.map Prod.snd) (wpC c) elt.wp ok en (fun ds st2 => newL m_ ds st2 Q) items [] st1) E
  mono en st Q Q' E E' h f g := i.mono _ _ _ _ _ _ h (fun d o s hd => compD_mono (wpC_mono c) elt.mono (Q := fun ds st2 => newL m_ ds st2 Q) (fun ds s hs => newL_mono hs f) _ _ _ hd) g
  sound := by
    intro G k X W e gd tk rq hc
    split at hc
    · rename_i el tg iter ifs scope pos
      simp only [Bool.and_eq_true] at hc
      obtain ⟨⟨⟨⟨⟨⟨⟨h1, h2⟩, h3⟩, h4⟩, h5⟩, h6⟩, h7⟩, h8⟩ := hc
      have ok := blkOk_by h1
      have pi := i.sound G k X W tg iter gd tk rq.1 (fun q => isTup_of h6 (by rw [q] at h4; simpa using h4)) h5
      have hg : ∀ (s : Shared) (H : Hp) (C : Addr) (cl : List (Str × Addr)) (fp : List Addr), PG (X.blk s H scope (compEnvC scope cl C X.env) fp) tg (gOf G.K t) := fun s H C cl fp =>
        pg_sound G k _ (blk_good gd ok s H C cl fp) (fun x hx => blk_store s H C cl fp x hx) t tg h6
      have ht : ∀ (s : Shared) (H : Hp) (C : Addr) (cl : List (Str × Addr)) (fp : List Addr), PTs (X.blk s H scope (compEnvC scope cl C X.env) fp) ifs (tWT G (wpC c) fun _ _ _ _ => False) := fun s H C cl fp =>
        pts_sound G k _ _ (blk_good gd ok s H C cl fp) takes0 c ifs rq.2.1 h7
      have he : ∀ (s : Shared) (H : Hp) (C : Addr) (cl : List (Str × Addr)) (fp : List Addr), PE (X.blk s H scope (compEnvC scope cl C X.env) fp) el (tW G elt.wp fun _ _ _ _ => False) := fun s H C cl fp =>
        elt.sound G k _ _ el (blk_good gd ok s H C cl fp) takes0 rq.2.2 h8
      have base := pe_lc (pos := pos) gd.calm gd.nd pi ok hg ht he (notSet_ok h3 _)
      refine ⟨fun pins s σ H Q I h => base.run pins s σ H Q I ?_⟩
      obtain ⟨mu, en, st, R, h⟩ := h
      refine ⟨mu, en, st, R, i.mono _ _ _ _ _ _ h (fun items ok' st1 hF mu1 J H1 s1 r1 hJ => ?_) fun _ _ hx => hx⟩
      intro A hA
      have nA : ¬ mu1.has A := fun z => r1.at z hA
      refine ⟨fun j m H' => m = items.length - j ∧ j ≤ items.length ∧ ∃ (m' : Mu) (st' : Sto) (acc : List D) (us : List V), (A ∈ m'.av ∧ ∀ a, a ∈ mu1.av → a ∈ m'.av) ∧ Step mu1 H1 m' H' ∧ RelE G.K m' H' en st' σ ∧ H' A = some (.lst us) ∧ RVs G.K m' H' acc us ∧
        compD t (own.map Prod.snd) (wpC c) elt.wp ok' en (fun ds st2 => newL m_ ds st2 (PostD G mu H Q)) (items.drop j) acc st', ⟨_, rfl, Nat.zero_le _, mu1.prot A, st1, [], [], ⟨List.mem_cons_self, fun a ha => List.mem_cons_of_mem _ ha⟩, Step.prot hA, ⟨r1.prot hA, ?_, R.len⟩, upd_same, rfl, by rw [List.drop_zero]; exact hF⟩, ?_⟩
      · intro i d e
        obtain ⟨v, h1, h2⟩ := (R.env.step s1) i d e
        exact ⟨v, h1, h2.step (Step.prot hA)⟩
      rintro j m H' ⟨rfl, hj, m', st', acc, us, hav, s', R', hAA, racc, hD⟩
      have hAm : A ∈ m'.av := hav.1
      have s0 : Step mu1 H1 ⟨m'.l, mu1.av⟩ H' := ⟨fun _ h => h, fun _ h => .inl h, s'.pre, s'.keep, s'.live⟩
      have nAl : A ∉ m'.l := (R'.sto.av A hAm).2
      have sub0 : ∀ a, (⟨m'.l, mu1.av⟩ : Mu).has a → m'.has a := fun a ha => ha.elim .inl fun z => .inr (hav.2 a z)
      have un : ∀ {d : D} {v : V}, RV G.K m' H' d v → RV G.K ⟨m'.l, mu1.av⟩ H' d v := fun r => r.sub (n := m'.l.length) sub0 (fun _ _ => rfl) r.nr
      have uns : ∀ {d : List D} {v : List V}, RVs G.K m' H' d v → RVs G.K ⟨m'.l, mu1.av⟩ H' d v := fun r => r.sub (n := m'.l.length) sub0 (fun _ _ => rfl) r.nr
      have RS0 : RelS G.K ⟨m'.l, mu1.av⟩ H' st' := ⟨R'.sto.nd, R'.sto.len, fun n o a h1 h2 => by
        have r := R'.sto.obj n o a h1 h2
        cases o with
        | lst ds => obtain ⟨vs, h3, h4⟩ := r; exact ⟨vs, h3, uns h4⟩
        | dic _ _ => exact r.elim, fun a ha => R'.sto.av a (hav.2 a ha)⟩
      by_cases hlt : j < items.length
      · rw [List.drop_eq_getElem_cons hlt, compD] at hD
        obtain ⟨hok, hD⟩ := hD
        obtain ⟨go, yl⟩ := (hJ m' st' H' s' R'.sto hok j).1 items[j] (List.getElem?_eq_getElem hlt)
        refine .inr ⟨go, fun H2 => j + 1 ≤ items.length ∧ ∃ (m' : Mu) (st' : Sto) (acc : List D) (us : List V), (A ∈ m'.av ∧ ∀ a, a ∈ mu1.av → a ∈ m'.av) ∧ Step mu1 H1 m' H2 ∧ RelE G.K m' H2 en st' σ ∧ H2 A = some (.lst us) ∧ RVs G.K m' H2 acc us ∧
          compD t (own.map Prod.snd) (wpC c) elt.wp ok' en (fun ds st2 => newL m_ ds st2 (PostD G mu H Q)) (items.drop (j + 1)) acc st', fun H2 ⟨q1, q2⟩ => ⟨items.length - (j + 1), by omega, rfl, q1, q2⟩, fun x H2 hy => ?_⟩
        obtain ⟨s2, r2, q2⟩ := yl x H2 hy
        have R2 := R'.step s2 r2
        have hA2 : H2 A = some (.lst us) := s2.keep A _ hAA (.inl nAl)
        split at hD
        · rename_i en1 he
          refine gOf_ok t x (L2.wipe σ (own.map Prod.snd)) H2 _ m' _ en1 st' items[j] (R2.wipe _) q2 he fun σ3 R3 k3 => ⟨wipe_same (by rw [← R3.len, putT_len t _ _ _ he, wipeD_len, R2.len]) (fun i hi => ?_) k3, ?_⟩
          · have := List.all_eq_true.mp h2 i hi
            simpa using this
          · refine tt1 (wpC_mono c) R3 ((wpC_mono c) _ _ _ _ _ _ hD (fun _ _ h => h) fun _ _ h => h.elim) fun b st4 m4 H4 hb s4 r4 => ?_
            have hA4 : H4 A = some (.lst us) := s4.keep A _ hA2 (.inl nAl)
            cases b with
            | true =>
              rw [if_pos rfl]
              refine tw1 elt.mono (R3.step s4 r4) (elt.mono _ _ _ _ _ _ hb (fun _ _ h => h) fun _ _ h => h.elim) fun y st5 m5 v5 H5 hy5 s5 r5 q5 => ?_
              have nA4 : A ∉ m4.l := (r4.av A (s4.av A hAm)).2
              have hA5 : H5 A = some (.lst us) := s5.keep A _ hA4 (.inl nA4)
              have hAm5 : A ∈ m5.av := s5.av A (s4.av A hAm)
              have s25 := (s2.trans s4).trans s5
              have r6 : RVs G.K m5 (upd H5 A (.lst (us ++ [v5]))) (acc ++ [y]) (us ++ [v5]) := ((racc.step s25).app (show RVs G.K m5 H5 [y] [v5] from ⟨v5, [], rfl, q5, rfl⟩)).chg hAm5 hA5
              have len5 : acc.length = us.length := racc.len
              refine ⟨us, hA5, by rw [← len5]; exact hy5.1, hlt, m5, st5, acc ++ [y], us ++ [v5], ⟨hAm5, fun a ha => s25.av a (hav.2 a ha)⟩, ?_, ⟨r5.chg hAm5 hA5, fun i d e => ?_, R'.len⟩, upd_same, r6, hy5.2⟩
              · have s15 := s'.trans s25
                refine ⟨s15.av, s15.nav, s15.pre, fun a o e n => ?_, fun a e => ?_⟩
                · rw [upd_ne (fun z => by rw [z, hA] at e; cases e)]; exact s15.keep a o e n
                · by_cases z : a = A
                  · rw [z, upd_same]; simp
                  · rw [upd_ne z]; exact s15.live a e
              · obtain ⟨w, e1, e2⟩ := (R'.step s25 r5).env i d e
                exact ⟨w, e1, e2.chg hAm5 hA5⟩
            | false =>
              rw [if_neg (by simp)]
              have s24 := s2.trans s4
              exact ⟨hlt, m4, st4, acc, us, ⟨s4.av A hAm, fun a ha => s24.av a (hav.2 a ha)⟩, s'.trans s24, R'.step s24 r4, hA4, racc.step s24, hb⟩
        · exact hD.elim
      · have e : j = items.length := by omega
        subst e
        rw [List.drop_length, compD] at hD
        refine .inl ⟨(hJ m' st' H' s' R'.sto hD.1 _).2 rfl, ?_⟩
        have nA0 : ¬ (⟨m'.l, mu1.av⟩ : Mu).has A := fun z => z.elim nAl fun z => nA (.inr z)
        have hQ := hD.2
        cases m_ with
        | false => exact hQ ⟨m'.l, mu1.av⟩ (.ref A) H' (s1.trans s0) RS0 ⟨A, us, rfl, hAA, nA0, uns racc⟩
        | true =>
          obtain ⟨ext, ep, fr⟩ := s'.pre
          have subp : ∀ a, ((⟨m'.l, mu1.av⟩ : Mu).push A).has a → m'.has a := fun a ha => by
            rcases ha with ha | ha
            · rcases List.mem_append.mp ha with z | z
              · exact .inl z
              · have : a = A := by simpa using z
                rw [this]; exact .inr hAm
            · exact .inr (hav.2 a ha)
          have idx : ∀ i, i < m'.l.length → ((⟨m'.l, mu1.av⟩ : Mu).push A).l[i]? = m'.l[i]? := fun i hi => List.getElem?_append_left hi
          refine hQ ((⟨m'.l, mu1.av⟩ : Mu).push A) (.ref A) H' (s1.trans ⟨fun _ h => h, fun _ h => .inl h, ⟨ext ++ [A], by show m'.l ++ [A] = _; rw [show m'.l = mu1.l ++ ext from ep, List.append_assoc], fun a ha => ?_⟩, s'.keep, s'.live⟩) ⟨?_, ?_, fun n o a h1 h2 => ?_, fun a ha => ⟨(R'.sto.av a (hav.2 a ha)).1, fun z => ?_⟩⟩ ⟨A, rfl, by show (m'.l ++ [A])[st'.length]? = _; rw [← R'.sto.len]; simp⟩
          · rcases List.mem_append.mp ha with z | z
            · exact fr a z
            · have : a = A := by simpa using z
              rw [this]; exact hA
          · show (m'.l ++ [A]).Nodup
            rw [List.nodup_append]
            exact ⟨R'.sto.nd, by simp, fun x hx y hy => by
              have : y = A := by simpa using hy
              subst this
              exact fun z => nAl (z ▸ hx)⟩
          · show (m'.l ++ [A]).length = _
            rw [List.length_append, List.length_append, R'.sto.len]; rfl
          · have h2 : (m'.l ++ [A])[n]? = some a := h2
            by_cases hn : n < m'.l.length
            · rw [List.getElem?_append_left hn] at h2
              rw [List.getElem?_append_left (by rw [← R'.sto.len]; exact hn)] at h1
              have r := R'.sto.obj n o a h1 h2
              cases o with
              | lst ds => obtain ⟨vs, h3, h4⟩ := r; exact ⟨vs, h3, h4.sub (n := m'.l.length) subp idx h4.nr⟩
              | dic _ _ => exact r.elim
            · have hnl : n = m'.l.length := by
                have := (List.getElem?_eq_some_iff.mp h2).1
                rw [List.length_append] at this
                simp at this
                omega
              subst hnl
              rw [List.getElem?_append_right (Nat.le_refl _)] at h2
              rw [R'.sto.len, List.getElem?_append_right (Nat.le_refl _)] at h1
              simp at h1 h2
              subst h1 h2
              exact ⟨us, hAA, racc.sub (n := m'.l.length) subp idx racc.nr⟩
          · rcases List.mem_append.mp z with z | z
            · exact (R'.sto.av a (hav.2 a ha)).2 z
            · have : a = A := by simpa using z
              rw [this] at ha
              exact nA (.inr ha)
    · cases hc
end Mi
namespace Mi
open PySem PySem.Spec PyProof.Rows L2

theorem seq_sq {K K' : PySem.W.Frag} (hK : K' = K) {mu : Mu} {H : Hp} {st : Sto} (R : RelS K mu H st) {d : D} {v : V} {ds : List D} (h : seqOf st d = some ds) (r : RV K mu H d v) :
    ∃ a vs, v = .ref a ∧ (SqL K' H a vs ∨ SqT K' H a vs) ∧ RVs K mu H ds vs := by
  subst hK
  obtain ⟨a, vs, e, h1, h2⟩ := seq_at R h r
  rcases h1 with ⟨_, h1⟩ | ⟨_, h1⟩
  · exact ⟨a, vs, e, .inr h1, h2⟩
  · exact ⟨a, vs, e, .inl (.of h1), h2⟩
theorem RVs.one {K : PySem.W.Frag} {mu : Mu} {H : Hp} {d : D} {vs : List V} (r : RVs K mu H [d] vs) : ∃ v, vs = [v] ∧ RV K mu H d v := by
  obtain ⟨v, u, e, h, t⟩ := r
  cases (show u = [] from t)
  exact ⟨v, e, h⟩
theorem RVs.two {K : PySem.W.Frag} {mu : Mu} {H : Hp} {d e : D} {vs : List V} (r : RVs K mu H [d, e] vs) : ∃ v w, vs = [v, w] ∧ RV K mu H d v ∧ RV K mu H e w := by
  obtain ⟨v, u, e, h, t⟩ := r
  obtain ⟨w, e2, h2⟩ := t.one
  exact ⟨v, w, by rw [e, e2], h, h2⟩
/-! ### len, int, list, tuple, all, any -/
def lenD (st : Sto) (d : D) : Option Int := match d with
  | .str z => if z.length ≤ sizeLine then some z.length else none
  | d => (seqOf st d).map fun ds => (ds.length : Int)
def bLen : BIn where
  name := "len"
  val := .builtin "len"
  wp ds st Q := match ds with
    | [d] => (match lenD st d with | some n => Q (.int n) st | none => False)
    | _ => False
  mono ds st Q Q' h f := by
    split at h
    · split at h
      · exact f _ _ h
      · exact h.elim
    · exact h.elim
  sound := by
    intro G k X gd pins s σ H xs us Q I r h
    obtain ⟨mu, st, ds, R, rv, h⟩ := h
    split at h
    · rename_i d
      obtain ⟨v, rfl, r1⟩ := rv.one
      split at h
      · rename_i n hn
        unfold lenD at hn
        split at hn
        · rename_i z
          split at hn
          · rename_i hz
            cases hn
            cases (show v = V.str _ from r1)
            exact call_len pins s σ H _ us Q I r ⟨.str z, _, rfl, ⟨hz, rfl⟩, h mu _ H (Step.refl _ _) R rfl⟩
          · cases hn
        · cases e : seqOf st d with
          | none => rw [e] at hn; cases hn
          | some ds =>
            rw [e] at hn
            cases hn
            obtain ⟨a, vs, rfl, h1, h2⟩ := seq_sq gd.K R e r1
            refine call_len_seq pins s σ H _ us Q I r ⟨a, vs, rfl, h1, ?_⟩
            rw [← h2.len]
            exact h mu _ H (Step.refl _ _) R rfl
      · exact h.elim
    · exact h.elim
  boot := by decide +kernel
  kind := .inl ⟨_, rfl⟩
  nm := by decide +kernel
def bInt : BIn where
  name := "int"
  val := .type "int"
  wp ds st Q := match ds with
    | [.int i] => Q (.int i) st
    | _ => False
  mono ds st Q Q' h f := by
    split at h
    · exact f _ _ h
    · exact h.elim
  sound := by
    intro G k X gd pins s σ H xs us Q I r h
    obtain ⟨mu, st, ds, R, rv, h⟩ := h
    split at h
    · obtain ⟨v, rfl, r1⟩ := rv.one
      cases (show v = V.int _ from r1)
      exact call_int1 pins s σ H _ us Q I r (.inl ⟨_, rfl, h mu _ H (Step.refl _ _) R rfl⟩)
    · exact h.elim
  boot := by decide +kernel
  kind := .inr ⟨_, rfl⟩
  nm := by decide +kernel
def bList (m : Bool) : BIn where
  name := "list"
  val := .type "list"
  wp ds st Q := match ds with
    | [d] => (match seqOf st d with | some xs => newL m xs st Q | none => False)
    | _ => False
  mono ds st Q Q' h f := by
    split at h
    · split at h
      · exact newL_mono h f
      · exact h.elim
    · exact h.elim
  sound := by
    intro G k X gd pins s σ H xs us Q I r h
    obtain ⟨mu, st, ds, R, rv, h⟩ := h
    split at h
    · obtain ⟨v, rfl, r1⟩ := rv.one
      split at h
      · rename_i ys e
        obtain ⟨a, vs, rfl, h1, h2⟩ := seq_sq gd.K R e r1
        exact call_list_of pins s σ H _ us Q I r ⟨a, vs, rfl, h1, fun p hp => new_list m (Step.refl _ _) R h2 h hp⟩
      · exact h.elim
    · exact h.elim
  boot := by decide +kernel
  kind := .inr ⟨_, rfl⟩
  nm := by decide +kernel
def bTuple : BIn where
  name := "tuple"
  val := .type "tuple"
  wp ds st Q := match ds with
    | [d] => (match seqOf st d with | some xs => Q (.tup xs) st | none => False)
    | _ => False
  mono ds st Q Q' h f := by
    split at h
    · split at h
      · exact f _ _ h
      · exact h.elim
    · exact h.elim
  sound := by
    intro G k X gd pins s σ H xs us Q I r h
    obtain ⟨mu, st, ds, R, rv, h⟩ := h
    split at h
    · rename_i d
      obtain ⟨v, rfl, r1⟩ := rv.one
      split at h
      · rename_i ys e
        obtain ⟨a, vs, rfl, h1, h2⟩ := seq_at R e r1
        rcases h1 with ⟨⟨es, rfl⟩, h1⟩ | ⟨_, h1⟩
        · cases e
          exact call_tuple_of pins s σ H _ us Q I r ⟨a, vs, rfl, .inr ⟨gd.K' (P := fun K => SqT K H a vs) h1, h mu _ H (Step.refl _ _) R ⟨a, vs, rfl, h1, h2⟩⟩⟩
        · exact call_tuple_of pins s σ H _ us Q I r ⟨a, vs, rfl, .inl ⟨.of h1, fun p hp => new_tup (Step.refl _ _) R h2 h hp⟩⟩
      · exact h.elim
    · exact h.elim
  boot := by decide +kernel
  kind := .inr ⟨_, rfl⟩
  nm := by decide +kernel
/-- a row of bools -/
def blsOf : List D → Option (List Bool)
  | [] => some []
  | .bl b :: r => (blsOf r).map fun bs => b :: bs
  | _ :: _ => none
theorem blsOf_rel {K : PySem.W.Frag} {mu : Mu} {H : Hp} : ∀ {ds : List D} {vs : List V} {bs : List Bool}, RVs K mu H ds vs → blsOf ds = some bs → vs = bs.map V.bl
  | [], vs, bs, r, h => by
    cases (show some [] = some bs from h)
    exact r
  | d :: ds, vs, bs, ⟨v, u, e, r1, r2⟩, h => by
    cases d with
    | bl b =>
      rw [blsOf] at h
      cases e1 : blsOf ds with
      | none => rw [e1] at h; cases h
      | some bs1 =>
        rw [e1] at h
        cases h
        rw [e, show v = V.bl b from r1, blsOf_rel r2 e1]
        rfl
    | _ => simp [blsOf] at h
def bAll : BIn where
  name := "all"
  val := .builtin "all"
  wp ds st Q := match ds with
    | [d] => (match (lstOf st d).bind blsOf with | some bs => Q (.bl (bs.all id)) st | none => False)
    | _ => False
  mono ds st Q Q' h f := by
    split at h
    · split at h
      · exact f _ _ h
      · exact h.elim
    · exact h.elim
  sound := by
    intro G k X gd pins s σ H xs us Q I r h
    obtain ⟨mu, st, ds, R, rv, h⟩ := h
    split at h
    · rename_i d
      obtain ⟨v, rfl, r1⟩ := rv.one
      split at h
      · rename_i bs e
        cases e1 : lstOf st d with
        | none => rw [e1] at e; cases e
        | some ds =>
          rw [e1] at e
          obtain ⟨a, vs, rfl, h1, h2⟩ := lst_at R e1 r1
          have h3 := blsOf_rel h2 e
          subst h3
          exact cr_all gd.calm pins s σ H _ us Q I r ⟨a, bs, rfl, .of h1, h mu _ H (Step.refl _ _) R rfl⟩
      · exact h.elim
    · exact h.elim
  boot := by decide +kernel
  kind := .inl ⟨_, rfl⟩
  nm := by decide +kernel
def bAny : BIn where
  name := "any"
  val := .builtin "any"
  wp ds st Q := match ds with
    | [d] => (match (lstOf st d).bind blsOf with | some bs => Q (.bl (bs.any id)) st | none => False)
    | _ => False
  mono ds st Q Q' h f := by
    split at h
    · split at h
      · exact f _ _ h
      · exact h.elim
    · exact h.elim
  sound := by
    intro G k X gd pins s σ H xs us Q I r h
    obtain ⟨mu, st, ds, R, rv, h⟩ := h
    split at h
    · rename_i d
      obtain ⟨v, rfl, r1⟩ := rv.one
      split at h
      · rename_i bs e
        cases e1 : lstOf st d with
        | none => rw [e1] at e; cases e
        | some ds =>
          rw [e1] at e
          obtain ⟨a, vs, rfl, h1, h2⟩ := lst_at R e1 r1
          have h3 := blsOf_rel h2 e
          subst h3
          exact cr_any gd.calm pins s σ H _ us Q I r ⟨a, bs, rfl, .of h1, h mu _ H (Step.refl _ _) R rfl⟩
      · exact h.elim
    · exact h.elim
  boot := by decide +kernel
  kind := .inl ⟨_, rfl⟩
  nm := by decide +kernel
/-! ### isinstance of a built-in class -/
def tyD (st : Sto) : D → Option String
  | .non => some "NoneType"
  | .bl _ => some "bool"
  | .int _ => some "int"
  | .str _ => some "str"
  | .tup _ => some "tuple"
  | .lst _ => some "list"
  | .rol _ => none
  | .dic _ _ => none
  | .ref n => match st[n]? with | some (.lst _) => some "list" | _ => none
def isTy (t T : String) : Bool := t == T || (t == "bool" && T == "int")
def tysKnown : List String := ["int", "bool", "str", "tuple"]
theorem isTy_ok {t T : String} (ht : t ∈ ["NoneType", "bool", "int", "str", "tuple", "list"]) (hT : T ∈ tysKnown) : kitB t T = some (isTy t T) := by
  have h : (["NoneType", "bool", "int", "str", "tuple", "list"].all fun t => tysKnown.all fun T => decide (kitB t T = some (isTy t T))) = true := by decide +kernel
  have h1 := List.all_eq_true.mp h t ht
  exact of_decide_eq_true (List.all_eq_true.mp h1 T hT)
theorem tyD_ok {K : PySem.W.Frag} {mu : Mu} {H : Hp} {st : Sto} (R : RelS K mu H st) {d : D} {v : V} (r : RV K mu H d v) {t : String} (h : tyD st d = some t) : TyX K H v (.type t) ∧ t ∈ ["NoneType", "bool", "int", "str", "tuple", "list"] := by
  cases d with
  | non => cases h; cases (show v = _ from r); exact ⟨.base .non, by simp⟩
  | bl b => cases h; cases (show v = _ from r); exact ⟨.base (.bl b), by simp⟩
  | int b => cases h; cases (show v = _ from r); exact ⟨.base (.int b), by simp⟩
  | str b => cases h; cases (show v = _ from r); exact ⟨.base (.str b), by simp⟩
  | tup ds =>
    cases h
    obtain ⟨a, vs, rfl, h1, _⟩ := r
    refine ⟨?_, by simp⟩
    rcases h1 with (h1 | ⟨o, h1⟩) | ⟨o, its, n, h1, h2, _⟩
    · exact .base (.tup h1)
    · exact .fTuple h1
    · exact .kTuple h1 h2
  | lst ds =>
    cases h
    obtain ⟨a, vs, rfl, h1, _⟩ := r
    exact ⟨.base (.lst h1), by simp⟩
  | rol ds => cases h
  | dic ks vs => cases h
  | ref n =>
    obtain ⟨a, rfl, h1⟩ := r
    simp only [tyD] at h
    split at h
    · rename_i hs
      cases h
      obtain ⟨vs, h2, _⟩ := R.get hs h1
      exact ⟨.base (.lst h2), by simp⟩
    · cases h
def eIsi (a : SemE) (T : String) (tn : Str) (hb : bootBuiltins tn = some (.type T)) (hn : plainNm tn = true) (hT : T ∈ tysKnown) : SemE where
  chk N sc e := match e with | .Call (.Name x _) [e, .Name t _] [] _ => decide (x = ("isinstance" : Str)) && glB sc x && decide (t = tn) && glB sc t && notStar e && a.chk N sc e | _ => false
  req G k := (G.mg "isinstance" = none ∧ G.mg tn = none) ∧ a.req G k
  wp en st Q E := a.wp en st (fun d st1 => match tyD st1 d with | some t => Q (.bl (isTy t T)) st1 | none => False) E
  mono en st Q Q' E E' h f g := a.mono _ _ _ _ _ _ h (fun d s hd => by
    split at hd
    · exact f _ _ hd
    · exact hd.elim) g
  sound := by
    intro G k X W e gd tk rq hc
    split at hc
    · rename_i x px e t pt pos
      simp only [Bool.and_eq_true, decide_eq_true_eq] at hc
      obtain ⟨⟨⟨⟨⟨rfl, hg⟩, rfl⟩, hg2⟩, hs⟩, ha⟩ := hc
      obtain ⟨p1, p2, p3⟩ := plainNm_ok hn
      have m1 : X.mg "isinstance" = none := by rw [gd.mg]; exact rq.1.1
      have m2 : X.mg t = none := by rw [gd.mg]; exact rq.1.2
      have pt := pe_bltn (pos := pt) (v := .ty T) (glB_ok hg2) m2 hb (show RelV (.ty T) (.type T) from rfl) p3 p1
      have pa := pa_cons (a.sound G k X W e gd tk rq.2 ha) (pa_cons pt pa_nil rfl) (star_plain hs _ _)
      have base := pe_callB (p := px) (pos := pos) call_isi (glB_ok hg) m1 boot_isinstance pa (by decide) (by decide) (star_plain hs _ _) rfl
      refine ⟨fun pins s σ H Q I h => base.run pins s σ H Q I ?_⟩
      obtain ⟨mu, en, st, R, h⟩ := h
      refine tw1 a.mono R h fun d st1 mu1 v H1 hF s1 r1 q1 => ?_
      split at hF
      · rename_i ty hty
        obtain ⟨h1, h2⟩ := tyD_ok r1 q1 hty
        exact ⟨v, .ty T, .type ty, .type T, _, rfl, .ty T, gd.K' (P := fun K => TyX K H1 v (.type ty)) h1, kit_ty (isTy_ok h2 hT), hF mu1 _ H1 s1 r1 rfl⟩
      · exact hF.elim
    · cases hc
def eIsInt (a : SemE) : SemE := eIsi a "int" "int" (by decide +kernel) (by decide +kernel) (by decide)
def eIsBool (a : SemE) : SemE := eIsi a "bool" "bool" (by decide +kernel) (by decide +kernel) (by decide)
def eIsStr (a : SemE) : SemE := eIsi a "str" "str" (by decide +kernel) (by decide +kernel) (by decide)
def eIsTup (a : SemE) : SemE := eIsi a "tuple" "tuple" (by decide +kernel) (by decide +kernel) (by decide)
end Mi
namespace Mi
open PySem PySem.Spec PyProof.Rows L2

/-! ### lists that change -/
theorem Step.setL {mu : Mu} {H : Hp} {a : Addr} {vs vs' : List V} (ha : a ∈ mu.l) (hA : H a = some (.lst vs)) : Step mu H mu (upd H a (.lst vs')) := by
  refine ⟨fun _ h => h, fun _ h => .inl h, ⟨[], by simp, by simp⟩, fun b o e c => ?_, fun b e => ?_⟩
  · have ne : b ≠ a := fun z => by
      subst z
      rcases c with c | c
      · exact c ha
      · rw [hA] at e; cases e; exact c
    rw [upd_ne ne]; exact e
  · by_cases z : b = a
    · rw [z, upd_same]; simp
    · rw [upd_ne z]; exact e
theorem RelS.setL {K : PySem.W.Frag} {mu : Mu} {H : Hp} {st : Sto} (R : RelS K mu H st) {n : Nat} {a : Addr} {vs vs' : List V} {ds' : List D} (hn : mu.l[n]? = some a) (hA : H a = some (.lst vs)) (r : RVs K mu H ds' vs') :
    RelS K mu (upd H a (.lst vs')) (st.set n (.lst ds')) := by
  have ha : a ∈ mu.l := List.mem_of_getElem? hn
  have s : Step mu H mu (upd H a (.lst vs')) := Step.setL ha hA
  refine ⟨R.nd, by rw [List.length_set]; exact R.len, fun m o b h1 h2 => ?_, fun b hb => ⟨s.live b (R.av b hb).1, (R.av b hb).2⟩⟩
  by_cases hm : n = m
  · subst hm
    have hl : n < st.length := by rw [← R.len]; exact (List.getElem?_eq_some_iff.mp hn).1
    rw [List.getElem?_set_self hl] at h1
    rw [hn] at h2
    cases h1
    cases h2
    exact ⟨vs', upd_same, r.step s⟩
  · rw [List.getElem?_set_ne hm] at h1
    have ne : b ≠ a := fun z => by
      subst z
      exact hm ((List.getElem?_inj (List.getElem?_eq_some_iff.mp hn).1 R.nd).mp (hn.trans h2.symm))
    exact (R.obj m o b h1 h2).step s (by rw [upd_ne ne])
/-- the object behind a reference that is a list -/
def refL (st : Sto) (d : D) : Option (Nat × List D) := match d with
  | .ref n => (match st[n]? with | some (.lst ds) => some (n, ds) | _ => none)
  | _ => none
theorem refL_ok {st : Sto} {d : D} {n : Nat} {ds : List D} (h : refL st d = some (n, ds)) : d = .ref n ∧ st[n]? = some (.lst ds) := by
  unfold refL at h
  split at h
  · split at h
    · cases h; exact ⟨rfl, by assumption⟩
    · cases h
  · cases h
/-- a method of a list that changes it: what it is given, the list -> the new list, the answer -/
structure MtL where
  name : Str
  id : String
  f : List D → List D → Sto → Option (List D × D)
  slot : Slot "list" name id
  ty : typeOf (.builtin id) = pure (.type "method_descriptor")
  sound : ∀ (G : GEnv) (k : Nat) (X : Cx), Good G k X → ∀ (mu : Mu) (H : Hp) (st : Sto) (a : Addr) (xs : List D) (vs : List V) (ds : List D) (us : List V) (ys : List D) (z : D), RelS G.K mu H st → H a = some (.lst vs) → RVs G.K mu H xs vs → RVs G.K mu H ds us → f xs ds st = some (ys, z) →
    ∃ (vs' : List V) (w : V), RVs G.K mu H ys vs' ∧ (∀ H', Step mu H mu H' → RV G.K mu H' z w) ∧
      ∀ (pins : List (Addr × Obj)) (s : Shared) (σ : L2.St) (xs' : List Value) (Q : VK), Inv X pins σ H s → Vals us xs' → Q w (upd H a (.lst vs')) → wpAny (model X.prog X.w) X.A (call (.builtin id) (.ref a :: xs')) (EP X pins σ Q) X.xe s
theorem RVs.set {K : PySem.W.Frag} {mu : Mu} {H : Hp} {d : D} {v : V} (r : RV K mu H d v) : ∀ {ds : List D} {vs : List V} (i : Nat), RVs K mu H ds vs → RVs K mu H (ds.set i d) (vs.set i v)
  | [], _, _, h => by rw [show _ = [] from h]; rfl
  | _ :: _, _, 0, ⟨w, u, e, h, t⟩ => by rw [e]; exact ⟨v, u, rfl, r, t⟩
  | _ :: _, _, i + 1, ⟨w, u, e, h, t⟩ => by rw [e]; exact ⟨w, _, rfl, h, RVs.set r i t⟩
/-- the receiver is a plain expression: nothing is imported under its name -/
def plainRecv : Expr → Bool
  | .Name .. => true
  | .Subscript .. => true
  | .Attribute .. => true
  | .List .. => true
  | .Constant .. => true
  | _ => false
theorem plainRecv_ok {o : Expr} (h : plainRecv o = true) (attr : Str) (env : PySem.Env) (whole : Sem Value) : attributeBase o attr env whole = whole := by
  cases o <;> first | rfl | (simp [plainRecv] at h)
def rMt (G : GEnv) (m : MtL) : V → List V → Hp → VK → Prop := fun xv vs H Q => ∃ mu st n xs ds ys z, RelS G.K mu H st ∧ RV G.K mu H (.ref n) xv ∧ st[n]? = some (.lst xs) ∧ RVs G.K mu H ds vs ∧ m.f xs ds st = some (ys, z) ∧ PostD G mu H Q z (st.set n (.lst ys))
theorem mt_sound {G : GEnv} {k : Nat} {X : Cx} (gd : Good G k X) (m : MtL) : MtR X m.id (rMt G m) := by
  intro pins s σ H x vs v us Q I rx rv h
  obtain ⟨mu, st, n, xs, ds, ys, z, R, ⟨a, rfl, hn⟩, hs, r, hf, hQ⟩ := h
  cases (show v = Value.ref a from rx)
  obtain ⟨ws, hA, rw'⟩ := R.get hs hn
  obtain ⟨vs', w, r1, r2, run⟩ := m.sound G k X gd mu H st a xs ws ds vs ys z R hA rw' r hf
  refine run pins s σ us Q I rv ?_
  have sL : Step mu H mu (upd H a (.lst vs')) := Step.setL (List.mem_of_getElem? hn) hA
  exact hQ mu w _ sL (R.setL hn hA r1) (r2 _ sL)
/-- o.m(e) -/
def eMeth1 (m : MtL) (a b : SemE) : SemE where
  chk N sc e := match e with | .Call (.Attribute o nm apos) [x] [] cpos => decide (nm = m.name) && plainRecv o && (apos.endLine == cpos.line) && a.chk N sc o && chkA [b] N sc [x] | _ => false
  req G k := a.req G k ∧ reqL [b] G k
  wp en st Q E := a.wp en st (fun o st1 => (refL st1 o).isSome = true ∧ b.wp en st1 (fun y st2 => match refL st2 o with
    | some (n, xs) => (match m.f xs [y] st2 with | some (ys, z) => Q z (st2.set n (.lst ys)) | none => False)
    | none => False) E) E
  mono en st Q Q' E E' h f g := a.mono _ _ _ _ _ _ h (fun o s ho => ⟨ho.1, b.mono _ _ _ _ _ _ ho.2 (fun y s2 hy => by
    split at hy
    · split at hy
      · exact f _ _ hy
      · exact hy.elim
    · exact hy.elim) g⟩) g
  sound := by
    intro G k X W e gd tk rq hc
    split at hc
    · rename_i o nm apos x cpos
      simp only [Bool.and_eq_true, decide_eq_true_eq] at hc
      obtain ⟨⟨⟨⟨rfl, h1⟩, h2⟩, h3⟩, h4⟩ := hc
      have hs := chkA_star h4 X.env
      have base := pe_bm PySem.F.plainAttrs_list m.slot m.ty (mt_sound gd m) (a.sound G k X W o gd tk rq.1 h3) (pa_sound G k X W gd tk [b] [x] rq.2 h4) (plainRecv_ok h1 _ _ _) (by rw [hs]; rfl) h2 hs rfl
      refine ⟨fun pins s σ H Q I h => base.run pins s σ H Q I ?_⟩
      obtain ⟨mu, en, st, R, h⟩ := h
      refine tw1 a.mono R h fun d st1 mu1 v H1 hF s1 r1 q1 => ?_
      obtain ⟨hi, hF⟩ := hF
      cases e1 : refL st1 d with
      | none => rw [e1] at hi; cases hi
      | some p =>
        obtain ⟨n, xs⟩ := p
        obtain ⟨rfl, hx⟩ := refL_ok e1
        have q1' := q1
        obtain ⟨a0, rfl, hn⟩ := q1'
        obtain ⟨ws, hA, _⟩ := r1.get hx hn
        refine ⟨.inl ⟨rfl, ws, .of hA⟩, twa (l := [b]) (F := fun ds st2 => match refL st2 (.ref n) with
          | some (n, xs) => (match m.f xs ds st2 with | some (ys, z) => PostD G mu H Q z (st2.set n (.lst ys)) | none => False)
          | none => False) (R.step s1 r1) (b.mono _ _ _ _ _ _ hF (fun _ _ h => h) fun _ _ hx => PostX.step s1 hx) fun ds st2 mu2 vs H2 hF2 s2 r2 q2 => ?_⟩
        split at hF2
        · rename_i n2 xs2 e2
          obtain ⟨e3, hx2⟩ := refL_ok e2
          cases e3
          split at hF2
          · rename_i ys z hf
            exact ⟨mu2, st2, n, xs2, ds, ys, z, r2, (q1.step s2), hx2, q2, hf, PostD.step (s1.trans s2) hF2⟩
          · exact hF2.elim
        · exact hF2.elim
    · cases hc
def mAppend : MtL where
  name := "append"
  id := "list.append"
  f xs ds _ := match ds with
    | [y] => if xs.length < sizeLine then some (xs ++ [y], .non) else none
    | _ => none
  slot := PySem.F.slot_list_append
  ty := PySem.F.type_list_append
  sound := by
    intro G k X gd mu H st a xs vs ds us ys z R hA r1 r2 hf
    split at hf
    · rename_i y
      split at hf
      · rename_i hl
        cases hf
        obtain ⟨v, rfl, rv⟩ := r2.one
        refine ⟨vs ++ [v], .non, r1.app r2, fun _ _ => rfl, fun pins s σ xs' Q I rx hq => ?_⟩
        exact mt_append pins s σ H (.ref a) [v] (.ref a) xs' Q I rfl rx ⟨a, vs, v, rfl, rfl, hA, by rw [← r1.len]; exact hl, hq⟩
      · cases hf
    · cases hf
def mExtend : MtL where
  name := "extend"
  id := "list.extend"
  f xs ds st := match ds with
    | [y] => (match lstOf st y with | some zs => if xs.length + zs.length ≤ sizeLine then some (xs ++ zs, .non) else none | none => none)
    | _ => none
  slot := PySem.F.slot_list_extend
  ty := PySem.F.type_list_extend
  sound := by
    intro G k X gd mu H st a xs vs ds us ys z R hA r1 r2 hf
    split at hf
    · rename_i y
      split at hf
      · rename_i zs hz
        split at hf
        · rename_i hl
          cases hf
          obtain ⟨v, rfl, rv⟩ := r2.one
          obtain ⟨b, ws, rfl, hB, rw'⟩ := lst_at R hz rv
          refine ⟨vs ++ ws, .non, r1.app rw', fun _ _ => rfl, fun pins s σ xs' Q I rx hq => ?_⟩
          exact mt_extend pins s σ H (.ref a) [.ref b] (.ref a) xs' Q I rfl rx ⟨a, b, vs, ws, rfl, rfl, hA, hB, by rw [← r1.len, ← rw'.len]; exact hl, hq⟩
        · cases hf
      · cases hf
    · cases hf
/-! ### x[i] = e -/
theorem sub_assign (o i : Expr) (pos : Pos) (env : PySem.Env) : True := trivial
def sSetIx (o i e : SemE) : SemS where
  chk N sc st := match st with | .Assign [.Subscript x y p] v pos => o.chk N sc x && plainIxB y && i.chk N sc y && e.chk N sc v && pureIs (fun b => !b) (swapsWithSole [.Subscript x y p] v pos.line (envS sc)) && pureIs (fun o => o.isNone) (swappedStores [.Subscript x y p] v (envS sc)) | _ => false
  req G k := e.req G k ∧ o.req G k ∧ i.req G k
  lp := false
  wp Dn en st := e.wp en st (fun d st1 => o.wp en st1 (fun r st2 => i.wp en st2 (fun j st3 => match refL st3 r, j with
    | some (n, xs), .int j => (match ixN xs.length j with | some p => Dn.nx en (st3.set n (.lst (xs.set p d))) | none => False)
    | _, _ => False) (fun x st' => Dn.ex x en st')) (fun x st' => Dn.ex x en st')) (fun x st' => Dn.ex x en st')
  mono A B en st le h := e.mono _ _ _ _ _ _ h (fun d s hd => o.mono _ _ _ _ _ _ hd (fun r s hr => i.mono _ _ _ _ _ _ hr (fun j s hj => by
    split at hj
    · split at hj
      · exact le.nx _ _ hj
      · exact hj.elim
    · exact hj.elim) fun x s hx => le.ex x en s hx) fun x s hx => le.ex x en s hx) fun x s hx => le.ex x en s hx
  sound := by
    intro G k X W st gd hfn tk hl rq hc
    split at hc
    · rename_i x y p v pos
      simp only [Bool.and_eq_true] at hc
      obtain ⟨⟨⟨⟨⟨h1, h2⟩, h3⟩, h4⟩, h5⟩, h6⟩ := hc
      obtain ⟨b, e3, e4⟩ := pureIs_ok h5
      have e5 : b = false := by simpa using e4
      subst e5
      obtain ⟨w, e6, e7⟩ := pureIs_ok h6
      have e8 : w = none := by simpa using e7
      subst e8
      have pg := pg_sub (pos := p) (o.sound G k X W x gd tk rq.2.1 h1) (i.sound G k X W y gd tk rq.2.2 h3) set_list (by
        intro v
        cases y <;> first | rfl | (simp [plainIxB] at h2))
      have base := ps_asg (pos := pos) (e.sound G k X W v gd tk rq.1 h4) pg (show swapsWithSole [.Subscript x y p] v pos.line X.env = _ from e3) ((swapped_scope _ _ _).trans e6) rfl
      refine ⟨fun pins s σ H Dn I h => base.run pins s σ H Dn I ?_⟩
      obtain ⟨mu, en, st, R, h⟩ := h
      refine se1 e.mono R h fun d st1 mu1 vd H1 hF s1 r1 q1 => ?_
      refine tw1 o.mono (R.step s1 r1) (o.mono _ _ _ _ _ _ hF (fun _ _ h => h) fun x st' hx => PostX.step s1 (PostXS.ofX R hx)) fun r st2 mu2 vr H2 hF2 s2 r2 q2 => ?_
      have s12 := s1.trans s2
      refine tw1 i.mono (R.step s12 r2) (i.mono _ _ _ _ _ _ hF2 (fun _ _ h => h) fun x st' hx => PostX.step s12 (PostXS.ofX R hx)) fun j st3 mu3 vj H3 hF3 s3 r3 q3 => ?_
      split at hF3
      · rename_i n xs j' e9
        split at hF3
        · rename_i pl hpl
          obtain ⟨rfl, hx⟩ := refL_ok e9
          obtain ⟨a, rfl, hn⟩ := q2.step s3
          obtain ⟨ws, hA, rws⟩ := r3.get hx hn
          cases (show vj = V.int _ from q3)
          refine ⟨a, ws, j', pl, rfl, rfl, hA, by rw [← rws.len]; exact hpl, ?_⟩
          have q1' := (q1.step s2).step s3
          have rset : RVs G.K mu3 H3 (xs.set pl d) (ws.set pl vd) := RVs.set q1' pl rws
          exact hF3 mu3 σ _ (s12.trans (s3.trans (Step.setL (List.mem_of_getElem? hn) hA))) ⟨r3.setL hn hA rset, (R.env.step (s12.trans s3)).step (Step.setL (List.mem_of_getElem? hn) hA), R.len⟩
        · exact hF3.elim
      · exact hF3.elim
    · cases hc
end Mi
namespace Mi
open PySem PySem.Spec PyProof.Rows L2

/-! ### zip, with strict or without, of tuples and lists -/
/-- what zip asks of one iterator -/
def askZ (sf : Bool) (it : Value) : Sem (Option Value) := do if sf then Builtin.SmallTypes.nextOrEnd it else return some (← Builtin.SmallTypes.nextOf it)
section
variable {prog : Program} {w : World} {A : Around} {E : Value → Shared → Prop} {s : Shared}
theorem stop_raises {Q : PySem.Fin → Shared → Prop} (hn : A.handled = none) (f : ∀ h' e, (∀ b o, s.heap.get? b = some o → h'.get? b = some o) → (∃ o, h'.get? e = some o ∧ o.cls = .type "StopIteration") → E (.ref e) { s with heap := h' }) :
    wpAny (model prog w) A (Builtin.SmallTypes.stopIteration : Sem PySem.Fin) Q E s := by
  show wpAny _ _ (newExc (.type "StopIteration") [] >>= _) _ _ s
  refine wpAny_bind (?_ : wpAny _ _ _ _ _ _)
  simp only [newExc, newTuple]
  refine wpAny_bind (wpAny_newObj_type (?_ : wpAny _ _ _ _ _ _) (by size_fits))
  refine wpAny_bind (m := firstArgMember _ _) (wpAny_of_eq (a := Value.none) (by first | rfl | (simp only [firstArgMember]; rfl)) (?_ : wpAny _ _ _ _ _ _))
  refine wpAny_newObj_type (?_ : wpAny _ _ _ _ _ _) (by size_fits)
  simp only [raiseNew]
  refine wpAny_bind (wpAny_handled (?_ : wpAny _ _ _ _ _ _))
  first | rw [hn] | rw [show A.in1.handled = none from hn]
  refine wpAny_bind (wpAny_pure (wpAny_throw (?_ : E _ _)))
  exact f _ _ (fun b o q => Heap.get?_push_of_some _ (Heap.get?_push_of_some _ q)) ⟨_, Heap.get?_push_size _ rfl, rfl⟩
variable {it : Addr} {fp : List Addr} {n i : Nat} {P : Nat → Value → Prop} {St : Nat → Heap → Prop}
theorem ask_item {Q : Option Value → Shared → Prop} (sf : Bool) (D : Draws prog w A it fp n P St) (hi : i < n) (st : St i s.heap)
    (f : ∀ x h' tk, P i x → St (i + 1) h' → Heap.SameBut it s.heap h' → Q (some x) { s with heap := h', toks := tk }) : wpAny (model prog w) A (askZ sf (.ref it)) Q E s := by
  cases sf with
  | false =>
    show wpAny _ _ (Builtin.SmallTypes.nextOf (.ref it) >>= _) _ _ s
    exact wpAny_bind (D.item i _ _ _ hi st fun x h' tk a b c => wpAny_pure (f x h' tk a b c))
  | true =>
    show wpAny _ _ (Builtin.SmallTypes.nextOrEnd (.ref it)) _ _ s
    unfold Builtin.SmallTypes.nextOrEnd
    exact wpAny_bind (wpAny_attempt (D.item i _ _ _ hi st fun x h' tk a b c => wpAny_pure (f x h' tk a b c)))
theorem ask_end {Q : Option Value → Shared → Prop} (sf : Bool) (D : Draws prog w A it fp n P St) (st : St n s.heap)
    (f : ∀ h', Heap.ExtBut it s.heap h' → sf = true → Q none { s with heap := h' })
    (g : ∀ h' e, Heap.ExtBut it s.heap h' → (∃ o, h'.get? e = some o ∧ o.cls = .type "StopIteration") → sf = false → E (.ref e) { s with heap := h' }) : wpAny (model prog w) A (askZ sf (.ref it)) Q E s := by
  cases sf with
  | false =>
    show wpAny _ _ (Builtin.SmallTypes.nextOf (.ref it) >>= _) _ _ s
    exact wpAny_bind (D.done _ _ _ st fun h' e a b => g h' e a b rfl)
  | true =>
    show wpAny _ _ (Builtin.SmallTypes.nextOrEnd (.ref it)) _ _ s
    unfold Builtin.SmallTypes.nextOrEnd
    refine wpAny_bind (wpAny_attempt (D.done _ _ _ st fun h' e a b => ?_))
    obtain ⟨o, ho, hc⟩ := b
    exact wpAny_bind (wpAny_isInstance (T := "StopIteration") (b := true) ⟨o, ho, hc⟩ isSubtype_stop (wpAny_pure (f h' a rfl)))
end
/-- the zip at z -/
def ZipObj (sf : Bool) (h : Heap) (z TI TO : Addr) (f0 : Value) : Prop := h.get? z = some { cls := .type "zip", dict := none, data := .fields #[f0, .bool false, .bool sf, .ref TI, .ref TO], slots := #[] }
section
variable {prog : Program} {w : World} {A : Around} {E : Value → Shared → Prop} {s : Shared} {z TI TO i1 i2 : Addr} {fp1 fp2 : List Addr} {n1 n2 i : Nat} {P1 P2 : Nat → Value → Prop} {St1 St2 : Nat → Heap → Prop} {a1 a2 : Value}
theorem bool_beq (sf : Bool) : (Value.bool sf == Value.bool true) = sf := by cases sf <;> rfl
theorem zip_item (sf : Bool) {Q : Value → Shared → Prop} (S : ZipSep2 z TI TO i1 i2 fp1 fp2) (D1 : Draws prog w A i1 fp1 n1 P1 St1) (D2 : Draws prog w A i2 fp2 n2 P2 St2)
    (qz : ZipObj sf s.heap z TI TO .none) (qI : IsTupOf2 s.heap TI (.ref i1) (.ref i2)) (qO : IsTupOf2 s.heap TO a1 a2) (t1 : St1 i s.heap) (t2 : St2 i s.heap) (l1 : i < n1) (l2 : i < n2)
    (f : ∀ x y h' tk, P1 i x → P2 i y → ZipObj sf h' z TI TO (rawInt s.heap.objs.size) → IsTupOf2 h' TO x y → St1 (i + 1) h' → St2 (i + 1) h' → IsTupOf2 h' s.heap.objs.size x y → h'.objs.size = s.heap.objs.size + 1 →
      (∀ c o, c ≠ z → c ≠ TO → c ≠ i1 → c ≠ i2 → s.heap.get? c = some o → h'.get? c = some o) → Q (.ref s.heap.objs.size) { s with heap := h', toks := tk }) :
    wpAny (model prog w) A (Builtin.«zip.__next__» ⟨[.ref z], []⟩) (fun fin s' => ∃ v, fin = .done (.ret v) ∧ Q v s') E s := by
  obtain ⟨hp, gg, dd, tk0, os⟩ := s
  show wpAny _ _ (field (.ref z) 2 >>= _) _ _ _
  refine wpAny_bind (wpAny_field qz rfl (x := .bool sf) rfl (?_ : wpAny _ _ _ _ _ _))
  show wpAny _ _ (field (.ref z) 3 >>= _) _ _ _
  refine wpAny_bind (wpAny_field qz rfl (x := .ref TI) rfl (?_ : wpAny _ _ _ _ _ _))
  refine wpAny_bind (wpAny_seqItems qI rfl (?_ : wpAny _ _ _ _ _ _))
  show wpAny _ _ (Builtin.SmallTypes.ownedTupleIsFree (.ref z) >>= _) _ _ _
  refine wpAny_bind (?_ : wpAny _ _ _ _ _ _)
  unfold Builtin.SmallTypes.ownedTupleIsFree
  refine wpAny_bind (wpAny_field qz rfl (x := .none) rfl (wpAny_pure (?_ : wpAny _ _ _ _ _ _)))
  simp only [if_true]
  refine wpAny_bind (wpAny_rule (?_ : wpAny _ _ _ _ _ _))
  refine wpAny_bind (wpAny_field qz rfl (x := .ref TO) rfl (?_ : wpAny _ _ _ _ _ _))
  refine wpAny_bind (wpAny_setField_rec qz (by simp) fun g0 z0 u0 => (?_ : wpAny _ _ _ _ _ _))
  replace z0 : ZipObj sf g0 z TI TO .ellipsis := z0
  replace u0 : Heap.SameBut z hp g0 := u0
  refine wpAny_bind (?_ : wpAny _ _ _ _ _ _)
  simp only [List.zipIdx_cons, List.zipIdx_nil, List.forIn_cons, List.forIn_nil]
  refine wpAny_bind (wpAny_bind (wpAny_onRaise (?_ : wpAny _ _ _ _ _ _)))
  show wpAny _ _ (askZ (Value.bool sf == Value.bool true) (.ref i1)) _ _ ⟨g0, gg, dd, tk0, os⟩
  rw [bool_beq]
  refine ask_item sf D1 l1 (D1.over t1 u0 S.zf1) fun x p1 tk1 hx sn1 v1 => ?_
  replace v1 : Heap.SameBut i1 g0 p1 := v1
  have o1 : IsTupOf2 p1 TO a1 a2 := v1.extBut _ _ S.Ti1 (u0.extBut _ _ S.TOz qO)
  refine wpAny_bind (wpAny_seqItems (s := ⟨p1, gg, dd, tk1, os⟩) o1 rfl (?_ : wpAny _ _ _ _ _ _))
  refine wpAny_bind (updateSeq_IsTupOf2 (s := ⟨p1, gg, dd, tk1, os⟩) o1 fun g1 o2 u1 => (?_ : wpAny _ _ _ _ _ _))
  replace o2 : IsTupOf2 g1 TO x a2 := o2
  replace u1 : Heap.SameBut TO p1 g1 := u1
  refine wpAny_bind (wpAny_letGo (wpAny_pure (?_ : wpAny _ _ _ _ _ _)))
  refine wpAny_bind (wpAny_bind (wpAny_onRaise (?_ : wpAny _ _ _ _ _ _)))
  show wpAny _ _ (askZ sf (.ref i2)) _ _ ⟨g1, gg, dd, tk1, os⟩
  refine ask_item sf D2 l2 (D2.over (D2.over (D2.over t2 u0 S.zf2) v1 S.sep1_2) u1 S.Tf2) fun y p2 tk2 hy sn2 v2 => ?_
  replace v2 : Heap.SameBut i2 g1 p2 := v2
  have o3 : IsTupOf2 p2 TO x a2 := v2.extBut _ _ S.Ti2 o2
  refine wpAny_bind (wpAny_seqItems (s := ⟨p2, gg, dd, tk2, os⟩) o3 rfl (?_ : wpAny _ _ _ _ _ _))
  refine wpAny_bind (updateSeq_IsTupOf2 (s := ⟨p2, gg, dd, tk2, os⟩) o3 fun g2 o4 u2 => (?_ : wpAny _ _ _ _ _ _))
  replace o4 : IsTupOf2 g2 TO x y := o4
  replace u2 : Heap.SameBut TO p2 g2 := u2
  refine wpAny_bind (wpAny_letGo (wpAny_pure (wpAny_pure (?_ : wpAny _ _ _ _ _ _))))
  refine wpAny_bind (wpAny_seqItems (s := ⟨g2, gg, dd, tk2, os⟩) o4 rfl (?_ : wpAny _ _ _ _ _ _))
  refine wpAny_bind (wpAny_newTuple (?_ : wpAny _ _ _ _ _ _))
  have sz : g2.objs.size = hp.objs.size := by rw [u2.1, v2.1, u1.1, v1.1, u0.1]
  have zz : ZipObj sf g2 z TI TO .ellipsis := u2.extBut _ _ S.TOz.symm (v2.extBut _ _ S.zi2 (u1.extBut _ _ S.TOz.symm (v1.extBut _ _ S.zi1 z0)))
  have kk : ∀ c o, c ≠ z → c ≠ TO → c ≠ i1 → c ≠ i2 → hp.get? c = some o → g2.get? c = some o := fun c o cz cT c1 c2 e =>
    u2.extBut _ _ cT (v2.extBut _ _ c2 (u1.extBut _ _ cT (v1.extBut _ _ c1 (u0.extBut _ _ cz e))))
  have j1 : St1 (i + 1) g2 := D1.over (D1.over (D1.over sn1 u1 S.Tf1) v2 S.sep2_1) u2 S.Tf1
  have j2 : St2 (i + 1) g2 := D2.over sn2 u2 S.Tf2
  have zlt : z < g2.objs.size := Heap.lt_size zz
  show wpAny _ _ (Builtin.SmallTypes.ownedTupleHandOut (.ref z) (.ref g2.objs.size) >>= _) _ _ ⟨g2.push { cls := .type "tuple", data := .seq #[x, y] }, gg, dd, tk2, os⟩
  refine wpAny_bind (?_ : wpAny _ _ _ _ _ _)
  unfold Builtin.SmallTypes.ownedTupleHandOut
  have z6 : ZipObj sf (g2.push { cls := .type "tuple", data := .seq #[x, y] }) z TI TO .ellipsis := Heap.get?_push_of_some _ zz
  refine wpAny_bind (wpAny_setField_rec z6 (by simp) fun g7 z7 u7 => (?_ : wpAny _ _ _ _ _ _))
  replace z7 : ZipObj sf g7 z TI TO (rawInt g2.objs.size) := z7
  refine wpAny_setField_rec z7 (by simp) fun g8 z8 u8 => (?_ : wpAny _ _ _ _ _ _)
  replace z8 : ZipObj sf g8 z TI TO (rawInt g2.objs.size) := z8
  replace u7 : Heap.SameBut z (g2.push { cls := .type "tuple", data := .seq #[x, y] }) g7 := u7
  replace u8 : Heap.SameBut z g7 g8 := u8
  have up : ∀ c o, c ≠ z → g2.get? c = some o → g8.get? c = some o := fun c o cz e => u8.extBut _ _ cz (u7.extBut _ _ cz (Heap.get?_push_of_some _ e))
  have t8 : IsTupOf2 g8 g2.objs.size x y := u8.extBut _ _ (Nat.ne_of_gt zlt) (u7.extBut _ _ (Nat.ne_of_gt zlt) (Heap.get?_push_size _ rfl))
  have s8 : g8.objs.size = g2.objs.size + 1 := by rw [u8.1, u7.1, Heap.size_push]
  rw [sz] at z8 t8 s8
  refine wpAny_pure ⟨_, rfl, ?_⟩
  show Q (.ref g2.objs.size) ⟨g8, gg, dd, tk2, os⟩
  rw [sz]
  exact f x y g8 tk2 hx hy z8 (up _ _ S.TOz o4) (D1.frame _ _ _ j1 fun b hb o e => up b o (fun q => S.zf1 (q ▸ hb)) e) (D2.frame _ _ _ j2 fun b hb o e => up b o (fun q => S.zf2 (q ▸ hb)) e) t8 s8 fun c o cz cT c1 c2 e => up c o cz (kk c o cz cT c1 c2 e)
theorem zip_end (sf : Bool) {Q : PySem.Fin → Shared → Prop} (hn : A.handled = none) (S : ZipSep2 z TI TO i1 i2 fp1 fp2) (D1 : Draws prog w A i1 fp1 n1 P1 St1) (D2 : Draws prog w A i2 fp2 n2 P2 St2)
    (qz : ZipObj sf s.heap z TI TO .none) (qI : IsTupOf2 s.heap TI (.ref i1) (.ref i2)) (qO : IsTupOf2 s.heap TO a1 a2) (t1 : St1 i s.heap) (t2 : St2 i s.heap) (l1 : i ≤ n1) (l2 : i ≤ n2) (he : i = n1 ∨ i = n2) (hs : sf = true → i = n1 ∧ i = n2)
    (f : ∀ h' tk e, (∀ c o, c ≠ z → c ≠ TO → c ≠ i1 → c ≠ i2 → s.heap.get? c = some o → h'.get? c = some o) → (∃ o, h'.get? e = some o ∧ o.cls = .type "StopIteration") → E (.ref e) { s with heap := h', toks := tk }) :
    wpAny (model prog w) A (Builtin.«zip.__next__» ⟨[.ref z], []⟩) Q E s := by
  obtain ⟨hp, gg, dd, tk0, os⟩ := s
  show wpAny _ _ (field (.ref z) 2 >>= _) _ _ _
  refine wpAny_bind (wpAny_field qz rfl (x := .bool sf) rfl (?_ : wpAny _ _ _ _ _ _))
  show wpAny _ _ (field (.ref z) 3 >>= _) _ _ _
  refine wpAny_bind (wpAny_field qz rfl (x := .ref TI) rfl (?_ : wpAny _ _ _ _ _ _))
  refine wpAny_bind (wpAny_seqItems qI rfl (?_ : wpAny _ _ _ _ _ _))
  show wpAny _ _ (Builtin.SmallTypes.ownedTupleIsFree (.ref z) >>= _) _ _ _
  refine wpAny_bind (?_ : wpAny _ _ _ _ _ _)
  unfold Builtin.SmallTypes.ownedTupleIsFree
  refine wpAny_bind (wpAny_field qz rfl (x := .none) rfl (wpAny_pure (?_ : wpAny _ _ _ _ _ _)))
  simp only [if_true]
  refine wpAny_bind (wpAny_rule (?_ : wpAny _ _ _ _ _ _))
  refine wpAny_bind (wpAny_field qz rfl (x := .ref TO) rfl (?_ : wpAny _ _ _ _ _ _))
  refine wpAny_bind (wpAny_setField_rec qz (by simp) fun g0 z0 u0 => (?_ : wpAny _ _ _ _ _ _))
  replace z0 : ZipObj sf g0 z TI TO .ellipsis := z0
  replace u0 : Heap.SameBut z hp g0 := u0
  refine wpAny_bind (?_ : wpAny _ _ _ _ _ _)
  simp only [List.zipIdx_cons, List.zipIdx_nil, List.forIn_cons, List.forIn_nil]
  refine wpAny_bind (wpAny_bind (wpAny_onRaise (?_ : wpAny _ _ _ _ _ _)))
  show wpAny _ _ (askZ (Value.bool sf == Value.bool true) (.ref i1)) _ _ ⟨g0, gg, dd, tk0, os⟩
  rw [bool_beq]
  by_cases hl : i < n1
  · have sff : sf = false := by
      cases sf with
      | false => rfl
      | true => exact absurd (hs rfl).1 (Nat.ne_of_lt hl)
    have e2 : i = n2 := he.resolve_left (Nat.ne_of_lt hl)
    refine ask_item sf D1 hl (D1.over t1 u0 S.zf1) fun x p1 tk1 hx sn1 v1 => ?_
    replace v1 : Heap.SameBut i1 g0 p1 := v1
    have o1 : IsTupOf2 p1 TO a1 a2 := v1.extBut _ _ S.Ti1 (u0.extBut _ _ S.TOz qO)
    refine wpAny_bind (wpAny_seqItems (s := ⟨p1, gg, dd, tk1, os⟩) o1 rfl (?_ : wpAny _ _ _ _ _ _))
    refine wpAny_bind (updateSeq_IsTupOf2 (s := ⟨p1, gg, dd, tk1, os⟩) o1 fun g1 o2 u1 => (?_ : wpAny _ _ _ _ _ _))
    replace u1 : Heap.SameBut TO p1 g1 := u1
    refine wpAny_bind (wpAny_letGo (wpAny_pure (?_ : wpAny _ _ _ _ _ _)))
    refine wpAny_bind (wpAny_bind (wpAny_onRaise (?_ : wpAny _ _ _ _ _ _)))
    show wpAny _ _ (askZ sf (.ref i2)) _ _ ⟨g1, gg, dd, tk1, os⟩
    refine ask_end sf D2 (by rw [← e2]; exact D2.over (D2.over (D2.over t2 u0 S.zf2) v1 S.sep1_2) u1 S.Tf2) (fun h' _ e => by rw [sff] at e; cases e) fun q e hq hx _ => ?_
    replace hq : Heap.ExtBut i2 g1 q := hq
    obtain ⟨oe, hoe, hce⟩ := hx
    replace hoe : q.get? e = some oe := hoe
    have hzq : ZipObj sf q z TI TO .ellipsis := hq _ _ S.zi2 (u1.extBut _ _ S.TOz.symm (v1.extBut _ _ S.zi1 z0))
    have hez : e ≠ z := fun c => by
      unfold ZipObj at hzq
      subst c; rw [hzq] at hoe; cases hoe; simp at hce
    refine wpAny_setField_rec (s := ⟨q, gg, dd, tk1, os⟩) hzq (by simp) fun q' _ hq' => ?_
    replace hq' : Heap.SameBut z q q' := hq'
    exact f q' tk1 e (fun c o cz cT c1 c2 x => hq'.extBut _ _ cz (hq _ _ c2 (u1.extBut _ _ cT (v1.extBut _ _ c1 (u0.extBut _ _ cz x))))) ⟨oe, hq'.extBut _ _ hez hoe, hce⟩
  · have e1 : i = n1 := Nat.le_antisymm l1 (Nat.le_of_not_lt hl)
    refine ask_end sf D1 (by rw [← e1]; exact D1.over t1 u0 S.zf1) (fun q hq st => ?_) fun q e hq hx _ => ?_
    · have e2 : i = n2 := (hs st).2
      replace hq : Heap.ExtBut i1 g0 q := hq
      have hzq : ZipObj sf q z TI TO .ellipsis := hq _ _ S.zi1 z0
      refine wpAny_bind (wpAny_setField_rec (s := ⟨q, gg, dd, tk0, os⟩) hzq (by simp) fun q' _ hq' => ?_)
      replace hq' : Heap.SameBut z q q' := hq'
      refine wpAny_bind (?_ : wpAny _ _ _ _ _ _)
      wp_delta
      refine wpAny_bind (?_ : wpAny _ _ _ _ _ _)
      simp only [List.drop_succ_cons, List.drop_zero, List.zipIdx_cons, List.zipIdx_nil, List.forIn_cons, List.forIn_nil]
      refine wpAny_bind (wpAny_bind (?_ : wpAny _ _ _ _ _ _))
      show wpAny _ _ (askZ true (.ref i2)) _ _ ⟨q', gg, dd, tk0, os⟩
      refine ask_end true D2 (by rw [← e2]; exact D2.over (D2.frame _ _ _ (D2.over t2 u0 S.zf2) fun b hb o e => hq b o (fun c => S.sep1_2 (c ▸ hb)) e) hq' S.zf2) (fun r hr _ => ?_) fun _ _ _ _ e => by cases e
      replace hr : Heap.ExtBut i2 q' r := hr
      refine wpAny_pure (wpAny_pure (?_ : wpAny _ _ _ _ _ _))
      refine wpAny_bind (wpAny_rule (?_ : wpAny _ _ _ _ _ _))
      refine stop_raises hn fun h' e hk hx => ?_
      refine f h' tk0 e (fun c o cz cT c1 c2 x => hk _ _ (hr _ _ c2 (hq'.extBut _ _ cz (hq _ _ c1 (u0.extBut _ _ cz x))))) hx
    · replace hq : Heap.ExtBut i1 g0 q := hq
      obtain ⟨oe, hoe, hce⟩ := hx
      replace hoe : q.get? e = some oe := hoe
      have hzq : ZipObj sf q z TI TO .ellipsis := hq _ _ S.zi1 z0
      have hez : e ≠ z := fun c => by
        unfold ZipObj at hzq
        subst c; rw [hzq] at hoe; cases hoe; simp at hce
      refine wpAny_setField_rec (s := ⟨q, gg, dd, tk0, os⟩) hzq (by simp) fun q' _ hq' => ?_
      replace hq' : Heap.SameBut z q q' := hq'
      exact f q' tk0 e (fun c o cz cT c1 c2 x => hq'.extBut _ _ cz (hq _ _ c1 (u0.extBut _ _ cz x))) ⟨oe, hq'.extBut _ _ hez hoe, hce⟩
theorem zip_nx {Q : Option Value → Shared → Prop} (sf : Bool) (S : ZipSep2 z TI TO i1 i2 fp1 fp2) (D1 : Draws prog w A.in1 i1 fp1 n1 P1 St1) (D2 : Draws prog w A.in1 i2 fp2 n2 P2 St2)
    (qz : ZipObj sf s.heap z TI TO .none) (qI : IsTupOf2 s.heap TI (.ref i1) (.ref i2)) (qO : IsTupOf2 s.heap TO a1 a2) (t1 : St1 i s.heap) (t2 : St2 i s.heap) (l1 : i < n1) (l2 : i < n2)
    (f : ∀ x y h' tk, P1 i x → P2 i y → ZipObj sf h' z TI TO (rawInt s.heap.objs.size) → IsTupOf2 h' TO x y → St1 (i + 1) h' → St2 (i + 1) h' → IsTupOf2 h' s.heap.objs.size x y → h'.objs.size = s.heap.objs.size + 1 →
      (∀ c o, c ≠ z → c ≠ TO → c ≠ i1 → c ≠ i2 → s.heap.get? c = some o → h'.get? c = some o) → Q (some (.ref s.heap.objs.size)) { s with heap := h', toks := tk }) :
    wpAny (model prog w) A (pyNext (.ref z)) Q E s := by
  have ty : s.TypeIs (.ref z) "zip" := ⟨_, qz, rfl⟩
  unfold pyNext
  refine wpAny_bind (wpAny_attempt (wpAny_callSpecial?_slot (name := Str.ofString "__next__") ty F.slot_zip_next
    (wpAny_call_entry F.slot_zip_next ty F.entry_zip_next (zip_item sf S D1 D2 qz qI qO t1 t2 l1 l2 fun x y h' tk b1 b2 b3 b4 b5 b6 b7 b8 b9 => wpAny_pure (f x y h' tk b1 b2 b3 b4 b5 b6 b7 b8 b9)) (F.args_zip_next_1 _))))
theorem zip_nx_end {Q : Option Value → Shared → Prop} (sf : Bool) (hn : A.handled = none) (S : ZipSep2 z TI TO i1 i2 fp1 fp2) (D1 : Draws prog w A.in1 i1 fp1 n1 P1 St1) (D2 : Draws prog w A.in1 i2 fp2 n2 P2 St2)
    (qz : ZipObj sf s.heap z TI TO .none) (qI : IsTupOf2 s.heap TI (.ref i1) (.ref i2)) (qO : IsTupOf2 s.heap TO a1 a2) (t1 : St1 i s.heap) (t2 : St2 i s.heap) (l1 : i ≤ n1) (l2 : i ≤ n2) (he : i = n1 ∨ i = n2) (hs : sf = true → i = n1 ∧ i = n2)
    (f : ∀ h' tk, (∀ c o, c ≠ z → c ≠ TO → c ≠ i1 → c ≠ i2 → s.heap.get? c = some o → h'.get? c = some o) → Q none { s with heap := h', toks := tk }) :
    wpAny (model prog w) A (pyNext (.ref z)) Q E s := by
  have ty : s.TypeIs (.ref z) "zip" := ⟨_, qz, rfl⟩
  unfold pyNext
  refine wpAny_bind (wpAny_attempt (wpAny_callSpecial?_slot (name := Str.ofString "__next__") ty F.slot_zip_next
    (wpAny_call_entry F.slot_zip_next ty F.entry_zip_next (zip_end sf hn S D1 D2 qz qI qO t1 t2 l1 l2 he hs fun h' tk e hk hx => ?_) (F.args_zip_next_1 _))))
  obtain ⟨o, ho, hc⟩ := hx
  exact wpAny_bind (wpAny_isInstance (T := "StopIteration") (b := true) ⟨o, ho, hc⟩ isSubtype_stop (wpAny_pure (f h' tk hk)))
theorem zip_go (sf : Bool) {elts : List Expr} {x1} {pos : Pos} {T : Addr} {Q : Unit → Shared → Prop} (qz : ZipObj sf s.heap z TI TO (rawInt T))
    (f : ∀ h', ZipObj sf h' z TI TO .none → Heap.SameBut z s.heap h' → Q () { s with heap := h' }) :
    wpAny (model prog w) A (letOwnedTupleGo (.Tuple elts x1 pos) (.ref z) (.ref T)) Q E s := by
  unfold letOwnedTupleGo
  refine wpAny_bind (wpAny_load qz (?_ : wpAny _ _ _ _ _ _))
  show wpAny _ _ (if (["enumerate", "zip", "dict_itemiterator", "dict_reverseitemiterator", "odict_iterator", "itertools.zip_longest", "itertools.pairwise"].contains "zip" &&
      (#[rawInt T, .bool false, .bool sf, .ref TI, .ref TO] : Array Value)[0]? == some (rawInt T)) = true then _ else _) Q E s
  rw [if_pos (by simp)]
  refine wpAny_bind (wpAny_rule (?_ : wpAny _ _ _ _ _ _))
  show wpAny _ _ (setField (.ref z) 0 .none) Q E s
  exact wpAny_setField_rec qz (by simp) fun h' z' u' => f h' z' u'
theorem zip_self (sf : Bool) {f0 : Value} {Q : Value → Shared → Prop} (qz : ZipObj sf s.heap z TI TO f0) (h : Q (.ref z) s) : wpAny (model prog w) A (pyIter (.ref z)) Q E s := by
  have ty : s.TypeIs (.ref z) "zip" := ⟨_, qz, rfl⟩
  refine wpAny_pyIter_slot ty F.slot_zip_iter (wpAny_call_entry F.slot_zip_iter ty F.entry_zip_iter (?_ : wpAny _ _ _ _ _ _) (F.args_zip_iter_1 _))
  show wpAny _ _ (ret (.ref z)) _ _ s
  exact wpAny_pure ⟨_, rfl, "zip", _, ty, F.slot_zip_next.lookup, h⟩
end
/-! .. its beginning -/
theorem typeCall_zip_strict (a b : Value) : checkTypeCall "zip" ⟨[a, b], [(Str.ofString "strict", .bool true)]⟩ = pure () := by kernel_rfl
theorem newCall_zip_strict (a b : Value) : checkBuiltinCall "zip.__new__" ⟨[.type "zip", a, b], [(Str.ofString "strict", .bool true)]⟩ = pure () := by kernel_rfl
theorem args_init_strict (obj a b : Value) : argsOk "object.__init__" ⟨[obj, a, b], [(Str.ofString "strict", .bool true)]⟩ := by unfold argsOk; kernel_rfl
def zsT (h : Heap) (o1 o2 : Obj) : Heap := ((h.push o1).push o2).push { cls := .type "tuple", data := .seq #[.ref h.objs.size, .ref (h.push o1).objs.size] }
def zsO (h : Heap) (o1 o2 : Obj) : Heap := (zsT h o1 o2).push { cls := .type "tuple", data := .seq #[.none, .none] }
def zsZ (h : Heap) (o1 o2 : Obj) : Heap := (zsO h o1 o2).push { cls := .type "zip", data := .fields #[.none, .bool false, .bool true, .ref ((h.push o1).push o2).objs.size, .ref (zsT h o1 o2).objs.size] }
theorem meets_zip_strict {v1 v2 : Value} {o1 o2 : Obj} {H1 H2 : Heap → Prop} (B1 : Begins v1 o1 H1) (B2 : Begins v2 o2 H2) :
    Meets (Builtin.«zip.__new__» ⟨[.type "zip", v1, v2], [(Str.ofString "strict", .bool true)]⟩) (fun _ R s => (H1 s.heap ∧ H2 s.heap) ∧ R (.ok (.ret (.ref (zsO s.heap o1 o2).objs.size))) { s with heap := zsZ s.heap o1 o2 }) :=
  .of_wp fun prog w A R s h => by
    obtain ⟨hp, gg, dd, tk, os⟩ := s
    obtain ⟨⟨h1, h2⟩, h⟩ := h
    have hsub := sub_zip
    have e1 : (Str.ofString "strict" == ("strict" : Str)) = true := by decide +kernel
    have e2 : (Str.ofString "strict" != ("strict" : Str)) = false := by decide +kernel
    have r1 : ∀ {A' : Around} {E : Value → Shared → Prop} {Q : Value → Shared → Prop}, Q (.ref hp.objs.size) ⟨hp.push o1, gg, dd, tk, os⟩ → wpAny (model prog w) A' (pyIter v1) Q E ⟨hp, gg, dd, tk, os⟩ :=
      fun q => B1.iter prog w _ _ ⟨hp, gg, dd, tk, os⟩ _ h1 q
    have r2 : ∀ {A' : Around} {E : Value → Shared → Prop} {Q : Value → Shared → Prop}, Q (.ref (hp.push o1).objs.size) ⟨(hp.push o1).push o2, gg, dd, tk, os⟩ → wpAny (model prog w) A' (pyIter v2) Q E ⟨hp.push o1, gg, dd, tk, os⟩ :=
      fun q => B2.iter prog w _ _ ⟨hp.push o1, gg, dd, tk, os⟩ _ (B2.keeps _ _ h2 fun b o' e => Heap.get?_push_of_some _ e) q
    wp_walk using r1, r2
    exact ⟨_, rfl, h⟩
section
variable {prog : Program} {w : World} {A : Around} {E : Value → Shared → Prop} {s : Shared}
def zipKw (sf : Bool) : List (Str × Value) := match sf with | true => [(Str.ofString "strict", .bool true)] | false => []
theorem zip_begins (sf : Bool) {v1 v2 : Value} {o1 o2 : Obj} {H1 H2 : Heap → Prop} {Q : Value → Shared → Prop} (B1 : Begins v1 o1 H1) (B2 : Begins v2 o2 H2) (h1 : H1 s.heap) (h2 : H2 s.heap)
    (f : ∀ h', ZipObj sf h' (s.heap.objs.size + 4) (s.heap.objs.size + 2) (s.heap.objs.size + 3) .none → IsTupOf2 h' (s.heap.objs.size + 2) (.ref s.heap.objs.size) (.ref (s.heap.objs.size + 1)) →
      IsTupOf2 h' (s.heap.objs.size + 3) .none .none → h'.get? s.heap.objs.size = some o1 → h'.get? (s.heap.objs.size + 1) = some o2 → (∀ c o, s.heap.get? c = some o → h'.get? c = some o) → Q (.ref (s.heap.objs.size + 4)) { s with heap := h' }) :
    wpAny (model prog w) A (call (.type "zip") [v1, v2] (zipKw sf)) Q E s := by
  cases sf with
  | false => exact zip_begins2 B1 B2 h1 h2 fun h' b1 b2 b3 b4 b5 _ b7 => f h' b1 b2 b3 b4 b5 b7
  | true =>
    refine callType_newKw F.called_zip (by decide) (typeCall_zip_strict _ _) (newCall_zip_strict _ _) (fun obj => args_init_strict obj _ _) F.entry_zip_new (meets_zip_strict B1 B2) ⟨⟨h1, h2⟩, ?_⟩
    have z1 : (s.heap.push o1).objs.size = s.heap.objs.size + 1 := Heap.size_push ..
    have z2 : ((s.heap.push o1).push o2).objs.size = s.heap.objs.size + 2 := by rw [Heap.size_push, z1]
    have zT : (zsT s.heap o1 o2).objs.size = s.heap.objs.size + 3 := by unfold zsT; rw [Heap.size_push, z2]
    have zO : (zsO s.heap o1 o2).objs.size = s.heap.objs.size + 4 := by unfold zsO; rw [Heap.size_push, zT]
    have gZ : (zsZ s.heap o1 o2).get? (zsO s.heap o1 o2).objs.size = some { cls := .type "zip", data := .fields #[.none, .bool false, .bool true, .ref ((s.heap.push o1).push o2).objs.size, .ref (zsT s.heap o1 o2).objs.size] } := Heap.get?_push_size _ rfl
    have gO : (zsZ s.heap o1 o2).get? (zsT s.heap o1 o2).objs.size = some { cls := .type "tuple", data := .seq #[.none, .none] } := Heap.get?_push_of_some _ (Heap.get?_push_size _ rfl)
    have gT : (zsZ s.heap o1 o2).get? ((s.heap.push o1).push o2).objs.size = some { cls := .type "tuple", data := .seq #[.ref s.heap.objs.size, .ref (s.heap.push o1).objs.size] } := Heap.get?_push_of_some _ (Heap.get?_push_of_some _ (Heap.get?_push_size _ rfl))
    have ge : ∀ c o, ((s.heap.push o1).push o2).get? c = some o → (zsZ s.heap o1 o2).get? c = some o := fun c o e => Heap.get?_push_of_some _ (Heap.get?_push_of_some _ (Heap.get?_push_of_some _ e))
    have g1 : (zsZ s.heap o1 o2).get? s.heap.objs.size = some o1 := ge _ _ (Heap.get?_push_of_some _ (Heap.get?_push_size _ B1.free))
    have g2 : (zsZ s.heap o1 o2).get? (s.heap.push o1).objs.size = some o2 := ge _ _ (Heap.get?_push_size _ B2.free)
    rw [zO, zT, z2] at gZ
    rw [zT] at gO
    rw [z2, z1] at gT
    rw [z1] at g2
    show _ ∧ _
    rw [zO]
    exact ⟨⟨_, gZ, rfl⟩, f _ gZ gT gO g1 g2 fun c o e => ge _ _ (Heap.get?_push_of_some _ (Heap.get?_push_of_some _ e))⟩
end
/-! .. tuples and lists by one mark -/
/-- tu: a tuple, otherwise a list -/
def sqB (tu : Bool) (K : PySem.W.Frag) (H : Hp) (a : Addr) (xs : List V) : Prop := match tu with | true => SqT K H a xs | false => SqL K H a xs
def isB (tu : Bool) (h : Heap) (l : Addr) (items : Array Value) : Prop := match tu with | true => h.IsTuple l items | false => h.IsList l items
def itB (tu : Bool) (h : Heap) (it l : Addr) (i : Nat) : Prop := match tu with | true => h.IsTupleIter it l i | false => h.IsListIter it l i
def itObj (tu : Bool) (l : Addr) : Obj := match tu with | true => { cls := .type "tuple_iterator", data := .fields #[.ref l, .int 0 0] } | false => { cls := .type "list_iterator", data := .fields #[.ref l, .int 0 0] }
theorem itB.start {tu : Bool} {h : Heap} {it l : Addr} (e : h.get? it = some (itObj tu l)) : itB tu h it l 0 := by
  cases tu with
  | true => exact ⟨_, e, rfl, rfl⟩
  | false => exact ⟨_, e, rfl, rfl⟩
theorem itB.obj {tu : Bool} {h : Heap} {it l : Addr} {i : Nat} (x : itB tu h it l i) : ∃ o, h.get? it = some o ∧ ∀ v, o.data ≠ .cell v := by
  cases tu with
  | true => obtain ⟨o, e, _, d⟩ := x; exact ⟨o, e, fun v q => by rw [d] at q; cases q⟩
  | false => obtain ⟨o, e, _, d⟩ := x; exact ⟨o, e, fun v q => by rw [d] at q; cases q⟩
theorem itB.at {tu : Bool} {h h' : Heap} {it l : Addr} {i : Nat} (x : itB tu h it l i) (k : ∀ o, h.get? it = some o → h'.get? it = some o) : itB tu h' it l i := by
  cases tu with
  | true => obtain ⟨o, e, c, d⟩ := x; exact ⟨o, k o e, c, d⟩
  | false => obtain ⟨o, e, c, d⟩ := x; exact ⟨o, k o e, c, d⟩
theorem begins_B (tu : Bool) (l : Addr) (items : Array Value) : Begins (.ref l) (itObj tu l) fun h => isB tu h l items := by
  cases tu with
  | true => exact begins_tuple l items
  | false => exact begins_list l items
theorem draws_B {prog : Program} {w : World} {A : Around} (hn : A.handled = none) (tu : Bool) (it l : Addr) (ne : l ≠ it) (items : Array Value) : Draws prog w A it [it, l] items.size (fun i v => items[i]? = some v) (fun i h => itB tu h it l i ∧ isB tu h l items) := by
  cases tu with
  | true => exact Draws.tuple hn it l ne items
  | false => exact Draws.list hn it l ne items
theorem sqB_open {X : Cx} {pins : List (Addr × Obj)} {σ : L2.St} {H : Hp} {s : Shared} (I : Inv X pins σ H s) {tu : Bool} {a : Addr} {xs : List V} (h : sqB tu X.K H a xs) : ∃ its : List Value, Vals xs its ∧ isB tu s.heap a its.toArray ∧ a < s.heap.objs.size ∧ xs.length ≤ sizeLine := by
  cases tu with
  | true =>
    obtain ⟨its, r, p, z⟩ := I.tuple h
    obtain ⟨o, e, _⟩ := id p
    exact ⟨its, r, p, Heap.lt_size e, z⟩
  | false =>
    obtain ⟨its, r, p, z⟩ := I.list h
    exact ⟨its, r, p.isList, p.lt, z⟩
theorem sqB_inj {X : Cx} {pins : List (Addr × Obj)} {σ : L2.St} {H : Hp} {s : Shared} (I : Inv X pins σ H s) {tu : Bool} {a : Addr} {xs ys : List V} (h : sqB tu X.K H a xs) (g : sqB tu X.K H a ys) : xs = ys := by
  cases tu with
  | true => exact I.tuple_inj h g
  | false => exact I.list_inj h g
/-- what zip tells -/
def ItZ (sf b1 b2 : Bool) (K : PySem.W.Frag) (a1 a2 : Addr) : It :=
  ⟨fun i H => ∃ (xs ys : List V) (x y : V), sqB b1 K H a1 xs ∧ sqB b2 K H a2 ys ∧ xs[i]? = some x ∧ ys[i]? = some y,
    fun i H v H' => ∃ T x y, v = .ref T ∧ H T = none ∧ H' = upd H T (.tup [x, y]) ∧ (∀ xs, sqB b1 K H a1 xs → xs[i]? = some x) ∧ ∀ ys, sqB b2 K H a2 ys → ys[i]? = some y,
    fun i H => ∃ xs ys : List V, sqB b1 K H a1 xs ∧ sqB b2 K H a2 ys ∧ i ≤ xs.length ∧ i ≤ ys.length ∧ (i = xs.length ∨ i = ys.length) ∧ (sf = true → i = xs.length ∧ i = ys.length)⟩
structure ZApart (z TI TO i1 i2 : Addr) : Prop where
  a1 : TI ≠ z
  a2 : TO ≠ z
  a3 : i1 ≠ z
  a4 : i2 ≠ z
  a5 : TI ≠ TO
  a6 : TI ≠ i1
  a7 : TI ≠ i2
  a8 : TO ≠ i1
  a9 : TO ≠ i2
  a10 : i1 ≠ i2
/-- the zip's own cells and the lists are two -/
theorem ZApart.sep {z TI TO i1 i2 l1 l2 : Addr} (Z : ZApart z TI TO i1 i2) (h1 : l1 ∉ [z, TI, TO, i1, i2]) (h2 : l2 ∉ [z, TI, TO, i1, i2]) : ZipSep2 z TI TO i1 i2 [i1, l1] [i2, l2] := by
  simp only [List.mem_cons, List.not_mem_nil, or_false, not_or] at h1 h2
  obtain ⟨p1, p2, p3, p4, p5⟩ := h1
  obtain ⟨q1, q2, q3, q4, q5⟩ := h2
  refine ⟨Z.a1, Z.a2, Z.a5, Z.a6, List.mem_cons_self, ?_, ?_, Z.a7, List.mem_cons_self, ?_, ?_, ?_, ?_⟩ <;> simp only [List.mem_cons, List.not_mem_nil, or_false, not_or]
  · exact ⟨Z.a3.symm, fun e => p1 e.symm⟩
  · exact ⟨Z.a8, fun e => p3 e.symm⟩
  · exact ⟨Z.a4.symm, fun e => q1 e.symm⟩
  · exact ⟨Z.a9, fun e => q3 e.symm⟩
  · exact ⟨Z.a10, fun e => q4 e.symm⟩
  · exact ⟨Z.a10.symm, fun e => p5 e.symm⟩
theorem zapart (I : Nat) : ZApart (I + 4) (I + 2) (I + 3) I (I + 1) := by
  constructor <;> (refine PySem.W.neN ?_; omega)
theorem zout (I c : Nat) (h : c < I) : (c : Addr) ∉ ([I + 4, I + 2, I + 3, I, I + 1] : List Addr) := fun z => by
  have z' : c ∈ ([I + 4, I + 2, I + 3, I, I + 1] : List Nat) := z
  simp at z'
  omega
theorem zin (I c : Nat) (h : (c : Addr) ∈ ([I + 4, I + 2, I + 3, I, I + 1] : List Addr)) : I ≤ c := by
  have z' : c ∈ ([I + 4, I + 2, I + 3, I, I + 1] : List Nat) := h
  simp at z'
  omega
theorem turn_Z {P : Program} {w : World} {K : PySem.W.Frag} (sf b1 b2 : Bool) {elts : List Expr} {kk : Nat} {tpos : Pos} {a1 a2 z TI TO i1 i2 : Addr} (Z : ZApart z TI TO i1 i2) (m1 : a1 ∉ [z, TI, TO, i1, i2]) (m2 : a2 ∉ [z, TI, TO, i1, i2]) :
    Turn P w K (.Tuple elts kk tpos) (ItZ sf b1 b2 K a1 a2) [z, TI, TO, i1, i2] z (fun i h => ZipObj sf h z TI TO .none ∧ IsTupOf2 h TI (.ref i1) (.ref i2) ∧ (∃ x y, IsTupOf2 h TO x y) ∧ itB b1 h i1 a1 i ∧ itB b2 h i2 a2 i) where
  mem := by simp
  obj := fun i h st c hc => by
    obtain ⟨hz, hI, ⟨x, y, hO⟩, k1, k2⟩ := st
    have e' : c = z ∨ c = TI ∨ c = TO ∨ c = i1 ∨ c = i2 := by simpa using hc
    rcases e' with q | q | q | q | q <;> rw [q]
    · exact ⟨_, hz, fun v q => nomatch q⟩
    · exact ⟨_, hI, fun v q => nomatch q⟩
    · exact ⟨_, hO, fun v q => nomatch q⟩
    · exact k1.obj
    · exact k2.obj
  keep := fun i h h' st k => by
    obtain ⟨hz, hI, ⟨x, y, hO⟩, k1, k2⟩ := st
    exact ⟨k z (by simp) _ hz, k TI (by simp) _ hI, ⟨x, y, k TO (by simp) _ hO⟩, k1.at fun o q => k i1 (by simp) o q, k2.at fun o q => k i2 (by simp) o q⟩
  item := by
    intro X hP hw hK hc i pins s σ H E I hf st hg
    subst hP hw hK
    obtain ⟨hz, hI, ⟨x0, y0, hO⟩, k1, k2⟩ := st
    obtain ⟨xs, ys, x, y, hx, hy, ex, ey⟩ := hg
    obtain ⟨us, r1, p1, lt1, _⟩ := sqB_open I hx
    obtain ⟨vs, r2, p2, lt2, _⟩ := sqB_open I hy
    obtain ⟨u, hu, ru⟩ := r1.get ex
    obtain ⟨v, hv, rv⟩ := r2.get ey
    have S := Z.sep m1 m2
    have ne1 : a1 ≠ i1 := fun e => m1 (by simp [e])
    have ne2 : a2 ≠ i2 := fun e => m2 (by simp [e])
    have hn := I.ok.hd hc
    have D1 := draws_B (prog := X.prog) (w := X.w) (A := X.A.in1) hn b1 i1 a1 ne1 us.toArray
    have D2 := draws_B (prog := X.prog) (w := X.w) (A := X.A.in1) hn b2 i2 a2 ne2 vs.toArray
    have zl : z < s.heap.objs.size := Heap.lt_size hz
    have lu : i < us.toArray.size := by
      have := (List.getElem?_eq_some_iff.mp hu).1
      simpa using this
    have lv : i < vs.toArray.size := by
      have := (List.getElem?_eq_some_iff.mp hv).1
      simpa using this
    refine zip_nx sf S D1 D2 hz hI hO ⟨k1, p1⟩ ⟨k2, p2⟩ lu lv fun x' y' h' tk ex' ey' z' O' n1 n2 T' sz hk => ?_
    have e1 : x' = u := by
      have h1 : us[i]? = some x' := by simpa using ex'
      rw [hu] at h1; exact (Option.some.inj h1).symm
    have e2 : y' = v := by
      have h1 : vs[i]? = some y' := by simpa using ey'
      rw [hv] at h1; exact (Option.some.inj h1).symm
    subst e1 e2
    refine ⟨_, rfl, zip_go (s := { s with heap := h', toks := tk }) sf z' fun h'' z'' sb => ?_⟩
    replace sb : Heap.SameBut z h' h'' := sb
    have T2 : h''.get? s.heap.objs.size = some { cls := .type "tuple", data := .seq #[x', y'] } := (sb.2 _ (Nat.ne_of_gt zl)).trans T'
    have new : ObjOk X.prog X.w (upd H s.heap.objs.size (.tup [x, y])) h'' s.heap.objs.size (.tup [x, y]) :=
      ⟨by show 2 ≤ sizeLine; decide, [x', y'], .cons ru (.cons rv .nil), ⟨_, T2, rfl, _, rfl⟩⟩
    have keepAll : ∀ c o, c ∉ [z, TI, TO, i1, i2] → s.heap.get? c = some o → h''.get? c = some o := fun c o hb q => by
      simp only [List.mem_cons, List.not_mem_nil, or_false, not_or] at hb
      exact (sb.2 c hb.1).trans (hk c o hb.1 hb.2.2.1 hb.2.2.2.1 hb.2.2.2.2 q)
    have I1 : Inv X pins σ (upd H s.heap.objs.size (.tup [x, y])) { s with heap := h'', toks := tk } := I.turnedNew (ch := [z, TI, TO, i1, i2]) keepAll hf (Nat.le_refl _) new
    refine ⟨.ref s.heap.objs.size, _, I1, rfl, ⟨_, x, y, rfl, I.hok.fresh (Nat.le_refl _), rfl, fun l hl => by rw [sqB_inj I hl hx]; exact ex, fun l hl => by rw [sqB_inj I hl hy]; exact ey⟩, ⟨z'', ?_, ⟨x', y', ?_⟩, ?_, ?_⟩, fun c hcm => ?_⟩
    · exact (sb.2 _ Z.a1).trans (hk _ _ Z.a1 Z.a5 Z.a6 Z.a7 hI)
    · exact (sb.2 _ Z.a2).trans O'
    · exact n1.1.at fun o q => (sb.2 _ Z.a3).trans q
    · exact n2.1.at fun o q => (sb.2 _ Z.a4).trans q
    · have hlt : c < s.heap.objs.size := by
        have e' : c = z ∨ c = TI ∨ c = TO ∨ c = i1 ∨ c = i2 := by simpa using hcm
        rcases e' with q | q | q | q | q <;> rw [q]
        · exact zl
        · exact Heap.lt_size hI
        · exact Heap.lt_size hO
        · obtain ⟨_, e, _⟩ := k1.obj; exact Heap.lt_size e
        · obtain ⟨_, e, _⟩ := k2.obj; exact Heap.lt_size e
      rw [upd_ne (Nat.ne_of_lt hlt)]
      exact (hf c hcm).1
  done := by
    intro X hP hw hK hc i pins s σ H E I hf st hg
    subst hP hw hK
    obtain ⟨hz, hI, ⟨x0, y0, hO⟩, k1, k2⟩ := st
    obtain ⟨xs, ys, hx, hy, g1, g2, g3, g4⟩ := hg
    obtain ⟨us, r1, p1, lt1, _⟩ := sqB_open I hx
    obtain ⟨vs, r2, p2, lt2, _⟩ := sqB_open I hy
    have S := Z.sep m1 m2
    have hn := I.ok.hd hc
    have D1 := draws_B (prog := X.prog) (w := X.w) (A := X.A.in1) hn b1 i1 a1 (fun e => m1 (by simp [e])) us.toArray
    have D2 := draws_B (prog := X.prog) (w := X.w) (A := X.A.in1) hn b2 i2 a2 (fun e => m2 (by simp [e])) vs.toArray
    have eu : us.toArray.size = xs.length := by rw [List.size_toArray, r1.length]
    have ev : vs.toArray.size = ys.length := by rw [List.size_toArray, r2.length]
    refine zip_nx_end sf hn S D1 D2 hz hI hO ⟨k1, p1⟩ ⟨k2, p2⟩ (by rw [eu]; exact g1) (by rw [ev]; exact g2) (by rw [eu, ev]; exact g3) (fun q => by rw [eu, ev]; exact g4 q) fun h' tk hk => ⟨rfl, I.turnedL (t' := tk) (ch := [z, TI, TO, i1, i2]) (fun c o hb q => ?_) hf⟩
    simp only [List.mem_cons, List.not_mem_nil, or_false, not_or] at hb
    exact hk c o hb.1 hb.2.2.1 hb.2.2.2.1 hb.2.2.2.2 q
  self := fun A i s Q E st h => zip_self sf st.1 h
/-! .. its call -/
theorem callWith_typeKw {M : Model} {A : Around} {E : Value → Shared → Prop} {s : Shared} {pos : Pos} {T : String} {first : List Value} {args : List (Bool × Sem Value)} {keywords : List (Option Str × Sem Value)} {Q : Value → Shared → Prop}
    (hp : args.any (·.1) = false) (hkw : keywords.any (·.1.isNone) = false)
    (h : wpAny M A (evalArgs (.type T) true args keywords) (fun a s₁ => wpAny M A (call (.type T) (first ++ a.pos) a.kw) Q E s₁) E s) : wpAny M A (callWith pos (.type T) first args keywords) Q E s := by
  unfold callWith
  refine wpAny_bind (wpAny_holding (wpAny_mono h (fun a s₁ q => wpAny_bind (wpAny_standAt (?_ : wpAny _ _ _ _ _ _))) fun _ _ z => z))
  simp only [hp, hkw, Bool.or_false]
  refine wpAny_bind (wpAny_pure (?_ : wpAny _ _ _ _ _ _))
  exact wpAny_bind (wpAny_mono q (fun r s₂ hr => wpAny_bind (wpAny_holding (wpAny_point (wpAny_pure hr)))) fun _ _ z => z)
def kwB (kws : List Keyword) (sf : Bool) : Bool := match sf with
  | false => (match kws with | [] => true | _ => false)
  | true => (match kws with | [⟨some n, .Constant (.bool true) _ _, _⟩] => decide (n = Str.ofString "strict") | _ => false)
def tZip (K : PySem.W.Frag) (sf : Bool) (ta : TA) : TI := fun σ H R => ta σ H fun vs H1 => ∃ b1 b2 a b xs ys, vs = [.ref a, .ref b] ∧ sqB b1 K H1 a xs ∧ sqB b2 K H1 b ys ∧ R (ItZ sf b1 b2 K a b) H1
theorem pi_Z {X : Cx} (sf : Bool) {e e2 : Expr} {kws : List Keyword} {ta : TA} {p pos tpos : Pos} {elts : List Expr} {kk : Nat} (hg : Gl X "zip") (hm : X.mg "zip" = none) (ha : PA X [e, e2] ta) (hk : kwB kws sf = true)
    (hs : starEach [e, e2] X.env = (false, eval e X.env) :: starEach [e2] X.env) (hpl : (backTo pos (starEach [e2] X.env)).any (·.1) = false) : PI X (.Tuple elts kk tpos) (.Call (.Name "zip" p) [e, e2] kws pos) (tZip X.K sf ta) := by
  have fin : ∀ (pins : List (Addr × Obj)) (s1 : Shared) (σ : L2.St) (H1 : Hp) (R : It → Hp → Prop) (vs : List V) (us : List Value), Inv X pins σ H1 s1 → Vals vs us →
      (∃ b1 b2 a b xs ys, vs = [.ref a, .ref b] ∧ sqB b1 X.K H1 a xs ∧ sqB b2 X.K H1 b ys ∧ R (ItZ sf b1 b2 X.K a b) H1) →
      wpAny (model X.prog X.w) X.A (call (.type "zip") us (zipKw sf)) (fun v s2 => wpAny (model X.prog X.w) X.A (pyIter v) (PIE X pins σ (.Tuple elts kk tpos) R) X.xe s2) X.xe s1 := by
    intro pins s1 σ H1 R vs us I1 r1 q1
    obtain ⟨b1, b2, a, b, xs, ys, ex, hx, hy, q⟩ := q1
    subst ex
    cases r1 with
    | cons r rr =>
      cases rr with
      | cons r' rr =>
        cases rr
        cases r
        cases r'
        obtain ⟨vs1, _, p1, lt1, _⟩ := sqB_open I1 hx
        obtain ⟨vs2, _, p2, lt2, _⟩ := sqB_open I1 hy
        refine zip_begins sf (begins_B b1 a vs1.toArray) (begins_B b2 b vs2.toArray) p1 p2 fun h' hz hI hO g1 g2 hk => zip_self sf hz ?_
        have I2 : Inv X pins σ H1 { s1 with heap := h' } := I1.kept (t' := s1.toks) hk
        refine ⟨s1.heap.objs.size + 4, _, _, _, H1, rfl, I2, turn_Z sf b1 b2 (zapart _) (zout _ a lt1) (zout _ b lt2), ⟨hz, hI, ⟨_, _, hO⟩, .start g1, .start g2⟩, fun c hcm => ?_, q⟩
        have hle : s1.heap.objs.size ≤ c := zin _ _ hcm
        exact I1.fpOk hle (I1.hok.fresh hle)
  refine ⟨fun pins s σ H R I h => ?_⟩
  cases sf with
  | false =>
    have ek : kws = [] := by
      cases kws with
      | nil => rfl
      | cons a b => cases hk
    subst ek
    exact Call_ (ld_blt I hg hm PyProof.Rows.boot_zip (PyProof.Rows.callWith_type1 (thn (ha.run pos pins s σ H _ I h) fun us s1 ⟨vs, H1, I1, r1, q1⟩ => fin pins s1 σ H1 R vs us I1 r1 q1) hs hpl))
  | true =>
    have ek : ∃ j cp kp, kws = [⟨some (Str.ofString "strict"), .Constant (.bool true) j cp, kp⟩] := by
      unfold kwB at hk
      dsimp only at hk
      split at hk
      · exact ⟨_, _, _, by rw [of_decide_eq_true hk]⟩
      · cases hk
    obtain ⟨j, cp, kp, rfl⟩ := ek
    refine wpAny_Call_Name_kw (ld_blt I hg hm PyProof.Rows.boot_zip ?_)
    refine callWith_typeKw (by rw [hs]; exact hpl) rfl (evalArgs_kw2 rfl (thn (ha.run pos pins s σ H _ I h) fun us s1 ⟨vs, H1, I1, r1, q1⟩ => ?_) hs)
    refine thn ((pk_cons (nm := some (Str.ofString "strict")) (kpos := kp) (pe_bl (b := true) (j := j) (pos := cp)) pk_nil).run pos pins s1 σ H1 (fun zs H2 => zs = [V.bl true] ∧ H2 = H1) I1 ⟨rfl, rfl⟩) fun ws s2 ⟨zs, H2, I2, rz, ez, eh⟩ => ?_
    subst ez eh
    obtain ⟨u, rfl, ru⟩ := vals1 rz
    cases (show u = Value.bool true from ru)
    exact fin pins s2 σ _ R vs us I2 r1 q1
end Mi
namespace Mi
open PySem PySem.Spec PyProof.Rows L2

theorem seqB_at {G : GEnv} {k : Nat} {X : Cx} (gd : Good G k X) {mu : Mu} {H : Hp} {st : Sto} (R : RelS G.K mu H st) {d : D} {v : V} {ds : List D} (h : seqOf st d = some ds) (r : RV G.K mu H d v) :
    ∃ (a : Addr) (tu : Bool), v = .ref a ∧ ∀ (mu2 : Mu) (H2 : Hp) (st2 : Sto), Step mu H mu2 H2 → RelS G.K mu2 H2 st2 → seqOf st2 d = some ds → ∃ us, sqB tu X.K H2 a us ∧ RVs G.K mu2 H2 ds us := by
  obtain ⟨a, vs, rfl, h1, h2⟩ := seq_at R h r
  rcases h1 with ⟨⟨es, rfl⟩, h1⟩ | ⟨hl, h1⟩
  · refine ⟨a, true, rfl, fun mu2 H2 st2 s2 r2 ho => ?_⟩
    obtain ⟨b, us, e, h3, h4⟩ := seq_at r2 ho (r.step s2)
    cases e
    rcases h3 with ⟨_, h3⟩ | ⟨h3, _⟩
    · exact ⟨us, gd.K' (P := fun K => SqT K H2 a us) h3, h4⟩
    · unfold lstOf at h3; cases h3
  · refine ⟨a, false, rfl, fun mu2 H2 st2 s2 r2 ho => ?_⟩
    obtain ⟨b, us, e, h3, h4⟩ := seq_at r2 ho (r.step s2)
    cases e
    rcases h3 with ⟨⟨es, rfl⟩, _⟩ | ⟨_, h3⟩
    · unfold lstOf at hl; cases hl
    · exact ⟨us, .of h3, h4⟩
theorem RVs.at {K : PySem.W.Frag} {mu : Mu} {H : Hp} {ds : List D} {vs : List V} (r : RVs K mu H ds vs) {i : Nat} {v : V} (h : vs[i]? = some v) : ∃ d, ds[i]? = some d ∧ RV K mu H d v := by
  have hl : i < ds.length := by rw [r.len]; exact (List.getElem?_eq_some_iff.mp h).1
  obtain ⟨w, e, q⟩ := r.get (List.getElem?_eq_getElem hl)
  rw [h] at e
  cases e
  exact ⟨_, List.getElem?_eq_getElem hl, q⟩
def pairD (xs ys : List D) : List D := List.zipWith (fun x y => D.tup [x, y]) xs ys
theorem zip_ok {G : GEnv} {k : Nat} {X : Cx} (gd : Good G k X) (sf : Bool) {mu : Mu} {H : Hp} {st : Sto} (R : RelS G.K mu H st) {d1 d2 : D} {v1 v2 : V} {xs ys : List D} (h1 : seqOf st d1 = some xs) (h2 : seqOf st d2 = some ys) (r1 : RV G.K mu H d1 v1) (r2 : RV G.K mu H d2 v2)
    (hs : sf = true → xs.length = ys.length) : ∃ a b b1 b2, v1 = .ref a ∧ v2 = .ref b ∧ (∃ us, sqB b1 X.K H a us) ∧ (∃ us, sqB b2 X.K H b us) ∧ ItOk G (ItZ sf b1 b2 X.K a b) (pairD xs ys) (fun s => seqOf s d1 = some xs ∧ seqOf s d2 = some ys) mu H := by
  obtain ⟨a, b1, e1, f1⟩ := seqB_at gd R h1 r1
  obtain ⟨b, b2, e2, f2⟩ := seqB_at gd R h2 r2
  obtain ⟨u1, g1, _⟩ := f1 mu H st (Step.refl _ _) R h1
  obtain ⟨u2, g2, _⟩ := f2 mu H st (Step.refl _ _) R h2
  refine ⟨a, b, b1, b2, e1, e2, ⟨u1, g1⟩, ⟨u2, g2⟩, fun mu2 st2 H2 s2 R2 ho i => ?_⟩
  obtain ⟨us, q1, k1⟩ := f1 mu2 H2 st2 s2 R2 ho.1
  obtain ⟨vs, q2, k2⟩ := f2 mu2 H2 st2 s2 R2 ho.2
  refine ⟨fun d hd => ?_, fun hl => ?_⟩
  · unfold pairD at hd
    rw [List.getElem?_zipWith] at hd
    cases ex : xs[i]? with
    | none => rw [ex] at hd; cases hd
    | some x =>
      cases ey : ys[i]? with
      | none => rw [ex, ey] at hd; cases hd
      | some y =>
        rw [ex, ey] at hd
        cases hd
        obtain ⟨u, eu, ru⟩ := k1.get ex
        obtain ⟨v, ev, rv⟩ := k2.get ey
        refine ⟨⟨us, vs, u, v, q1, q2, eu, ev⟩, fun z H' hy => ?_⟩
        obtain ⟨T, u', v', rfl, hT, rfl, w1, w2⟩ := hy
        have eu' := (w1 us q1).symm.trans eu
        have ev' := (w2 vs q2).symm.trans ev
        cases eu'
        cases ev'
        have s3 : Step mu2 H2 mu2 (upd H2 T (.tup [u, v])) := Step.newV hT
        exact ⟨s3, R2.newV hT, T, [u, v], rfl, .of upd_same, u, [v], rfl, ru.step s3, v, [], rfl, rv.step s3, rfl⟩
  · have hl' : min xs.length ys.length = i := by
      unfold pairD at hl
      simpa using hl
    refine ⟨us, vs, q1, q2, ?_, ?_, ?_, fun q => ?_⟩
    · rw [← k1.len]; omega
    · rw [← k2.len]; omega
    · rw [← k1.len, ← k2.len]; omega
    · have := hs q
      rw [← k1.len, ← k2.len]; omega
/-- zip(a, b), zip(a, b, strict=True) -/
def iZip (sf : Bool) (a b : SemE) : SemI where
  chk N sc e := match e with | .Call (.Name x _) [e, e2] kws _ => decide (x = ("zip" : Str)) && glB sc x && kwB kws sf && chkA [a, b] N sc [e, e2] | _ => false
  req G k := G.mg "zip" = none ∧ reqL [a, b] G k
  tup := true
  wp en st Q E := a.wp en st (fun d st1 => b.wp en st1 (fun d2 st2 => match seqOf st2 d, seqOf st2 d2 with
    | some xs, some ys => (sf = true → xs.length = ys.length) ∧ Q (pairD xs ys) (fun s => seqOf s d = some xs ∧ seqOf s d2 = some ys) st2
    | _, _ => False) E) E
  mono en st Q Q' E E' h f g := a.mono _ _ _ _ _ _ h (fun d s hd => b.mono _ _ _ _ _ _ hd (fun d s hd => by
    split at hd
    · exact ⟨hd.1, f _ _ _ hd.2⟩
    · exact hd.elim) g) g
  sound := by
    intro G k X W tg e gd tk rq ht hc
    split at hc
    · rename_i x px e e2 kws pos
      simp only [Bool.and_eq_true, decide_eq_true_eq] at hc
      obtain ⟨⟨⟨rfl, hg⟩, hk⟩, ha⟩ := hc
      have pa := pa_sound G k X W gd tk [a, b] [e, e2] rq.2 ha
      have hm : X.mg "zip" = none := by rw [gd.mg]; exact rq.1
      have htg := ht rfl
      cases tg with
      | Tuple elts kk tpos =>
        have base := pi_Z (tpos := tpos) (elts := elts) (kk := kk) (p := px) (pos := pos) sf (glB_ok hg) hm pa hk (chkA_star ha _) (by rw [chkA_star (chkA_tail ha) _]; rfl)
        refine ⟨fun pins s σ H R I h => base.run pins s σ H R I ?_⟩
        obtain ⟨mu, en, st, Re, h⟩ := h
        refine twa (l := [a, b]) (F := fun ds st2 => match ds with
          | [d, d2] => (match seqOf st2 d, seqOf st2 d2 with
            | some xs, some ys => (sf = true → xs.length = ys.length) ∧ PostI G mu H R (pairD xs ys) (fun s => seqOf s d = some xs ∧ seqOf s d2 = some ys) st2
            | _, _ => False)
          | _ => False) Re (a.mono _ _ _ _ _ _ h (fun d s hd => b.mono _ _ _ _ _ _ hd (fun d2 s2 hd => hd) fun _ _ h => h) fun _ _ h => h) fun ds st1 mu1 vs H1 hF s1 r1 q1 => ?_
        split at hF
        · rename_i d d2
          obtain ⟨v, w, rfl, r2, r3⟩ := q1.two
          split at hF
          · rename_i xs ys e1 e2
            obtain ⟨a1, a2, b1, b2, rfl, rfl, ⟨us, h1⟩, ⟨ws, h2⟩, ok⟩ := zip_ok gd sf r1 e1 e2 r2 r3 hF.1
            exact ⟨b1, b2, a1, a2, us, ws, rfl, h1, h2, hF.2 mu1 _ H1 s1 r1 ok⟩
          · exact hF.elim
        · exact hF.elim
      | _ => cases htg
    · cases hc

/-! ### enumerate -/
theorem meets_enum_one {v : Value} {o : Obj} {H : Heap → Prop} (B : Begins v o H) :
    Meets (Builtin.«enumerate.__new__» ⟨[.type "enumerate", v], []⟩) (fun _ R s => H s.heap ∧ R (.ok (.ret (.ref (s.heap.push o).objs.size))) { s with heap := (s.heap.push o).push { cls := .type "enumerate", data := .fields #[.none, .bool false, .ref s.heap.objs.size, rawInt 0, .none, .none] } }) :=
  .of_wp fun prog w A R s h => by
    obtain ⟨hp, gg, dd, tk, os⟩ := s
    obtain ⟨h1, h⟩ := h
    have hsub := sub_enumerate
    have r1 : ∀ {A' : Around} {E : Value → Shared → Prop} {Q : Value → Shared → Prop}, Q (.ref hp.objs.size) ⟨hp.push o, gg, dd, tk, os⟩ → wpAny (model prog w) A' (pyIter v) Q E ⟨hp, gg, dd, tk, os⟩ :=
      fun q => B.iter prog w _ _ ⟨hp, gg, dd, tk, os⟩ _ h1 q
    wp_walk using r1
    first
    | exact ⟨_, rfl, h⟩
    | (refine wpAny_stack_any fun st => wpAny_pure (?_ : wpAny _ _ _ _ _ _)
       split
       · rename_i c _ _ _ _ _
         cases (c == Value.type "enumerate")
         · wp_walk using r1
           exact ⟨_, rfl, h⟩
         · wp_walk using r1
           exact ⟨_, rfl, h⟩
       · wp_walk using r1
         exact ⟨_, rfl, h⟩)
section
variable {prog : Program} {w : World} {A : Around} {E : Value → Shared → Prop} {s : Shared}
theorem enum_one {v : Value} {o : Obj} {H : Heap → Prop} {Q : Value → Shared → Prop} (B : Begins v o H) (h1 : H s.heap)
    (f : ∀ h', IsEnum h' (s.heap.objs.size + 1) s.heap.objs.size 0 .none → h'.get? s.heap.objs.size = some o → (∀ b o, s.heap.get? b = some o → h'.get? b = some o) → Q (.ref (s.heap.objs.size + 1)) { s with heap := h' }) :
    wpAny (model prog w) A (call (.type "enumerate") [v]) Q E s := by
  refine callType_new F.called_enumerate (by decide) (F.typeCall_enumerate_1 _) (F.newCall_enumerate_1 _) (fun obj => F.args_object_init_2 obj _) F.entry_enumerate_new (meets_enum_one B) ⟨h1, ?_⟩
  have hz : (s.heap.push o).objs.size = s.heap.objs.size + 1 := Heap.size_push ..
  show _ ∧ _
  rw [hz]
  have he : IsEnum ((s.heap.push o).push { cls := .type "enumerate", data := .fields #[.none, .bool false, .ref s.heap.objs.size, rawInt 0, .none, .none] }) (s.heap.objs.size + 1) s.heap.objs.size 0 .none := by
    have e := Heap.get?_push_size (s.heap.push o) (o := { cls := .type "enumerate", data := .fields #[.none, .bool false, .ref s.heap.objs.size, rawInt 0, .none, .none] }) rfl
    rw [hz] at e; exact e
  exact ⟨⟨_, he, rfl⟩, f _ he (Heap.get?_push_of_some _ (Heap.get?_push_size _ B.free)) fun b o x => Heap.get?_push_of_some _ (Heap.get?_push_of_some _ x)⟩
end
/-- what enumerate tells -/
def ItE (tu : Bool) (K : PySem.W.Frag) (a : Addr) : It :=
  ⟨fun i H => ∃ (xs : List V) (x : V), sqB tu K H a xs ∧ xs[i]? = some x,
    fun i H v H' => ∃ T x, v = .ref T ∧ H T = none ∧ H' = upd H T (.tup [.int (i : Nat), x]) ∧ ∀ xs, sqB tu K H a xs → xs[i]? = some x,
    fun i H => ∃ xs : List V, sqB tu K H a xs ∧ xs.length = i⟩
theorem eapart (I : Nat) : (I + 1 : Addr) ≠ (I : Addr) := fun e => by
  have e' : (I + 1 : Nat) = I := e
  omega
theorem eout (I c : Nat) (h : c < I) : (c : Addr) ∉ ([I + 1, I] : List Addr) := fun z => by
  have z' : c ∈ ([I + 1, I] : List Nat) := z
  simp at z'
  omega
theorem ein (I c : Nat) (h : (c : Addr) ∈ ([I + 1, I] : List Addr)) : I ≤ c := by
  have z' : c ∈ ([I + 1, I] : List Nat) := h
  simp at z'
  omega
theorem turn_E {P : Program} {w : World} {K : PySem.W.Frag} (tu : Bool) {elts : List Expr} {kk : Nat} {tpos : Pos} {a e it : Addr} (ne : e ≠ it) (ma : a ∉ [e, it]) :
    Turn P w K (.Tuple elts kk tpos) (ItE tu K a) [e, it] e (fun i h => (∃ old, IsEnum h e it ((i : Nat) : Int) old) ∧ itB tu h it a i) where
  mem := by simp
  obj := fun i h st c hc => by
    obtain ⟨⟨old, he⟩, k1⟩ := st
    have e' : c = e ∨ c = it := by simpa using hc
    rcases e' with q | q <;> rw [q]
    · exact ⟨_, he, fun v q => nomatch q⟩
    · exact k1.obj
  keep := fun i h h' st k => by
    obtain ⟨⟨old, he⟩, k1⟩ := st
    exact ⟨⟨old, k e (by simp) _ he⟩, k1.at fun o q => k it (by simp) o q⟩
  item := by
    intro X hP hw hK hc i pins s σ H E I hf st hg
    subst hP hw hK
    obtain ⟨⟨old, he⟩, k1⟩ := st
    obtain ⟨xs, x, hx, ex⟩ := hg
    obtain ⟨us, r1, p1, lt1, _⟩ := sqB_open I hx
    obtain ⟨u, hu, ru⟩ := r1.get ex
    have na : a ≠ it := fun q => ma (by simp [q])
    have nea : a ≠ e := fun q => ma (by simp [q])
    have D := draws_B (prog := X.prog) (w := X.w) (A := X.A.in1) (I.ok.hd hc) tu it a na us.toArray
    have lu : i < us.toArray.size := by
      have := (List.getElem?_eq_some_iff.mp hu).1
      simpa using this
    have el : e < s.heap.objs.size := Heap.lt_size he
    have il : it < s.heap.objs.size := by obtain ⟨_, q, _⟩ := k1.obj; exact Heap.lt_size q
    refine wpAny_pyNext_enum_itemC D he ⟨k1, p1⟩ lu ne (by simp only [List.mem_cons, List.not_mem_nil, or_false, not_or]; exact ⟨ne, fun q => nea q.symm⟩) fun x' h' tk ex' ho n1 T' sz hk => ?_
    have e1 : x' = u := by
      have h1 : us[i]? = some x' := by simpa using ex'
      rw [hu] at h1; exact (Option.some.inj h1).symm
    subst e1
    refine ⟨_, rfl, wpAny_letOwnedTupleGo_enum (s := { s with heap := h', toks := tk + 1 }) ho fun h'' he' sb => ?_⟩
    replace sb : Heap.SameBut e h' h'' := sb
    have T2 : h''.get? s.heap.objs.size = some { cls := .type "tuple", data := .seq #[.int i tk, x'] } := (sb.2 _ (Nat.ne_of_gt el)).trans T'
    have new : ObjOk X.prog X.w (upd H s.heap.objs.size (.tup [.int (i : Nat), x])) h'' s.heap.objs.size (.tup [.int (i : Nat), x]) :=
      ⟨by show 2 ≤ sizeLine; decide, [.int i tk, x'], .cons ⟨_, rfl⟩ (.cons ru .nil), ⟨_, T2, rfl, _, rfl⟩⟩
    have I1 : Inv X pins σ (upd H s.heap.objs.size (.tup [.int (i : Nat), x])) { s with heap := h'', toks := tk + 1 } := I.turnedNew (ch := [e, it]) (fun b ob hb q => by
      simp only [List.mem_cons, List.not_mem_nil, or_false, not_or] at hb
      exact (sb.2 b hb.1).trans (hk b ob hb.1 hb.2 q)) hf (Nat.le_refl _) new
    refine ⟨.ref s.heap.objs.size, _, I1, rfl, ⟨_, x, rfl, I.hok.fresh (Nat.le_refl _), rfl, fun ys hy => by rw [sqB_inj I hy hx]; exact ex⟩, ⟨⟨x', ?_⟩, n1.1.at fun o q => (sb.2 it (Ne.symm ne)).trans q⟩, fun b hb => ?_⟩
    · have e1 : ((i + 1 : Nat) : Int) = (i : Int) + 1 := by omega
      rw [e1]; exact he'
    · have hlt : b < s.heap.objs.size := by
        have e' : b = e ∨ b = it := by simpa using hb
        rcases e' with q | q <;> rw [q]
        · exact el
        · exact il
      rw [upd_ne (Nat.ne_of_lt hlt)]
      exact (hf b hb).1
  done := by
    intro X hP hw hK hc i pins s σ H E I hf st hg
    subst hP hw hK
    obtain ⟨⟨old, he⟩, k1⟩ := st
    obtain ⟨xs, hx, hl⟩ := hg
    obtain ⟨us, r1, p1, lt1, _⟩ := sqB_open I hx
    have D := draws_B (prog := X.prog) (w := X.w) (A := X.A.in1) (I.ok.hd hc) tu it a (fun q => ma (by simp [q])) us.toArray
    obtain ⟨f0, f1, f2, f3, f4, f5⟩ := hf it (by simp)
    have ei : us.toArray.size = i := by rw [List.size_toArray, ← r1.length, hl]
    exact wpAny_pyNext_enum_endD D he (by rw [ei]; exact ⟨k1, p1⟩) fun h' eb => ⟨rfl, I.turned (t' := s.toks) (fun b o hb q => eb b o hb q) f0 f1 f3 f4 f5⟩
  self := fun A i s Q E st h => let ⟨⟨_, he⟩, _⟩ := st; wpAny_pyIter_enum he h
def tEnum (K : PySem.W.Frag) (ta : TA) : TI := fun σ H R => ta σ H fun vs H1 => ∃ tu a xs, vs = [.ref a] ∧ sqB tu K H1 a xs ∧ R (ItE tu K a) H1
theorem pi_E {X : Cx} {e : Expr} {ta : TA} {p pos tpos : Pos} {elts : List Expr} {kk : Nat} (hg : Gl X "enumerate") (hm : X.mg "enumerate" = none) (ha : PA X [e] ta) (hs : starEach [e] X.env = [(false, eval e X.env)]) :
    PI X (.Tuple elts kk tpos) (.Call (.Name "enumerate" p) [e] [] pos) (tEnum X.K ta) := by
  refine ⟨fun pins s σ H R I h => ?_⟩
  refine Call_ (ld_blt I hg hm boot_enumerate (PyProof.Rows.callWith_type1 (thn (ha.run pos pins s σ H _ I h) fun us s1 ⟨vs, H1, I1, r1, q1⟩ => ?_) hs rfl))
  obtain ⟨tu, a, xs, ex, hx, q⟩ := q1
  subst ex
  cases r1 with
  | cons r rr =>
    cases rr
    cases r
    obtain ⟨vs1, _, p1, lt1, _⟩ := sqB_open I1 hx
    refine enum_one (begins_B tu a vs1.toArray) p1 fun h' he hit hk => wpAny_pyIter_enum he ?_
    have I2 : Inv X pins σ H1 { s1 with heap := h' } := I1.kept (t' := s1.toks) hk
    refine ⟨s1.heap.objs.size + 1, _, _, _, H1, rfl, I2, turn_E tu (eapart _) (eout _ a lt1), ⟨⟨.none, he⟩, .start hit⟩, fun b hb => ?_, q⟩
    have hle : s1.heap.objs.size ≤ b := ein _ _ hb
    exact I1.fpOk hle (I1.hok.fresh hle)
def numD (xs : List D) : List D := xs.mapIdx fun i x => D.tup [.int i, x]
/-- enumerate(a) -/
def iEnum (a : SemE) : SemI where
  chk N sc e := match e with | .Call (.Name x _) [e] [] _ => decide (x = ("enumerate" : Str)) && glB sc x && chkA [a] N sc [e] | _ => false
  req G k := G.mg "enumerate" = none ∧ reqL [a] G k
  tup := true
  wp en st Q E := a.wp en st (fun d st1 => match seqOf st1 d with
    | some xs => Q (numD xs) (fun s => seqOf s d = some xs) st1
    | _ => False) E
  mono en st Q Q' E E' h f g := a.mono _ _ _ _ _ _ h (fun d s hd => by
    split at hd
    · exact f _ _ _ hd
    · exact hd.elim) g
  sound := by
    intro G k X W tg e gd tk rq ht hc
    split at hc
    · rename_i x px e pos
      simp only [Bool.and_eq_true, decide_eq_true_eq] at hc
      obtain ⟨⟨rfl, hg⟩, ha⟩ := hc
      have pa := pa_sound G k X W gd tk [a] [e] rq.2 ha
      have hm : X.mg "enumerate" = none := by rw [gd.mg]; exact rq.1
      have htg := ht rfl
      cases tg with
      | Tuple elts kk tpos =>
        have base := pi_E (tpos := tpos) (elts := elts) (kk := kk) (p := px) (pos := pos) (glB_ok hg) hm pa (chkA_star ha _)
        refine ⟨fun pins s σ H R I h => base.run pins s σ H R I ?_⟩
        obtain ⟨mu, en, st, Re, h⟩ := h
        refine twa (l := [a]) (F := fun ds st2 => match ds with
          | [d] => (match seqOf st2 d with
            | some xs => PostI G mu H R (numD xs) (fun s => seqOf s d = some xs) st2
            | _ => False)
          | _ => False) Re (a.mono _ _ _ _ _ _ h (fun d s hd => hd) fun _ _ h => h) fun ds st1 mu1 vs H1 hF s1 r1 q1 => ?_
        split at hF
        · rename_i d
          obtain ⟨v, rfl, r2⟩ := q1.one
          split at hF
          · rename_i xs e1
            obtain ⟨a1, tu, rfl, f1⟩ := seqB_at gd r1 e1 r2
            obtain ⟨us, h1, _⟩ := f1 mu1 H1 st1 (Step.refl _ _) r1 e1
            refine ⟨tu, a1, us, rfl, h1, hF mu1 _ H1 s1 r1 fun mu2 st2 H2 s2 R2 ho i => ?_⟩
            obtain ⟨ws, g1, k1⟩ := f1 mu2 H2 st2 s2 R2 ho
            refine ⟨fun d hd => ?_, fun hl => ⟨ws, g1, ?_⟩⟩
            · unfold numD at hd
              rw [List.getElem?_mapIdx] at hd
              cases ex : xs[i]? with
              | none => rw [ex] at hd; cases hd
              | some x =>
                rw [ex] at hd
                cases hd
                obtain ⟨u, eu, ru⟩ := k1.get ex
                refine ⟨⟨ws, u, g1, eu⟩, fun z H' hy => ?_⟩
                obtain ⟨T, u', rfl, hT, rfl, w1⟩ := hy
                have eu' := (w1 ws g1).symm.trans eu
                cases eu'
                have s3 : Step mu2 H2 mu2 (upd H2 T (.tup [.int (i : Nat), u])) := Step.newV hT
                exact ⟨s3, R2.newV hT, T, [.int (i : Nat), u], rfl, .of upd_same, _, [u], rfl, rfl, u, [], rfl, ru.step s3, rfl⟩
            · rw [← k1.len]
              unfold numD at hl
              simpa using hl
          · exact hF.elim
        · exact hF.elim
      | _ => cases htg
    · cases hc
end Mi
namespace Mi
open PySem PySem.Spec PyProof.Rows L2

/-! ### a tuple times an int -/
theorem tmul_same (l : Addr) (items : Array Value) (n : Nat) (dd : Option Addr) (sl : Array (Option Value)) (x : Int) (u : Tok) (c0 : (decide (x < -(2 ^ 63)) || decide (x ≥ 2 ^ 63)) = false) (c1 : (items.isEmpty || x == 1) = true) :
    Meets (Builtin.«tuple.__mul__» ⟨[.ref l, .int x u], []⟩) (fun _ R s => s.heap.get? l = some { cls := .type "tuple", dict := dd, data := .seq items n, slots := sl } ∧ R (.ok (.ret (Value.ref l))) s) :=
  .of_wp fun prog w A R s h => by
    obtain ⟨hp, gg, d, tk, os⟩ := s
    obtain ⟨hl, h⟩ := h
    have f1 := AutoSeq1.idx_int
    wp_walk using wpAny_loadPart' hl
    repeat (first
      | (refine wpAny_ite_false (decide_eq_false (by rw [c0]; exact Bool.false_ne_true)) ?_; wp_walk using wpAny_loadPart' hl)
      | (refine wpAny_ite_true (decide_eq_true c1) ?_; wp_walk using wpAny_loadPart' hl))
    exact ⟨_, rfl, h⟩
theorem tmul_none (l : Addr) (items : Array Value) (n : Nat) (dd : Option Addr) (sl : Array (Option Value)) (x : Int) (u : Tok) (c0 : (decide (x < -(2 ^ 63)) || decide (x ≥ 2 ^ 63)) = false) (c1 : (items.isEmpty || x == 1) = false) (c2 : (decide (x ≤ 0) || items.isEmpty) = true) :
    Meets (Builtin.«tuple.__mul__» ⟨[.ref l, .int x u], []⟩) (fun _ R s => s.heap.get? l = some { cls := .type "tuple", dict := dd, data := .seq items n, slots := sl } ∧
      R (.ok (.ret (Value.ref s.heap.objs.size))) { s with heap := s.heap.push { cls := Value.type "tuple", data := Data.seq #[] }, toks := s.toks }) :=
  .of_wp fun prog w A R s h => by
    obtain ⟨hp, gg, d, tk, os⟩ := s
    obtain ⟨hl, h⟩ := h
    have f1 := AutoSeq1.idx_int
    wp_walk using wpAny_loadPart' hl
    repeat (first
      | (refine wpAny_ite_false (decide_eq_false (by rw [c0]; exact Bool.false_ne_true)) ?_; wp_walk using wpAny_loadPart' hl)
      | (refine wpAny_ite_false (decide_eq_false (by rw [c1]; exact Bool.false_ne_true)) ?_; wp_walk using wpAny_loadPart' hl)
      | (refine wpAny_ite_true (decide_eq_true c2) ?_; wp_walk using wpAny_loadPart' hl))
    exact ⟨_, rfl, h⟩
def CRep (k : Int) (n : Nat) : Prop := -1000 ≤ k ∧ k ≤ 1000 ∧ n ≤ 1000
theorem CRep.c0 {k : Int} {n : Nat} (c : CRep k n) : (decide (k < -(2 ^ 63)) || decide (k ≥ 2 ^ 63)) = false := by
  obtain ⟨h1, h2, _⟩ := c
  rw [decide_eq_false (by omega), decide_eq_false (by omega)] <;> rfl
theorem isE {α : Type} (l : List α) : l.toArray.isEmpty = l.isEmpty := by cases l <;> rfl
def rTimT (K : PySem.W.Frag) : R2 := fun x y H Q => ∃ l k xs, x = .ref l ∧ y = .int k ∧ SqT K H l xs ∧ CRep k xs.length ∧ ((xs = [] ∨ k = 1) → Q (.ref l) H) ∧ (¬ (xs = [] ∨ k = 1) → ∀ p, H p = none → Q (.ref p) (upd H p (.tup (List.replicate k.toNat xs).flatten)))
theorem op_timT {X : Cx} : OpR X (binaryOp .Mult) (rTimT X.K) := by
  intro pins s σ H x y v u Q I rx ry h
  obtain ⟨l, k, xs, rfl, rfl, hT, hc, q1, q2⟩ := h
  by_cases hs : xs = [] ∨ k = 1
  · cases rx
    obtain ⟨t, rfl⟩ := ry
    obtain ⟨its, r, ⟨⟨cls, dd, data, sl⟩, ho, hcl, n, hd⟩, hz⟩ := I.tuple hT
    simp only at hcl hd
    subst hcl hd
    have c1 : (its.toArray.isEmpty || k == 1) = true := by
      rcases hs with e | e
      · rw [isE, (r.nil_iff).mpr e]; rfl
      · rw [e]; simp
    refine wpAny_binaryOp_repeat_ref (T := "tuple") (U := "int") (by decide) ⟨_, ho, rfl⟩ (fun s' => typeIs_int s' k t) noFill_tuple_mul F.fills_int_mul F.slot_int_rmul repeat_tuple F.slot_int_index.lookup
      (call_meets F.slot_int_rmul (typeIs_int s k t) F.entry_int_rmul (F.args_int_rmul_2 _ _) (int_rmul_tuple k t l its.toArray n dd sl)
        ⟨ho, rfl, ⟨_, ho, rfl⟩, call_meets F.slot_tuple_mul ⟨_, ho, rfl⟩ F.entry_tuple_mul (F.args_tuple_mul_2 _ _) (tmul_same l its.toArray n dd sl k t hc.c0 c1) ⟨ho, ?_⟩⟩)
    exact ⟨.ref l, H, I, rfl, q1 hs⟩
  · have hne : xs ≠ [] := fun e => hs (.inl e)
    have hk1 : k ≠ 1 := fun e => hs (.inr e)
    by_cases h2 : 2 ≤ k
    · exact op_repT pins s σ H _ _ v u Q I rx ry ⟨l, k, xs, rfl, rfl, hT, hne, h2, hc.2.1, hc.2.2, q2 hs⟩
    · cases rx
      obtain ⟨t, rfl⟩ := ry
      obtain ⟨its, r, ⟨⟨cls, dd, data, sl⟩, ho, hcl, n, hd⟩, hz⟩ := I.tuple hT
      simp only at hcl hd
      subst hcl hd
      have c1 : (its.toArray.isEmpty || k == 1) = false := by
        rw [isE, beq_eq_false_iff_ne.mpr hk1, Bool.or_false]
        cases its with
        | nil => exact absurd (r.nil_iff.mp rfl) hne
        | cons a b => rfl
      have c2 : (decide (k ≤ 0) || its.toArray.isEmpty) = true := by rw [decide_eq_true (by omega)]; rfl
      refine wpAny_binaryOp_repeat_ref (T := "tuple") (U := "int") (by decide) ⟨_, ho, rfl⟩ (fun s' => typeIs_int s' k t) noFill_tuple_mul F.fills_int_mul F.slot_int_rmul repeat_tuple F.slot_int_index.lookup
        (call_meets F.slot_int_rmul (typeIs_int s k t) F.entry_int_rmul (F.args_int_rmul_2 _ _) (int_rmul_tuple k t l its.toArray n dd sl)
          ⟨ho, rfl, ⟨_, ho, rfl⟩, call_meets F.slot_tuple_mul ⟨_, ho, rfl⟩ F.entry_tuple_mul (F.args_tuple_mul_2 _ _) (tmul_none l its.toArray n dd sl k t hc.c0 c1 c2) ⟨ho, ?_⟩⟩)
      have ek : k.toNat = 0 := by omega
      have e0 : (List.replicate k.toNat xs).flatten = [] := by rw [ek]; rfl
      have q3 := q2 hs
      rw [e0] at q3
      refine ⟨.ref s.heap.objs.size, _, I.laid (t' := s.toks) (o := .tup []) (fun b ob q => Heap.get?_push_of_some _ q) (Nat.le_refl _) ?_, rfl, q3 _ (I.hok.fresh (Nat.le_refl _))⟩
      exact ⟨Nat.zero_le _, [], .nil, IsTup.new _ _⟩
theorem RVs.rep {K : PySem.W.Frag} {mu : Mu} {H : Hp} {ds : List D} {vs : List V} (r : RVs K mu H ds vs) : ∀ n : Nat, RVs K mu H (List.replicate n ds).flatten (List.replicate n vs).flatten
  | 0 => rfl
  | n + 1 => by
    rw [List.replicate_succ, List.replicate_succ, List.flatten_cons, List.flatten_cons]
    exact r.app (r.rep n)
def wpMul (m : Bool) (x y : D) (st : Sto) (Q : QD) : Prop := match x, y with
  | .int i, .int j => CMul i j ∧ Q (.int (i * j)) st
  | .tup ds, .int k => CRep k ds.length ∧ Q (.tup (List.replicate k.toNat ds).flatten) st
  | x, .int k => (match lstOf st x with
    | some ds => CRep k ds.length ∧ newL m (List.replicate k.toNat ds).flatten st Q
    | none => False)
  | _, _ => False
theorem bound_rep {k : Int} {n : Nat} (c : CRep k n) : n * k.toNat ≤ sizeLine := by
  rw [sizeLine_eq]
  have h1 : n * k.toNat ≤ 1000 * 1000 := Nat.mul_le_mul c.2.2 (by have := c.2.1; omega)
  omega
def opMul (m : Bool) : OpD (binaryOp .Mult) where
  wp := wpMul m
  mono x y st Q Q' h f := by
    unfold wpMul at h ⊢
    split at h
    · exact ⟨h.1, f _ _ h.2⟩
    · exact ⟨h.1, f _ _ h.2⟩
    · split at h
      · exact ⟨h.1, newL_mono h.2 f⟩
      · exact h.elim
    · exact h.elim
  sound := by
    intro G k X gd pins s σ H xv yv v u Q I rx ry h
    obtain ⟨mu, st, x, y, R, hx, hy, h⟩ := h
    unfold wpMul at h
    split at h
    · cases (show xv = V.int _ from hx); cases (show yv = V.int _ from hy)
      exact op_mul pins s σ H _ _ v u Q I rx ry ⟨_, _, rfl, rfl, h.1, h.2 mu _ H (Step.refl _ _) R rfl⟩
    · rename_i ds k'
      obtain ⟨a, vs, rfl, h1, r1⟩ := hx
      cases (show yv = V.int _ from hy)
      have e1 := r1.len
      refine op_timT pins s σ H _ _ v u Q I rx ry ⟨a, k', vs, rfl, rfl, gd.K' (P := fun K => SqT K H a vs) h1, by rw [← e1]; exact h.1, fun e => ?_, fun _ p hp => new_tup (Step.refl _ _) R (r1.rep _) h.2 hp⟩
      refine h.2 mu _ H (Step.refl _ _) R ⟨a, vs, rfl, h1, ?_⟩
      rcases e with e | e
      · have ed : ds = [] := List.eq_nil_of_length_eq_zero (by rw [e1, e]; rfl)
        rw [ed, e]
        have : ∀ n : Nat, (List.replicate n ([] : List D)).flatten = [] := fun n => by simp
        rw [this]
        rfl
      · rw [e]
        show RVs G.K mu H (List.replicate 1 ds).flatten vs
        simpa using r1
    · split at h
      · rename_i ds e1
        obtain ⟨a, vs, rfl, h1, r1⟩ := lst_at R e1 hx
        cases (show yv = V.int _ from hy)
        exact op_rep pins s σ H _ _ v u Q I rx ry ⟨a, _, vs, rfl, rfl, h1, by have := h.1.1; omega, by have := h.1.2.1; omega, by rw [← r1.len]; exact bound_rep h.1, fun p hp => new_list m (Step.refl _ _) R (r1.rep _) h.2 hp⟩
      · exact h.elim
    · exact h.elim
/-- -e -/
def eNeg (a : SemE) : SemE where
  chk N sc e := match e with | .UnaryOp .USub x _ => a.chk N sc x | _ => false
  req := a.req
  wp en st Q E := a.wp en st (fun d st1 => match d with | .int i => Q (.int (-i)) st1 | _ => False) E
  mono en st Q Q' E E' h f g := a.mono _ _ _ _ _ _ h (fun d s hd => by
    split at hd
    · exact f _ _ hd
    · exact hd.elim) g
  sound := by
    intro G k X W e gd tk rq hc
    split at hc
    · rename_i x p
      have base := pe_un (pos := p) un_neg (a.sound G k X W x gd tk rq hc)
      refine ⟨fun pins s σ H Q I h => base.run pins s σ H Q I ?_⟩
      obtain ⟨mu, en, st, R, h⟩ := h
      refine tw1 a.mono R h fun d st1 mu1 v H1 hF s1 r1 q1 => ?_
      split at hF
      · cases (show v = V.int _ from q1)
        exact ⟨_, rfl, hF mu1 _ H1 s1 r1 rfl⟩
      · exact hF.elim
    · cases hc
/-! ### repr -/
/-- what can be shown -/
def repOk (p : PyData) : Prop := p.canLay0 = true ∧ p.showable = true ∧ p.depth ≤ 60 ∧ p.shown.length ≤ sizeLine
theorem repr_run {G : GEnv} {k : Nat} {X : Cx} (gd : Good G k X) {mu : Mu} {H : Hp} {st : Sto} (R : RelS G.K mu H st) {d : D} {v : V} (r : RV G.K mu H d v) (ok : repOk (toPy (lookD st d))) {pins : List (Addr × Obj)} {s : Shared} {σ : L2.St} {u : Value} {Q : VK} (I : Inv X pins σ H s) (ru : RelV v u)
    (h : Q (.str (toPy (lookD st d)).shown) H) : wpAny (model X.prog X.w) X.A (call (.builtin "repr") [u]) (EP X pins σ Q) X.xe s := by
  obtain ⟨c1, c2, c3, c4⟩ := ok
  have dp := look_dp R r c1
  obtain ⟨as, rd⟩ := Dp.reads I _ v u (gd.K' (P := fun K => Dp K H _ _) dp) ru
  have fin : ∀ tk, EP X pins σ Q (.str (toPy (lookD st d)).shown s.toks) { s with toks := tk } := fun tk => ⟨.str _, H, I.tok _, ⟨_, rfl⟩, h⟩
  have ref : ∀ a, u = .ref a → wpAny (model X.prog X.w) X.A (call (.builtin "repr") [u]) (EP X pins σ Q) X.xe s := fun a e => by
    subst e
    refine repr_of_reads' rd c2 (PyData.noDict_hsm (PyData.hasDict_of_canLay _ c1)) gd.guards (by have := gd.room.units; omega) (fun _ _ e => e) (fun h' u' tk hk => ?_) c4
    exact ⟨.str _, H, I.kept hk, ⟨_, rfl⟩, h⟩
  generalize hp : toPy (lookD st d) = p at rd c2 c4 fin h ref
  cases p with
  | none => cases rd; exact PySem.P.repr_of_none (fin _)
  | bool b => cases rd; exact PySem.P.repr_of_bool (fin _)
  | int i => cases rd; exact PySem.P.repr_of_int (of_decide_eq_true c2) (fin _)
  | str x => cases rd; exact PySem.P.repr_of_str (fin _) c4
  | list xs => cases rd; exact ref _ rfl
  | tuple xs => cases rd; exact ref _ rfl
  | dict xs => cases rd; exact ref _ rfl
def bRepr : BIn where
  name := "repr"
  val := .builtin "repr"
  wp ds st Q := match ds with
    | [d] => repOk (toPy (lookD st d)) ∧ Q (.str (toPy (lookD st d)).shown) st
    | _ => False
  mono ds st Q Q' h f := by
    split at h
    · exact ⟨h.1, f _ _ h.2⟩
    · exact h.elim
  sound := by
    intro G k X gd pins s σ H xs us Q I r h
    obtain ⟨mu, st, ds, R, rv, h⟩ := h
    split at h
    · rename_i d
      obtain ⟨v, rfl, r1⟩ := rv.one
      obtain ⟨u, rfl, ru⟩ := vals1 r
      exact repr_run gd R r1 h.1 I ru (h.2 mu _ H (Step.refl _ _) R rfl)
    · exact h.elim
  boot := by decide +kernel
  kind := .inl ⟨_, rfl⟩
  nm := by decide +kernel
end Mi
namespace Mi
open PySem PySem.Spec PyProof.Rows L2

/-! ### x[::-1] -/
section
variable {prog : Program} {w : World} {A : Around} {E : Value → Shared → Prop} {s : Shared}
theorem adjust_rev (n : Nat) : Builtin.Slice.sliceAdjust none none (-1) (n : Int) = ((n : Int) - 1, -1) := by
  unfold Builtin.Slice.sliceAdjust
  simp
theorem places_rev (n : Nat) : Builtin.Slice.slicePlaces ((n : Int) - 1) (-1) (-1) = n := by
  unfold Builtin.Slice.slicePlaces
  rw [if_neg (by decide)]
  by_cases h : (n : Int) - 1 > -1
  · rw [if_pos h]
    have e : ((n : Int) - 1 - -1 - 1) / (- -1) = (n : Int) - 1 := by
      rw [show (- -1 : Int) = 1 by decide, Int.ediv_one]; omega
    rw [e]; omega
  · rw [if_neg h]; omega
theorem applied_rev {sl : Addr} {vs : Value} {n : Nat} {Q : Int × Int × Nat → Shared → Prop} (hs : s.heap.IsSliceOf sl .none .none vs) (ps : IsPart vs (some (-1))) (h : Q ((n : Int) - 1, -1, n) s) :
    wpAny (model prog w) A (Builtin.Slice.sliceApplied (.ref sl) (pure (n : Int))) Q E s := by
  obtain ⟨os, ho, hcs, hd⟩ := id hs
  unfold Builtin.Slice.sliceApplied Builtin.Slice.sliceFields
  refine wpAny_bind (wpAny_bind (wpAny_field ho hd (x := .none) rfl (wpAny_bind (wpAny_field ho hd (x := .none) rfl (wpAny_bind (wpAny_field ho hd (x := vs) rfl (wpAny_pure (?_ : wpAny _ _ _ _ _ _))))))))
  refine wpAny_bind (HT.slicePart_ ps (?_ : wpAny _ _ _ _ _ _))
  show wpAny _ _ (if ((-1 : Int) == 0) = true then _ else _) _ _ s
  rw [if_neg (by decide)]
  refine wpAny_bind (HT.slicePart_ .none (wpAny_bind (HT.slicePart_ .none (wpAny_bind (wpAny_pure (?_ : wpAny _ _ _ _ _ _))))))
  show wpAny _ _ (match Builtin.Slice.sliceAdjust none none (-1) (n : Int) with | (lo, hi) => pure (lo, (-1 : Int), Builtin.Slice.slicePlaces lo hi (-1))) _ _ s
  rw [adjust_rev]
  show wpAny _ _ (pure ((n : Int) - 1, (-1 : Int), Builtin.Slice.slicePlaces ((n : Int) - 1) (-1) (-1))) _ _ s
  rw [places_rev]
  exact wpAny_pure h
theorem pick_rev (xs : Array Value) : ((List.range xs.size).filterMap fun (m : Nat) => xs[(((xs.size : Nat) : Int) - 1 + (m : Int) * -1).toNat]?).toArray = xs.toList.reverse.toArray := by
  congr 1
  apply List.ext_getElem?
  intro i
  have gen : ∀ (l : List Nat) (f g : Nat → Option Value), (∀ m ∈ l, f m = g m) → l.filterMap f = l.filterMap g := by
    intro l f g h
    induction l with
    | nil => rfl
    | cons a l ih => rw [List.filterMap_cons, List.filterMap_cons, h a List.mem_cons_self, ih fun m hm => h m (List.mem_cons_of_mem _ hm)]
  have e := gen (List.range xs.size) (fun (m : Nat) => xs[(((xs.size : Nat) : Int) - 1 + (m : Int) * -1).toNat]?) (fun (m : Nat) => xs.toList.reverse[m]?) fun m hm => by
    have hm' := List.mem_range.mp hm
    have e1 : (((xs.size : Nat) : Int) - 1 + (m : Int) * -1).toNat = xs.size - 1 - m := by omega
    show xs[_]? = _
    rw [e1, List.getElem?_reverse (by simpa using hm')]
    simp
  rw [e]
  have h2 := PySem.W.krv_all xs.toList.reverse.toArray
  simp only [List.size_toArray, List.length_reverse, Array.length_toList, List.getElem?_toArray] at h2
  rw [h2]
theorem item_rev {t sl : Addr} {items : Array Value} {vs : Value} {Q : Value → Shared → Prop} (ht : IsTup s.heap t items) (hs : s.heap.IsSliceOf sl .none .none vs) (ps : IsPart vs (some (-1)))
    (h : Q (.ref s.heap.objs.size) { s with heap := s.heap.push { cls := .type "tuple", data := .seq items.toList.reverse.toArray } }) (hsz : items.size ≤ sizeLine) : wpAny (model prog w) A (getItem (.ref t) (.ref sl)) Q E s := by
  obtain ⟨os, hos, hcs, hds⟩ := id hs
  have ty : s.TypeIs (.ref sl) "slice" := ⟨os, hos, hcs⟩
  unfold getItem
  try with_reducible refine wpAny_holding (?_ : wpAny _ _ _ _ _ _)
  first | refine wpAny_bind (wpAny_pure (?_ : wpAny _ _ _ _ _ _)) | skip
  refine wpAny_bind (wpAny_sequenceKey ht.typeIs (by decide) (?_ : wpAny _ _ _ _ _ _))
  refine wpAny_bind (wpAny_callSpecial?_slot (name := Str.ofString "__getitem__") ht.typeIs PyProof.Rows.slot_tuple_getitem
    (wpAny_call_entry PyProof.Rows.slot_tuple_getitem ht.typeIs entry_tuple_getitem (?_ : wpAny _ _ _ _ _ _) (args_tuple_getitem _ _)))
  show wpAny _ _ (Builtin.Tuple.tupleItemsOf (.ref t) >>= _) _ _ s
  refine wpAny_bind (tupleItemsOf_ ht (?_ : wpAny _ _ _ _ _ _))
  refine wpAny_bind (wpAny_typeOf ty (?_ : wpAny _ _ _ _ _ _))
  rw [if_pos (by decide)]
  refine wpAny_bind (applied_rev hs ps (?_ : wpAny _ _ _ _ _ _))
  show wpAny _ _ (if ((((items.size : Nat) : Int) - 1) == 0 && (-1 : Int) == 1 && items.size == items.size) = true then _ else _) _ _ s
  rw [if_neg (by simp)]
  show wpAny _ _ (Builtin.Tuple.tupleExact ((List.range items.size).filterMap fun (m : Nat) => items[(((items.size : Nat) : Int) - 1 + (m : Int) * -1).toNat]?).toArray >>= _) _ _ s
  rw [pick_rev]
  refine wpAny_bind (?_ : wpAny _ _ _ _ _ _)
  unfold Builtin.Tuple.tupleExact
  refine wpAny_newObj_type (wpAny_pure ⟨_, rfl, wpAny_pure h⟩) ?_
  show items.toList.reverse.toArray.size ≤ sizeLine
  simpa using hsz
end
def tRevT (K : PySem.W.Frag) (te : TE) : TE := fun σ H Q => te σ H fun x H1 => ∃ a xs, x = .ref a ∧ SqT K H1 a xs ∧ ∀ p, H1 p = none → Q (.ref p) (upd H1 p (.tup xs.reverse))
def tRevA (K : PySem.W.Frag) (te : TE) : TE := fun σ H Q => te σ H fun x H1 => ∃ (tu : Bool) (a : Addr) (xs : List V), x = .ref a ∧ sqB tu K H1 a xs ∧ ∀ p, H1 p = none → Q (.ref p) (upd H1 p (match tu with | true => .tup xs.reverse | false => .lst xs.reverse))
theorem pe_revA {X : Cx} {e : Expr} {te : TE} {k : Nat} {p1 p2 p3 pos : Pos} (he : PE X e te) : PE X (.Subscript e (.Slice none none (some (.UnaryOp .USub (.Constant (.int 1) k p1) p2)) p3) pos) (tRevA X.K te) := by
  refine ⟨fun pins s σ H Q I h => ?_⟩
  refine Subscript_ (thn (he.run pins s σ H _ I h) fun v s1 ⟨x, H1, I1, r1, q1⟩ => ?_)
  obtain ⟨tu, a, xs, ex, hx, q⟩ := q1
  subst ex
  cases r1
  have hst : PO X (some (.UnaryOp .USub (.Constant (.int 1) k p1) p2)) (tPart (tUn (rU fun i => .int (-i)) (tC (.int 1)))) := po_some (pe_un un_neg pe_int)
  refine wpAny_Slice (thn (po_none.run pins s1 σ H1 (fun o H2 => o = none ∧ H2 = H1) I1 ⟨rfl, rfl⟩) fun vl s2 ⟨l, H2, I2, pl, el, e2⟩ => ?_)
  subst el e2
  refine thn (po_none.run pins s2 σ H2 (fun o H3 => o = none ∧ H3 = H2) I2 ⟨rfl, rfl⟩) fun vu s3 ⟨u, H3, I3, pu, eu, e3⟩ => ?_
  subst eu e3
  refine thn (hst.run pins s3 σ H3 (fun o H4 => o = some (-1) ∧ H4 = H3) I3 ⟨1, rfl, -1, rfl, rfl, rfl⟩) fun vs s4 ⟨o, H4, I4, ps, eo, e4⟩ => ?_
  subst eo e4
  have I5 : Inv X pins σ H4 { s4 with heap := s4.heap.push { cls := .type "slice", data := .fields #[vl, vu, vs] } } := I4.kept (t' := s4.toks) fun b ob q => Heap.get?_push_of_some _ q
  cases pl
  cases pu
  show wpAny (model X.prog X.w) X.A (subscriptTail e (.Slice none none (some (.UnaryOp .USub (.Constant (.int 1) k p1) p2)) p3) (.ref a) (.ref s4.heap.objs.size)) (EP X pins σ Q) X.xe { s4 with heap := s4.heap.push { cls := .type "slice", data := .fields #[.none, .none, vs] } }
  cases tu with
  | false =>
    obtain ⟨its, r, ht, hz⟩ := I5.list hx
    have hlen := r.length
    refine tail_any (ops := [.ref a, .ref s4.heap.objs.size]) ht.isList.typeIs (PySem.slot_list_getitem.lookup) ?_ (by with_unfolding_all rfl)
    refine wpAny_getItem_list_slice ht.isList (Heap.IsSliceOf.new _ .none .none vs) .none .none ps (by decide) ?_ (by rw [List.size_toArray]; omega)
    rw [PySem.W.krv_pick]
    refine ⟨.ref _, _, I5.laid (t' := s4.toks) (o := .lst xs.reverse) (fun b ob q => Heap.get?_push_of_some _ q) (Nat.le_refl _) ?_, rfl, q _ (I5.hok.fresh (Nat.le_refl _))⟩
    exact ⟨by rw [List.length_reverse]; exact hz, _, 0, r.reverse, Heap.get?_push_size _ rfl⟩
  | true =>
    obtain ⟨its, r, ht, hz⟩ := I5.tuple hx
    have hlen := r.length
    refine tail_any (ops := [.ref a, .ref s4.heap.objs.size]) ht.typeIs (PyProof.Rows.slot_tuple_getitem.lookup) ?_ (by with_unfolding_all rfl)
    refine item_rev ht (Heap.IsSliceOf.new _ .none .none vs) ps ?_ (by rw [List.size_toArray]; omega)
    refine ⟨.ref _, _, I5.laid (t' := s4.toks) (o := .tup xs.reverse) (fun b ob q => Heap.get?_push_of_some _ q) (Nat.le_refl _) ?_, rfl, q _ (I5.hok.fresh (Nat.le_refl _))⟩
    exact ⟨by rw [List.length_reverse]; exact hz, _, r.reverse, IsTup.new _ _⟩
theorem RVs.rev {K : PySem.W.Frag} {mu : Mu} {H : Hp} : ∀ {ds : List D} {vs : List V}, RVs K mu H ds vs → RVs K mu H ds.reverse vs.reverse
  | [], _, h => by rw [show _ = [] from h]; rfl
  | d :: ds, _, ⟨v, r, e, h, t⟩ => by
    rw [e, List.reverse_cons, List.reverse_cons]
    exact (RVs.rev t).app ⟨v, [], rfl, h, rfl⟩
/-- e[::-1] -/
def eRev (m : Bool) (a : SemE) : SemE where
  chk N sc e := match e with | .Subscript x (.Slice none none (some (.UnaryOp .USub (.Constant (.int 1) _ _) _)) _) _ => a.chk N sc x | _ => false
  req := a.req
  wp en st Q E := a.wp en st (fun d st1 => match d with
    | .tup ds => Q (.tup ds.reverse) st1
    | d => (match lstOf st1 d with | some ds => newL m ds.reverse st1 Q | none => False)) E
  mono en st Q Q' E E' h f g := a.mono _ _ _ _ _ _ h (fun d s hd => by
    split at hd
    · exact f _ _ hd
    · split at hd
      · exact newL_mono hd f
      · exact hd.elim) g
  sound := by
    intro G k X W e gd tk rq hc
    split at hc
    · rename_i x k1 p1 p2 p3 pos
      have base := pe_revA (pos := pos) (p1 := p1) (p2 := p2) (p3 := p3) (k := k1) (a.sound G k X W x gd tk rq hc)
      refine ⟨fun pins s σ H Q I h => base.run pins s σ H Q I ?_⟩
      obtain ⟨mu, en, st, R, h⟩ := h
      refine tw1 a.mono R h fun d st1 mu1 v H1 hF s1 r1 q1 => ?_
      split at hF
      · rename_i ds
        obtain ⟨b, vs, rfl, h1, r2⟩ := q1
        exact ⟨true, b, vs, rfl, gd.K' (P := fun K => SqT K H1 b vs) h1, fun p hp => new_tup s1 r1 r2.rev hF hp⟩
      · split at hF
        · rename_i ds e1
          obtain ⟨b, vs, rfl, h1, r2⟩ := lst_at r1 e1 q1
          exact ⟨false, b, vs, rfl, .of h1, fun p hp => new_list m s1 r1 r2.rev hF hp⟩
        · exact hF.elim
    · cases hc
end Mi
namespace Mi
open PySem PySem.Spec PyProof.Rows L2

/-! ### what the meanings are, for simp -/
section
variable {en : Env} {st : Sto} {Q : QD} {E : QX} {a b c : SemE} {N : EndsD} {t : SemT}
@[simp] theorem w_var {i : Nat} : (eVar i).wp en st Q E = (match en[i]? with | some (some d) => Q d st | _ => False) := rfl
@[simp] theorem w_int {i : Int} : (eInt i).wp en st Q E = Q (.int i) st := rfl
@[simp] theorem w_bl {i : Bool} : (eBl i).wp en st Q E = Q (.bl i) st := rfl
@[simp] theorem w_str {i : Str} : (eStr i).wp en st Q E = Q (.str i) st := rfl
@[simp] theorem w_none : (eNone).wp en st Q E = Q .non st := rfl
@[simp] theorem w_bin {op : Operator} {o : OpD (binaryOp op)} : (eBin op o a b).wp en st Q E = a.wp en st (fun x st1 => b.wp en st1 (fun y st2 => o.wp x y st2 Q) E) E := rfl
@[simp] theorem w_not : (eNot a).wp en st Q E = a.wp en st (fun x st1 => match x with | .bl b => Q (.bl (!b)) st1 | _ => False) E := rfl
@[simp] theorem w_if {t : SemT} : (eIf t a b).wp en st Q E = t.wp en st (fun c st1 => match c with | true => a.wp en st1 Q E | false => b.wp en st1 Q E) E := rfl
@[simp] theorem w_tup {l : List SemE} : (eTup l).wp en st Q E = wpA l en st (fun ds st1 => ds.length ≤ sizeLine ∧ Q (.tup ds) st1) E := rfl
@[simp] theorem w_list {m : Bool} {l : List SemE} : (eList m l).wp en st Q E = wpA l en st (fun ds st1 => ds.length ≤ sizeLine ∧ newL m ds st1 Q) E := rfl
@[simp] theorem w_ix : (eIx a b).wp en st Q E = a.wp en st (fun x st1 => b.wp en st1 (fun y st2 => (∀ z, x = .str z → z.length ≤ sizeLine) ∧ match ixD st2 x y with | some d => Q d st2 | none => False) E) E := rfl
@[simp] theorem w_sl {m : Bool} {lo hi : Option SemE} : (eSl m a lo hi).wp en st Q E = a.wp en st (fun x st1 => wpO lo en st1 (fun l st2 => wpO hi en st2 (fun h st3 => wpSl m x l h st3 Q) E) E) E := rfl
@[simp] theorem w_B {f : BIn} {l : List SemE} : (eB f l).wp en st Q E = wpA l en st (fun ds st1 => f.wp ds st1 Q) E := rfl
@[simp] theorem w_call {x : Str} {S : SpecD} {d : List D} {l : List SemE} : (eCall x S d l).wp en st Q E = wpA l en st (fun ds st1 => ds.length + d.length = S.ar ∧ S.run (ds ++ d) st1 Q E) E := rfl
theorem w_comp {m : Bool} {t : Tg} {own : List (Str × Nat)} {i : SemI} {c : Option SemT} {e : SemE} : (eComp m t own i c e).wp en st Q E = i.wp en st (fun items ok st1 => compD t (own.map Prod.snd) (wpC c) e.wp ok en (fun ds st2 => newL m ds st2 Q) items [] st1) E := rfl
@[simp] theorem w_neg : (eNeg a).wp en st Q E = a.wp en st (fun d st1 => match d with | .int i => Q (.int (-i)) st1 | _ => False) E := rfl
@[simp] theorem w_rev {m : Bool} : (eRev m a).wp en st Q E = a.wp en st (fun d st1 => match d with
    | .tup ds => Q (.tup ds.reverse) st1
    | d => (match lstOf st1 d with | some ds => newL m ds.reverse st1 Q | none => False)) E := rfl
@[simp] theorem w_meth1 {m : MtL} : (eMeth1 m a b).wp en st Q E = a.wp en st (fun o st1 => (refL st1 o).isSome = true ∧ b.wp en st1 (fun y st2 => match refL st2 o with
    | some (n, xs) => (match m.f xs [y] st2 with | some (ys, z) => Q z (st2.set n (.lst ys)) | none => False)
    | none => False) E) E := rfl
@[simp] theorem w_cmp {op : CmpOp} {o : OpD (compareOp op)} : (eCmp op o a b).wp en st Q E = a.wp en st (fun x st1 => b.wp en st1 (fun y st2 => o.wp x y st2 Q) E) E := rfl
@[simp] theorem w_and {l : List SemE} {h} : (eAnd l h).wp en st Q E = wpAndL l en st Q E := rfl
@[simp] theorem w_or {l : List SemE} {h} : (eOr l h).wp en st Q E = wpOrL l en st Q E := rfl
variable {R : Bool → Sto → Prop}
@[simp] theorem w_tV : (tV a).wp en st R E = a.wp en st (fun x st1 => match x with | .bl b => R b st1 | _ => False) E := rfl
@[simp] theorem w_tCm {op : CmpOp} {o : OpD (compareOp op)} : (tCm op o a b).wp en st R E = a.wp en st (fun x st1 => b.wp en st1 (fun y st2 => o.wp x y st2 fun r st3 => match r with | .bl b => R b st3 | _ => False) E) E := rfl
@[simp] theorem w_tCh {op op' : CmpOp} {o : OpD (compareOp op)} {o' : OpD (compareOp op')} : (tCh op op' o o' a b c).wp en st R E = a.wp en st (fun x st1 => b.wp en st1 (fun y st2 => o.wp x y st2 fun r st3 => match r with | .bl true => c.wp en st3 (fun z st4 => o'.wp y z st4 fun r st5 => match r with | .bl b => R b st5 | _ => False) E | .bl false => R false st3 | _ => False) E) E := rfl
@[simp] theorem w_tNo : (tNo t).wp en st R E = t.wp en st (fun b st1 => R (!b) st1) E := rfl
@[simp] theorem w_tAn {l : List SemT} {h} : (tAn l h).wp en st R E = twpAnd l en st R E := rfl
@[simp] theorem w_tOr {l : List SemT} {h} : (tOr' l h).wp en st R E = twpOr l en st R E := rfl
@[simp] theorem w_And1 {t : SemT} : twpAnd [t] en st R E = t.wp en st R E := rfl
@[simp] theorem w_And2 {t u : SemT} {r : List SemT} : twpAnd (t :: u :: r) en st R E = t.wp en st (fun x st1 => match x with | true => twpAnd (u :: r) en st1 R E | false => R false st1) E := rfl
@[simp] theorem w_Or1 {t : SemT} : twpOr [t] en st R E = t.wp en st R E := rfl
@[simp] theorem w_Or2 {t u : SemT} {r : List SemT} : twpOr (t :: u :: r) en st R E = t.wp en st (fun x st1 => match x with | true => R true st1 | false => twpOr (u :: r) en st1 R E) E := rfl
@[simp] theorem w_A0 {F : QL} : wpA [] en st F E = F [] st := rfl
@[simp] theorem w_A1 {F : QL} {l : List SemE} : wpA (a :: l) en st F E = a.wp en st (fun x st1 => wpA l en st1 (fun xs st2 => F (x :: xs) st2) E) E := rfl
@[simp] theorem w_O0 {F : Option Int → Sto → Prop} : wpO none en st F E = F none st := rfl
@[simp] theorem w_O1 {F : Option Int → Sto → Prop} : wpO (some a) en st F E = a.wp en st (fun x st1 => match x with | .int i => F (some i) st1 | _ => False) E := rfl
@[simp] theorem w_lt : opLtI.wp = fun x y st Q => (match x, y with | .int i, .int j => Q (.bl (decide (i < j))) st | _, _ => False) := rfl
@[simp] theorem w_le : opLe.wp = fun x y st Q => (match x, y with | .int i, .int j => Q (.bl (decide (i ≤ j))) st | _, _ => False) := rfl
@[simp] theorem w_gt : opGt.wp = fun x y st Q => (match x, y with | .int i, .int j => Q (.bl (decide (j < i))) st | _, _ => False) := rfl
@[simp] theorem w_ge : opGe.wp = fun x y st Q => (match x, y with | .int i, .int j => Q (.bl (decide (j ≤ i))) st | _, _ => False) := rfl
@[simp] theorem w_eq : opEq.wp = wpEq false := rfl
@[simp] theorem w_ne : opNe.wp = wpEq true := rfl
@[simp] theorem w_is : opIs.wp = fun x y st Q => (match y with | .non => Q (.bl (isNonD x)) st | _ => False) := rfl
@[simp] theorem w_isn : opIsNot.wp = fun x y st Q => (match y with | .non => Q (.bl (!isNonD x)) st | _ => False) := rfl
@[simp] theorem w_add {m : Bool} : (opAdd m).wp = wpAdd m := rfl
@[simp] theorem w_mul {m : Bool} : (opMul m).wp = wpMul m := rfl
@[simp] theorem w_sub : opSub.wp = fun x y st Q => (match x, y with | .int i, .int j => CT i j ∧ Q (.int (i - j)) st | _, _ => False) := rfl
@[simp] theorem w_mod : opMod.wp = fun x y st Q => (match x, y with | .int i, .int j => CPos i j ∧ Q (.int (i % j)) st | _, _ => False) := rfl
@[simp] theorem w_fdiv : opFDiv.wp = fun x y st Q => (match x, y with | .int i, .int j => CDiv i j ∧ Q (.int (i / j)) st | _, _ => False) := rfl
@[simp] theorem w_pow : opPow.wp = fun x y st Q => (match x, y with | .int i, .int j => CPow i j ∧ Q (.int (i ^ j.toNat)) st | _, _ => False) := rfl
variable {F : QI}
@[simp] theorem w_iSeq : (iSeq a).wp en st F E = a.wp en st (fun d st1 => match seqOf st1 d with | some ds => F ds (fun s => seqOf s d = some ds) st1 | none => False) E := rfl
@[simp] theorem w_iR1 : (iRange1 a).wp en st F E = a.wp en st (fun d st1 => match d with
    | .int j => bd62 j ∧ F (rngD 0 j.toNat) (fun _ => True) st1
    | _ => False) E := rfl
@[simp] theorem w_iR2 : (iRange2 a b).wp en st F E = a.wp en st (fun d st1 => b.wp en st1 (fun d2 st2 => match d, d2 with
    | .int i, .int j => bd62 i ∧ bd62 j ∧ F (rngD i (j - i).toNat) (fun _ => True) st2
    | _, _ => False) E) E := rfl
@[simp] theorem w_iZip {sf : Bool} : (iZip sf a b).wp en st F E = a.wp en st (fun d st1 => b.wp en st1 (fun d2 st2 => match seqOf st2 d, seqOf st2 d2 with
    | some xs, some ys => (sf = true → xs.length = ys.length) ∧ F (pairD xs ys) (fun s => seqOf s d = some xs ∧ seqOf s d2 = some ys) st2
    | _, _ => False) E) E := rfl
@[simp] theorem w_iEnum : (iEnum a).wp en st F E = a.wp en st (fun d st1 => match seqOf st1 d with
    | some xs => F (numD xs) (fun s => seqOf s d = some xs) st1
    | _ => False) E := rfl
@[simp] theorem w_sRet : (sRet a).wp N en st = a.wp en st N.rt (fun x st' => N.ex x en st') := rfl
@[simp] theorem w_sRetN : sRetN.wp N en st = N.rt .non st := rfl
@[simp] theorem w_sPass : sPass.wp N en st = N.nx en st := rfl
@[simp] theorem w_sSet {i : Nat} : (sSet i a).wp N en st = a.wp en st (fun d st1 => N.nx (en.set i (some d)) st1) (fun x st' => N.ex x en st') := rfl
@[simp] theorem w_sExp : (sExp a).wp N en st = a.wp en st (fun d st1 => N.nx en st1) (fun x st' => N.ex x en st') := rfl
@[simp] theorem w_sIf {x y : List SemS} : (sIf t x y).wp N en st = t.wp en st (fun c st1 => match c with | true => wpB x N en st1 | false => wpB y N en st1) (fun x st' => N.ex x en st') := rfl
@[simp] theorem w_sAsg {t : Tg} : (sAsg t a).wp N en st = a.wp en st (fun d st1 => match putT t en d with | some en1 => N.nx en1 st1 | none => False) (fun x st' => N.ex x en st') := rfl
@[simp] theorem w_sPar2 {i j : Nat} : (sPar2 i j a b).wp N en st = wpA [a, b] en st (fun ds st1 => match ds with | [d1, d2] => N.nx ((en.set i (some d1)).set j (some d2)) st1 | _ => False) (fun x st' => N.ex x en st') := rfl
@[simp] theorem w_sPar3 {i j l : Nat} : (sPar3 i j l a b c).wp N en st = wpA [a, b, c] en st (fun ds st1 => match ds with | [d1, d2, d3] => N.nx (((en.set i (some d1)).set j (some d2)).set l (some d3)) st1 | _ => False) (fun x st' => N.ex x en st') := rfl
theorem w_sFor {t : Tg} {i : SemI} {b : List SemS} : (sFor t i b).wp N en st = i.wp en st (fun items ok st1 => forD t (wpB b) ok N items en st1) (fun x st' => N.ex x en st') := rfl
theorem w_sWhile {t : SemT} {b : List SemS} : (sWhile t b).wp N en st = whD t (wpB b) N en st := rfl
@[simp] theorem w_sSetIx {o i e : SemE} : (sSetIx o i e).wp N en st = e.wp en st (fun d st1 => o.wp en st1 (fun r st2 => i.wp en st2 (fun j st3 => match refL st3 r, j with
    | some (n, xs), .int j => (match ixN xs.length j with | some p => N.nx en (st3.set n (.lst (xs.set p d))) | none => False)
    | _, _ => False) (fun x st' => N.ex x en st')) (fun x st' => N.ex x en st')) (fun x st' => N.ex x en st') := rfl
@[simp] theorem w_b0 : wpB [] N en st = N.nx en st := rfl
@[simp] theorem w_b1 {s : SemS} : wpB [s] N en st = s.wp N en st := rfl
@[simp] theorem w_b2 {s u : SemS} {r : List SemS} : wpB (s :: u :: r) N en st = s.wp { N with nx := fun en1 st1 => wpB (u :: r) N en1 st1 } en st := rfl
end
/-! ### values, for simp -/
section
variable {st : Sto} {Q : QD} {ds es : List D} {d x y : D} {n : Nat} {i j : Int} {m : Bool}
@[simp] theorem q_tup : seqOf st (.tup ds) = some ds := rfl
@[simp] theorem q_lst : seqOf st (.lst ds) = some ds := rfl
@[simp] theorem q_ref : seqOf st (.ref n) = (match st[n]? with | some (.lst ds) => some ds | _ => none) := rfl
@[simp] theorem l_tup : lstOf st (.tup ds) = none := rfl
@[simp] theorem l_lst : lstOf st (.lst ds) = some ds := rfl
@[simp] theorem l_ref : lstOf st (.ref n) = (match st[n]? with | some (.lst ds) => some ds | _ => none) := rfl
@[simp] theorem k_tup : lookD st (.tup ds) = .tup ds := rfl
@[simp] theorem k_lst : lookD st (.lst ds) = .lst ds := rfl
@[simp] theorem k_int : lookD st (.int i) = .int i := rfl
@[simp] theorem k_str {s : Str} : lookD st (.str s) = .str s := rfl
@[simp] theorem k_non : lookD st .non = .non := rfl
@[simp] theorem k_bl {b : Bool} : lookD st (.bl b) = .bl b := rfl
@[simp] theorem k_ref : lookD st (.ref n) = (match st[n]? with | some (.lst ds) => .lst ds | _ => .ref n) := rfl
@[simp] theorem r_ref : refL st (.ref n) = (match st[n]? with | some (.lst ds) => some (n, ds) | _ => none) := rfl
@[simp] theorem n_tup : lenD st (.tup ds) = some (ds.length : Int) := rfl
@[simp] theorem n_lst : lenD st (.lst ds) = some (ds.length : Int) := rfl
@[simp] theorem n_ref : lenD st (.ref n) = ((seqOf st (.ref n)).map fun ds => (ds.length : Int)) := rfl
@[simp] theorem i_tup : ixD st (.tup ds) (.int i) = atI ds i := rfl
@[simp] theorem i_lst : ixD st (.lst ds) (.int i) = atI ds i := rfl
@[simp] theorem i_ref : ixD st (.ref n) (.int i) = ((seqOf st (.ref n)).bind fun ds => atI ds i) := rfl
@[simp] theorem a_int : wpAdd m (.int i) (.int j) st Q = Q (.int (i + j)) st := rfl
@[simp] theorem a_tup : wpAdd m (.tup ds) (.tup es) st Q = (ds.length + es.length ≤ sizeLine ∧ Q (.tup (ds ++ es)) st) := rfl
@[simp] theorem m_int : wpMul m (.int i) (.int j) st Q = (CMul i j ∧ Q (.int (i * j)) st) := rfl
@[simp] theorem m_tup : wpMul m (.tup ds) (.int i) st Q = (CRep i ds.length ∧ Q (.tup (List.replicate i.toNat ds).flatten) st) := rfl
@[simp] theorem e_str {neg : Bool} {s t : Str} : wpEq neg (.str s) (.str t) st Q = Q (.bl (neg != decide (s = t))) st := rfl
@[simp] theorem e_tup {neg : Bool} : wpEq neg (.tup ds) y st Q = (shp (.tup ds) = true ∧ shp (lookD st y) = true ∧ Q (.bl (neg != eqD (.tup ds) (lookD st y))) st) := rfl
@[simp] theorem e_lst {neg : Bool} : wpEq neg (.lst ds) y st Q = (shp (.lst ds) = true ∧ shp (lookD st y) = true ∧ Q (.bl (neg != eqD (.lst ds) (lookD st y))) st) := rfl
@[simp] theorem e_ref {neg : Bool} : wpEq neg (.ref n) y st Q = (shp (lookD st (.ref n)) = true ∧ shp (lookD st y) = true ∧ Q (.bl (neg != eqD (lookD st (.ref n)) (lookD st y))) st) := rfl
@[simp] theorem e_int {neg : Bool} : wpEq neg (.int i) y st Q = (shp (.int i) = true ∧ shp (lookD st y) = true ∧ Q (.bl (neg != eqD (.int i) (lookD st y))) st) := rfl
@[simp] theorem e_non {neg : Bool} : wpEq neg .non y st Q = (shp .non = true ∧ shp (lookD st y) = true ∧ Q (.bl (neg != eqD .non (lookD st y))) st) := rfl
@[simp] theorem e_bl {neg b : Bool} : wpEq neg (.bl b) y st Q = (shp (.bl b) = true ∧ shp (lookD st y) = true ∧ Q (.bl (neg != eqD (.bl b) (lookD st y))) st) := rfl
@[simp] theorem sl_tup {lo hi : Option Int} : wpSl m (.tup ds) lo hi st Q = Q (.tup (cutD ds lo hi)) st := rfl
@[simp] theorem sl_rol {lo hi : Option Int} : wpSl m (.rol ds) lo hi st Q = newL m (cutD ds lo hi) st Q := rfl
@[simp] theorem sl_lst {lo hi : Option Int} : wpSl m (.lst ds) lo hi st Q = newL m (cutD ds lo hi) st Q := rfl
@[simp] theorem nl_t : newL true ds st Q = Q (.ref st.length) (st ++ [.lst ds]) := rfl
@[simp] theorem nl_f : newL false ds st Q = Q (.lst ds) st := rfl
@[simp] theorem b_len : bLen.wp [d] st Q = (match lenD st d with | some n => Q (.int n) st | none => False) := rfl
@[simp] theorem b_int : bInt.wp [.int i] st Q = Q (.int i) st := rfl
@[simp] theorem b_list : (bList m).wp [d] st Q = (match seqOf st d with | some xs => newL m xs st Q | none => False) := rfl
@[simp] theorem b_tup : bTuple.wp [d] st Q = (match seqOf st d with | some xs => Q (.tup xs) st | none => False) := rfl
@[simp] theorem b_all : bAll.wp [d] st Q = (match (lstOf st d).bind blsOf with | some bs => Q (.bl (bs.all id)) st | none => False) := rfl
@[simp] theorem b_any : bAny.wp [d] st Q = (match (lstOf st d).bind blsOf with | some bs => Q (.bl (bs.any id)) st | none => False) := rfl
@[simp] theorem b_repr : bRepr.wp [d] st Q = (repOk (toPy (lookD st d)) ∧ Q (.str (toPy (lookD st d)).shown) st) := rfl
@[simp] theorem m_app {xs : List D} : mAppend.f xs [y] st = (if xs.length < sizeLine then some (xs ++ [y], .non) else none) := rfl
@[simp] theorem m_ext {xs : List D} : mExtend.f xs [y] st = (match lstOf st y with | some zs => if xs.length + zs.length ≤ sizeLine then some (xs ++ zs, .non) else none | none => none) := rfl
variable {en : Env}
@[simp] theorem p_nm : putT (.nm n) en d = some (en.set n (some d)) := by rw [putT]
@[simp] theorem p_tup {l : List Tg} : putT (.tup l) en (.tup ds) = putTs l en ds := by rw [putT]
@[simp] theorem p_0 : putTs [] en [] = some en := by rw [putTs]
@[simp] theorem p_1 {t : Tg} {l : List Tg} : putTs (t :: l) en (d :: ds) = ((putT t en d).bind fun en1 => putTs l en1 ds) := by rw [putTs]
@[simp] theorem wi_0 : wipeD en [] = en := rfl
@[simp] theorem wi_1 {v : Nat} {vs : List Nat} : wipeD en (v :: vs) = (wipeD en vs).set v none := rfl
variable {R : Bool → Sto → Prop} {E : QX}
@[simp] theorem c_none : wpC none en st R E = R true st := rfl
@[simp] theorem c_some {t : SemT} : wpC (some t) en st R E = t.wp en st R E := rfl
end
/-! ### turns -/
theorem forD_inv {t : Tg} {body : WpS} {ok : Sto → Prop} {N : EndsD} (items : List D) (P : Nat → Env → Sto → Prop) {en : Env} {st : Sto} (h0 : P 0 en st) (hok : ∀ i en st, P i en st → ok st)
    (hs : ∀ i d en st, items[i]? = some d → P i en st → ∃ en1, putT t en d = some en1 ∧ body { N with nx := P (i + 1), ct := P (i + 1), bk := N.nx } en1 st) (hd : ∀ en st, P items.length en st → N.nx en st) (mb : MonoS body) : forD t body ok N items en st := by
  have gen : ∀ (r : List D) (i : Nat) (en : Env) (st : Sto), items.drop i = r → i ≤ items.length → P i en st → forD t body ok N r en st := by
    intro r
    induction r with
    | nil =>
      intro i en st e hi h
      have : i = items.length := by
        have := congrArg List.length e
        rw [List.length_drop] at this
        simp at this
        omega
      subst this
      exact ⟨hok _ _ _ h, hd _ _ h⟩
    | cons d r ih =>
      intro i en st e hi h
      have hlt : i < items.length := by
        have := congrArg List.length e
        rw [List.length_drop] at this
        simp at this
        omega
      have ed : items[i]? = some d := by
        have := congrArg (fun l => l[0]?) e
        simpa using this
      obtain ⟨en1, e1, h1⟩ := hs i d en st ed h
      refine ⟨hok _ _ _ h, ?_⟩
      rw [e1]
      have er : items.drop (i + 1) = r := by
        have := congrArg List.tail e
        simpa using this
      exact mb { N with nx := P (i + 1), ct := P (i + 1), bk := N.nx } _ _ _ ⟨fun en st q => ih (i + 1) en st er hlt q, fun _ _ q => q, fun _ _ q => q, fun en st q => ih (i + 1) en st er hlt q, fun _ _ _ q => q⟩ h1
  exact gen items 0 en st (by simp) (Nat.zero_le _) h0
theorem compD_inv {t : Tg} {vs : List Nat} {c : WpT} {elt : WpE} {ok : Sto → Prop} {en : Env} {Q : List D → Sto → Prop} (mc : MonoT c) (me : MonoE elt) (items : List D) (P : Nat → List D → Sto → Prop) {st : Sto} (h0 : P 0 [] st) (hok : ∀ i acc st, P i acc st → ok st)
    (hs : ∀ i d acc st, items[i]? = some d → P i acc st → ∃ en1, putT t (wipeD en vs) d = some en1 ∧ c en1 st (fun b st1 => match b with
      | true => elt en1 st1 (fun y st2 => acc.length < sizeLine ∧ P (i + 1) (acc ++ [y]) st2) NoX
      | false => P (i + 1) acc st1) NoX) (hd : ∀ acc st, P items.length acc st → Q acc st) : compD t vs c elt ok en Q items [] st := by
  have gen : ∀ (r : List D) (i : Nat) (acc : List D) (st : Sto), items.drop i = r → i ≤ items.length → P i acc st → compD t vs c elt ok en Q r acc st := by
    intro r
    induction r with
    | nil =>
      intro i acc st e hi h
      have : i = items.length := by
        have := congrArg List.length e
        rw [List.length_drop] at this
        simp at this
        omega
      subst this
      exact ⟨hok _ _ _ h, hd _ _ h⟩
    | cons d r ih =>
      intro i acc st e hi h
      have hlt : i < items.length := by
        have := congrArg List.length e
        rw [List.length_drop] at this
        simp at this
        omega
      have ed : items[i]? = some d := by
        have := congrArg (fun l => l[0]?) e
        simpa using this
      obtain ⟨en1, e1, h1⟩ := hs i d acc st ed h
      refine ⟨hok _ _ _ h, ?_⟩
      rw [e1]
      have er : items.drop (i + 1) = r := by
        have := congrArg List.tail e
        simpa using this
      refine mc _ _ _ _ _ _ h1 (fun b st1 hb => ?_) fun _ _ q => q
      cases b with
      | true => exact me _ _ _ _ _ _ hb (fun y st2 hy => ⟨hy.1, ih (i + 1) _ _ er hlt hy.2⟩) fun _ _ q => q
      | false => exact ih (i + 1) _ _ er hlt hb
  exact gen items 0 [] st (by simp) (Nat.zero_le _) h0
/-! ### specs -/
/-- a spec by what is given, what is asked ahead, what is told -/
def mkS (ar : Nat) (α : Type) (args : α → List D) (pre : α → Sto → Prop) (post : α → Sto → D → Sto → Prop) : SpecD where
  ar := ar
  run ds st Q _ := ∃ a : α, ds = args a ∧ pre a st ∧ ∀ d st', post a st d st' → Q d st'
  mono ds st Q Q' E E' h f _ := let ⟨a, e, p, q⟩ := h; ⟨a, e, p, fun d st' z => f _ _ (q d st' z)⟩
/-- a row of ints -/
abbrev Is (ns : List Int) : List D := ns.map D.int
end Mi
namespace Mi
open PySem PySem.Spec PyProof.Rows L2

/-- a row of counts -/
abbrev Ns (ns : List Nat) : List D := ns.map fun (n : Nat) => D.int (n : Int)
/-! ### plain values: what can be shown and compared -/
mutual
/-- nothing but none, bools, ints, texts, tuples, lists -/
def canD : D → Bool
  | .non => true
  | .bl _ => true
  | .int _ => true
  | .str s => PyData.strOk s
  | .tup ds => canDs ds
  | .lst ds => canDs ds
  | _ => false
def canDs : List D → Bool
  | [] => true
  | d :: r => canD d && canDs r
end
mutual
/-- .. and no bools -/
def okD : D → Bool
  | .non => true
  | .int _ => true
  | .str s => PyData.strOk s
  | .tup ds => okDs ds
  | .lst ds => okDs ds
  | _ => false
def okDs : List D → Bool
  | [] => true
  | d :: r => okD d && okDs r
end
mutual
def dpD : D → Nat
  | .tup ds => dpDs ds + 1
  | .lst ds => dpDs ds + 1
  | .non => 0
  | .bl _ => 0
  | .int _ => 0
  | .str _ => 0
  | .rol _ => 0
  | .dic _ _ => 0
  | .ref _ => 0
def dpDs : List D → Nat
  | [] => 0
  | d :: r => max (dpD d) (dpDs r)
end
mutual
theorem can_of_ok : ∀ d : D, okD d = true → canD d = true
  | .non, _ => by rw [canD]
  | .int _, _ => by rw [canD]
  | .str _, h => by rw [okD] at h; rw [canD]; exact h
  | .tup ds, h => by rw [okD] at h; rw [canD]; exact cans_of_ok ds h
  | .lst ds, h => by rw [okD] at h; rw [canD]; exact cans_of_ok ds h
  | .bl _, h => by simp [okD] at h
  | .rol _, h => by simp [okD] at h
  | .dic _ _, h => by simp [okD] at h
  | .ref _, h => by simp [okD] at h
theorem cans_of_ok : ∀ ds : List D, okDs ds = true → canDs ds = true
  | [], _ => by rw [canDs]
  | d :: r, h => by
    rw [okDs, Bool.and_eq_true] at h
    rw [canDs, Bool.and_eq_true]
    exact ⟨can_of_ok d h.1, cans_of_ok r h.2⟩
end
mutual
theorem can_py : ∀ d : D, canD d = true → (toPy d).canLay0 = true ∧ (toPy d).depth = dpD d
  | .non, _ => ⟨rfl, rfl⟩
  | .bl _, _ => ⟨rfl, rfl⟩
  | .int _, _ => ⟨rfl, rfl⟩
  | .str _, h => by rw [canD] at h; exact ⟨h, rfl⟩
  | .tup ds, h => by
    rw [canD] at h
    obtain ⟨h1, h2⟩ := cans_py ds h
    rw [toPy, PyData.canLay0, PyData.depth, dpD]
    exact ⟨h1, by rw [h2]⟩
  | .lst ds, h => by
    rw [canD] at h
    obtain ⟨h1, h2⟩ := cans_py ds h
    rw [toPy, PyData.canLay0, PyData.depth, dpD]
    exact ⟨h1, by rw [h2]⟩
  | .rol _, h => by simp [canD] at h
  | .dic _ _, h => by simp [canD] at h
  | .ref _, h => by simp [canD] at h
theorem cans_py : ∀ ds : List D, canDs ds = true → PyData.canLayAll0 (toPys ds) = true ∧ PyData.depthAll (toPys ds) = dpDs ds
  | [], _ => ⟨rfl, rfl⟩
  | d :: r, h => by
    rw [canDs, Bool.and_eq_true] at h
    obtain ⟨h1, h2⟩ := can_py d h.1
    obtain ⟨h3, h4⟩ := cans_py r h.2
    rw [toPys, PyData.canLayAll0, PyData.depthAll, dpDs]
    exact ⟨by rw [h1, h3]; rfl, by rw [h2, h4]⟩
end
theorem shp_of {d : D} (h : canD d = true) (hd : dpD d ≤ 64) : shp d = true := by
  obtain ⟨h1, h2⟩ := can_py d h
  unfold shp SeqAt.shaped
  rw [h1, h2, decide_eq_true hd]; rfl
mutual
theorem eqD_iff : ∀ x y : D, okD x = true → okD y = true → (eqD x y = true ↔ x = y)
  | .non, y, _, hy => by cases y <;> simp [eqD, toPy, PyData.eqv, okD] at hy ⊢
  | .int i, y, _, hy => by cases y <;> simp [eqD, toPy, PyData.eqv, okD] at hy ⊢
  | .str s, y, _, hy => by cases y <;> simp [eqD, toPy, PyData.eqv, okD] at hy ⊢
  | .tup ds, y, hx, hy => by
    cases y with
    | tup es =>
      rw [okD] at hx hy
      have := eqDs_iff ds es hx hy
      unfold eqD
      rw [toPy, toPy, PyData.eqv, this]
      exact ⟨fun e => by rw [e], fun e => by cases e; rfl⟩
    | _ => simp [eqD, toPy, PyData.eqv, okD] at hy ⊢
  | .lst ds, y, hx, hy => by
    cases y with
    | lst es =>
      rw [okD] at hx hy
      have := eqDs_iff ds es hx hy
      unfold eqD
      rw [toPy, toPy, PyData.eqv, this]
      exact ⟨fun e => by rw [e], fun e => by cases e; rfl⟩
    | _ => simp [eqD, toPy, PyData.eqv, okD] at hy ⊢
  | .bl _, _, h, _ => by simp [okD] at h
  | .rol _, _, h, _ => by simp [okD] at h
  | .dic _ _, _, h, _ => by simp [okD] at h
  | .ref _, _, h, _ => by simp [okD] at h
theorem eqDs_iff : ∀ xs ys : List D, okDs xs = true → okDs ys = true → (PyData.eqvAll (toPys xs) (toPys ys) = true ↔ xs = ys)
  | [], [], _, _ => by simp [toPys, PyData.eqvAll]
  | [], _ :: _, _, _ => by simp [toPys, PyData.eqvAll]
  | _ :: _, [], _, _ => by simp [toPys, PyData.eqvAll]
  | x :: xs, y :: ys, hx, hy => by
    rw [okDs, Bool.and_eq_true] at hx hy
    have h1 := eqD_iff x y hx.1 hy.1
    have h2 := eqDs_iff xs ys hx.2 hy.2
    unfold eqD at h1
    rw [toPys, toPys, PyData.eqvAll, Bool.and_eq_true, h1, h2]
    simp
end
open Classical in
theorem eqD_dec {x y : D} (hx : okD x = true) (hy : okD y = true) : eqD x y = decide (x = y) := by
  rw [Bool.eq_iff_iff, eqD_iff x y hx hy]
  simp
mutual
theorem eqD_self : ∀ x : D, canD x = true → eqD x x = true
  | .non, _ => rfl
  | .bl b, _ => by simp [eqD, toPy, PyData.eqv]
  | .int i, _ => by simp [eqD, toPy, PyData.eqv]
  | .str s, _ => by simp [eqD, toPy, PyData.eqv]
  | .tup ds, h => by rw [canD] at h; unfold eqD; rw [toPy, PyData.eqv]; exact eqDs_self ds h
  | .lst ds, h => by rw [canD] at h; unfold eqD; rw [toPy, PyData.eqv]; exact eqDs_self ds h
  | .rol _, h => by simp [canD] at h
  | .dic _ _, h => by simp [canD] at h
  | .ref _, h => by simp [canD] at h
theorem eqDs_self : ∀ xs : List D, canDs xs = true → PyData.eqvAll (toPys xs) (toPys xs) = true
  | [], _ => rfl
  | x :: xs, h => by
    rw [canDs, Bool.and_eq_true] at h
    have h1 := eqD_self x h.1
    unfold eqD at h1
    rw [toPys, PyData.eqvAll, h1, eqDs_self xs h.2]; rfl
end
theorem canDs_all {ds : List D} (h : ∀ d ∈ ds, canD d = true) : canDs ds = true := by
  induction ds with
  | nil => rw [canDs]
  | cons d r ih => rw [canDs, h d List.mem_cons_self, ih fun x hx => h x (List.mem_cons_of_mem _ hx)]; rfl
theorem okDs_all {ds : List D} (h : ∀ d ∈ ds, okD d = true) : okDs ds = true := by
  induction ds with
  | nil => rw [okDs]
  | cons d r ih => rw [okDs, h d List.mem_cons_self, ih fun x hx => h x (List.mem_cons_of_mem _ hx)]; rfl
theorem dpDs_all {ds : List D} {n : Nat} (h : ∀ d ∈ ds, dpD d ≤ n) : dpDs ds ≤ n := by
  induction ds with
  | nil => rw [dpDs]; exact Nat.zero_le _
  | cons d r ih => rw [dpDs]; exact Nat.max_le.mpr ⟨h d List.mem_cons_self, ih fun x hx => h x (List.mem_cons_of_mem _ hx)⟩
theorem ok_ints (ns : List Int) : okDs (ns.map D.int) = true := okDs_all fun d hd => by
  obtain ⟨n, _, rfl⟩ := List.mem_map.mp hd
  rw [okD]
theorem dp_ints (ns : List Int) : dpDs (ns.map D.int) = 0 := Nat.le_zero.mp (dpDs_all fun d hd => by
  obtain ⟨n, _, rfl⟩ := List.mem_map.mp hd
  rw [dpD]; exact Nat.le_refl _)
@[simp] theorem shp_int (i : Int) : shp (.int i) = true := shp_of (by rw [canD]) (by rw [dpD]; omega)
@[simp] theorem shp_non : shp .non = true := shp_of (by rw [canD]) (by rw [dpD]; omega)
@[simp] theorem shp_bl (b : Bool) : shp (.bl b) = true := shp_of (by rw [canD]) (by rw [dpD]; omega)
@[simp] theorem shp_nil : shp (.tup []) = true := rfl
@[simp] theorem shp_nil' : shp (.lst []) = true := rfl
@[simp] theorem shp_ints (ns : List Int) : shp (.tup (Is ns)) = true := shp_of (by rw [canD]; exact cans_of_ok _ (ok_ints ns)) (by rw [dpD, dp_ints]; omega)
@[simp] theorem eqD_int (i j : Int) : eqD (.int i) (.int j) = decide (i = j) := by
  unfold eqD
  rw [toPy, toPy, PyData.eqv]
  by_cases h : i = j
  · simp [h]
  · simp [h]
theorem isE_eq {ds : List D} (h : okDs ds = true) : eqD (.lst ds) (.lst []) = ds.isEmpty := by
  rw [eqD_dec (by rw [okD]; exact h) (by rw [okD, okDs])]
  cases ds <;> simp
theorem isE_tup {ds : List D} (h : okDs ds = true) : eqD (.tup ds) (.tup []) = ds.isEmpty := by
  rw [eqD_dec (by rw [okD]; exact h) (by rw [okD, okDs])]
  cases ds <;> simp
theorem atI_nat {α : Type} (l : List α) (n : Nat) : atI l (n : Int) = l[n]? := by
  unfold atI ixN
  by_cases h : n < l.length
  · have h2 : ¬ ((n : Int) < 0) := by omega
    simp [h]
  · simp [h]
/-! ### what a def leaves -/
mutual
theorem nr_of_can (n : Nat) : ∀ d : D, canD d = true → noRef n d = true
  | .non, _ => by rw [noRef] <;> intros <;> simp_all
  | .bl _, _ => by rw [noRef] <;> intros <;> simp_all
  | .int _, _ => by rw [noRef] <;> intros <;> simp_all
  | .str _, _ => by rw [noRef] <;> intros <;> simp_all
  | .tup ds, h => by rw [canD] at h; rw [noRef]; exact nrs_of_can n ds h
  | .lst ds, h => by rw [canD] at h; rw [noRef]; exact nrs_of_can n ds h
  | .rol _, h => by simp [canD] at h
  | .dic _ _, h => by simp [canD] at h
  | .ref _, h => by simp [canD] at h
theorem nrs_of_can (n : Nat) : ∀ ds : List D, canDs ds = true → noRefs n ds = true
  | [], _ => by rw [noRefs]
  | d :: r, h => by
    rw [canDs, Bool.and_eq_true] at h
    rw [noRefs, nr_of_can n d h.1, nrs_of_can n r h.2]; rfl
end
theorem frz_val {st : Sto} {n f : Nat} {d : D} (h : noRef n d = true) : frz st n f d = some d := by
  cases f <;> simp [frz, h]
theorem closed_self (st : Sto) : closedTo st st := fun _ _ h => .inl h
theorem closed_set {st st1 : Sto} (h : closedTo st st1) {n : Nat} {o : O} (ho : noRefO st.length o = true) : closedTo st (st1.set n o) := fun i o' e => by
  by_cases hi : n = i
  · subst hi
    by_cases hl : n < st1.length
    · rw [List.getElem?_set_self hl] at e
      cases e
      exact .inr ho
    · rw [List.getElem?_eq_none (by rw [List.length_set]; omega)] at e
      cases e
  · rw [List.getElem?_set_ne hi] at e
    exact h i o' e
theorem ret_val {st st1 ext : Sto} {d : D} {Q : QD} (hl : st1.length = st.length) (hc : closedTo st st1) (h : noRef st.length d = true) (q : Q d st1) : retD st d (st1 ++ ext) Q := by
  have e : (st1 ++ ext).take st.length = st1 := by rw [← hl, List.take_left']; rfl
  exact .inr (.inl ⟨d, 0, frz_val h, by rw [e]; exact hc, by rw [e]; exact q⟩)
theorem ret_val0 {st ext : Sto} {d : D} {Q : QD} (h : noRef st.length d = true) (q : Q d st) : retD st d (st ++ ext) Q := ret_val rfl (closed_self st) h q
theorem mapM_frz {st : Sto} {n f : Nat} : ∀ {ds : List D}, noRefs n ds = true → ds.mapM (frz st n f) = some ds
  | [], _ => rfl
  | d :: r, h => by
    rw [noRefs, Bool.and_eq_true] at h
    rw [List.mapM_cons, frz_val h.1, mapM_frz h.2]; rfl
theorem ret_lst {st st1 ext : Sto} {m : Nat} {ds : List D} {Q : QD} (hl : st1.length = st.length) (hc : closedTo st st1) (hm : (st1 ++ ext)[m]? = some (.lst ds)) (hm2 : st.length ≤ m) (h : noRefs st.length ds = true) (q : Q (.lst ds) st1) : retD st (.ref m) (st1 ++ ext) Q := by
  have e : (st1 ++ ext).take st.length = st1 := by rw [← hl, List.take_left']; rfl
  refine .inr (.inl ⟨.lst ds, 1, ?_, by rw [e]; exact hc, by rw [e]; exact q⟩)
  rw [frz]
  have : ¬ (noRef st.length (.ref m) = true) := by
    rw [noRef]
    simp
    omega
  rw [if_neg this, hm]
  show (ds.mapM (frz (st1 ++ ext) st.length 0)).map D.lst = _
  rw [mapM_frz h]
  rfl
/-- a block in two parts -/
theorem wpB_app (l r : List SemS) (h : r ≠ []) {N : EndsD} {en : Env} {st : Sto} : wpB (l ++ r) N en st = wpB l { N with nx := fun en1 st1 => wpB r N en1 st1 } en st := by
  induction l generalizing en st with
  | nil => rfl
  | cons a l ih =>
    cases l with
    | nil =>
      cases r with
      | nil => exact absurd rfl h
      | cons b r => rfl
    | cons b l =>
      show wpB (a :: b :: (l ++ r)) N en st = wpB (a :: b :: l) _ en st
      rw [w_b2, w_b2]
      congr 1
      congr 1
      funext en1 st1
      exact ih
/-! ### showing -/
mutual
/-- how many signs a value's text has at most, by a bound: ints shorter than 13 signs -/
def wtD : D → Nat
  | .tup ds => wtDs ds + 4
  | .lst ds => wtDs ds + 4
  | .str s => 20 * s.cps.size + 8
  | .non => 13
  | .bl _ => 13
  | .int _ => 13
  | .rol _ => 13
  | .dic _ _ => 13
  | .ref _ => 13
def wtDs : List D → Nat
  | [] => 0
  | d :: r => wtD d + 2 + wtDs r
end
mutual
/-- ints are short -/
def smD : D → Bool
  | .non => true
  | .bl _ => true
  | .int i => decide (i.natAbs < 10 ^ 12)
  | .tup ds => smDs ds
  | .lst ds => smDs ds
  | _ => false
def smDs : List D → Bool
  | [] => true
  | d :: r => smD d && smDs r
end
mutual
theorem sm_can : ∀ d : D, smD d = true → canD d = true
  | .non, _ => by rw [canD]
  | .bl _, _ => by rw [canD]
  | .int _, _ => by rw [canD]
  | .tup ds, h => by rw [smD] at h; rw [canD]; exact sms_can ds h
  | .lst ds, h => by rw [smD] at h; rw [canD]; exact sms_can ds h
  | .str _, h => by simp [smD] at h
  | .rol _, h => by simp [smD] at h
  | .dic _ _, h => by simp [smD] at h
  | .ref _, h => by simp [smD] at h
theorem sms_can : ∀ ds : List D, smDs ds = true → canDs ds = true
  | [], _ => by rw [canDs]
  | d :: r, h => by
    rw [smDs, Bool.and_eq_true] at h
    rw [canDs, Bool.and_eq_true]
    exact ⟨sm_can d h.1, sms_can r h.2⟩
end
mutual
theorem sm_show : ∀ d : D, smD d = true → (toPy d).showable = true ∧ (toPy d).shown.length ≤ wtD d
  | .non, _ => ⟨rfl, by decide +kernel⟩
  | .bl b, _ => ⟨rfl, by cases b <;> decide +kernel⟩
  | .int i, h => by
    rw [smD] at h
    have h1 := of_decide_eq_true h
    refine ⟨decide_eq_true (log2_small (Nat.lt_of_lt_of_le h1 (by decide))), ?_⟩
    rw [wtD]
    exact PyData.shown_int_le h1
  | .tup ds, h => by
    rw [smD] at h
    obtain ⟨h1, h2⟩ := sms_show ds h
    rw [toPy, PyData.showable, PyData.shown, wtD]
    refine ⟨h1, Nat.le_trans (tupleText_len_le _) ?_⟩
    omega
  | .lst ds, h => by
    rw [smD] at h
    obtain ⟨h1, h2⟩ := sms_show ds h
    rw [toPy, PyData.showable, PyData.shown, wtD]
    refine ⟨h1, Nat.le_trans (listText_len_le _) ?_⟩
    omega
  | .str _, h => by simp [smD] at h
  | .rol _, h => by simp [smD] at h
  | .dic _ _, h => by simp [smD] at h
  | .ref _, h => by simp [smD] at h
theorem sms_show : ∀ ds : List D, smDs ds = true → PyData.showableAll (toPys ds) = true ∧ ((PyData.shownAll (toPys ds)).map (·.length)).sum + 2 * (PyData.shownAll (toPys ds)).length ≤ wtDs ds
  | [], _ => ⟨rfl, by simp [toPys, PyData.shownAll]⟩
  | d :: r, h => by
    rw [smDs, Bool.and_eq_true] at h
    obtain ⟨h1, h2⟩ := sm_show d h.1
    obtain ⟨h3, h4⟩ := sms_show r h.2
    rw [toPys, PyData.showableAll, PyData.shownAll, wtDs, List.map_cons, List.sum_cons, List.length_cons]
    exact ⟨by rw [h1, h3]; rfl, by omega⟩
end
theorem rep_ok {d : D} (h : smD d = true) (hd : dpD d ≤ 60) (hw : wtD d ≤ 10000000) : repOk (toPy d) := by
  obtain ⟨h1, h2⟩ := can_py d (sm_can d h)
  obtain ⟨h3, h4⟩ := sm_show d h
  refine ⟨h1, h3, by rw [h2]; exact hd, ?_⟩
  rw [sizeLine_eq]
  omega
theorem sm_ints {ns : List Int} (h : ∀ x ∈ ns, x.natAbs < 10 ^ 12) : smDs (ns.map D.int) = true := by
  induction ns with
  | nil => rw [List.map_nil, smDs]
  | cons n r ih => rw [List.map_cons, smDs, smD, decide_eq_true (h n List.mem_cons_self), ih fun x hx => h x (List.mem_cons_of_mem _ hx)]; rfl
theorem wt_ints (ns : List Int) : wtDs (ns.map D.int) = 15 * ns.length := by
  induction ns with
  | nil => rw [List.map_nil, wtDs]; rfl
  | cons n r ih => rw [List.map_cons, wtDs, wtD, ih, List.length_cons]; omega
end Mi
namespace Mi
open PySem PySem.Spec PyProof.Rows L2

/-! ### expressions with one answer -/
def Ev (e : SemE) (en : Env) (st : Sto) (d : D) (st' : Sto) : Prop := ∀ (F : QD) (E : QX), F d st' → e.wp en st F E
def EvT (t : SemT) (en : Env) (st : Sto) (b : Bool) (st' : Sto) : Prop := ∀ (R : Bool → Sto → Prop) (E : QX), R b st' → t.wp en st R E
def EvA (l : List SemE) (en : Env) (st : Sto) (ds : List D) (st' : Sto) : Prop := ∀ (F : QL) (E : QX), F ds st' → wpA l en st F E
section
variable {en : Env} {st st1 st2 : Sto} {a b : SemE} {x y d : D}
theorem ev_var {i : Nat} (h : en[i]? = some (some d)) : Ev (eVar i) en st d st := fun F E q => by rw [w_var, h]; exact q
theorem ev_int {i : Int} : Ev (eInt i) en st (.int i) st := fun F E q => q
theorem ev_bl {i : Bool} : Ev (eBl i) en st (.bl i) st := fun F E q => q
theorem ev_str {i : Str} : Ev (eStr i) en st (.str i) st := fun F E q => q
theorem ev_none : Ev eNone en st .non st := fun F E q => q
theorem ev_bin {op : Operator} {o : OpD (binaryOp op)} (ha : Ev a en st x st1) (hb : Ev b en st1 y st2) (ho : ∀ Q : QD, Q d st2 → o.wp x y st2 Q) : Ev (eBin op o a b) en st d st2 := fun F E q => ha _ _ (hb _ _ (ho _ q))
theorem ev_cmp {op : CmpOp} {o : OpD (compareOp op)} (ha : Ev a en st x st1) (hb : Ev b en st1 y st2) (ho : ∀ Q : QD, Q d st2 → o.wp x y st2 Q) : Ev (eCmp op o a b) en st d st2 := fun F E q => ha _ _ (hb _ _ (ho _ q))
theorem eva_nil : EvA [] en st [] st := fun F E q => q
theorem eva_cons {l : List SemE} {ds : List D} (ha : Ev a en st x st1) (hl : EvA l en st1 ds st2) : EvA (a :: l) en st (x :: ds) st2 := fun F E q => ha _ _ (hl _ _ q)
theorem ev_tup {l : List SemE} {ds : List D} (h : EvA l en st ds st1) (hs : ds.length ≤ 1000000) : Ev (eTup l) en st (.tup ds) st1 := fun F E q => h _ _ ⟨by rw [sizeLine_eq]; omega, q⟩
theorem ev_lst {l : List SemE} {ds : List D} (h : EvA l en st ds st1) (hs : ds.length ≤ 1000000) : Ev (eList false l) en st (.lst ds) st1 := fun F E q => h _ _ ⟨by rw [sizeLine_eq]; omega, q⟩
theorem ev_add {u w : List D} (ha : Ev a en st (.tup u) st1) (hb : Ev b en st1 (.tup w) st2) (h : u.length + w.length ≤ 1000000) : Ev (eBin .Add (opAdd false) a b) en st (.tup (u ++ w)) st2 := ev_bin ha hb fun Q q => ⟨by rw [sizeLine_eq]; omega, q⟩
theorem ev_addI {i j : Int} (ha : Ev a en st (.int i) st1) (hb : Ev b en st1 (.int j) st2) : Ev (eBin .Add (opAdd false) a b) en st (.int (i + j)) st2 := ev_bin ha hb fun Q q => q
theorem ev_mulT {u : List D} {k : Int} (ha : Ev a en st (.tup u) st1) (hb : Ev b en st1 (.int k) st2) (h : CRep k u.length) : Ev (eBin .Mult (opMul false) a b) en st (.tup (List.replicate k.toNat u).flatten) st2 := ev_bin ha hb fun Q q => ⟨h, q⟩
theorem ev_mulI {i j : Int} (ha : Ev a en st (.int i) st1) (hb : Ev b en st1 (.int j) st2) (h : CMul i j) : Ev (eBin .Mult (opMul false) a b) en st (.int (i * j)) st2 := ev_bin ha hb fun Q q => ⟨h, q⟩
theorem ev_B {f : BIn} {l : List SemE} {ds : List D} (h : EvA l en st ds st1) (ho : ∀ Q : QD, Q d st2 → f.wp ds st1 Q) : Ev (eB f l) en st d st2 := fun F E q => h _ _ (ho _ q)
theorem evt_V {r : Bool} (h : Ev a en st (.bl r) st1) : EvT (tV a) en st r st1 := fun R E q => h _ _ q
theorem evt_no {t : SemT} {r : Bool} (h : EvT t en st r st1) : EvT (tNo t) en st (!r) st1 := fun R E q => h _ _ q
def EvO (l : List SemT) (en : Env) (st : Sto) (b : Bool) (st' : Sto) : Prop := ∀ (R : Bool → Sto → Prop) (E : QX), R b st' → twpOr l en st R E
def EvN (l : List SemT) (en : Env) (st : Sto) (b : Bool) (st' : Sto) : Prop := ∀ (R : Bool → Sto → Prop) (E : QX), R b st' → twpAnd l en st R E
theorem evt_or {l : List SemT} {r : Bool} {h0 : l ≠ []} (h : EvO l en st r st1) : EvT (tOr' l h0) en st r st1 := h
theorem evo_1 {t : SemT} {r : Bool} (h : EvT t en st r st1) : EvO [t] en st r st1 := h
theorem evo_F {t u : SemT} {l : List SemT} {r : Bool} (h : EvT t en st false st1) (h2 : EvO (u :: l) en st1 r st2) : EvO (t :: u :: l) en st r st2 := fun R E q => h _ _ (h2 _ _ q)
theorem evo_T {t u : SemT} {l : List SemT} (h : EvT t en st true st1) : EvO (t :: u :: l) en st true st1 := fun R E q => h _ _ q
theorem evt_and {l : List SemT} {r : Bool} {h0 : l ≠ []} (h : EvN l en st r st1) : EvT (tAn l h0) en st r st1 := h
theorem evn_1 {t : SemT} {r : Bool} (h : EvT t en st r st1) : EvN [t] en st r st1 := h
theorem evn_T {t u : SemT} {l : List SemT} {r : Bool} (h : EvT t en st true st1) (h2 : EvN (u :: l) en st1 r st2) : EvN (t :: u :: l) en st r st2 := fun R E q => h _ _ (h2 _ _ q)
theorem evn_F {t u : SemT} {l : List SemT} (h : EvT t en st false st1) : EvN (t :: u :: l) en st false st1 := fun R E q => h _ _ q
theorem evt_cm {op : CmpOp} {o : OpD (compareOp op)} {r : Bool} (ha : Ev a en st x st1) (hb : Ev b en st1 y st2) (ho : ∀ Q : QD, Q (.bl r) st2 → o.wp x y st2 Q) : EvT (tCm op o a b) en st r st2 := fun R E q => ha _ _ (hb _ _ (ho _ q))
/-- calls -/
theorem ev_call {name : Str} {S : SpecD} {df : List D} {l : List SemE} {ds : List D} (h : EvA l en st ds st1) (hl : ds.length + df.length = S.ar) (hr : ∀ (Q : QD) (E : QX), Q d st2 → S.run (ds ++ df) st1 Q E) : Ev (eCall name S df l) en st d st2 := fun F E q => h _ _ ⟨hl, hr _ _ q⟩
theorem ev_not {r : Bool} (h : Ev a en st (.bl r) st1) : Ev (eNot a) en st (.bl (!r)) st1 := fun F E q => h _ _ q
/-- all of these are true -/
def EvAll (l : List SemE) (en : Env) (st : Sto) : Prop := ∀ (F : QD) (E : QX), F (.bl true) st → wpAndL l en st F E
theorem eall_1 (h : Ev a en st (.bl true) st) : EvAll [a] en st := h
theorem eall_2 {l : List SemE} (h : Ev a en st (.bl true) st) (h2 : EvAll (b :: l) en st) : EvAll (a :: b :: l) en st := fun F E q => h _ _ (h2 _ _ q)
theorem ev_all {l : List SemE} {h0 : l ≠ []} (h : EvAll l en st) : Ev (eAnd l h0) en st (.bl true) st := h
/-- one and the same value -/
theorem ne_same (x : D) (st : Sto) (h : canD x = true) (hd : dpD x ≤ 60) (Q : QD) (q : Q (.bl false) st) : opNe.wp x x st Q := by
  have s1 := shp_of h (by omega)
  have s2 := eqD_self x h
  rw [w_ne]
  cases x <;> simp_all [canD]
theorem eq_same (x : D) (st : Sto) (h : canD x = true) (hd : dpD x ≤ 60) (Q : QD) (q : Q (.bl true) st) : opEq.wp x x st Q := by
  have s1 := shp_of h (by omega)
  have s2 := eqD_self x h
  rw [w_eq]
  cases x <;> simp_all [canD]
end
end Mi
namespace Mi
open PySem PySem.Spec PyProof.Rows L2

/-! ### what is computed -/
/-- the first place from p on with a letter that is great enough -/
def adv (os : List Int) (l : Int) (p : Nat) : Nat := p + ((os.drop p).takeWhile fun x => decide (x < l)).length
def placeAt (os : List Int) : List Int → Nat → Option (List Nat)
  | [], _ => some []
  | l :: ws, p => if adv os l p = os.length then none else (placeAt os ws (adv os l p + 1)).map fun r => adv os l p :: r
def placeD (os ws : List Int) : D := match placeAt os ws 0 with | none => .non | some ps => .tup (Ns ps)
/-- the draws' own list: the script, how many were taken, what is left of the last one -/
def PenAt (st : Sto) (n : Nat) : Prop := ∃ (g : List Int) (k r : Int), st[n]? = some (.lst [.lst (Is g), .int k, .int r]) ∧ 0 ≤ k ∧ 0 ≤ r
def PenTo (st : Sto) (n : Nat) (st' : Sto) : Prop := ∃ (o : O), st' = st.set n o ∧ PenAt st' n
/-- the least place that may come next -/
def leastP (r : List Nat) : Nat := match r.getLast? with | some a => a + 1 | none => 0
def extP (os : List Int) (l : Int) (r : List Nat) : List (List Nat) := ((List.range (os.length - leastP r)).filterMap fun i => if l ≤ os.getD (leastP r + i) 0 then some (r ++ [leastP r + i]) else none)
def rowsAt (os : List Int) (ws : List Int) : List (List Nat) := ws.foldl (fun rows l => rows.flatMap (extP os l)) [[]]
def small (ns : List Int) : Prop := ∀ x ∈ ns, x.natAbs < 10 ^ 12
namespace S
def place_in : SpecD := mkS 2 (List Int × List Int) (fun a => [.tup (Is a.1), .tup (Is a.2)]) (fun a _ => a.1.length ≤ 1000) (fun a st d st' => d = placeD a.2 a.1 ∧ st' = st)
def is_within : SpecD := mkS 2 (List Int × List Int) (fun a => [.tup (Is a.1), .tup (Is a.2)]) (fun a _ => a.1.length ≤ 1000) (fun a st d st' => d = .bl (placeAt a.2 a.1 0).isSome ∧ st' = st)
def are_within : SpecD := mkS 2 (List (List Int × List Int)) (fun a => [.tup (a.map fun p => .tup (Is p.1)), .tup (a.map fun p => .tup (Is p.2))]) (fun a _ => a.length ≤ 1000 ∧ ∀ p ∈ a, p.1.length ≤ 1000) (fun a st d st' => d = .bl (a.all fun p => (placeAt p.2 p.1 0).isSome) ∧ st' = st)
def _law_pen : SpecD := mkS 1 (List Int) (fun a => [.rol (Is a)]) (fun a st => True) (fun a st d st' => d = .ref st.length ∧ ∃ o, st' = st ++ [o] ∧ PenAt st' st.length)
def _law_fresh : SpecD := mkS 1 Nat (fun a => [.ref a]) (fun a st => PenAt st a) (fun a st d st' => PenTo st a st' ∧ ∃ i : Int, d = .int i ∧ 0 ≤ i)
def _law_draw : SpecD := mkS 2 (Nat × Int) (fun a => [.ref a.1, .int a.2]) (fun a st => PenAt st a.1 ∧ 0 < a.2 ∧ a.2 < 1000) (fun a st d st' => PenTo st a.1 st' ∧ ∃ i : Int, d = .int i ∧ 0 ≤ i ∧ i < a.2)
def _law_drawn_word : SpecD := mkS 3 (Nat × Int × Int) (fun a => [.ref a.1, .int a.2.1, .int a.2.2]) (fun a st => PenAt st a.1 ∧ 0 < a.2.1 ∧ a.2.1 < 1000 ∧ 0 ≤ a.2.2 ∧ a.2.2 < 900) (fun a st d st' => PenTo st a.1 st' ∧ ∃ w : List Int, d = .tup (Is w) ∧ (w.length : Int) ≤ a.2.2 ∧ ∀ x ∈ w, 0 ≤ x ∧ x < a.2.1)
def _law_places : SpecD := mkS 2 (List Int × List Int) (fun a => [.tup (Is a.1), .tup (Is a.2)]) (fun a _ => a.1.length ≤ 4 ∧ a.2.length ≤ 12) (fun a st d st' => d = .lst ((rowsAt a.2 a.1).map fun r => .tup (Ns r)) ∧ st' = st)
def _law_right : SpecD := mkS 2 (List Int × List Int) (fun a => [.tup (Is a.1), .tup (Is a.2)]) (fun a _ => a.1.length ≤ 4 ∧ a.2.length ≤ 12 ∧ small a.1 ∧ small a.2) (fun a st d st' => d = .bl true ∧ st' = st)
def law : SpecD := mkS 1 (List Int) (fun a => [.rol (Is a)]) (fun a st => True) (fun a st d st' => d = .bl true)
end S
/-- place_in -/
def N.place_in : List Str := ["word", "other", "found", "place", "letter"]
def B.place_in : List SemS := [
  sPar2 2 3 (eList true []) (eInt 0),
  sFor (.nm 4) (iSeq (eVar 0)) [
      sWhile (tAn [(tCm .Lt opLtI (eVar 3) (eB bLen [(eVar 1)])), (tCm .Lt opLtI (eIx (eVar 1) (eVar 3)) (eVar 4))]) [
        sSet 3 (eBin .Add (opAdd false) (eVar 3) (eInt 1))],
      sIf (tCm .Eq opEq (eVar 3) (eB bLen [(eVar 1)])) [
        sRet eNone] [],
      sExp (eMeth1 mAppend (eVar 2) (eVar 3)),
      sSet 3 (eBin .Add (opAdd false) (eVar 3) (eInt 1))],
  sRet (eB bTuple [(eVar 2)])]

/-- is_within -/
def N.is_within : List Str := ["word", "other"]
def B.is_within : List SemS := [
  sRet (eCmp .IsNot opIsNot (eCall "place_in" S.place_in [] [(eVar 0), (eVar 1)]) eNone)]

/-- are_within -/
def N.are_within : List Str := ["words", "others", "word", "other"]
def B.are_within : List SemS := [
  sRet (eB bAll [(eComp false (.tup [(.nm 2), (.nm 3)]) [("word", 2), ("other", 3)] (iZip true (eVar 0) (eVar 1)) none (eCall "is_within" S.is_within [] [(eVar 2), (eVar 3)]))])]

/-- _law_pen -/
def N._law_pen : List Str := ["script"]
def B._law_pen : List SemS := [
  sRet (eList true [(eB (bList false) [(eSl false (eVar 0) none (some (eInt 63)))]), (eInt 0), (eInt 0)])]

/-- _law_fresh -/
def N._law_fresh : List Str := ["pen", "seat", "given", "cell", "prime", "state", "found", "lap"]
def B._law_fresh : List SemS := [
  sPar2 1 2 (eIx (eVar 0) (eInt 1)) (eIx (eVar 0) (eInt 0)),
  sSetIx (eVar 0) (eInt 1) (eBin .Add (opAdd false) (eVar 1) (eInt 1)),
  sSet 3 (eIf (tCm .NotEq opNe (eVar 2) (eList false [])) (eIx (eVar 2) (eBin .Mod opMod (eB bInt [(eVar 1)]) (eB bLen [(eVar 2)]))) (eInt 0)),
  sIf (tAn [(tCm .Lt opLtI (eVar 1) (eB bLen [(eVar 2)])), (tCm .GtE opGe (eVar 3) (eBin .Pow opPow (eInt 10) (eInt 18)))]) [
      sRet (eBin .Sub opSub (eVar 3) (eBin .Pow opPow (eInt 10) (eInt 18)))] [],
  sSet 4 (eInt 2305843009213693951),
  sSet 5 (eBin .Mod opMod (eB bInt [(eBin .Add (opAdd false) (eBin .Add (opAdd false) (eBin .Mult (opMul false) (eVar 3) (eInt 48271)) (eBin .Mult (opMul false) (eInt 60013) (eVar 1))) (eInt 31))]) (eVar 4)),
  sSet 6 (eVar 5),
  sFor (.nm 7) (iRange1 (eInt 6)) [
      sSet 5 (eBin .Mod opMod (eB bInt [(eBin .Add (opAdd false) (eBin .Add (opAdd false) (eBin .Mult (opMul false) (eVar 5) (eVar 5)) (eBin .Mult (opMul false) (eBin .Mult (opMul false) (eInt 70139) (eBin .Add (opAdd false) (eVar 7) (eInt 5))) (eBin .Add (opAdd false) (eVar 1) (eInt 1)))) (eVar 3))]) (eVar 4)),
      sSet 6 (eBin .Add (opAdd false) (eBin .Mult (opMul false) (eVar 6) (eVar 4)) (eVar 5))],
  sRet (eVar 6)]

/-- _law_draw -/
def N._law_draw : List Str := ["pen", "bound", "digit"]
def B._law_draw : List SemS := [
  sIf (tCm .Lt opLtI (eIx (eVar 0) (eInt 2)) (eVar 1)) [
      sSetIx (eVar 0) (eInt 2) (eCall "_law_fresh" S._law_fresh [] [(eVar 0)])] [],
  sSet 2 (eBin .Mod opMod (eB bInt [(eIx (eVar 0) (eInt 2))]) (eVar 1)),
  sSetIx (eVar 0) (eInt 2) (eBin .FloorDiv opFDiv (eB bInt [(eIx (eVar 0) (eInt 2))]) (eVar 1)),
  sRet (eVar 2)]

/-- _law_drawn_word -/
def N._law_drawn_word : List Str := ["pen", "letters", "most", "lap"]
def B._law_drawn_word : List SemS := [
  sRet (eB bTuple [(eComp false (.nm 3) [("lap", 3)] (iRange1 (eCall "_law_draw" S._law_draw [] [(eVar 0), (eBin .Add (opAdd false) (eVar 2) (eInt 1))])) none (eCall "_law_draw" S._law_draw [] [(eVar 0), (eVar 1)]))])]

/-- _law_places -/
def N._law_places : List Str := ["word", "other", "rows", "letter", "longer", "row", "least", "at"]
def B._law_places : List SemS := [
  sSet 2 (eList false [(eTup [])]),
  sFor (.nm 3) (iSeq (eVar 0)) [
      sSet 4 (eList true []),
      sFor (.nm 5) (iSeq (eVar 2)) [
        sSet 6 (eIf (tCm .NotEq opNe (eVar 5) (eTup [])) (eBin .Add (opAdd false) (eIx (eVar 5) (eNeg (eInt 1))) (eInt 1)) (eInt 0)),
        sExp (eMeth1 mExtend (eVar 4) (eComp false (.nm 7) [("at", 7)] (iRange2 (eVar 6) (eB bLen [(eVar 1)])) (some (tCm .GtE opGe (eIx (eVar 1) (eVar 7)) (eVar 3))) (eBin .Add (opAdd false) (eVar 5) (eTup [(eVar 7)]))))],
      sSet 2 (eVar 4)],
  sRet (eVar 2)]

/-- _law_right -/
def N._law_right : List Str := ["word", "other", "rows", "kept"]
def B._law_right : List SemS := [
  sPar2 2 3 (eCall "_law_places" S._law_places [] [(eVar 0), (eVar 1)]) (eB bRepr [(eTup [(eVar 0), (eVar 1)])]),
  sIf (tOr' [(tCm .NotEq opNe (eB bRepr [(eCall "is_within" S.is_within [] [(eVar 0), (eVar 1)])]) (eB bRepr [(eCmp .NotEq opNe (eVar 2) (eList false []))])), (tCm .NotEq opNe (eB bRepr [(eTup [(eVar 0), (eVar 1)])]) (eVar 3))]) [
      sRet (eBl false)] [],
  sRet (eCmp .Eq opEq (eB bRepr [(eCall "place_in" S.place_in [] [(eVar 0), (eVar 1)])]) (eB bRepr [(eIf (tCm .NotEq opNe (eVar 2) (eList false [])) (eIx (eVar 2) (eInt 0)) eNone)]))]

/-- law -/
def N.law : List Str := ["script", "pen", "lap", "other", "some", "letter", "words", "word", "one", "two", "due", "more", "far", "at", "place"]
def B.law : List SemS := [
  sSet 1 (eCall "_law_pen" S._law_pen [] [(eVar 0)]),
  sFor (.nm 2) (iRange1 (eInt 8)) [
      sSet 3 (eCall "_law_drawn_word" S._law_drawn_word [] [(eVar 1), (eBin .Add (opAdd false) (eInt 1) (eCall "_law_draw" S._law_draw [] [(eVar 1), (eInt 3)])), (eInt 12)]),
      sSet 4 (eB bTuple [(eComp false (.nm 5) [("letter", 5)] (iSeq (eVar 3)) (some (tCm .Eq opEq (eCall "_law_draw" S._law_draw [] [(eVar 1), (eInt 2)]) (eInt 0))) (eVar 5))]),
      sSet 6 (eList false [(eSl false (eVar 4) none (some (eInt 4))), (eCall "_law_drawn_word" S._law_drawn_word [] [(eVar 1), (eInt 3), (eInt 4)]), (eTup []), (eSl false (eVar 4) (some (eNeg (eInt 3))) none), (eBin .Mult (opMul false) (eSl false (eVar 3) (some (eNeg (eInt 1))) none) (eInt 2)), (eBin .Mult (opMul false) (eSl false (eVar 3) none (some (eInt 1))) (eInt 2))]),
      sIf (tCm .NotEq opNe (eComp false (.nm 7) [("word", 7)] (iSeq (eVar 6)) (some (tNo (tV (eCall "_law_right" S._law_right [] [(eVar 7), (eVar 3)])))) (eInt 1)) (eList false [])) [
        sRet (eBl false)] [],
      sPar2 8 9 (eB bTuple [(eSl false (eVar 6) none (some (eInt 3)))]) (eTup [(eVar 3), (eCall "_law_drawn_word" S._law_drawn_word [] [(eVar 1), (eInt 3), (eInt 8)]), (eVar 3)]),
      sSet 10 (eCmp .Eq opEq (eComp false (.tup [(.nm 7), (.nm 11)]) [("word", 7), ("more", 11)] (iZip false (eVar 8) (eVar 9)) (some (tCm .Eq opEq (eCall "_law_places" S._law_places [] [(eVar 7), (eVar 11)]) (eList false []))) (eInt 1)) (eList false [])),
      sIf (tOr' [(tCm .NotEq opNe (eB bRepr [(eCall "are_within" S.are_within [] [(eVar 8), (eVar 9)])]) (eB bRepr [(eVar 10)])), (tNo (tV (eCall "_law_right" S._law_right [] [(eSl false (eVar 3) none (some (eInt 3))), (eRev false (eVar 3))])))]) [
        sRet (eBl false)] []],
  sPar2 12 13 (eBin .Add (opAdd false) (eBin .Mult (opMul false) (eTup [(eInt 0), (eInt 1)]) (eInt 99)) (eTup [(eInt 2)])) (eCall "_law_draw" S._law_draw [] [(eVar 1), (eInt 99)]),
  sIf (tOr' [(tNo (tV (eCall "is_within" S.is_within [] [(eBin .Add (opAdd false) (eBin .Mult (opMul false) (eTup [(eInt 0)]) (eVar 13)) (eTup [(eInt 2)])), (eVar 12)]))), (tV (eCall "is_within" S.is_within [] [(eTup [(eInt 2), (eInt 0)]), (eVar 12)])), (tV (eCall "is_within" S.is_within [] [(eBin .Mult (opMul false) (eTup [(eInt 1)]) (eInt 101)), (eVar 12)]))]) [
      sRet (eBl false)] [],
  sIf (tOr' [(tCm .NotEq opNe (eCall "place_in" S.place_in [] [(eBin .Mult (opMul false) (eTup [(eInt 1)]) (eVar 13)), (eVar 12)]) (eB bTuple [(eComp false (.nm 14) [("place", 14)] (iRange1 (eVar 13)) none (eBin .Add (opAdd false) (eBin .Mult (opMul false) (eInt 2) (eVar 14)) (eInt 1)))])), (tCm .NotEq opNe (eCall "place_in" S.place_in [] [(eTup []), (eVar 12)]) (eTup []))]) [
      sRet (eBl false)] [],
  sIf (tOr' [(tV (eCall "is_within" S.is_within [] [(eBin .Mult (opMul false) (eTup [(eInt 2)]) (eInt 4)), (eBin .Mult (opMul false) (eVar 12) (eInt 3))])), (tCm .NotEq opNe (eCall "place_in" S.place_in [] [(eBin .Mult (opMul false) (eTup [(eInt 2)]) (eInt 3)), (eBin .Mult (opMul false) (eVar 12) (eInt 3))]) (eTup [(eInt 198), (eInt 397), (eInt 596)]))]) [
      sRet (eBl false)] [],
  sRet (eAnd [(eCall "is_within" S.is_within [] [(eVar 12), (eVar 12)]), (eCall "is_within" S.is_within [] [(eTup [(eInt 0)]), (eTup [(eInt 1)])]), (eNot (eCall "is_within" S.is_within [] [(eTup [(eInt 1)]), (eTup [(eInt 0)])])), (eCall "is_within" S.is_within [] [(eBin .Mult (opMul false) (eVar 12) (eInt 3)), (eBin .Mult (opMul false) (eVar 12) (eInt 3))])])]

-- places: {"place_in": 1, "is_within": 2, "are_within": 3, "_law_pen": 5, "_law_fresh": 6, "_law_draw": 7, "_law_drawn_word": 8, "_law_places": 9, "_law_right": 10, "law": 11}
def top (i : Nat) : Stmt := PySem.Challenge.pw_losinglanes_k01_words_within_others.main.body.getD i (.Pass ⟨0, 0, 0, 0⟩)
def okB (i : Nat) (N ps : List Str) (l : List SemS) : Bool := scopeB N ps (defScope (top i)) && chkB l N (defScope (top i)) (defBody (top i))
theorem c1 : okB 1 N.place_in ["word", "other"] B.place_in = true := by decide +kernel
theorem c2 : okB 2 N.is_within ["word", "other"] B.is_within = true := by decide +kernel
theorem c3 : okB 3 N.are_within ["words", "others"] B.are_within = true := by decide +kernel
theorem c5 : okB 5 N._law_pen ["script"] B._law_pen = true := by decide +kernel
theorem c6 : okB 6 N._law_fresh ["pen"] B._law_fresh = true := by decide +kernel
theorem c7 : okB 7 N._law_draw ["pen", "bound"] B._law_draw = true := by decide +kernel
theorem c8 : okB 8 N._law_drawn_word ["pen", "letters", "most"] B._law_drawn_word = true := by decide +kernel
theorem c9 : okB 9 N._law_places ["word", "other"] B._law_places = true := by decide +kernel
theorem c10 : okB 10 N._law_right ["word", "other"] B._law_right = true := by decide +kernel
theorem c11 : okB 11 N.law ["script"] B.law = true := by decide +kernel
end Mi
namespace Mi
open PySem PySem.Spec PyProof.Rows L2

theorem ok_nats (ns : List Nat) : okDs (Ns ns) = true := okDs_all fun d hd => by
  obtain ⟨n, _, rfl⟩ := List.mem_map.mp hd
  rw [okD]
theorem adv_ge (os : List Int) (l : Int) (p : Nat) : p ≤ adv os l p := Nat.le_add_right _ _
theorem adv_le (os : List Int) (l : Int) (p : Nat) (h : p ≤ os.length) : adv os l p ≤ os.length := by
  unfold adv
  have := (List.takeWhile_sublist (fun x => decide (x < l)) (l := os.drop p)).length_le
  rw [List.length_drop] at this
  omega
theorem adv_stop (os : List Int) (l : Int) (p : Nat) (x : Int) (hx : os[p]? = some x) (h : ¬ x < l) : adv os l p = p := by
  unfold adv
  have hl := (List.getElem?_eq_some_iff.mp hx).1
  rw [List.drop_eq_getElem_cons hl, List.takeWhile_cons]
  have : os[p] = x := by rw [List.getElem?_eq_getElem hl] at hx; exact Option.some.inj hx
  rw [this, decide_eq_false h]
  simp
theorem adv_go (os : List Int) (l : Int) (p : Nat) (x : Int) (hx : os[p]? = some x) (h : x < l) : adv os l p = adv os l (p + 1) := by
  unfold adv
  have hl := (List.getElem?_eq_some_iff.mp hx).1
  rw [List.drop_eq_getElem_cons hl, List.takeWhile_cons]
  have : os[p] = x := by rw [List.getElem?_eq_getElem hl] at hx; exact Option.some.inj hx
  rw [this, decide_eq_true h]
  simp only [if_true, List.length_cons]
  omega
theorem adv_end (os : List Int) (l : Int) : adv os l os.length = os.length := by
  unfold adv
  rw [List.drop_length]
  simp
theorem p_is_within (ds : List D) (st : Sto) (Q : QD) (E : QX) (hl : ds.length = S.is_within.ar) (h : S.is_within.run ds st Q E) : bodyD B.is_within N.is_within.length ds st Q E := by
  obtain ⟨⟨ws, os⟩, rfl, hp, hq⟩ := h
  simp [bodyD, B.is_within, N.is_within]
  refine ⟨rfl, (ws, os), rfl, hp, fun d st' hd => ?_⟩
  obtain ⟨rfl, rfl⟩ := hd
  refine .inl (hq _ _ ⟨?_, rfl⟩)
  simp [placeD]
  cases placeAt os ws 0 <;> rfl
theorem place_step (ws os : List Int) (p : Nat) (l : Int) (i : Nat) (h : ws[i]? = some l) : placeAt os (ws.drop i) p = if adv os l p = os.length then none else (placeAt os (ws.drop (i + 1)) (adv os l p + 1)).map fun r => adv os l p :: r := by
  have hl := (List.getElem?_eq_some_iff.mp h).1
  rw [List.drop_eq_getElem_cons hl, placeAt]
  have : ws[i] = l := by rw [List.getElem?_eq_getElem hl] at h; exact Option.some.inj h
  rw [this]
theorem p_place_in (ds : List D) (st : Sto) (Q : QD) (E : QX) (hl : ds.length = S.place_in.ar) (h : S.place_in.run ds st Q E) : bodyD B.place_in N.place_in.length ds st Q E := by
  obtain ⟨⟨ws, os⟩, rfl, hp, hq⟩ := h
  simp [bodyD, B.place_in, N.place_in, w_sFor]
  refine forD_inv (Is ws) (fun i en s => ∃ (acc : List Nat) (p : Nat) (x : Option D), s = st ++ [.lst (Ns acc)] ∧ en = [some (.tup (Is ws)), some (.tup (Is os)), some (.ref st.length), some (.int p), x] ∧ acc.length = i ∧ p ≤ os.length ∧
    placeAt os ws 0 = (placeAt os (ws.drop i) p).map fun r => acc ++ r) ?_ ?_ ?_ ?_ (wpB_mono _)
  · refine ⟨[], 0, none, rfl, rfl, rfl, Nat.zero_le _, ?_⟩
    rw [List.drop_zero]
    cases placeAt os ws 0 <;> rfl
  · intro i en s _
    trivial
  · rintro i d en s hd ⟨acc, p, x, rfl, rfl, hi, hpl, hpa⟩
    rw [List.getElem?_map] at hd
    cases e : ws[i]? with
    | none => rw [e] at hd; cases hd
    | some l =>
      rw [e] at hd
      cases hd
      refine ⟨_, by simp; rfl, ?_⟩
      simp [w_sWhile]
      refine ⟨fun m en' s' => ∃ p' : Nat, s' = st ++ [.lst (Ns acc)] ∧ en' = [some (.tup (Is ws)), some (.tup (Is os)), some (.ref st.length), some (.int p'), some (.int l)] ∧ m = os.length - p' ∧ p' ≤ os.length ∧ adv os l p = adv os l p', ⟨_, p, rfl, rfl, rfl, hpl, rfl⟩, ?_⟩
      rintro m en' s' ⟨p', rfl, rfl, rfl, hp', ha⟩
      simp [atI_nat]
      by_cases hlt : p' < os.length
      · have ex : os[p']? = some os[p'] := List.getElem?_eq_getElem hlt
        by_cases hxl : os[p'] < l
        · simp [hlt, hxl]
          exact ⟨os.length - (p' + 1), by omega, p' + 1, by omega, rfl, by omega, by rw [ha, adv_go os l p' _ ex hxl]⟩
        · have ea : adv os l p = p' := by rw [ha, adv_stop os l p' _ ex hxl]
          have ne : ¬ ((p' : Int) = (os.length : Int)) := by omega
          have hacc : acc.length < sizeLine := by
            have h1 : ws.length ≤ 1000 := hp
            have h2 := (List.getElem?_eq_some_iff.mp e).1
            rw [sizeLine_eq]; omega
          simp [hlt, hxl, ne, hacc]
          refine ⟨acc ++ [p'], by simp, p' + 1, by omega, by simp [hi], by omega, ?_⟩
          rw [hpa, place_step ws os p l i e, ea, if_neg (by omega)]
          cases placeAt os (ws.drop (i + 1)) (p' + 1) <;> simp
      · have ep : p' = os.length := by omega
        have ea : adv os l p = os.length := by rw [ha, ep, adv_end]
        simp [ep]
        refine ret_val0 rfl (hq _ _ ⟨?_, rfl⟩)
        show D.non = placeD os ws
        unfold placeD
        rw [hpa, place_step ws os p l i e, if_pos ea]
        rfl
  · rintro en s ⟨acc, p, x, rfl, rfl, hi, hpl, hpa⟩
    have hi' : ws.drop acc.length = [] := by
      rw [hi]; simp
    simp
    refine ret_val0 (nr_of_can _ _ (by rw [canD]; exact cans_of_ok _ (ok_nats acc))) (hq _ _ ⟨?_, rfl⟩)
    show D.tup (Ns acc) = placeD os ws
    unfold placeD
    rw [hpa]
    simp [placeAt]
end Mi
namespace Mi
open PySem PySem.Spec PyProof.Rows L2

@[simp] theorem at_0 {α : Type} (a : α) (l : List α) : atI (a :: l) 0 = some a := by
  show atI _ ((0 : Nat) : Int) = _
  rw [atI_nat]; rfl
@[simp] theorem at_1 {α : Type} (a b : α) (l : List α) : atI (a :: b :: l) 1 = some b := by
  show atI _ ((1 : Nat) : Int) = _
  rw [atI_nat]; rfl
@[simp] theorem at_2 {α : Type} (a b c : α) (l : List α) : atI (a :: b :: c :: l) 2 = some c := by
  show atI _ ((2 : Nat) : Int) = _
  rw [atI_nat]; rfl
@[simp] theorem ix_31 : ixN 3 1 = some 1 := rfl
@[simp] theorem ix_32 : ixN 3 2 = some 2 := rfl
theorem at_mod {α : Type} (l : List α) (k : Int) (h : l ≠ []) (hk : 0 ≤ k) : ∃ a, atI l (k % (l.length : Int)) = some a ∧ a ∈ l := by
  have hp : 0 < (l.length : Int) := by
    have := List.length_pos_iff.mpr h
    omega
  have h1 := Int.emod_nonneg k (show (l.length : Int) ≠ 0 by omega)
  have h2 := Int.emod_lt_of_pos k hp
  obtain ⟨m, hm⟩ := Int.eq_ofNat_of_zero_le h1
  have hm2 : m < l.length := by omega
  refine ⟨l[m], ?_, List.getElem_mem hm2⟩
  rw [hm]
  show atI l (m : Int) = _
  rw [atI_nat, List.getElem?_eq_getElem hm2]
theorem PenTo.refl {st : Sto} {n : Nat} (h : PenAt st n) : PenTo st n st := by
  obtain ⟨g, k, r, hn, hk, hr⟩ := h
  refine ⟨.lst [.lst (Is g), .int k, .int r], ?_, g, k, r, hn, hk, hr⟩
  obtain ⟨hl, e⟩ := List.getElem?_eq_some_iff.mp hn
  rw [← e]
  exact (List.set_getElem_self hl).symm
theorem PenTo.trans {a b c : Sto} {n : Nat} (h : PenTo a n b) (g : PenTo b n c) : PenTo a n c := by
  obtain ⟨o, rfl, _⟩ := h
  obtain ⟨o', rfl, p⟩ := g
  exact ⟨o', by rw [List.set_set], by rw [List.set_set] at p ⊢; exact p⟩
theorem PenTo.pen {a b : Sto} {n : Nat} (h : PenTo a n b) : PenAt b n := by
  obtain ⟨o, rfl, p⟩ := h
  exact p
theorem PenTo.put {a b : Sto} {n : Nat} (h : PenTo a n b) (g : List Int) (k r : Int) (hk : 0 ≤ k) (hr : 0 ≤ r) : PenTo a n (b.set n (.lst [.lst (Is g), .int k, .int r])) := by
  obtain ⟨o, rfl, g0, k0, r0, hn, _⟩ := h
  have hl := (List.getElem?_eq_some_iff.mp hn).1
  refine ⟨_, by rw [List.set_set], g, k, r, ?_, hk, hr⟩
  rw [List.getElem?_set_self hl]
theorem p_pen (ds : List D) (st : Sto) (Q : QD) (E : QX) (hl : ds.length = S._law_pen.ar) (h : S._law_pen.run ds st Q E) : bodyD B._law_pen N._law_pen.length ds st Q E := by
  obtain ⟨ns, rfl, hp, hq⟩ := h
  simp [bodyD, B._law_pen, N._law_pen]
  refine ⟨by decide +kernel, .inl (hq _ _ ⟨rfl, _, rfl, ?_⟩)⟩
  refine ⟨(ns.drop (HT.sIx ns.length 0 none)).take (HT.sIx ns.length ns.length (some 63) - HT.sIx ns.length 0 none), 0, 0, ?_, Int.le_refl _, Int.le_refl _⟩
  simp [cutD]
theorem p_draw (ds : List D) (st : Sto) (Q : QD) (E : QX) (hl : ds.length = S._law_draw.ar) (h : S._law_draw.run ds st Q E) : bodyD B._law_draw N._law_draw.length ds st Q E := by
  obtain ⟨⟨n, b⟩, rfl, ⟨hpen, hb, hb2⟩, hq⟩ := h
  obtain ⟨g, k, r, hn, hk, hr⟩ := id hpen
  have hn : st[n]? = some (.lst [.lst (Is g), .int k, .int r]) := hn
  have hb : 0 < b := hb
  have hb2 : b < 1000 := hb2
  show wpB _ _ [some (.ref n), some (.int b), none] st
  rw [B._law_draw, w_b2, w_sIf]
  simp [hn]
  by_cases hlt : r < b
  · simp [hlt]
    refine ⟨rfl, n, rfl, hpen, fun d st1 hd => ?_⟩
    obtain ⟨hto, i, rfl, hi⟩ := hd
    obtain ⟨g1, k1, r1, hn1, hk1, hr1⟩ := hto.pen
    have hl1 := (List.getElem?_eq_some_iff.mp hn1).1
    have hto2 := (hto.put g1 k1 i hk1 hi).put g1 k1 (i / b) hk1 (Int.ediv_nonneg hi (Int.le_of_lt hb))
    rw [List.set_set] at hto2
    have hs : (st1.set n (.lst [.lst (Is g1), .int k1, .int i]))[n]? = some (.lst [.lst (Is g1), .int k1, .int i]) := List.getElem?_set_self hl1
    simp [hn1, hs]
    exact ⟨hb, ⟨hb, by omega⟩, .inl (hq _ _ ⟨hto2, _, rfl, Int.emod_nonneg i (by omega), Int.emod_lt_of_pos i hb⟩)⟩
  · simp [hlt, hn]
    exact ⟨hb, ⟨hb, by omega⟩, .inl (hq _ _ ⟨(PenTo.refl hpen).put g k (r / b) hk (Int.ediv_nonneg hr (Int.le_of_lt hb)), _, rfl, Int.emod_nonneg r (by omega), Int.emod_lt_of_pos r hb⟩)⟩
end Mi
namespace Mi
open PySem PySem.Spec PyProof.Rows L2

@[simp] theorem shp_intl (ns : List Int) : shp (.lst (Is ns)) = true := shp_of (by rw [canD]; exact cans_of_ok _ (ok_ints ns)) (by rw [dpD, dp_ints]; omega)
@[simp] theorem isE_il (ns : List Int) : eqD (.lst (Is ns)) (.lst []) = ns.isEmpty := by
  rw [isE_eq (ok_ints ns)]; cases ns <;> rfl
@[simp] theorem isE_it (ns : List Int) : eqD (.tup (Is ns)) (.tup []) = ns.isEmpty := by
  rw [isE_tup (ok_ints ns)]; cases ns <;> rfl
theorem cpow18 : CPow 10 18 := ⟨by decide, by decide, by decide⟩
theorem fresh_loop {st0 st : Sto} {n : Nat} {k c : Int} {x2 x4 x5 x6 x7 : Option D} {Q : QD} {N : EndsD} (hk : 0 ≤ k) (hN : N.rt = fun d st' => retD st0 d st' Q) (hq : ∀ i : Int, 0 ≤ i → Q (.int i) st) :
    wpB (B._law_fresh.drop 4) N [some (.ref n), some (.int k), x2, some (.int c), x4, x5, x6, x7] st := by
  simp [B._law_fresh, w_sFor]
  refine ⟨.inr (by decide), .inl (by decide), (by decide : (0 : Int) < 2305843009213693951), ⟨by decide, by decide⟩, ?_⟩
  refine forD_inv _ (fun i en s => ∃ (a b : Int) (x : Option D), s = st ∧ en = [some (.ref n), some (.int k), x2, some (.int c), some (.int 2305843009213693951), some (.int a), some (.int b), x] ∧ 0 ≤ a ∧ a < 2305843009213693951 ∧ 0 ≤ b) ?_ (fun _ _ _ _ => trivial) ?_ ?_ (wpB_mono _)
  · exact ⟨_, _, _, rfl, rfl, Int.emod_nonneg _ (by decide), Int.emod_lt_of_pos _ (by decide), Int.emod_nonneg _ (by decide)⟩
  · rintro i d en s hd ⟨a, b, x, rfl, rfl, h1, h2, h3⟩
    unfold rngD at hd
    rw [List.getElem?_map] at hd
    cases e : (List.range 6)[i]? with
    | none => rw [e] at hd; cases hd
    | some j =>
      rw [e] at hd
      cases hd
      have hj : j < 6 := by
        have := List.mem_of_getElem? e
        simpa using this
      refine ⟨_, p_nm, ?_⟩
      simp
      refine ⟨.inl (by omega), .inl (by omega), .inl (by omega), (by decide : (0 : Int) < 2305843009213693951), .inr (by decide), ?_⟩
      have q := Int.emod_nonneg (a * a + 70139 * ((j : Int) + 5) * (k + 1) + c) (show (2305843009213693951 : Int) ≠ 0 by decide)
      have q1 := Int.emod_lt_of_pos (a * a + 70139 * ((j : Int) + 5) * (k + 1) + c) (show (0 : Int) < 2305843009213693951 by decide)
      have q2 : 0 ≤ b * 2305843009213693951 := Int.mul_nonneg h3 (by decide)
      exact ⟨_, _, ⟨rfl, rfl⟩, q, q1, Int.add_nonneg q2 q⟩
  · rintro en s ⟨a, b, x, rfl, rfl, h1, h2, h3⟩
    simp [hN]
    exact .inl (hq b h3)
theorem p_fresh (ds : List D) (st : Sto) (Q : QD) (E : QX) (hl : ds.length = S._law_fresh.ar) (h : S._law_fresh.run ds st Q E) : bodyD B._law_fresh N._law_fresh.length ds st Q E := by
  obtain ⟨n, rfl, hpen, hq⟩ := h
  obtain ⟨g, k, r, hn, hk, hr⟩ := id hpen
  have hl1 := (List.getElem?_eq_some_iff.mp hn).1
  have hto := (PenTo.refl hpen).put g (k + 1) r (by omega) hr
  show wpB _ _ [some (.ref n), none, none, none, none, none, none, none] st
  rw [← List.take_append_drop 4 B._law_fresh, wpB_app _ _ (by simp [B._law_fresh])]
  generalize hT : B._law_fresh.drop 4 = T
  simp [B._law_fresh, hn]
  have fin : ∀ c : Int, wpB T ⟨fun _ st' => retD st .non st' Q, fun d st' => retD st d st' Q, fun _ _ => False, fun _ _ => False, fun x _ st' => retX st x st' E⟩ [some (.ref n), some (.int k), some (.lst (Is g)), some (.int c), none, none, none, none] (st.set n (.lst [.lst (Is g), .int (k + 1), .int r])) := fun c => by
    rw [← hT]
    exact fresh_loop hk rfl (fun i hi => hq _ _ ⟨hto, i, rfl, hi⟩)
  by_cases hg : g = []
  · subst hg
    simp
    have f := fin 0
    by_cases h0 : k < 0
    · omega
    · simp [h0]
      exact f
  · obtain ⟨c, hc, hm⟩ := at_mod (Is g) k (by simpa using hg) hk
    obtain ⟨c', hc', rfl⟩ := List.mem_map.mp hm
    have ne : g.isEmpty = false := by cases g <;> first | rfl | exact absurd rfl hg
    have hp : 0 < g.length := List.length_pos_iff.mpr hg
    simp at hc
    simp [ne, hc]
    refine ⟨by show (0 : Int) < _; omega, ?_⟩
    have f := fin c'
    by_cases h1 : k < (g.length : Int)
    · simp [h1]
      refine ⟨cpow18, ?_⟩
      by_cases h2 : (1000000000000000000 : Int) ≤ c'
      · simp [h2]
        exact ⟨cpow18, trivial, .inl (hq _ _ ⟨hto, _, rfl, by omega⟩)⟩
      · simp [h2]
        exact f
    · simp [h1]
      exact f
end Mi
namespace Mi
open PySem PySem.Spec PyProof.Rows L2

@[simp] theorem Is_nil : Is [] = [] := rfl
theorem rng_get {lo : Int} {n i : Nat} {d : D} (h : (rngD lo n)[i]? = some d) : i < n ∧ d = .int (lo + i) := by
  unfold rngD at h
  rw [List.getElem?_map] at h
  by_cases hi : i < n
  · rw [List.getElem?_range hi] at h
    cases h
    exact ⟨hi, rfl⟩
  · rw [List.getElem?_eq_none (by simpa using hi)] at h
    cases h
theorem rng_len {lo : Int} {n : Nat} : (rngD lo n).length = n := by simp [rngD]
theorem p_drawn (ds : List D) (st : Sto) (Q : QD) (E : QX) (hl : ds.length = S._law_drawn_word.ar) (h : S._law_drawn_word.run ds st Q E) : bodyD B._law_drawn_word N._law_drawn_word.length ds st Q E := by
  obtain ⟨⟨n, l, m⟩, rfl, ⟨hpen, h1, h2, h3, h4⟩, hq⟩ := h
  have h1 : 0 < l := h1
  have h2 : l < 1000 := h2
  have h3 : 0 ≤ m := h3
  have h4 : m < 900 := h4
  show wpB _ _ [some (.ref n), some (.int l), some (.int m), none] st
  rw [B._law_drawn_word]
  simp [w_comp]
  refine ⟨rfl, (n, m + 1), rfl, ⟨hpen, by show 0 < m + 1; omega, by show m + 1 < 1000; omega⟩, fun d st1 hd => ?_⟩
  obtain ⟨hto, i, rfl, hi, hi2⟩ := hd
  have hi2 : i < m + 1 := hi2
  refine ⟨⟨by omega, by omega⟩, ?_⟩
  refine compD_inv (wpC_mono _) (SemE.mono _) _ (fun j acc s => PenTo st n s ∧ ∃ w : List Int, acc = Is w ∧ w.length = j ∧ j ≤ i.toNat ∧ ∀ x ∈ w, 0 ≤ x ∧ x < l) ⟨hto, [], rfl, rfl, Nat.zero_le _, by simp⟩ (fun _ _ _ _ => trivial) ?_ ?_
  · rintro j d acc s hd ⟨ht, w, rfl, hw, hj, hx⟩
    obtain ⟨hj2, rfl⟩ := rng_get hd
    refine ⟨_, p_nm, ?_⟩
    simp
    refine ⟨rfl, (n, l), rfl, ⟨ht.pen, h1, h2⟩, fun d s2 hd => ?_⟩
    obtain ⟨ht2, v, rfl, hv⟩ := hd
    refine ⟨by rw [hw, sizeLine_eq]; omega, ht.trans ht2, w ++ [v], by simp, by simp [hw], by omega, ?_⟩
    intro x hxm
    rcases List.mem_append.mp hxm with z | z
    · exact hx x z
    · have : x = v := by simpa using z
      rw [this]; exact hv
  · rintro acc s ⟨ht, w, rfl, hw, hj, hx⟩
    refine Or.inl (hq _ _ ⟨ht, w, rfl, ?_, hx⟩)
    show (w.length : Int) ≤ m
    rw [rng_len] at hj
    have : w.length ≤ i.toNat := by rw [hw, rng_len]; exact Nat.le_refl _
    omega
end Mi
namespace Mi
open PySem PySem.Spec PyProof.Rows L2

theorem Ns_snoc (r : List Nat) (a : Nat) : Ns (r ++ [a]) = Ns r ++ [.int (a : Int)] := by simp
@[simp] theorem isE_nt (ns : List Nat) : eqD (.tup (Ns ns)) (.tup []) = ns.isEmpty := by
  rw [isE_tup (ok_nats ns)]; cases ns <;> rfl
theorem dp_nats (ns : List Nat) : dpDs (Ns ns) = 0 := Nat.le_zero.mp (dpDs_all fun d hd => by
  obtain ⟨n, _, rfl⟩ := List.mem_map.mp hd
  rw [dpD]; exact Nat.le_refl _)
@[simp] theorem shp_nats (ns : List Nat) : shp (.tup (Ns ns)) = true := shp_of (by rw [canD]; exact cans_of_ok _ (ok_nats ns)) (by rw [dpD, dp_nats]; omega)
theorem at_last {α : Type} (l : List α) (h : l ≠ []) : atI l (-1) = some (l.getLast h) := by
  have hp := List.length_pos_iff.mpr h
  unfold atI ixN
  rw [if_neg (by decide), if_pos (by omega)]
  have : ((-1 : Int) + (l.length : Int)).toNat = l.length - 1 := by omega
  simp only [Option.bind_some, this]
  rw [List.getLast_eq_getElem, List.getElem?_eq_getElem]
theorem q_app {s e : Sto} {d : D} {ds : List D} (h : seqOf s d = some ds) : seqOf (s ++ e) d = some ds := by
  cases d with
  | ref n =>
    simp at h ⊢
    split at h
    · rename_i ds' hs
      have hl := (List.getElem?_eq_some_iff.mp hs).1
      rw [List.getElem?_append_left hl, hs]
      exact h
    · cases h
  | tup _ => exact h
  | lst _ => exact h
  | _ => cases h
def rowsD (rows : List (List Nat)) : List D := rows.map fun r => D.tup (Ns r)
theorem ext_len (os : List Int) (l : Int) (r : List Nat) : (extP os l r).length ≤ os.length := by
  unfold extP
  refine Nat.le_trans (List.length_filterMap_le _ _) ?_
  rw [List.length_range]
  omega
theorem rows_len (os : List Int) (l : Int) (rows : List (List Nat)) : (rows.flatMap (extP os l)).length ≤ rows.length * os.length := by
  induction rows with
  | nil => simp
  | cons r rs ih =>
    rw [List.flatMap_cons, List.length_append, List.length_cons, Nat.succ_mul]
    have := ext_len os l r
    omega
theorem rowsAt_snoc (os ws : List Int) (i : Nat) (l : Int) (h : ws[i]? = some l) : rowsAt os (ws.take (i + 1)) = (rowsAt os (ws.take i)).flatMap (extP os l) := by
  unfold rowsAt
  rw [List.take_add_one, h]
  simp
theorem rowsAt_all (os : List Int) (P : List Nat → Prop) (h0 : P []) (hs : ∀ l r, P r → ∀ x ∈ extP os l r, P x) (ws : List Int) : ∀ r ∈ rowsAt os ws, P r := by
  have gen : ∀ (ws : List Int) (rows : List (List Nat)), (∀ r ∈ rows, P r) → ∀ r ∈ ws.foldl (fun rows l => rows.flatMap (extP os l)) rows, P r := by
    intro ws
    induction ws with
    | nil => intro rows h; exact h
    | cons l ws ih =>
      intro rows h
      refine ih _ fun r hr => ?_
      obtain ⟨r0, h1, h2⟩ := List.mem_flatMap.mp hr
      exact hs l r0 (h r0 h1) r h2
  exact gen ws [[]] fun r hr => by
    have : r = [] := by simpa using hr
    rw [this]; exact h0
theorem leastP_snoc (r : List Nat) (a : Nat) : leastP (r ++ [a]) = a + 1 := by
  unfold leastP
  rw [List.getLast?_concat]
theorem ext_mem {os : List Int} {l : Int} {r x : List Nat} (h : x ∈ extP os l r) : ∃ a, x = r ++ [a] ∧ leastP r ≤ a ∧ a < os.length ∧ l ≤ os.getD a 0 := by
  unfold extP at h
  obtain ⟨i, h1, h2⟩ := List.mem_filterMap.mp h
  have hi := List.mem_range.mp h1
  by_cases hc : l ≤ os.getD (leastP r + i) 0
  · rw [if_pos hc] at h2
    cases h2
    exact ⟨_, rfl, by omega, by omega, hc⟩
  · rw [if_neg hc] at h2; cases h2
theorem rows_least (os ws : List Int) : ∀ r ∈ rowsAt os ws, leastP r ≤ os.length := rowsAt_all os _ (Nat.zero_le _) (fun l r h x hx => by
  obtain ⟨a, rfl, _, h2, _⟩ := ext_mem hx
  rw [leastP_snoc]; omega) ws
theorem rows_long (os ws : List Int) : ∀ r ∈ rowsAt os ws, r.length ≤ leastP r := rowsAt_all os _ (Nat.zero_le _) (fun l r h x hx => by
  obtain ⟨a, rfl, h2, _, _⟩ := ext_mem hx
  rw [leastP_snoc, List.length_append, List.length_singleton]; omega) ws
theorem fm_snoc {α : Type} (f : Nat → Option α) (m : Nat) : (List.range (m + 1)).filterMap f = (List.range m).filterMap f ++ (f m).toList := by
  rw [List.range_succ, List.filterMap_append]
  cases h : f m <;> simp [h]
theorem p_are (ds : List D) (st : Sto) (Q : QD) (E : QX) (hl : ds.length = S.are_within.ar) (h : S.are_within.run ds st Q E) : bodyD B.are_within N.are_within.length ds st Q E := by
  obtain ⟨ps, rfl, ⟨h1, h2⟩, hq⟩ := h
  have h1 : ps.length ≤ 1000 := h1
  show wpB _ _ [some (.tup (ps.map fun p => .tup (Is p.1))), some (.tup (ps.map fun p => .tup (Is p.2))), none, none] st
  rw [B.are_within]
  simp [w_comp]
  refine compD_inv (wpC_mono _) (SemE.mono _) _ (fun j acc s => s = st ∧ acc = (ps.take j).map fun p => D.bl (placeAt p.2 p.1 0).isSome) ⟨rfl, rfl⟩ (fun _ _ _ _ => trivial) ?_ ?_
  · rintro j d acc s hd ⟨rfl, rfl⟩
    unfold pairD at hd
    rw [List.getElem?_zipWith, List.getElem?_map, List.getElem?_map] at hd
    cases e : ps[j]? with
    | none => rw [e] at hd; cases hd
    | some p =>
      rw [e] at hd
      cases hd
      refine ⟨_, by simp; rfl, ?_⟩
      simp
      refine ⟨rfl, (p.1, p.2), rfl, h2 p (List.mem_of_getElem? e), fun d s2 hd => ?_⟩
      obtain ⟨rfl, rfl⟩ := hd
      refine ⟨by rw [sizeLine_eq]; omega, rfl, ?_⟩
      rw [← List.map_take, ← List.map_take, List.take_add_one, e, List.map_append]
      rfl
  · rintro acc s ⟨rfl, rfl⟩
    have e1 : (pairD (ps.map fun p => D.tup (Is p.1)) (ps.map fun p => D.tup (Is p.2))).length = ps.length := by simp [pairD]
    rw [e1, List.take_length]
    have e2 : ∀ qs : List (List Int × List Int), blsOf (qs.map fun p => D.bl (placeAt p.2 p.1 0).isSome) = some (qs.map fun p => (placeAt p.2 p.1 0).isSome) := by
      intro qs
      induction qs with
      | nil => rfl
      | cons q qs ih => rw [List.map_cons, blsOf, ih]; rfl
    simp [e2]
    refine .inl (hq _ _ ⟨?_, rfl⟩)
    simp
theorem p_places (ds : List D) (st : Sto) (Q : QD) (E : QX) (hl : ds.length = S._law_places.ar) (h : S._law_places.run ds st Q E) : bodyD B._law_places N._law_places.length ds st Q E := by
  obtain ⟨⟨ws, os⟩, rfl, ⟨h1, h2⟩, hq⟩ := h
  have h1 : ws.length ≤ 4 := h1
  have h2 : os.length ≤ 12 := h2
  show wpB _ _ [some (.tup (Is ws)), some (.tup (Is os)), none, none, none, none, none, none] st
  rw [B._law_places]
  simp [w_sFor]
  refine ⟨by decide +kernel, ?_⟩
  refine forD_inv (Is ws) (fun i en s => ∃ (d : D) (ext : Sto) (x3 x4 x5 x6 x7 : Option D), s = st ++ ext ∧ en = [some (.tup (Is ws)), some (.tup (Is os)), some d, x3, x4, x5, x6, x7] ∧ seqOf s d = some (rowsD (rowsAt os (ws.take i))) ∧
    (d = .lst (rowsD (rowsAt os (ws.take i))) ∨ ∃ m, d = .ref m ∧ st.length ≤ m) ∧ (rowsAt os (ws.take i)).length ≤ 12 ^ i) ?_ (fun _ _ _ _ => trivial) ?_ ?_ (wpB_mono _)
  · exact ⟨_, [], _, _, _, _, _, by simp, rfl, rfl, .inl rfl, Nat.le_refl 1⟩
  · rintro i d0 en s hd ⟨d, ext, x3, x4, x5, x6, x7, rfl, rfl, hs, hdd, hlen⟩
    rw [List.getElem?_map] at hd
    cases e : ws[i]? with
    | none => rw [e] at hd; cases hd
    | some l =>
      rw [e] at hd
      cases hd
      have hi : i < 4 := Nat.lt_of_lt_of_le (List.getElem?_eq_some_iff.mp e).1 h1
      refine ⟨_, p_nm, ?_⟩
      have hs2 := q_app (e := [.lst []]) hs
      simp [w_sFor]
      simp at hs2
      rw [hs2]
      have gm : ∀ a : List D, (st ++ (ext ++ [O.lst a]))[st.length + ext.length]? = some (.lst a) := fun a => by
        rw [← List.append_assoc]
        rw [List.getElem?_append_right (by simp)]
        simp
      have gs : ∀ a b : List D, (st ++ (ext ++ [O.lst a])).set (st.length + ext.length) (.lst b) = st ++ (ext ++ [O.lst b]) := fun a b => by
        rw [← List.append_assoc, ← List.append_assoc, List.set_append_right _ _ (by simp)]
        simp
      refine forD_inv _ (fun j en s => ∃ (x5 x6 x7 : Option D), s = st ++ (ext ++ [.lst (rowsD (((rowsAt os (ws.take i)).take j).flatMap (extP os l)))]) ∧ en = [some (.tup (Is ws)), some (.tup (Is os)), some d, some (.int l), some (.ref (st.length + ext.length)), x5, x6, x7])
        ⟨_, _, _, rfl, rfl⟩ ?_ ?_ ?_ (wpB_mono _)
      · rintro j en s ⟨x5, x6, x7, rfl, rfl⟩
        have := q_app (e := [O.lst (rowsD (((rowsAt os (ws.take i)).take j).flatMap (extP os l)))]) hs
        rw [List.append_assoc] at this
        exact this
      · rintro j d0 en s hd ⟨x5, x6, x7, rfl, rfl⟩
        unfold rowsD at hd
        rw [List.getElem?_map] at hd
        cases e2 : (rowsAt os (ws.take i))[j]? with
        | none => rw [e2] at hd; cases hd
        | some r =>
          rw [e2] at hd
          cases hd
          refine ⟨_, p_nm, ?_⟩
          rw [w_b2, w_sSet]
          have hls : ∀ F : QD, F (.int (leastP r)) (st ++ (ext ++ [.lst (rowsD (((rowsAt os (ws.take i)).take j).flatMap (extP os l)))])) → ∀ E : QX, (eIf (tCm .NotEq opNe (eVar 5) (eTup [])) (eBin .Add (opAdd false) (eIx (eVar 5) (eNeg (eInt 1))) (eInt 1)) (eInt 0)).wp
              [some (.tup (Is ws)), some (.tup (Is os)), some d, some (.int l), some (.ref (st.length + ext.length)), some (.tup (Ns r)), x6, x7] (st ++ (ext ++ [.lst (rowsD (((rowsAt os (ws.take i)).take j).flatMap (extP os l)))])) F E := by
            intro F hF E
            by_cases hr : r = []
            · subst hr
              simp
              exact hF
            · have ne : r.isEmpty = false := by cases r <;> first | rfl | exact absurd rfl hr
              have hl2 : atI (Ns r) (-1) = some (.int (r.getLast hr)) := by
                rw [at_last _ (by simpa using hr)]
                simp
              simp [ne, hl2]
              have e4 : leastP r = r.getLast hr + 1 := by
                unfold leastP
                rw [List.getLast?_eq_some_getLast hr]
              rw [e4] at hF
              exact hF
          refine hls _ ?_ _
          simp [w_comp]
          have hlp : leastP r ≤ os.length := rows_least os _ r (List.mem_of_getElem? e2)
          refine ⟨⟨by omega, by omega⟩, ⟨by omega, by omega⟩, ?_⟩
          refine compD_inv (wpC_mono _) (SemE.mono _) _ (fun m acc s => s = st ++ (ext ++ [.lst (rowsD (((rowsAt os (ws.take i)).take j).flatMap (extP os l)))]) ∧
            acc = rowsD ((List.range m).filterMap fun q => if l ≤ os.getD (leastP r + q) 0 then some (r ++ [leastP r + q]) else none) ∧ m ≤ 12) ⟨rfl, rfl, Nat.zero_le _⟩ (fun _ _ _ _ => trivial) ?_ ?_
          · rintro m d1 acc s hd ⟨rfl, rfl, hm⟩
            obtain ⟨hm2, rfl⟩ := rng_get hd
            refine ⟨_, p_nm, ?_⟩
            have ga : atI (Is os) ((leastP r : Int) + (m : Int)) = some (.int (os.getD (leastP r + m) 0)) := by
              have h5 : leastP r + m < os.length := by omega
              rw [← Int.natCast_add, atI_nat, List.getElem?_map, List.getElem?_eq_getElem h5]
              simp [h5]
            simp [ga]
            have hrl := rows_long os _ r (List.mem_of_getElem? e2)
            by_cases hc : l ≤ os[leastP r + m]?.getD 0
            · simp [hc]
              have h6 : (rowsD (List.filterMap (fun q => if l ≤ os[leastP r + q]?.getD 0 then some (r ++ [leastP r + q]) else none) (List.range m))).length ≤ m := by
                unfold rowsD
                rw [List.length_map]
                refine Nat.le_trans (List.length_filterMap_le _ _) ?_
                rw [List.length_range]; omega
              refine ⟨by decide +kernel, by rw [sizeLine_eq]; omega, by rw [sizeLine_eq]; omega, ?_, by omega⟩
              rw [fm_snoc, if_pos hc]
              simp [rowsD]
            · simp [hc]
              refine ⟨?_, by omega⟩
              rw [fm_snoc, if_neg hc]
              simp
          · rintro acc s ⟨rfl, rfl, hm⟩
            have ee : (List.range (os.length - leastP r)).filterMap (fun q => if l ≤ os.getD (leastP r + q) 0 then some (r ++ [leastP r + q]) else none) = extP os l r := rfl
            rw [rng_len, ee, gm]
            have h7 : (rowsD (((rowsAt os (ws.take i)).take j).flatMap (extP os l))).length + (rowsD (extP os l r)).length ≤ sizeLine := by
              unfold rowsD
              rw [List.length_map, List.length_map, sizeLine_eq]
              have h8 := rows_len os l ((rowsAt os (ws.take i)).take j)
              have h9 : ((rowsAt os (ws.take i)).take j).length ≤ 12 ^ i := Nat.le_trans (by rw [List.length_take]; omega) hlen
              have h10 : 12 ^ i ≤ 12 ^ 4 := Nat.pow_le_pow_right (by decide) (by omega)
              have h11 := ext_len os l r
              have h12 : ((rowsAt os (ws.take i)).take j).length * os.length ≤ 12 ^ 4 * 12 := Nat.mul_le_mul (Nat.le_trans h9 h10) h2
              omega
            simp only [h7, if_true]
            rw [gs, List.take_add_one, e2, List.flatMap_append]
            simp [rowsD]
      · rintro en s ⟨x5, x6, x7, rfl, rfl⟩
        have e3 : (rowsD (rowsAt os (ws.take i))).length = (rowsAt os (ws.take i)).length := by simp [rowsD]
        rw [e3, List.take_length, ← rowsAt_snoc os ws i l e]
        simp
        rw [rowsAt_snoc os ws i l e]
        refine Nat.le_trans (rows_len _ _ _) ?_
        rw [Nat.pow_succ]
        exact Nat.mul_le_mul hlen h2
  · rintro en s ⟨d, ext, x3, x4, x5, x6, x7, rfl, rfl, hs, hdd, hlen⟩
    have e3 : (Is ws).length = ws.length := by simp
    rw [e3, List.take_length] at hs hdd
    have nr : noRefs st.length (rowsD (rowsAt os ws)) = true := nrs_of_can _ _ (canDs_all fun x hx => by
      obtain ⟨r, _, rfl⟩ := List.mem_map.mp hx
      rw [canD]
      exact cans_of_ok _ (ok_nats r))
    have fin := hq (.lst (rowsD (rowsAt os ws))) st ⟨rfl, rfl⟩
    simp
    rcases hdd with rfl | ⟨m, rfl, hm⟩
    · exact ret_val0 (by rw [noRef]; exact nr) fin
    · simp at hs
      split at hs
      · rename_i ds' h
        cases hs
        exact ret_lst rfl (closed_self st) h hm nr fin
      · cases hs
end Mi
namespace Mi
open PySem PySem.Spec PyProof.Rows L2

/-! ### the first row is the least one -/
theorem tw_all (p : Int → Bool) : ∀ (xs : List Int) (m : Nat), m < (xs.takeWhile p).length → p (xs.getD m 0) = true
  | [], m, h => by simp at h
  | x :: xs, m, h => by
    rw [List.takeWhile_cons] at h
    by_cases hx : p x = true
    · rw [if_pos hx] at h
      cases m with
      | zero => simpa using hx
      | succ m => simpa using tw_all p xs m (by simpa using h)
    · rw [if_neg hx] at h; simp at h
theorem tw_stop (p : Int → Bool) : ∀ (xs : List Int), (xs.takeWhile p).length < xs.length → p (xs.getD (xs.takeWhile p).length 0) = false
  | [], h => by simp at h
  | x :: xs, h => by
    rw [List.takeWhile_cons] at h ⊢
    by_cases hx : p x = true
    · rw [if_pos hx] at h ⊢
      simpa using tw_stop p xs (by simpa using h)
    · rw [if_neg hx]
      simpa using hx
theorem adv_lt {os : List Int} {l : Int} {p a : Nat} (h1 : p ≤ a) (h2 : a < adv os l p) : os.getD a 0 < l := by
  unfold adv at h2
  have := tw_all (fun x => decide (x < l)) (os.drop p) (a - p) (by omega)
  have e : (os.drop p).getD (a - p) 0 = os.getD a 0 := by
    simp only [List.getD_eq_getElem?_getD, List.getElem?_drop]
    congr 2
    omega
  rw [e] at this
  exact of_decide_eq_true this
theorem adv_hit {os : List Int} {l : Int} {p : Nat} (hp : p ≤ os.length) (h : adv os l p ≠ os.length) : adv os l p < os.length ∧ l ≤ os.getD (adv os l p) 0 := by
  have hle := adv_le os l p hp
  have hlt : adv os l p < os.length := by omega
  refine ⟨hlt, ?_⟩
  unfold adv at hlt ⊢
  have := tw_stop (fun x => decide (x < l)) (os.drop p) (by rw [List.length_drop]; omega)
  have e : (os.drop p).getD ((os.drop p).takeWhile fun x => decide (x < l)).length 0 = os.getD (p + ((os.drop p).takeWhile fun x => decide (x < l)).length) 0 := by
    simp only [List.getD_eq_getElem?_getD, List.getElem?_drop]
  rw [e] at this
  have := of_decide_eq_false this
  omega
theorem fm_first {α : Type} (f : Nat → Option α) : ∀ (m n : Nat) (x : α), m < n → f m = some x → (∀ i, i < m → f i = none) → ((List.range n).filterMap f).head? = some x := by
  intro m n x h1 h2 h3
  have e : n = m + (1 + (n - m - 1)) := by omega
  rw [e, List.range_add, List.filterMap_append]
  have e0 : (List.range m).filterMap f = [] := by
    rw [List.filterMap_eq_nil_iff]
    intro i hi
    exact h3 i (List.mem_range.mp hi)
  rw [e0, List.nil_append, List.range_add, List.map_append, List.filterMap_append]
  have e1 : List.filterMap f (List.map (fun x => m + x) (List.range 1)) = [x] := by simp [h2]
  rw [e1]; rfl
theorem ext_head {os : List Int} {l : Int} {r : List Nat} (hr : leastP r ≤ os.length) (h : adv os l (leastP r) ≠ os.length) : (extP os l r).head? = some (r ++ [adv os l (leastP r)]) := by
  obtain ⟨h1, h2⟩ := adv_hit hr h
  have hge := adv_ge os l (leastP r)
  unfold extP
  refine fm_first _ (adv os l (leastP r) - leastP r) _ _ (by omega) ?_ ?_
  · have e : leastP r + (adv os l (leastP r) - leastP r) = adv os l (leastP r) := by omega
    rw [e, if_pos h2]
  · intro i hi
    have := adv_lt (os := os) (l := l) (p := leastP r) (a := leastP r + i) (by omega) (by omega)
    rw [if_neg (by omega)]
theorem ext_none {os : List Int} {l : Int} {r : List Nat} {p : Nat} (hp : p ≤ leastP r) (hl : adv os l p = os.length) : extP os l r = [] := by
  unfold extP
  rw [List.filterMap_eq_nil_iff]
  intro i hi
  have := adv_lt (os := os) (l := l) (p := p) (a := leastP r + i) (by omega) (by have := List.mem_range.mp hi; omega)
  rw [if_neg (by omega)]
/-- what is told of the rows: the first one is p, no other may go on earlier -/
def FirstR (rows : List (List Nat)) (p : Option (List Nat)) : Prop := rows.head? = p ∧ ∀ h, p = some h → ∀ r ∈ rows, leastP h ≤ leastP r
theorem first_step {os : List Int} {l : Int} {rows : List (List Nat)} {p : Option (List Nat)} (hr : ∀ r ∈ rows, leastP r ≤ os.length) (h : FirstR rows p) :
    FirstR (rows.flatMap (extP os l)) (p.bind fun r => if adv os l (leastP r) = os.length then none else some (r ++ [adv os l (leastP r)])) := by
  cases rows with
  | nil =>
    obtain ⟨h1, _⟩ := h
    have e : p = none := h1.symm
    subst e
    exact ⟨rfl, fun h e => by cases e⟩
  | cons r0 rs =>
    obtain ⟨h1, h2⟩ := h
    have e : p = some r0 := h1.symm
    subst e
    have h2 := h2 r0 rfl
    have hr0 := hr r0 List.mem_cons_self
    by_cases ha : adv os l (leastP r0) = os.length
    · have e0 : (r0 :: rs).flatMap (extP os l) = [] := by
        rw [List.flatMap_eq_nil_iff]
        intro r hm
        exact ext_none (h2 r hm) ha
      rw [e0]
      simp only [Option.bind_some, if_pos ha]
      exact ⟨rfl, fun h e => by cases e⟩
    · simp only [Option.bind_some, if_neg ha]
      have hh := ext_head hr0 ha
      refine ⟨?_, fun h e r hm => ?_⟩
      · rw [List.flatMap_cons, List.head?_append, hh]; rfl
      · cases e
        rw [leastP_snoc]
        obtain ⟨r1, hm1, hm2⟩ := List.mem_flatMap.mp hm
        obtain ⟨a, rfl, h3, h4, h5⟩ := ext_mem hm2
        rw [leastP_snoc]
        have h6 := h2 r1 hm1
        by_cases hlt : a < adv os l (leastP r0)
        · have := adv_lt (os := os) (l := l) (p := leastP r0) (a := a) (by omega) hlt
          omega
        · omega
theorem first_all (os : List Int) : ∀ (ws : List Int) (rows : List (List Nat)) (p : Option (List Nat)), (∀ r ∈ rows, leastP r ≤ os.length) → FirstR rows p →
    FirstR (ws.foldl (fun rows l => rows.flatMap (extP os l)) rows) (p.bind fun r => (placeAt os ws (leastP r)).map fun q => r ++ q)
  | [], rows, p, _, h => by
    have e : (p.bind fun r => (placeAt os [] (leastP r)).map fun q => r ++ q) = p := by cases p <;> simp [placeAt]
    rw [e]; exact h
  | l :: ws, rows, p, hr, h => by
    have h1 := first_step (l := l) hr h
    have h2 := first_all os ws _ _ (fun r hm => by
      obtain ⟨r1, hm1, hm2⟩ := List.mem_flatMap.mp hm
      obtain ⟨a, rfl, h3, h4, h5⟩ := ext_mem hm2
      rw [leastP_snoc]; omega) h1
    have e : (p.bind fun r => (placeAt os (l :: ws) (leastP r)).map fun q => r ++ q) = ((p.bind fun r => if adv os l (leastP r) = os.length then none else some (r ++ [adv os l (leastP r)])).bind fun r => (placeAt os ws (leastP r)).map fun q => r ++ q) := by
      cases p with
      | none => rfl
      | some r =>
        simp only [Option.bind_some]
        rw [placeAt]
        by_cases ha : adv os l (leastP r) = os.length
        · rw [if_pos ha, if_pos ha]; rfl
        · rw [if_neg ha, if_neg ha]
          simp only [Option.bind_some, leastP_snoc]
          cases placeAt os ws (adv os l (leastP r) + 1) <;> simp
    rw [e]
    exact h2
theorem rows_first (os ws : List Int) : (rowsAt os ws).head? = placeAt os ws 0 := by
  have h := first_all os ws [[]] (some []) (fun r hr => by
    have : r = [] := by simpa using hr
    rw [this]; exact Nat.zero_le _) ⟨rfl, fun h e r hr => by
      cases e
      have : r = [] := by simpa using hr
      rw [this]; exact Nat.le_refl _⟩
  have := h.1
  simp only [Option.bind_some, List.nil_append] at this
  have e : leastP [] = 0 := rfl
  rw [e] at this
  unfold rowsAt
  rw [this]
  cases placeAt os ws 0 <;> rfl
end Mi
namespace Mi
open PySem PySem.Spec PyProof.Rows L2

theorem rep_bl (b : Bool) : repOk (toPy (.bl b)) := rep_ok (by rw [smD]) (by rw [dpD]; omega) (by rw [wtD]; omega)
theorem rep_two {ws os : List Int} (h1 : ws.length ≤ 1000) (h2 : os.length ≤ 1000) (s1 : small ws) (s2 : small os) : repOk (toPy (.tup [.tup (Is ws), .tup (Is os)])) := by
  refine rep_ok ?_ ?_ ?_
  · simp only [smD, smDs, sm_ints s1, sm_ints s2, Bool.and_self]
  · simp only [dpD, dpDs, dp_ints]; decide
  · simp only [wtD, wtDs, wt_ints]; omega
theorem okDs_rows (rows : List (List Nat)) : okDs (rowsD rows) = true := okDs_all fun x hx => by
  obtain ⟨r, _, rfl⟩ := List.mem_map.mp hx
  rw [okD]; exact ok_nats r
theorem dpDs_rows (rows : List (List Nat)) : dpDs (rowsD rows) ≤ 1 := dpDs_all fun x hx => by
  obtain ⟨r, _, rfl⟩ := List.mem_map.mp hx
  rw [dpD, dp_nats]; exact Nat.le_refl _
theorem shp_rows (rows : List (List Nat)) : shp (.lst (rowsD rows)) = true := shp_of (by rw [canD]; exact cans_of_ok _ (okDs_rows rows)) (by rw [dpD]; have := dpDs_rows rows; omega)
theorem eq_rows (rows : List (List Nat)) : eqD (.lst (rowsD rows)) (.lst []) = rows.isEmpty := by
  rw [isE_eq (okDs_rows rows)]; cases rows <;> rfl
theorem sm_nats {ns : List Nat} (h : ∀ x ∈ ns, x < 10 ^ 12) : smDs (Ns ns) = true := by
  induction ns with
  | nil => show smDs [] = true; rw [smDs]
  | cons n r ih =>
    show smDs (D.int (n : Int) :: Ns r) = true
    rw [smDs, smD, ih fun x hx => h x (List.mem_cons_of_mem _ hx)]
    have := h n List.mem_cons_self
    rw [decide_eq_true (by omega)]; rfl
theorem wt_nats (ns : List Nat) : wtDs (Ns ns) = 15 * ns.length := by
  induction ns with
  | nil => show wtDs [] = _; rw [wtDs]; rfl
  | cons n r ih =>
    show wtDs (D.int (n : Int) :: Ns r) = _
    rw [wtDs, wtD, ih, List.length_cons]; omega
theorem place_facts (os : List Int) : ∀ (ws : List Int) (p : Nat) (r : List Nat), p ≤ os.length → placeAt os ws p = some r → r.length = ws.length ∧ ∀ x ∈ r, x < os.length
  | [], p, r, _, h => by
    rw [placeAt] at h
    cases h
    exact ⟨rfl, by simp⟩
  | l :: ws, p, r, hp, h => by
    rw [placeAt] at h
    by_cases ha : adv os l p = os.length
    · rw [if_pos ha] at h; cases h
    · rw [if_neg ha] at h
      have hle := adv_le os l p hp
      cases e : placeAt os ws (adv os l p + 1) with
      | none => rw [e] at h; cases h
      | some q =>
        rw [e] at h
        cases h
        obtain ⟨h1, h2⟩ := place_facts os ws _ q (by omega) e
        refine ⟨by rw [List.length_cons, List.length_cons, h1], fun x hx => ?_⟩
        rcases List.mem_cons.mp hx with z | z
        · rw [z]; omega
        · exact h2 x z
theorem rep_place {os ws : List Int} (h1 : ws.length ≤ 1000) (h2 : os.length ≤ 1000) : repOk (toPy (placeD os ws)) := by
  unfold placeD
  cases e : placeAt os ws 0 with
  | none => exact rep_ok (by rw [smD]) (by rw [dpD]; omega) (by rw [wtD]; omega)
  | some r =>
    obtain ⟨h3, h4⟩ := place_facts os ws 0 r (Nat.zero_le _) e
    refine rep_ok ?_ ?_ ?_
    · rw [smD]; exact sm_nats fun x hx => Nat.lt_of_lt_of_le (h4 x hx) (by omega)
    · rw [dpD, dp_nats]; omega
    · rw [wtD, wt_nats]; omega
theorem k_place (st : Sto) (os ws : List Int) : lookD st (placeD os ws) = placeD os ws := by
  unfold placeD
  cases placeAt os ws 0 <;> rfl
theorem p_right (ds : List D) (st : Sto) (Q : QD) (E : QX) (hl : ds.length = S._law_right.ar) (h : S._law_right.run ds st Q E) : bodyD B._law_right N._law_right.length ds st Q E := by
  obtain ⟨⟨ws, os⟩, rfl, ⟨h1, h2, h3, h4⟩, hq⟩ := h
  have h1 : ws.length ≤ 4 := h1
  have h2 : os.length ≤ 12 := h2
  have h3 : small ws := h3
  have h4 : small os := h4
  have r2 := rep_two (ws := ws) (os := os) (by omega) (by omega) h3 h4
  show wpB _ _ [some (.tup (Is ws)), some (.tup (Is os)), none, none] st
  rw [B._law_right]
  simp
  refine ⟨rfl, (ws, os), rfl, ⟨h1, h2⟩, fun d st' hd => ?_⟩
  obtain ⟨rfl, rfl⟩ := hd
  refine ⟨by decide +kernel, r2, rfl, (ws, os), rfl, by show ws.length ≤ 1000; omega, fun d st' hd => ?_⟩
  obtain ⟨rfl, rfl⟩ := hd
  show repOk (toPy (.bl _)) ∧ _
  have er := eq_rows (rowsAt os ws)
  have sr := shp_rows (rowsAt os ws)
  unfold rowsD at er sr
  simp [er, sr]
  have hf := rows_first os ws
  have he : (placeAt os ws 0).isSome = !(rowsAt os ws).isEmpty := by
    rw [← hf]; cases rowsAt os ws <;> rfl
  rw [he]
  refine ⟨rep_bl _, rep_bl _, ?_⟩
  simp only [decide_true, Bool.not_true]
  refine ⟨by decide +kernel, r2, rfl, (ws, os), rfl, by show ws.length ≤ 1000; omega, fun d st' hd => ?_⟩
  obtain ⟨rfl, rfl⟩ := hd
  have rp := rep_place (os := os) (ws := ws) (by omega) (by omega)
  rw [k_place]
  refine ⟨rp, ?_⟩
  cases e : rowsAt os ws with
  | nil =>
    rw [e] at hf
    have hp : placeD os ws = .non := by unfold placeD; rw [← hf]; rfl
    show repOk (toPy .non) ∧ _
    rw [hp] at rp ⊢
    exact ⟨rp, .inl (hq _ _ ⟨by simp, rfl⟩)⟩
  | cons r rs =>
    rw [e] at hf
    have hp : placeD os ws = .tup (Ns r) := by unfold placeD; rw [← hf]; rfl
    rw [hp] at rp ⊢
    simp only [List.map_cons, at_0, List.isEmpty_cons, Bool.not_false]
    show repOk (toPy (.tup (Ns r))) ∧ _
    exact ⟨rp, .inl (hq _ _ ⟨by simp, rfl⟩)⟩
end Mi
namespace Mi
open PySem PySem.Spec PyProof.Rows L2

def cutL (ns : List Int) (lo hi : Option Int) : List Int := (ns.drop (HT.sIx ns.length 0 lo)).take (HT.sIx ns.length ns.length hi - HT.sIx ns.length 0 lo)
@[simp] theorem cut_Is (ns : List Int) (lo hi : Option Int) : cutD (Is ns) lo hi = Is (cutL ns lo hi) := by
  unfold cutD cutL
  simp [List.map_take, List.map_drop]
theorem cut_mem {ns : List Int} {lo hi : Option Int} {x : Int} (h : x ∈ cutL ns lo hi) : x ∈ ns := by
  unfold cutL at h
  exact List.mem_of_mem_drop (List.mem_of_mem_take h)
theorem cut_len (ns : List Int) (lo hi : Option Int) : (cutL ns lo hi).length ≤ HT.sIx ns.length ns.length hi - HT.sIx ns.length 0 lo := by
  unfold cutL
  exact List.length_take_le _ _
theorem cut_to (ns : List Int) (k : Nat) : (cutL ns none (some (k : Int))).length ≤ k := by
  refine Nat.le_trans (cut_len _ _ _) ?_
  simp [HT.sIx]
  split <;> omega
theorem cut_from (ns : List Int) (k : Nat) (hk : 0 < k) : (cutL ns (some (-(k : Int))) none).length ≤ k := by
  refine Nat.le_trans (cut_len _ _ _) ?_
  simp [HT.sIx]
  split <;> omega
@[simp] theorem rep_Is (ns : List Int) (k : Nat) : (List.replicate k (Is ns)).flatten = Is (List.replicate k ns).flatten := by
  simp [List.map_flatten]
theorem rep_mem {ns : List Int} {k : Nat} {x : Int} (h : x ∈ (List.replicate k ns).flatten) : x ∈ ns := by
  obtain ⟨l, h1, h2⟩ := List.mem_flatten.mp h
  rw [(List.mem_replicate.mp h1).2] at h2
  exact h2
theorem rep_len (ns : List Int) (k : Nat) : (List.replicate k ns).flatten.length = k * ns.length := by simp
/-- a turn of the law's loop -/
def lapB : List SemS := match B.law.drop 1 with
  | s :: _ => [s]
  | _ => []
theorem lap_ok {st0 s : Sto} {n : Nat} {ns : List Int} (hto : PenTo st0 n s) {N : EndsD} {x2 x3 x4 x5 x6 x7 x8 x9 x10 x11 x12 x13 x14 : Option D}
    (hN : ∀ en s', PenTo st0 n s' → (∃ x2 x3 x4 x5 x6 x7 x8 x9 x10 x11 x12 x13 x14, en = [some (.rol (Is ns)), some (.ref n), x2, x3, x4, x5, x6, x7, x8, x9, x10, x11, x12, x13, x14]) → N.nx en s') :
    wpB [sSet 3 (eCall "_law_drawn_word" S._law_drawn_word [] [(eVar 1), (eBin .Add (opAdd false) (eInt 1) (eCall "_law_draw" S._law_draw [] [(eVar 1), (eInt 3)])), (eInt 12)]),
      sSet 4 (eB bTuple [(eComp false (.nm 5) [("letter", 5)] (iSeq (eVar 3)) (some (tCm .Eq opEq (eCall "_law_draw" S._law_draw [] [(eVar 1), (eInt 2)]) (eInt 0))) (eVar 5))]),
      sSet 6 (eList false [(eSl false (eVar 4) none (some (eInt 4))), (eCall "_law_drawn_word" S._law_drawn_word [] [(eVar 1), (eInt 3), (eInt 4)]), (eTup []), (eSl false (eVar 4) (some (eNeg (eInt 3))) none), (eBin .Mult (opMul false) (eSl false (eVar 3) (some (eNeg (eInt 1))) none) (eInt 2)), (eBin .Mult (opMul false) (eSl false (eVar 3) none (some (eInt 1))) (eInt 2))]),
      sIf (tCm .NotEq opNe (eComp false (.nm 7) [("word", 7)] (iSeq (eVar 6)) (some (tNo (tV (eCall "_law_right" S._law_right [] [(eVar 7), (eVar 3)])))) (eInt 1)) (eList false [])) [
        sRet (eBl false)] [],
      sPar2 8 9 (eB bTuple [(eSl false (eVar 6) none (some (eInt 3)))]) (eTup [(eVar 3), (eCall "_law_drawn_word" S._law_drawn_word [] [(eVar 1), (eInt 3), (eInt 8)]), (eVar 3)]),
      sSet 10 (eCmp .Eq opEq (eComp false (.tup [(.nm 7), (.nm 11)]) [("word", 7), ("more", 11)] (iZip false (eVar 8) (eVar 9)) (some (tCm .Eq opEq (eCall "_law_places" S._law_places [] [(eVar 7), (eVar 11)]) (eList false []))) (eInt 1)) (eList false [])),
      sIf (tOr' [(tCm .NotEq opNe (eB bRepr [(eCall "are_within" S.are_within [] [(eVar 8), (eVar 9)])]) (eB bRepr [(eVar 10)])), (tNo (tV (eCall "_law_right" S._law_right [] [(eSl false (eVar 3) none (some (eInt 3))), (eRev false (eVar 3))])))]) [
        sRet (eBl false)] []] N [some (.rol (Is ns)), some (.ref n), x2, x3, x4, x5, x6, x7, x8, x9, x10, x11, x12, x13, x14] s := by
  rw [w_b2, w_sSet]
  simp
  refine ⟨rfl, (n, 3), rfl, ⟨hto.pen, by show (0 : Int) < 3; decide, by show (3 : Int) < 1000; decide⟩, fun d s1 hd => ?_⟩
  obtain ⟨h1, a, rfl, ha, ha2⟩ := hd
  have ha2 : a < 3 := ha2
  refine ⟨rfl, (n, 1 + a, 12), rfl, ⟨h1.pen, by show 0 < 1 + a; omega, by show 1 + a < 1000; omega, by show (0 : Int) ≤ 12; decide, by show (12 : Int) < 900; decide⟩, fun d s2 hd => ?_⟩
  obtain ⟨h2, os, rfl, hos, hox⟩ := hd
  have t2 : PenTo st0 n s2 := (hto.trans h1).trans h2
  have hos : (os.length : Int) ≤ 12 := hos
  have hox : ∀ x ∈ os, 0 ≤ x ∧ x < 3 := fun x hx => by
    have := hox x hx
    have h : x < 1 + a := this.2
    exact ⟨this.1, by omega⟩
  have sm3 : ∀ w : List Int, (∀ x ∈ w, 0 ≤ x ∧ x < 3) → small w := fun w h x hx => by
    have := h x hx
    omega
  have hsmall : small os := sm3 os hox
  simp [w_comp]
  refine compD_inv (wpC_mono _) (SemE.mono _) _ (fun i acc s' => PenTo st0 n s' ∧ ∃ w : List Int, acc = Is w ∧ w.length ≤ i ∧ i ≤ os.length ∧ ∀ x ∈ w, x ∈ os) ⟨t2, [], rfl, Nat.le_refl _, Nat.zero_le _, by simp⟩ (fun _ _ _ _ => trivial) ?_ ?_
  · rintro i d acc s' hd ⟨ht, w, rfl, hw, hi, hx⟩
    rw [List.getElem?_map] at hd
    cases e : os[i]? with
    | none => rw [e] at hd; cases hd
    | some l =>
      rw [e] at hd
      cases hd
      have hil := (List.getElem?_eq_some_iff.mp e).1
      refine ⟨_, p_nm, ?_⟩
      simp
      refine ⟨rfl, (n, 2), rfl, ⟨ht.pen, by show (0 : Int) < 2; decide, by show (2 : Int) < 1000; decide⟩, fun d s3 hd => ?_⟩
      obtain ⟨h3, b, rfl, hb, hb2⟩ := hd
      simp
      by_cases hb0 : b = 0
      · simp [hb0]
        exact ⟨by rw [sizeLine_eq]; omega, ht.trans h3, w ++ [l], by simp, by simpa using hw, by omega, fun x hxm => by
          rcases List.mem_append.mp hxm with z | z
          · exact hx x z
          · have : x = l := by simpa using z
            rw [this]; exact List.mem_of_getElem? e⟩
      · simp [hb0]
        exact ⟨ht.trans h3, w, rfl, by omega, by omega, hx⟩
  · rintro acc s3 ⟨t3, sm, rfl, hsl, _, hsx⟩
    have hsl : sm.length ≤ 12 := by
      have : (Is os).length = os.length := by simp
      omega
    have hsx3 : ∀ x ∈ sm, 0 ≤ x ∧ x < 3 := fun x hx => hox x (hsx x hx)
    refine ⟨rfl, (n, 3, 4), rfl, ⟨t3.pen, by show (0 : Int) < 3; decide, by show (3 : Int) < 1000; decide, by show (0 : Int) ≤ 4; decide, by show (4 : Int) < 900; decide⟩, fun d s4 hd => ?_⟩
    obtain ⟨h4, w1, rfl, hw1, hw1x⟩ := hd
    have t4 := t3.trans h4
    have hw1 : (w1.length : Int) ≤ 4 := hw1
    have hw1x : ∀ x ∈ w1, 0 ≤ x ∧ x < 3 := hw1x
    have cA := cut_from os 1 (by decide)
    have cB := cut_to os 1
    have c4 := cut_to sm 4
    have c3 := cut_from sm 3 (by decide)
    simp only [cut_Is]
    have eA : Is (cutL os (some (-1)) none) ++ Is (cutL os (some (-1)) none) = Is (cutL os (some (-1)) none ++ cutL os (some (-1)) none) := by simp
    have eB : Is (cutL os none (some 1)) ++ Is (cutL os none (some 1)) = Is (cutL os none (some 1) ++ cutL os none (some 1)) := by simp
    rw [eA, eB]
    have m4 : ∀ x ∈ cutL sm none (some 4), 0 ≤ x ∧ x < 3 := fun x hx => hsx3 x (cut_mem hx)
    have m3 : ∀ x ∈ cutL sm (some (-3)) none, 0 ≤ x ∧ x < 3 := fun x hx => hsx3 x (cut_mem hx)
    have mA : ∀ x ∈ cutL os (some (-1)) none ++ cutL os (some (-1)) none, 0 ≤ x ∧ x < 3 := fun x hx => hox x ((List.mem_append.mp hx).elim cut_mem cut_mem)
    have mB : ∀ x ∈ cutL os none (some 1) ++ cutL os none (some 1), 0 ≤ x ∧ x < 3 := fun x hx => hox x ((List.mem_append.mp hx).elim cut_mem cut_mem)
    have lA : (cutL os (some (-1)) none ++ cutL os (some (-1)) none).length ≤ 4 := by
      rw [List.length_append]
      have : (cutL os (some (-1)) none).length ≤ 1 := cA
      omega
    have lB : (cutL os none (some 1) ++ cutL os none (some 1)).length ≤ 4 := by
      rw [List.length_append]
      have : (cutL os none (some 1)).length ≤ 1 := cB
      omega
    have l4 : (cutL sm none (some 4)).length ≤ 4 := c4
    have l3 : (cutL sm (some (-3)) none).length ≤ 3 := c3
    refine ⟨⟨by decide, by decide, by have : (cutL os (some (-1)) none).length ≤ 1 := cA; omega⟩, ⟨by decide, by decide, by have : (cutL os none (some 1)).length ≤ 1 := cB; omega⟩, by decide +kernel, ?_⟩
    generalize cutL sm none (some 4) = k4 at *
    generalize cutL sm (some (-3)) none = k3 at *
    generalize cutL os (some (-1)) none ++ cutL os (some (-1)) none = kA at *
    generalize cutL os none (some 1) ++ cutL os none (some 1) = kB at *
    have hW : ∀ w ∈ [k4, w1, [], k3, kA, kB], w.length ≤ 4 ∧ small w := fun w hw => by
      simp only [List.mem_cons, List.not_mem_nil, or_false] at hw
      rcases hw with z | z | z | z | z | z <;> rw [z]
      · exact ⟨l4, sm3 _ m4⟩
      · exact ⟨by omega, sm3 _ hw1x⟩
      · exact ⟨by decide, fun x hx => by cases hx⟩
      · exact ⟨by omega, sm3 _ m3⟩
      · exact ⟨lA, sm3 _ mA⟩
      · exact ⟨lB, sm3 _ mB⟩
    refine compD_inv (wpC_mono _) (SemE.mono _) _ (fun i acc s' => s' = s4 ∧ acc = []) ⟨rfl, rfl⟩ (fun _ _ _ _ => trivial) ?_ ?_
    · rintro i d acc s' hd ⟨rfl, rfl⟩
      have hd' : ([k4, w1, [], k3, kA, kB].map fun w => D.tup (Is w))[i]? = some d := hd
      rw [List.getElem?_map] at hd'
      cases e : [k4, w1, [], k3, kA, kB][i]? with
      | none => rw [e] at hd'; cases hd'
      | some w =>
        rw [e] at hd'
        cases hd'
        obtain ⟨hw1, hw2⟩ := hW w (List.mem_of_getElem? e)
        refine ⟨_, p_nm, ?_⟩
        simp
        refine ⟨rfl, (w, os), rfl, ⟨hw1, by show os.length ≤ 12; omega, hw2, hsmall⟩, fun d s5 hd => ?_⟩
        obtain ⟨rfl, rfl⟩ := hd
        first | exact rfl | exact ⟨rfl, rfl⟩ | trivial
    · rintro acc s' ⟨rfl, rfl⟩
      have e0 : eqD (.lst []) (.lst []) = true := rfl
      have ec : ∀ a b c d e f : D, cutD [a, b, c, d, e, f] none (some 3) = [a, b, c] := fun _ _ _ _ _ _ => rfl
      simp [e0, ec]
      refine ⟨rfl, (n, 3, 8), rfl, ⟨t4.pen, by show (0 : Int) < 3; decide, by show (3 : Int) < 1000; decide, by show (0 : Int) ≤ 8; decide, by show (8 : Int) < 900; decide⟩, fun d s5 hd => ?_⟩
      obtain ⟨h5, w2, rfl, hw2, hw2x⟩ := hd
      have t5 := t4.trans h5
      have hw2 : (w2.length : Int) ≤ 8 := hw2
      refine ⟨by decide +kernel, ?_⟩
      obtain ⟨prs, hprs⟩ : ∃ p : List (List Int × List Int), p = [(k4, os), (w1, w2), ([], os)] := ⟨_, rfl⟩
      have hP : ∀ p ∈ prs, p.1.length ≤ 4 ∧ p.2.length ≤ 12 := fun p hp => by
        rw [hprs] at hp
        simp only [List.mem_cons, List.not_mem_nil, or_false] at hp
        rcases hp with z | z | z <;> rw [z]
        · exact ⟨l4, by show os.length ≤ 12; omega⟩
        · exact ⟨by show w1.length ≤ 4; omega, by show w2.length ≤ 12; omega⟩
        · exact ⟨Nat.zero_le _, by show os.length ≤ 12; omega⟩
      have hp3 : prs.length = 3 := by rw [hprs]; rfl
      have hpD : pairD [D.tup (Is k4), D.tup (Is w1), D.tup []] [D.tup (Is os), D.tup (Is w2), D.tup (Is os)] = prs.map fun p => D.tup [.tup (Is p.1), .tup (Is p.2)] := by rw [hprs]; rfl
      rw [hpD]
      refine compD_inv (wpC_mono _) (SemE.mono _) _ (fun i acc s' => s' = s5 ∧ acc = ((prs.take i).filter fun p => (rowsAt p.2 p.1).isEmpty).map fun _ => D.int 1) ⟨rfl, rfl⟩ (fun _ _ _ _ => trivial) ?_ ?_
      · rintro i d acc s' hd ⟨rfl, rfl⟩
        rw [List.getElem?_map] at hd
        cases e : prs[i]? with
        | none => rw [e] at hd; cases hd
        | some p =>
          rw [e] at hd
          cases hd
          obtain ⟨hp1, hp2⟩ := hP p (List.mem_of_getElem? e)
          have hi3 := (List.getElem?_eq_some_iff.mp e).1
          refine ⟨_, by simp; rfl, ?_⟩
          simp
          refine ⟨rfl, p, rfl, ⟨hp1, hp2⟩, fun d s6 hd => ?_⟩
          obtain ⟨rfl, rfl⟩ := hd
          have er := eq_rows (rowsAt p.2 p.1)
          have sr := shp_rows (rowsAt p.2 p.1)
          unfold rowsD at er sr
          simp [er, sr]
          have tk : prs.take (i + 1) = prs.take i ++ [p] := by rw [List.take_add_one, e]; rfl
          rw [tk, List.filter_append, List.map_append]
          cases hb : (rowsAt p.2 p.1).isEmpty with
          | true =>
            simp only [List.filter_cons, hb, if_true, List.filter_nil]
            refine ⟨?_, rfl⟩
            rw [sizeLine_eq]
            have := List.length_filter_le (fun p : List Int × List Int => (rowsAt p.2 p.1).isEmpty) (prs.take i)
            have h9 : (prs.take i).length ≤ i := by rw [List.length_take]; omega
            omega
          | false =>
            simp only [List.filter_cons, hb, List.filter_nil]
            simp
      · rintro acc s' ⟨rfl, rfl⟩
        rw [List.length_map, List.take_length]
        obtain ⟨one, hone⟩ : ∃ l : List D, l = (prs.filter fun p => (rowsAt p.2 p.1).isEmpty).map fun _ => D.int 1 := ⟨_, rfl⟩
        rw [← hone]
        have ok1 : okDs one = true := okDs_all fun d hd => by
          rw [hone] at hd
          obtain ⟨_, _, rfl⟩ := List.mem_map.mp hd
          rw [okD]
        have dp1 : dpDs one ≤ 0 := dpDs_all fun d hd => by
          rw [hone] at hd
          obtain ⟨_, _, rfl⟩ := List.mem_map.mp hd
          rw [dpD]; exact Nat.le_refl _
        have sh1 : shp (.lst one) = true := shp_of (by rw [canD]; exact cans_of_ok _ ok1) (by rw [dpD]; omega)
        have hal : one.isEmpty = prs.all fun p => (placeAt p.2 p.1 0).isSome := by
          rw [hone]
          have gen : ∀ l : List (List Int × List Int), ((l.filter fun p => (rowsAt p.2 p.1).isEmpty).map fun _ => D.int 1).isEmpty = l.all fun p => (placeAt p.2 p.1 0).isSome := by
            intro l
            induction l with
            | nil => rfl
            | cons p l ih =>
              have hf := rows_first p.2 p.1
              rw [List.filter_cons, List.all_cons, ← ih]
              cases hr : rowsAt p.2 p.1 with
              | nil => rw [hr] at hf; rw [← hf]; rfl
              | cons a b => rw [hr] at hf; rw [← hf]; rfl
          exact gen prs
        simp [sh1, isE_eq ok1, hal]
        refine ⟨rfl, prs, by rw [hprs]; rfl, ⟨by show prs.length ≤ 1000; omega, fun p hp => Nat.le_trans (hP p hp).1 (by decide)⟩, fun d s6 hd => ?_⟩
        obtain ⟨rfl, rfl⟩ := hd
        refine ⟨rep_bl _, rep_bl _, ?_⟩
        simp
        have c33 := cut_to os 3
        refine ⟨rfl, (cutL os none (some 3), os.reverse), by simp, ⟨by show (cutL os none (some 3)).length ≤ 4; have : (cutL os none (some 3)).length ≤ 3 := c33; omega, by show os.reverse.length ≤ 12; rw [List.length_reverse]; omega,
          fun x hx => hsmall x (cut_mem hx), fun x hx => hsmall x (List.mem_reverse.mp hx)⟩, fun d s7 hd => ?_⟩
        obtain ⟨rfl, rfl⟩ := hd
        exact hN _ _ t5 ⟨_, _, _, _, _, _, _, _, _, _, _, _, _, rfl⟩
end Mi
namespace Mi
open PySem PySem.Spec PyProof.Rows L2

/-! ### the long words -/
def farL : List Int := (List.replicate 99 [0, 1]).flatten ++ [2]
def far3 : List Int := (List.replicate 3 farL).flatten
theorem f1 : ∀ a : Fin 99, (placeAt farL (List.replicate a.val 0 ++ [2]) 0).isSome = true := by decide +kernel
theorem f2 : placeAt farL [2, 0] 0 = none := by decide +kernel
theorem f3 : placeAt farL (List.replicate 101 1) 0 = none := by decide +kernel
theorem f4 : ∀ a : Fin 99, placeAt farL (List.replicate a.val 1) 0 = some ((List.range a.val).map fun i => 2 * i + 1) := by decide +kernel
theorem f5 : placeAt far3 [2, 2, 2, 2] 0 = none := by decide +kernel
theorem f6 : placeAt far3 [2, 2, 2] 0 = some [198, 397, 596] := by decide +kernel
theorem f7 : (placeAt farL farL 0).isSome = true := by decide +kernel
theorem f8 : (placeAt [1] [0] 0).isSome = true := by decide +kernel
theorem f9 : placeAt [0] [1] 0 = none := by decide +kernel
theorem f10 : (placeAt far3 far3 0).isSome = true := by decide +kernel
end Mi
namespace Mi
open PySem PySem.Spec PyProof.Rows L2

theorem farE : (List.replicate 99 [D.int 0, D.int 1]).flatten ++ [D.int 2] = Is farL := by
  unfold farL
  simp
section
variable {en : Env} {st st1 st2 st3 : Sto} {a b : SemE}
theorem ev_is {ws os : List Int} {r : Bool} {ds : List D} (h : EvA [a, b] en st ds st1) (hd : ds = [.tup (Is ws), .tup (Is os)]) (hl : ws.length ≤ 1000) (hr : (placeAt os ws 0).isSome = r) : Ev (eCall "is_within" S.is_within [] [a, b]) en st (.bl r) st1 :=
  ev_call h (by rw [hd]; rfl) fun Q E q => ⟨(ws, os), by rw [hd]; rfl, hl, fun d st' hd => by obtain ⟨rfl, rfl⟩ := hd; rw [← hr] at q; exact q⟩
theorem ev_pl {ws os : List Int} {r : List Nat} {ds : List D} (h : EvA [a, b] en st ds st1) (hd : ds = [.tup (Is ws), .tup (Is os)]) (hl : ws.length ≤ 1000) (hr : placeAt os ws 0 = some r) : Ev (eCall "place_in" S.place_in [] [a, b]) en st (.tup (Ns r)) st1 :=
  ev_call h (by rw [hd]; rfl) fun Q E q => ⟨(ws, os), by rw [hd]; rfl, hl, fun d st' hd => by
    obtain ⟨rfl, rfl⟩ := hd
    show Q (placeD os ws) _
    unfold placeD
    rw [hr]; exact q⟩
theorem Is_rep1 (i : Int) (k : Nat) : (List.replicate k [D.int i]).flatten = Is (List.replicate k i) := by simp
theorem Is_far3 : (List.replicate 3 (Is farL)).flatten = Is far3 := by
  unfold far3; rw [rep_Is]
theorem can_nats (ns : List Nat) : canD (.tup (Ns ns)) = true := by rw [canD]; exact cans_of_ok _ (ok_nats ns)
theorem dp_tn (ns : List Nat) : dpD (.tup (Ns ns)) ≤ 60 := by rw [dpD, dp_nats]; omega
end
theorem p_law (ds : List D) (st : Sto) (Q : QD) (E : QX) (hl : ds.length = S.law.ar) (h : S.law.run ds st Q E) : bodyD B.law N.law.length ds st Q E := by
  obtain ⟨ns, rfl, _, hq⟩ := h
  show wpB _ _ [some (.rol (Is ns)), none, none, none, none, none, none, none, none, none, none, none, none, none, none] st
  rw [B.law, w_b2, w_sSet]
  simp only [w_call, w_A1, w_A0, w_var, List.getElem?_cons_zero]
  refine ⟨rfl, ns, rfl, trivial, fun d s1 hd => ?_⟩
  obtain ⟨rfl, o, rfl, hpen⟩ := hd
  rw [w_b2, w_sFor]
  simp only [w_iR1, w_int]
  refine ⟨⟨by decide, by decide⟩, ?_⟩
  refine forD_inv _ (fun i en s => PenTo (st ++ [o]) st.length s ∧ ∃ x2 x3 x4 x5 x6 x7 x8 x9 x10 x11 x12 x13 x14, en = [some (.rol (Is ns)), some (.ref st.length), x2, x3, x4, x5, x6, x7, x8, x9, x10, x11, x12, x13, x14])
    ⟨PenTo.refl hpen, _, _, _, _, _, _, _, _, _, _, _, _, _, rfl⟩ (fun _ _ _ _ => trivial) ?_ ?_ (wpB_mono _)
  · rintro i d en s hd ⟨ht, x2, x3, x4, x5, x6, x7, x8, x9, x10, x11, x12, x13, x14, rfl⟩
    exact ⟨_, p_nm, lap_ok ht fun en s' h1 h2 => ⟨h1, h2⟩⟩
  · rintro en s ⟨ht, x2, x3, x4, x5, x6, x7, x8, x9, x10, x11, x12, x13, x14, rfl⟩
    show wpB _ _ _ s
    rw [w_b2, w_sPar2, w_A1]
    refine ev_add (ev_mulT (ev_tup (eva_cons ev_int (eva_cons ev_int eva_nil)) (by decide)) ev_int ⟨by decide, by decide, by decide⟩) (ev_tup (eva_cons ev_int eva_nil) (by decide)) (by decide) _ _ ?_
    have ef : (List.replicate (Int.toNat 99) [D.int 0, D.int 1]).flatten ++ [D.int 2] = Is farL := farE
    rw [ef]
    simp only [w_call, w_A1, w_A0, w_var, w_int]
    refine ⟨rfl, (st.length, 99), rfl, ⟨ht.pen, by show (0 : Int) < 99; decide, by show (99 : Int) < 1000; decide⟩, fun d s2 hd => ?_⟩
    obtain ⟨h2, a, rfl, ha, ha2⟩ := hd
    have t2 := ht.trans h2
    have ha2 : a < 99 := ha2
    obtain ⟨m, rfl⟩ := Int.eq_ofNat_of_zero_le ha
    have hm : m < 99 := by omega
    have vf : ∀ s : Sto, Ev (eVar 12) [some (.rol (Is ns)), some (.ref st.length), x2, x3, x4, x5, x6, x7, x8, x9, x10, x11, some (.tup (Is farL)), some (.int (m : Int)), x14] s (.tup (Is farL)) s := fun s => ev_var rfl
    have va : ∀ s : Sto, Ev (eVar 13) [some (.rol (Is ns)), some (.ref st.length), x2, x3, x4, x5, x6, x7, x8, x9, x10, x11, some (.tup (Is farL)), some (.int (m : Int)), x14] s (.int (m : Int)) s := fun s => ev_var rfl
    show wpB _ _ [some (.rol (Is ns)), some (.ref st.length), x2, x3, x4, x5, x6, x7, x8, x9, x10, x11, some (.tup (Is farL)), some (.int (m : Int)), x14] s2
    have hlen : ([some (.rol (Is ns)), some (.ref st.length), x2, x3, x4, x5, x6, x7, x8, x9, x10, x11, some (.tup (Is farL)), some (.int (m : Int)), x14] : Env).length = 15 := rfl
    generalize [some (.rol (Is ns)), some (.ref st.length), x2, x3, x4, x5, x6, x7, x8, x9, x10, x11, some (.tup (Is farL)), some (.int (m : Int)), x14] = en at vf va hlen ⊢
    have cm : CRep (m : Int) 1 := ⟨by omega, by omega, by decide⟩
    have lf : farL.length = 199 := by decide +kernel
    have g3 := f1 ⟨m, hm⟩
    have g4 := f4 ⟨m, hm⟩
    rw [w_b2, w_sIf]
    refine evt_or (evo_F (evt_no (evt_V (ev_is (ws := List.replicate m 0 ++ [2]) (os := farL) (r := true) (eva_cons (ev_add (ev_mulT (ev_tup (eva_cons ev_int eva_nil) (by decide)) (va _) cm) (ev_tup (eva_cons ev_int eva_nil) (by decide)) ?_) (eva_cons (vf _) eva_nil)) ?_ ?_ g3)))
      (evo_F (evt_V (ev_is (ws := [2, 0]) (os := farL) (r := false) (eva_cons (ev_tup (eva_cons ev_int (eva_cons ev_int eva_nil)) (by decide)) (eva_cons (vf _) eva_nil)) rfl (by decide) ?_))
        (evo_1 (evt_V (ev_is (ws := List.replicate 101 1) (os := farL) (r := false) (eva_cons (ev_mulT (ev_tup (eva_cons ev_int eva_nil) (by decide)) ev_int ⟨by decide, by decide, by decide⟩) (eva_cons (vf _) eva_nil)) ?_ (by decide) ?_))))) _ _ ?_
    · simp; omega
    · simp
    · simp; omega
    · rw [f2]; rfl
    · show [D.tup (List.replicate 101 [D.int 1]).flatten, D.tup (Is farL)] = _
      rw [Is_rep1]
    · rw [f3]; rfl
    show wpB [] _ en s2
    rw [w_b0]
    dsimp only
    rw [w_b2, w_sIf]
    refine evt_or (evo_F (evt_cm (ev_pl (ws := List.replicate m 1) (os := farL) (eva_cons (ev_mulT (ev_tup (eva_cons ev_int eva_nil) (by decide)) (va _) cm) (eva_cons (vf _) eva_nil)) ?_ ?_ g4) (ev_B (st2 := s2) (eva_cons (x := .lst (Ns ((List.range m).map fun i => 2 * i + 1))) (st1 := s2) ?_ eva_nil) ?_) (fun Q q => ne_same _ _ (can_nats _) (dp_tn _) Q q))
      (evo_1 (evt_cm (ev_pl (ws := []) (os := farL) (r := []) (eva_cons (ev_tup eva_nil (by decide)) (eva_cons (vf _) eva_nil)) rfl (by decide) rfl) (ev_tup eva_nil (by decide)) (fun Q q => ne_same _ _ (can_nats []) (dp_tn []) Q q)))) _ _ ?_
    · show [D.tup (List.replicate m [D.int 1]).flatten, D.tup (Is farL)] = _
      rw [Is_rep1]
    · simp; omega
    · intro F E q
      rw [w_comp, w_iR1]
      refine va _ _ _ ?_
      refine ⟨⟨by omega, by omega⟩, ?_⟩
      refine compD_inv (wpC_mono _) (SemE.mono _) _ (fun i acc s => s = s2 ∧ acc = Ns ((List.range i).map fun i => 2 * i + 1)) ⟨rfl, rfl⟩ (fun _ _ _ _ => trivial) ?_ ?_
      · rintro i d acc s hd ⟨rfl, rfl⟩
        obtain ⟨hi, rfl⟩ := rng_get hd
        have hi2 : i < m := hi
        refine ⟨_, p_nm, ?_⟩
        rw [c_none]
        have v14 : Ev (eVar 14) ((wipeD en (List.map Prod.snd [(("place" : Str), 14)])).set 14 (some (.int (0 + (i : Int))))) s (.int (0 + (i : Int))) s := ev_var (List.getElem?_set_self (by rw [wipeD_len, hlen]; decide))
        refine ev_addI (ev_mulI ev_int v14 (.inl ⟨by decide, by decide⟩)) ev_int _ _ ?_
        refine ⟨by rw [sizeLine_eq]; simp; omega, rfl, ?_⟩
        rw [List.range_succ, List.map_append]
        simp
      · rintro acc s ⟨rfl, rfl⟩
        rw [rng_len]
        exact q
    · intro Q q
      exact q
    show wpB [] _ en s2
    rw [w_b0]
    dsimp only
    rw [w_b2, w_sIf]
    have l3 : ∀ s, Ev (eBin .Mult (opMul false) (eVar 12) (eInt 3)) en s (.tup (Is far3)) s := fun s F E q => by
      rw [← Is_far3] at q
      exact ev_mulT (vf s) ev_int ⟨by decide, by decide, by rw [List.length_map, lf]; decide⟩ F E q
    refine evt_or (evo_F (evt_V (ev_is (ws := [2, 2, 2, 2]) (os := far3) (r := false) (eva_cons (ev_mulT (ev_tup (eva_cons ev_int eva_nil) (by decide)) ev_int ⟨by decide, by decide, by decide⟩) (eva_cons (l3 _) eva_nil)) rfl (by decide) ?_))
      (evo_1 (evt_cm (ev_pl (ws := [2, 2, 2]) (os := far3) (r := [198, 397, 596]) (eva_cons (ev_mulT (ev_tup (eva_cons ev_int eva_nil) (by decide)) ev_int ⟨by decide, by decide, by decide⟩) (eva_cons (l3 _) eva_nil)) rfl (by decide) f6)
        (ev_tup (eva_cons ev_int (eva_cons ev_int (eva_cons ev_int eva_nil))) (by decide)) (fun Q q => ne_same _ _ (can_nats [198, 397, 596]) (dp_tn [198, 397, 596]) Q q)))) _ _ ?_
    · rw [f5]; rfl
    show wpB [] _ en s2
    rw [w_b0]
    dsimp only
    rw [w_b1, w_sRet]
    refine ev_all (eall_2 (ev_is (ws := farL) (os := farL) (r := true) (eva_cons (vf _) (eva_cons (vf _) eva_nil)) rfl (by rw [lf]; decide) f7) (eall_2 (ev_is (ws := [0]) (os := [1]) (r := true) (eva_cons (ev_tup (eva_cons ev_int eva_nil) (by decide)) (eva_cons (ev_tup (eva_cons ev_int eva_nil) (by decide)) eva_nil)) rfl (by decide) f8)
      (eall_2 (ev_not (r := false) (ev_is (ws := [1]) (os := [0]) (r := false) (eva_cons (ev_tup (eva_cons ev_int eva_nil) (by decide)) (eva_cons (ev_tup (eva_cons ev_int eva_nil) (by decide)) eva_nil)) rfl (by decide) ?_))
        (eall_1 (ev_is (ws := far3) (os := far3) (r := true) (eva_cons (l3 _) (eva_cons (l3 _) eva_nil)) rfl (by decide +kernel) f10))))) _ _ ?_
    · rw [f9]; rfl
    exact .inl (hq _ _ rfl)
end Mi
namespace Mi
open PySem PySem.Spec PyProof.Rows L2

/-! ### the end: a law that was walked -/
theorem endG {P : Program} {w : World} {K : PySem.W.Frag} {mg mb : Str → Option Value} {CX : CXT} {k : Nat} {fa a : Addr} {fd : FuncData} {x : Str} {sp : Sp} {s : Shared} {us : List Value} {ns : List Int}
    (inK : K.In s.heap) (gns : s.heap.Ns mainGlobals mg) (bns : s.heap.Ns builtinsNs mb) (hbb : ∀ x : Str, x ≠ "__name__" → mb x = bootBuiltins x) (lim : s.heap.NoLimit) (gens : s.gens = #[])
    (oa : s.heap.get? a = some { cls := .type "list", data := .seq us.toArray }) (hi : IntsAre us ns) (size : ns.length ≤ sizeLine) (room : Room k callerA)
    (F : ∀ base : Heap, K.In base → base.Ns mainGlobals mg → FnG P w K mg base CX k fa fd [x] sp) (bind : ∀ (s : Shared) (u : Value), BindsTo s fd ⟨[u], []⟩ [(x, u)])
    (hsp : ∀ H : Hp, Only H → ((∃ o, H a = some (.frz o (.lst (ns.map V.int)))) ∨ SqL K (fun _ => none) a (ns.map V.int)) → sp [.ref a] H (fun v _ => v = .bl true) fun _ _ _ => False)
    (hCX : ∀ H e s', CX [] H s (fun _ _ _ => False) e s' → False) :
    codeAny (model P w) callerA (.call (.ref fa) ⟨[.ref a], []⟩) (fun r s' => r = .ok (.ret (.bool true)) ∧ OldK s.heap s'.heap ∧ s'.os = s.os ∧ AllBare s'.gens) s := by
  have rel := vals_ints hi
  have len := hi.length
  have core : ∀ H : Hp, Only H → ((∃ o, H a = some (.frz o (.lst (ns.map V.int)))) ∨ SqL K (fun _ => none) a (ns.map V.int)) → HOk P w H s.heap → (∀ b u, H b = some u → b = a ∧ K.lookup a = none) →
      codeAny (model P w) callerA (.call (.ref fa) ⟨[.ref a], []⟩) (fun r s' => r = .ok (.ret (.bool true)) ∧ OldK s.heap s'.heap ∧ s'.os = s.os ∧ AllBare s'.gens) s := by
    intro H hO hS hok hA
    have noD : ∀ {b : Addr} {o : Obj} {es : Array DictEntry} {ep : Nat}, s.heap.get? b = some o → o.data = .dict es ep → H b = none := fun {b o es ep} e d => by
      cases q : H b with
      | none => rfl
      | some u =>
        rw [(hA b u q).1, oa] at e
        cases e
        exact absurd (show Data.seq us.toArray _ = Data.dict es ep from d) nofun
    have nsH : ∀ {b : Addr} {m : Str → Option Value}, s.heap.Ns b m → (hidT s.heap H).Ns b m := fun {b m} h => by
      obtain ⟨o, es, ep, e, d, r⟩ := h
      exact ⟨o, es, ep, hidT_get e (noD e d), d, r⟩
    have kH : K.In (hidT s.heap H) := fun b o e => hidT_get (inK b o e) (by
      cases q : H b with
      | none => rfl
      | some u =>
        obtain ⟨rfl, n⟩ := hA b u q
        rw [n] at e
        cases e)
    have md : Mod K mg (hidT s.heap H) := by
      obtain ⟨mc, h1, h2⟩ := lim
      exact ⟨kH, nsH gns, ⟨mb, nsH bns, hbb⟩, mc, nsH h1, h2⟩
    have e0 : Env0 P w K mg (hidT s.heap H) callerA [] s H := ⟨rfl, md, fun b o e => of_hidT e, Nat.le_of_eq (hidT_size _ _), trivial, fun b hb => absurd (show b ∈ ([] : List Addr) from hb) (List.not_mem_nil), hok, .of_eq gens⟩
    refine codeAny_mono ((F _ kH (nsH gns)).run callerA [] s H ⟨[.ref a], []⟩ [.ref a] [.ref a] _ _ room rfl e0 (bind s (.ref a)) (.cons rfl .nil) (hsp H hO hS)) fun r s' h => ?_
    cases r with
    | error e => exact (hCX H e s' h).elim
    | ok fl =>
      cases fl with
      | next => exact h.elim
      | brk => exact h.elim
      | cont => exact h.elim
      | ret u =>
        obtain ⟨v, H', os, bare, un, hok', rv, q⟩ := h
        cases (show v = V.bl true from q)
        cases (show u = Value.bool true from rv)
        refine ⟨rfl, OldK.of_keep fun b o e => ?_, os, bare⟩
        rcases hO b with z | ⟨ob, xs, z⟩
        · exact un.keep b o e z (fun c => absurd (show b ∈ ([] : List Addr) from c) List.not_mem_nil) List.not_mem_nil
        · obtain ⟨e1, _⟩ := hok b _ z
          obtain ⟨e2, _⟩ := hok' b _ (un.frzs b ob _ z)
          rw [e] at e1
          cases e1
          exact e2
  cases hk : K.lookup a with
  | some o =>
    have e := inK a o hk
    rw [oa] at e
    cases e
    exact core (fun _ => none) (fun _ => .inl rfl) (.inr (.inr ⟨_, us.toArray, _, hk, rfl, rfl, rfl, by rw [List.size_toArray, len]; exact size, by simpa using rel⟩)) (fun b u z => nomatch (show (none : Option HO) = some u from z)) fun b u z => nomatch (show (none : Option HO) = some u from z)
  | none =>
    refine core (upd (fun _ => none) a (.frz { cls := .type "list", data := .seq us.toArray } (.lst (ns.map V.int)))) (fun b => ?_) (.inl ⟨_, upd_same⟩) (fun b u z => ?_) fun b u z => ?_
    · by_cases hb : b = a
      · exact .inr ⟨_, _, by rw [hb]; exact upd_same⟩
      · exact .inl (by rw [upd_ne hb])
    · by_cases hb : b = a
      · subst hb
        rw [upd_same] at z
        cases z
        exact ⟨oa, by rw [List.length_map]; exact size, us, _, rel, oa⟩
      · rw [upd_ne hb] at z
        cases z
    · by_cases hb : b = a
      · exact ⟨hb, hk⟩
      · rw [upd_ne hb] at z
        cases z
/-- a law that answers True: its def's spec -/
theorem walkG {l : PySem.W.OpenLaw} {n k : Nat} {q : Program} {loose : List Str} {XP : (Str → Option Value) → Heap → Prop} {YP : World → Heap → Prop} {d : DefRec} {x : Str} {S : SpecD}
    (hn : l.most = some n) (hn2 : n ≤ sizeLine) (hdf : d.params.defaults = []) (room : Room k callerA) (har : S.ar = 1)
    (hS : ∀ (ns : List Int) (Q : QD) (E : QX), ns.length ≤ n → (∀ st', Q (.bl true) st') → S.run [.rol (ns.map D.int)] [] Q E)
    (F : ∀ (w : World) (mg : Str → Option Value) (fa : Addr) (h : Heap), YP w h → h.Ns mainGlobals mg → mg d.name = some (.ref fa) →
      ∃ (K : PySem.W.Frag) (fd : FuncData), K.In h ∧ (∀ (s : Shared) (u : Value), BindsTo s fd ⟨[u], []⟩ [(x, u)]) ∧
        ∀ base : Heap, K.In base → base.Ns mainGlobals mg → FnG l.prog w K mg base (CXof ⟨l.prog, w, K, mg, base⟩) k fa fd [x] (spOf ⟨l.prog, w, K, mg, base⟩ S)) :
    PySem.W.WalkO q loose XP YP l.row.toRowW d [] (fun f vs => PySem.call f vs) := by
  refine Att.attach_call hn hdf fun w s₀ s₁ mg mb fa o pm cd doc a us ns G Y ho hd hcd hmg hobj hints hlen hg => ?_
  obtain ⟨K, fd, inK, hb, hF⟩ := F w mg fa _ Y G.T.g hmg
  refine endG (CX := L2.CX l.prog w) (sp := fun vs H Q E => vs.length = S.ar ∧ ∃ mu ds st, RelS K mu H st ∧ RVs K mu H ds vs ∧ S.run ds st (PostD ⟨l.prog, w, K, mg, s₁.heap⟩ mu H Q) (fun x st' => ∀ mu' cls dd H', Step mu H mu' H' → RelS K mu' H' st' → XR ⟨l.prog, w, K, mg, s₁.heap⟩ mu' H' x cls dd → E cls dd H'))
    inK G.T.g G.T.b G.T.builtins G.T.nolimit hg hobj hints (Nat.le_trans hlen hn2) room (fun base h1 h2 => ?_) hb (fun H hO hs => ?_) fun H e s' h => ?_
  · have f := hF base h1 h2
    refine ⟨fun vs H Q E h => f.len vs H Q E ?_, fun A out s H args us vs Q E r g e0 b v h => f.run A out s H args us vs Q E r g e0 b v ?_⟩
    all_goals
      obtain ⟨e1, mu, ds, st, R, rv, hr⟩ := h
      exact ⟨e1, mu, ds, st, R, rv, S.mono _ _ _ _ _ _ hr (fun d s hd => hd) fun x st' hx mu' cls dd H' s' r' q' => hx mu' cls dd H' s' r' ⟨q'.cl, q'.fs⟩⟩
  · refine ⟨har.symm, ⟨[], []⟩, [.rol (ns.map D.int)], [], ⟨List.nodup_nil, rfl, fun n o a h => by simp at h, fun a h => by cases h⟩, ?_, hS ns _ _ hlen fun st' mu' v H' s r q => q⟩
    refine ⟨.ref a, [], rfl, ⟨a, ns.map V.int, rfl, ?_, ?_⟩, rfl⟩
    · rcases hs with h | h
      · exact .inr h
      · exact .inl h
    · have gen : ∀ ns : List Int, RVs K ⟨[], []⟩ H (ns.map D.int) (ns.map V.int) := by
        intro ns
        induction ns with
        | nil => rfl
        | cons n r ih => exact ⟨_, _, rfl, rfl, ih⟩
      exact gen ns
  · obtain ⟨_, _, _, _, _, _, _, _, _, _, _, _, e⟩ := h
    exact e
abbrev FnP (K : PySem.W.Frag) (x : Str) (st : Stmt) (f : Addr) (fd : FuncData) : Prop := FunD K x x (defArgs st) (defBody st) (defScope st) [] [] f fd
theorem avail {G : GEnv} {k : Nat} {f : Addr} {fd : FuncData} {x : Str} {st : Stmt} {N ps : List Str} {l : List SemS} {S : SpecD} (F : FnP G.K x st f fd) (gm : G.mg x = some (.ref f)) (ok : (scopeB N ps (defScope st) && chkB l N (defScope st) (defBody st)) = true) (har : ps.length = S.ar)
    (hS : ∀ ds st Q E, ds.length = S.ar → S.run ds st Q E → bodyD l N.length ds st Q E) (hb : Binds G.K fd ps []) (rq : reqB l G k) : FnAvail G (k + 1) x S [] := by
  rw [Bool.and_eq_true] at ok
  exact ⟨f, fd, ps, [], [], gm, F.kp, fn_ok F ok.1 ok.2 har rq hS, hb, .nil, fun _ _ => rfl⟩
end Mi
namespace Mi
open PySem PySem.Spec PyProof.Rows L2
/-! ### the head -/
def d_place_in : He.DefD := ⟨("place_in", none), "place_in", "place_in", defArgs (top 1), defBody (top 1), defScope (top 1), [], []⟩
def d_is_within : He.DefD := ⟨("is_within", none), "is_within", "is_within", defArgs (top 2), defBody (top 2), defScope (top 2), [], []⟩
def d_are_within : He.DefD := ⟨("are_within", none), "are_within", "are_within", defArgs (top 3), defBody (top 3), defScope (top 3), [], []⟩
def d__law_pen : He.DefD := ⟨("_law_pen", none), "_law_pen", "_law_pen", defArgs (top 5), defBody (top 5), defScope (top 5), [], []⟩
def d__law_fresh : He.DefD := ⟨("_law_fresh", none), "_law_fresh", "_law_fresh", defArgs (top 6), defBody (top 6), defScope (top 6), [], []⟩
def d__law_draw : He.DefD := ⟨("_law_draw", none), "_law_draw", "_law_draw", defArgs (top 7), defBody (top 7), defScope (top 7), [], []⟩
def d__law_drawn_word : He.DefD := ⟨("_law_drawn_word", none), "_law_drawn_word", "_law_drawn_word", defArgs (top 8), defBody (top 8), defScope (top 8), [], []⟩
def d__law_places : He.DefD := ⟨("_law_places", none), "_law_places", "_law_places", defArgs (top 9), defBody (top 9), defScope (top 9), [], []⟩
def d__law_right : He.DefD := ⟨("_law_right", none), "_law_right", "_law_right", defArgs (top 10), defBody (top 10), defScope (top 10), [], []⟩
def d_law : He.DefD := ⟨("law", none), "law", "law", defArgs (top 11), defBody (top 11), defScope (top 11), [], []⟩
def heFn : List He.DefD := [d_place_in, d_is_within, d_are_within, d__law_pen, d__law_fresh, d__law_draw, d__law_drawn_word, d__law_places, d__law_right, d_law]
def heFa : List He.Fa := [.glo "place_in", .glo "is_within", .glo "are_within", .glo "_law_pen", .glo "_law_fresh", .glo "_law_draw", .glo "_law_drawn_word", .glo "_law_places", .glo "_law_right", .glo "law", .free "len", .free "tuple", .free "int", .free "range", .free "list", .free "all", .free "zip", .free "repr"]
abbrev TheRow : PySem.W.OpenRow := PySem.W.OpenLaw.row PySem.Challenge.rw_losinglanes_k01_words_within_others
abbrev heHk : PySem.W.Hook := He.hookD 4 heFa heFn
def heOb (s : PySem.W.SharedT) : He.AlD := He.obsDG 4 heFa heFn (HandSHeadRun.getT s)
theorem heOb_eq (s : PySem.W.SharedT) : heOb s = heHk.obs s.abs := He.obsDG_eq (HandSHeadRun.getT_eq s)
def heNames : List Str := ["place_in", "is_within", "are_within", "_law_pen", "_law_fresh", "_law_draw", "_law_drawn_word", "_law_places", "_law_right"]
theorem heRun (w : World) : HandSHeadRun.RunEq TheRow (PySem.W.view TheRow.prog [11]) heHk heOb 4000 heNames w := by
  intro os
  kernel_rfl
theorem heFacts {P : Program} {w : World} {K : PySem.W.Frag} {h : Heap} {mg : Str → Option Value} {f : Addr} (X : K.In h) (Gn : h.Ns mainGlobals mg) (hfa : mg ("law" : Str) = some (.ref f)) (c : He.SaysD heFa heFn K) :
    ∃ fd : FuncData, (∀ (s : Shared) (v : Value), BindsTo s fd ⟨[v], []⟩ [("script", v)]) ∧ ∀ base : Heap, K.In base → base.Ns mainGlobals mg → FnG P w K mg base (CXof ⟨P, w, K, mg, base⟩) 10 f fd ["script"] (spOf ⟨P, w, K, mg, base⟩ S.law) := by
  obtain ⟨fd0, F0⟩ := c.def_ 0 (d := d_place_in) rfl
  obtain ⟨fd1, F1⟩ := c.def_ 1 (d := d_is_within) rfl
  obtain ⟨fd2, F2⟩ := c.def_ 2 (d := d_are_within) rfl
  obtain ⟨fd3, F3⟩ := c.def_ 3 (d := d__law_pen) rfl
  obtain ⟨fd4, F4⟩ := c.def_ 4 (d := d__law_fresh) rfl
  obtain ⟨fd5, F5⟩ := c.def_ 5 (d := d__law_draw) rfl
  obtain ⟨fd6, F6⟩ := c.def_ 6 (d := d__law_drawn_word) rfl
  obtain ⟨fd7, F7⟩ := c.def_ 7 (d := d__law_places) rfl
  obtain ⟨fd8, F8⟩ := c.def_ 8 (d := d__law_right) rfl
  obtain ⟨fd9, F9⟩ := c.def_ 9 (d := d_law) rfl
  have e := hfa.symm.trans (He.glo_ok X Gn (c.fact 9 (f := .glo "law") rfl))
  cases e
  refine ⟨fd9, fun s v => FunD.bindsA (ps := ["script"]) F9 (fun _ _ _ _ _ _ us hl => match us, hl with | [_], _ => rfl) s [v] rfl, fun base _ _ => ?_⟩
  have z0 : mg ("len" : Str) = none := He.free_ok X Gn (c.fact 10 (f := .free "len") rfl)
  have z1 : mg ("tuple" : Str) = none := He.free_ok X Gn (c.fact 11 (f := .free "tuple") rfl)
  have z2 : mg ("int" : Str) = none := He.free_ok X Gn (c.fact 12 (f := .free "int") rfl)
  have z3 : mg ("range" : Str) = none := He.free_ok X Gn (c.fact 13 (f := .free "range") rfl)
  have z4 : mg ("list" : Str) = none := He.free_ok X Gn (c.fact 14 (f := .free "list") rfl)
  have z5 : mg ("all" : Str) = none := He.free_ok X Gn (c.fact 15 (f := .free "all") rfl)
  have z6 : mg ("zip" : Str) = none := He.free_ok X Gn (c.fact 16 (f := .free "zip") rfl)
  have z7 : mg ("repr" : Str) = none := He.free_ok X Gn (c.fact 17 (f := .free "repr") rfl)
  have b0 : Binds K fd0 ["word", "other"] [] := FunD.bindsN F0 fun _ _ _ _ _ _ us hl => match us, hl with | [_, _], _ => rfl
  have a0 : FnAvail ⟨P, w, K, mg, base⟩ 1 "place_in" S.place_in [] := avail (k := 0) (st := top 1) F0 (He.glo_ok X Gn (c.fact 0 (f := .glo "place_in") rfl)) c1 rfl p_place_in b0 (by
    repeat' (first | exact trivial | assumption | (show _ ∧ _; refine ⟨?_, ?_⟩)))
  have b1 : Binds K fd1 ["word", "other"] [] := FunD.bindsN F1 fun _ _ _ _ _ _ us hl => match us, hl with | [_, _], _ => rfl
  have a1 : FnAvail ⟨P, w, K, mg, base⟩ 2 "is_within" S.is_within [] := avail (k := 1) (st := top 2) F1 (He.glo_ok X Gn (c.fact 1 (f := .glo "is_within") rfl)) c2 rfl p_is_within b1 (by
    have q0 := a0.mono (show 1 ≤ 1 by decide)
    repeat' (first | exact trivial | assumption | (show _ ∧ _; refine ⟨?_, ?_⟩)))
  have b2 : Binds K fd2 ["words", "others"] [] := FunD.bindsN F2 fun _ _ _ _ _ _ us hl => match us, hl with | [_, _], _ => rfl
  have a2 : FnAvail ⟨P, w, K, mg, base⟩ 3 "are_within" S.are_within [] := avail (k := 2) (st := top 3) F2 (He.glo_ok X Gn (c.fact 2 (f := .glo "are_within") rfl)) c3 rfl p_are b2 (by
    have q1 := a1.mono (show 2 ≤ 2 by decide)
    repeat' (first | exact trivial | assumption | (show _ ∧ _; refine ⟨?_, ?_⟩)))
  have b3 : Binds K fd3 ["script"] [] := FunD.bindsN F3 fun _ _ _ _ _ _ us hl => match us, hl with | [_], _ => rfl
  have a3 : FnAvail ⟨P, w, K, mg, base⟩ 4 "_law_pen" S._law_pen [] := avail (k := 3) (st := top 5) F3 (He.glo_ok X Gn (c.fact 3 (f := .glo "_law_pen") rfl)) c5 rfl p_pen b3 (by
    repeat' (first | exact trivial | assumption | (show _ ∧ _; refine ⟨?_, ?_⟩)))
  have b4 : Binds K fd4 ["pen"] [] := FunD.bindsN F4 fun _ _ _ _ _ _ us hl => match us, hl with | [_], _ => rfl
  have a4 : FnAvail ⟨P, w, K, mg, base⟩ 5 "_law_fresh" S._law_fresh [] := avail (k := 4) (st := top 6) F4 (He.glo_ok X Gn (c.fact 4 (f := .glo "_law_fresh") rfl)) c6 rfl p_fresh b4 (by
    repeat' (first | exact trivial | assumption | (show _ ∧ _; refine ⟨?_, ?_⟩)))
  have b5 : Binds K fd5 ["pen", "bound"] [] := FunD.bindsN F5 fun _ _ _ _ _ _ us hl => match us, hl with | [_, _], _ => rfl
  have a5 : FnAvail ⟨P, w, K, mg, base⟩ 6 "_law_draw" S._law_draw [] := avail (k := 5) (st := top 7) F5 (He.glo_ok X Gn (c.fact 5 (f := .glo "_law_draw") rfl)) c7 rfl p_draw b5 (by
    have q4 := a4.mono (show 5 ≤ 5 by decide)
    repeat' (first | exact trivial | assumption | (show _ ∧ _; refine ⟨?_, ?_⟩)))
  have b6 : Binds K fd6 ["pen", "letters", "most"] [] := FunD.bindsN F6 fun _ _ _ _ _ _ us hl => match us, hl with | [_, _, _], _ => rfl
  have a6 : FnAvail ⟨P, w, K, mg, base⟩ 7 "_law_drawn_word" S._law_drawn_word [] := avail (k := 6) (st := top 8) F6 (He.glo_ok X Gn (c.fact 6 (f := .glo "_law_drawn_word") rfl)) c8 rfl p_drawn b6 (by
    have q5 := a5.mono (show 6 ≤ 6 by decide)
    repeat' (first | exact trivial | assumption | (show _ ∧ _; refine ⟨?_, ?_⟩)))
  have b7 : Binds K fd7 ["word", "other"] [] := FunD.bindsN F7 fun _ _ _ _ _ _ us hl => match us, hl with | [_, _], _ => rfl
  have a7 : FnAvail ⟨P, w, K, mg, base⟩ 8 "_law_places" S._law_places [] := avail (k := 7) (st := top 9) F7 (He.glo_ok X Gn (c.fact 7 (f := .glo "_law_places") rfl)) c9 rfl p_places b7 (by
    repeat' (first | exact trivial | assumption | (show _ ∧ _; refine ⟨?_, ?_⟩)))
  have b8 : Binds K fd8 ["word", "other"] [] := FunD.bindsN F8 fun _ _ _ _ _ _ us hl => match us, hl with | [_, _], _ => rfl
  have a8 : FnAvail ⟨P, w, K, mg, base⟩ 9 "_law_right" S._law_right [] := avail (k := 8) (st := top 10) F8 (He.glo_ok X Gn (c.fact 8 (f := .glo "_law_right") rfl)) c10 rfl p_right b8 (by
    have q7 := a7.mono (show 8 ≤ 8 by decide)
    have q1 := a1.mono (show 2 ≤ 8 by decide)
    have q0 := a0.mono (show 1 ≤ 8 by decide)
    repeat' (first | exact trivial | assumption | (show _ ∧ _; refine ⟨?_, ?_⟩)))
  have b9 : Binds K fd9 ["script"] [] := FunD.bindsN F9 fun _ _ _ _ _ _ us hl => match us, hl with | [_], _ => rfl
  have okL := c11
  unfold okB at okL
  rw [Bool.and_eq_true] at okL
  exact fn_ok (G := ⟨P, w, K, mg, base⟩) (S := S.law) (k := 9) (st0 := top 11) F9 okL.1 okL.2 rfl (by
    have q3 := a3.mono (show 4 ≤ 9 by decide)
    have q5 := a5.mono (show 6 ≤ 9 by decide)
    have q6 := a6.mono (show 7 ≤ 9 by decide)
    have q8 := a8.mono (show 9 ≤ 9 by decide)
    have q7 := a7.mono (show 8 ≤ 9 by decide)
    have q2 := a2.mono (show 3 ≤ 9 by decide)
    have q1 := a1.mono (show 2 ≤ 9 by decide)
    have q0 := a0.mono (show 1 ≤ 9 by decide)
    repeat' (first | exact trivial | assumption | (show _ ∧ _; refine ⟨?_, ?_⟩))) p_law
end Mi
open PySem PySem.W PySem.Calls PyProof.Rows
theorem PySem.Challenge.cw_losinglanes_k01_words_within_others_holds : PySem.Challenge.rw_losinglanes_k01_words_within_others.Holds := by
  w_on; o_law
  refine HandSHeadRun.head_any (r := OpenLaw.row PySem.Challenge.rw_losinglanes_k01_words_within_others) (q := view (OpenLaw.row PySem.Challenge.rw_losinglanes_k01_words_within_others).prog [11]) (H := Mi.heHk) (ob := Mi.heOb) (M := 4000) (loose := Mi.heNames) (d := HandSHeadRun.topDef (OpenLaw.row PySem.Challenge.rw_losinglanes_k01_words_within_others).prog 11) (kwd := []) Mi.heOb_eq
    (by kernel_rfl) (fun s => by kernel_rfl) Mi.heRun (by kernel_rfl) (by kernel_rfl) (by kernel_rfl) (by rfl) (by first | assumption | decide +kernel) (by decide +kernel) ⟨rfl, rfl, rfl, rfl, rfl, by decide +kernel⟩ ?hw ?hc
  case hw => w_witness2
  case hc =>
    refine Mi.walkG (l := PySem.Challenge.rw_losinglanes_k01_words_within_others) (n := 63) (k := 10) (x := "script") (S := Mi.S.law) rfl (by decide) (by kernel_rfl) ⟨rfl, by decide, by decide⟩ rfl (fun ns Q E hn q => ⟨ns, rfl, trivial, fun d st' hd => by rw [show d = Mi.D.bl true from hd]; exact q st'⟩) ?F
    intro w mg fa h Y G hmg0
    obtain ⟨K, KX, c⟩ := Y
    have hmg : mg ("law" : PySem.Str) = some (.ref fa) := by
      have e : (HandSHeadRun.topDef (OpenLaw.row PySem.Challenge.rw_losinglanes_k01_words_within_others).prog 11).name = ("law" : PySem.Str) := by kernel_rfl
      rw [← e]
      exact hmg0
    obtain ⟨fd, hb, hF⟩ := Mi.heFacts (P := PySem.Challenge.rw_losinglanes_k01_words_within_others.prog) (w := w) KX G hmg c
    exact ⟨K, fd, KX, hb, hF⟩
